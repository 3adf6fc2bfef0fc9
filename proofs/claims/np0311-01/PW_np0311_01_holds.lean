import PyProof.Rows.All
import ObjForm.ListNI
import KE.KSuper
import KE.KSliceW
import KE.KPairComp
import KE.KIsNot
import KE.KFromBytes
import KE.KDictOf
import Lean
import PySem.Challenge.RW_np0311_01
set_option Elab.async false
set_option linter.all false
set_option genSizeOf false
set_option genSizeOfSpec false
set_option bootstrap.genMatcherCode false
set_option genInjectivity false
set_option backward.match.sparseCases false
set_option backward.eqns.nonrecursive false
set_option backward.eqns.deepRecursiveSplit false
set_option tactic.hygienic false
set_option maxRecDepth 1000000
set_option maxHeartbeats 0
namespace Mine.Internal
noncomputable section
variable{a u:Nat}{b s:Value->Shared->Prop}{c p:PySem.Expr}{d:Value}{e m B:Type}{f x:Shared}{h:Heap}{i z:Pos}{j:Str}{k:Addr}{l:List Value}{n:List PySem.Expr}{o:Addr->Prop}{q:PySem.Expr->Type}{r:Prop}{t:Unit->Shared->Prop}{v:Addr×Addr}{y:Array Value}{A:PySem.Stmt->Type}{C:Str->Option Value}{D:List Str}
open PySem
set_option compiler.extract_closed false
local macro_rules (kind:=Lean.Parser.Tactic.show)|s=>pure<|s.setKind `Lean.Parser.Tactic.refine
def aq:=@Nat.le_trans
def bP:=@Nat.le_of_eq
def b0:=@PySem.wpAny_bind
def cB:=@Nat.succ_le_succ
def cY:=@List.mem_cons_self
def dH:=@PySem.wpAny_mono
def d7:=@Nat.ne_of_gt
def eD:=@List.getElem?_eq_some_iff
def eI:=@Nat.lt_of_lt_of_le
def eM:=@PySem.wpAny_pure
def fI:=@Nat.add_le_add_right
def fJ:=@Nat.le_of_succ_le_succ
def gA:=@List.mem_cons
def gB:=@List.all_eq_true
def gL:=@Nat.ne_of_lt
def gU:=@Nat.le_add_right_of_le
def ie:=@Nat.le_of_succ_le
def ip:=@Nat.add_le_add
def iG:=@Bool.and_eq_true_iff
def iT:=@Nat.sub_add_cancel
def i7:=@Nat.le_antisymm
def i8:=@Nat.add_le_add_left
def i9:=@Nat.le_of_lt_succ
def jb:=@Nat.le_succ_of_le
def jB:=@Nat.lt_of_le_of_lt
def jC:=@List.mem_of_getElem?
def jZ:=@Option.some.inj
def j0:=@Nat.le_of_ble_eq_true
def j1:=@Nat.succ_le_of_lt
def ki:=@PySem.Heap.get?_push_of_some
def kj:=@PySem.Heap.lt_size
def kI:=@Option.map_eq_some_iff
def lk:=@PySem.Heap.get?_update_other
def lJ:=@Nat.le_of_lt
def my:=@PySem.Heap.get?_push_size
def mz:=@Nat.lt_of_succ_le
def m6:=@Nat.lt_of_not_le
def m7:=@List.cons.inj
def m8:=@Nat.le_succ
def nU:=@List.mem_map
def oP:=@List.mem_append
def oQ:=@PySem.mem_of_lookup
def oR:=@PySem.Calls.spliced_cons
def oS:=@Nat.le_sub_of_add_le
def pM:=@Classical.em
def pN:=@PySem.wpAny_loadPart_at
def pO:=@Nat.lt_add_right
def qJ:=@PySem.wpAny_holding
def sm:=@List.getElem?_append_left
def sq:=@Nat.le_of_not_lt
def sr:=@PySem.call_isinstance
def su:=@List.mem_range
def sy:=@Nat.lt_or_ge
def tY:=@Nat.lt_irrefl
def tZ:=@List.getElem?_eq_getElem
def t5:=@List.not_mem_nil
def t6:=@PySem.Heap.get?_update_self
def t7:=@PySem.Calls.spliced_nil
def t8:=@Nat.mul_le_mul_left
def vN:=@Prod.mk.inj
def vO:=@Nat.succ.inj
def vP:=@PySem.Calls.evalArgs_plain
def vQ:=@Nat.succ_pos
def vR:=@PySem.Obj.data_mapFields
def vS:=@List.mem_singleton
def vT:=@Nat.sub_le_of_le_add
def xS:=@PyProof.Rows.tail_any
def xT:=@Int.natCast_nonneg
def xU:=@Nat.min_le_right
def xV:=@Nat.lt_succ_of_le
def xW:=@Option.isSome_iff_exists
def xX:=@PySem.wpAny_truthy_bool
def xY:=@Nat.not_le
def xZ:=@PySem.wpAny_execs_nil
def ya:=@Array.getElem?_eq_some_iff
def yb:=@Nat.lt_trans
def yc:=@Nat.add_lt_add_right
def Au:=@Array.mem_toList_iff
def Av:=@beq_iff_eq
def Aw:=@Nat.not_lt
def Ax:=@PySem.wpAny_standAt
def Ay:=@PySem.Calls.Name_function_global
def Az:=@PySem.wpAny_field
def AA:=@Nat.not_lt_zero
def AB:=@Nat.le_add_left_of_le
def DX:=@of_decide_eq_true
def DY:=@Array.getElem?_toList
def DZ:=@PySem.call_meets
def D0:=@PyProof.Rows.Subscript_
def D1:=@PyProof.Rows.MethodCall_
def D2:=@List.getElem?_eq_none_iff
def D3:=@Option.bind_eq_some_iff
def D4:=@PySem.wpAny_typeLookup_exc
def IS:=@Nat.le_add_right
def IT:=@Array.length_toList
def IU:=@PySem.F.isi_meta_str
def IV:=@PySem.F.isi_meta_int
def IW:=@PyProof.Rows.callWith_type
def IX:=@List.mem_of_find?_eq_some
def IY:=@PySem.F.isi_meta_tuple
def IZ:=@PySem.wpAny_call_entry
def I0:=@PySem.wpAny_assign_Name
def I1:=@PyProof.Rows.assignInOrder_cons
def I2:=@Nat.lt_succ_of_lt
def I4:=@PySem.wpAny_execs_cons
def I5:=@List.nodup_cons
def I6:=@Nat.add_sub_of_le
def I7:=@Nat.sub_lt_of_lt
def I8:=@Nat.zero_add
def I9:=@Nat.sub_lt_left_of_lt_add
def PD:=@Nat.sub_eq_zero_of_le
def PE:=@PySem.SeqAt.EqAt.str_str
def PF:=@PySem.F.slot_tuple_add
def PG:=@PySem.F.entry_tuple_add
def PH:=@PySem.F.args_tuple_add_2
def PI:=@PySem.F.slot_list_getitem
def PJ:=@Int.not_lt
def PK:=@PySem.wpAny_loadName_local
def PL:=@List.mem_filterMap
def PM:=@PySem.wpAny_Constant_int
def PN:=@PySem.wpAny_isTrue_Compare1
def PQ:=@PySem.codeAny_call_builtin
def PR:=@PySem.Obj.isFreed_of_fields
def PS:=@Bool.false_ne_true
def PT:=@PySem.ks_wpAt_execs_cons
def PU:=@Nat.eq_zero_of_le_zero
def PV:=@List.length_pos_iff
def PW:=@Int.emod_lt_of_pos
def PX:=@Nat.eq_or_lt_of_le
def ae8:=@Int.ofNat_lt
def ae9:=@Array.find?_toList
def afa:=@beq_eq_false_iff_ne
def afb:=@List.length_eq_one_iff
def afc:=@Bool.eq_false_iff
def afd:=@List.getElem?_zip_eq_some
def afe:=@Bool.or_eq_true_iff
def aff:=@List.append_eq_nil_iff
def amk:=@Array.all_eq_true_iff_forall_mem
noncomputable abbrev ab:Str:=⟨#[99,104,97,114,115]⟩
noncomputable abbrev ax:Str:=⟨#[110,97,109,101]⟩
noncomputable abbrev aT:Str:=⟨#[65]⟩
noncomputable abbrev a0:Str:=⟨#[49]⟩
noncomputable abbrev a3:Str:=⟨#[97,114,98]⟩
noncomputable abbrev a4:Str:=⟨#[100,101,108,97,121]⟩
noncomputable abbrev a5:Str:=⟨#[67]⟩
noncomputable abbrev a6:Str:=⟨#[98,97,108]⟩
noncomputable abbrev a7:Str:=⟨#[97,98,111,114,116]⟩
noncomputable abbrev a8:Str:=⟨#[83]⟩
noncomputable abbrev a9:Str:=⟨#[102,97,105,108]⟩
noncomputable abbrev ba:Str:=⟨#[99,97,116]⟩
noncomputable abbrev b1:Str:=⟨#[102,101,110,99,101]⟩
noncomputable abbrev b2:Str:=⟨#[78]⟩
noncomputable abbrev b3:Str:=⟨#[108,101,110]⟩
noncomputable abbrev b4:Str:=⟨#[112,111,115]⟩
noncomputable abbrev b5:Str:=⟨#[114,112,111,115]⟩
noncomputable abbrev b6:Str:=⟨#[116,97,98]⟩
noncomputable abbrev b7:Str:=⟨#[114,116,97,98]⟩
noncomputable abbrev b8:Str:=⟨#[114,101,109]⟩
noncomputable abbrev b9:Str:=⟨#[97,110,121]⟩
noncomputable abbrev cb:Str:=⟨#[110,111,116,97,110,121]⟩
noncomputable abbrev cj:Str:=⟨#[115,112,97,110]⟩
noncomputable abbrev ck:Str:=⟨#[66]⟩
noncomputable abbrev cm:Str:=⟨#[80]⟩
noncomputable abbrev cn:Str:=⟨#[98]⟩
noncomputable abbrev ct:Str:=⟨#[98,114,101,97,107]⟩
noncomputable abbrev cu:Str:=⟨#[97,108,116]⟩
noncomputable abbrev cv:Str:=⟨#[108,97,116,101,114]⟩
noncomputable abbrev cw:Str:=⟨#[100,111,110,101]⟩
noncomputable abbrev cx:Str:=⟨#[97,114,98,110,111]⟩
noncomputable abbrev cy:Str:=⟨#[110,111,119]⟩
noncomputable abbrev cz:Str:=⟨#[97]⟩
noncomputable abbrev c0:Str:=⟨#[97,98]⟩
noncomputable abbrev c1:Str:=⟨#[111,110,101]⟩
noncomputable abbrev c2:Str:=⟨#[106,117,109,112]⟩
noncomputable abbrev c3:Str:=⟨#[99,117,114,115,111,114]⟩
noncomputable abbrev c4:Str:=⟨#[118,97,114]⟩
noncomputable abbrev c5:Str:=⟨#[119,97,121,115]⟩
noncomputable abbrev c6:Str:=⟨#[115,112,108,105,116]⟩
noncomputable abbrev da:Str:=⟨#[102,97,105,108,115]⟩
noncomputable abbrev dd:Str:=⟨#[115,117,99,99,101,101,100]⟩
noncomputable abbrev df:Str:=⟨#[103,97,105,110]⟩
noncomputable abbrev dk:Str:=⟨#[108,111,115,116]⟩
noncomputable abbrev dr:Str:=⟨#[109,97,114,107]⟩
noncomputable abbrev dt:Str:=⟨#[115,101,116]⟩
section
section
inductive gV(Z U:Prop):Prop|mk (H:Z) (I:U)
set_option genCtorIdx false in set_option genInjectivity true in inductive aa where|none|bool (I:Bool)|int (J:Int)|str (K:Str)|tup (F:List aa)|cM (F:List aa)|ref (J:Nat)|fq (Q:aa)
noncomputable def aa.ctorIdx(U:aa):Nat:=U.casesOn 0 (λ_=>1) (λ_=>2) (λ_=>3) (λ_=>4) (λ_=>5) (λ_=>6) λ_=>7
def aa.AD(H I:aa):Bool:= @decide (H=I)<|Classical.propDecidable _
def aa.PY{H I:aa}(w:aa.AD H I=true):H=I:= @of_decide_eq_true _ (Classical.propDecidable _) w
theorem aa.PZ(H:aa):aa.AD H H=true:= @decide_eq_true _ (Classical.propDecidable _) rfl
set_option genCtorIdx false in set_option genInjectivity true in inductive aM where|list (F:List aa)|bt (M:Nat) (Q:List<|Nat×aa)|dict (g:List<|Str×aa)
noncomputable def aM.ctorIdx(U:aM):Nat:=U.casesOn (λ_=>0) (λ_ _=>1) λ_=>2
set_option genCtorIdx false
mutual inductive fg|cV|cg|oU|m9|qK|vU|vV inductive fF|aA|dS|gm|fQ|jD|sz end
set_option genCtorIdx true
noncomputable def fg.ctorIdx(U:fg):Nat:=U.casesOn 0 1 2 3 4 5 6
noncomputable def fF.ctorIdx(U:fF):Nat:=U.casesOn 0 1 2 3 4 5
set_option genCtorIdx false in inductive eE where|aZ|Q|W|O|R (M:Nat)|int|t9|ua|ub|vW|list|dict|X|dj|G|qL|Y|nf|gW|qM
noncomputable def eE.ctorIdx(U:eE):Nat:=U.casesOn 0 1 2 3 (λ_=>4) 5 6 7 8 9 10 11 12 13 14 15 16 17 18 19
set_option genCtorIdx false in inductive au where|none|bool (I:Bool)|int (J:Int)|str (K:Str)|ae (J:Nat)|bE (G:Nat)|tup (L:List au)|list (L:List au)|dict (T:List Str) (L:List au)|bin (Q:fg) (H I:au)|vX (H:au)|not (H:au)|d (Q:fF) (H I:au)|uc (X V:fF) (H I M:au)|r (H:au)|o (H:au)|and (L:List au)|or (L:List au)|b (U H I:au)|attr (E:au) (W:Nat)|c (E J:au)|yd (E Z:au)|S (E P:au)|sA (E Z P:au)|ud (E:au)|call (W:Nat) (L:List au)|mk (M:Nat) (L:List au)|h (E:au) (N:Nat) (L:List au)|g (I:eE) (L:List au)|i (I:eE) (E:au) (L:List au)|iU (Y:au) (F:Nat) (R:List Nat) (w:au)|ue (Y:au) (R:List Nat) (O:au)
set_option genCtorIdx false in inductive ft where|ae (J:Nat)|attr (E:au) (W:Nat)|c (E J:au)|tup (V:List ft)
set_option genCtorIdx false in inductive bo where|expr (E:au)|ret (E:au)|assign (U:ft) (E:au)|L (J:Nat) (g:fg) (E:au)|Z (E:au) (W:Nat) (g:fg) (R:au)|b (U:au) (H I:List bo)|z (U:au) (I:List bo)|D (G:Nat) (w:au) (I:List bo)|uf (G:Nat) (O:au) (I:List bo)|raise (O:Int) (E:au)|vY (I:List bo) (G:Str) (E:au)|brk|cont
structure bG where
H:Nat
pP:Nat
qN:List bo
set_option genCtorIdx false in set_option genInjectivity true in inductive aI (X:Type)where|ai (H:X)|cR (O:Int)
noncomputable def aI.ctorIdx(U:aI e):Nat:=U.casesOn (λ_=>0) λ_=>1
abbrev ag:=List aM
def af(X:Type):=ag->Option (aI X×ag)
noncomputable def dv(L:Option<|aI e×ag)(W:e->af m):Option<|aI m×ag:=match L with|some (.ai H,g)=>W H g|some (.cR O,g)=>some (.cR O,g)|Option.none=>Option.none
namespace af
variable{E G:Type}
noncomputable def bg(H:E):af E:=λg=>some (.ai H,g)
def aN(N:af E)(W:E->af G):af G:=λg=>dv (N g) W
noncomputable def fail:af E:=λ_=>Option.none
noncomputable def raise(O:Int):af E:=λg=>some (.cR O,g)
noncomputable def ll(S:aM):af aa:=λg=>some (.ai<|.ref g.length,g++[S])
noncomputable def dZ(G:Option E):af E:=λg=>match G with|some H=>some (.ai H,g)|Option.none=>Option.none
noncomputable def mB(J:Nat)(S:aM)(H:E):af E:=λg=>some (.ai H,g.set J S)
def d4(I:Bool)(N:af E):af E:=bif I then N else af.fail
end af
section
variable{E:Type}
noncomputable def eJ(I:Bool)(H:E):Option E:=bif I then some H else none
noncomputable def lp(G:aa)(W:Int->Option E):Option E:=match G with|.int J=>W J|_=>none
noncomputable def oV(G:aa)(W:Str->Option E):Option E:=match G with|.str J=>W J|_=>none
noncomputable def Ja(G:aa)(W:Bool->Option E):Option E:=match G with|.bool J=>W J|_=>none
noncomputable def Jb(G:aa)(W:aa->Option E):Option E:=match G with|.fq J=>W J|_=>none
noncomputable def Jc(G:aa)(W:List aa->Option E):Option E:=match G with|.tup J=>W J|_=>none
noncomputable def AE(S:Option aM)(W:List aa->Option E):Option E:=match S with|some<|.list F=>W F|_=>none
def kJ(G:aa)(W:Int->af E):af E:=match G with|.int J=>W J|_=>af.fail
def ug(G:aa)(W:Str->af E):af E:=match G with|.str J=>W J|_=>af.fail
def jc(G:aa)(W:Nat->af E):af E:=match G with|.ref J=>W J|_=>af.fail
def gX(S:Option aM)(W:List aa->af E):af E:=match S with|some<|.list F=>W F|_=>af.fail
def qO(S:Option aM)(W:List (Str×aa)->af E):af E:=match S with|some<|.dict F=>W F|_=>af.fail
def uh(S:Option aM)(W:Nat->List (Nat×aa)->af E):af E:=match S with|some<|.bt M F=>W M F|_=>af.fail
end
abbrev ak:=List<|Option aa
abbrev aW:=Nat->List aa->af aa
set_option genCtorIdx false in inductive aV where|aK|brk|cont|ret (Q:aa)
noncomputable def aV.ctorIdx(U:aV):Nat:=U.casesOn 0 1 2 λ_=>3
noncomputable def ng:Nat:=16000000
def AF(W:Nat->Bool):∃g:Nat->Bool,∀O,g O=W O:=⟨_,λ_=>rfl⟩
def Jd:Nat->Bool:=(AF λO=>decide<|O<=ng).choose
def eN(O:Nat):Bool:=Nat.ble O 20||Jd O
theorem oW:eN a=true↔a<=ng:=by unfold eN;rw[Bool.or_eq_true,Nat.ble_eq,show Jd a=_ from(AF λa=>decide<|a<=ng).choose_spec a,decide_eq_true_eq];unfold ng;lia
def Je:Nat->Bool:=(AF λO=>decide<|O<1000000000).choose
def D5(O:Nat):Bool:=Nat.ble O 7||Je O
theorem Jf:D5 a=true↔a<1000000000:=by unfold D5;rw[Bool.or_eq_true,Nat.ble_eq,show Je a=_ from(AF λa=>decide<|a<1000000000).choose_spec a,decide_eq_true_eq];lia
def j2(J:Int):Bool:=match J with|.ofNat O=>D5 O|.negSucc _=>false
def mC(F N:List Nat):Bool:=List.rec (motive:=λ_=>List Nat->Bool) (λN=>List.casesOn N true λ_ _=>false) (λH _ S N=>List.casesOn N false λI K=>bif H==I then S K else false) F N
def AG(M:Bool)(H I:List Nat):Bool:=bif M then mC H I else false
def eY(H I:Str):Bool:=mC H.cps.toList I.cps.toList
def P0{H I:List Nat}:mC H I=true↔H=I:=by induction H generalizing I with
|nil=>cases I with|nil=>show⟨λ_=>rfl,λ_=>rfl⟩|cons I K=>show⟨λw=>Bool.noConfusion (w:false=true),λw=>(List.cons_ne_nil _ _ w.symm).elim⟩
|cons H L S=>cases I with|nil=>show⟨λw=>Bool.noConfusion (w:false=true),λw=>(List.cons_ne_nil _ _ w).elim⟩|cons I K=>change(bif H==I then mC L K else false)=true↔_;rw[show(bif H==I then mC L K else false)=(H==I&&mC L K) by cases H==I<;>rfl,Bool.and_eq_true,beq_iff_eq,S,List.cons.injEq]
def AH{I:Str}:eY j I=true↔j=I:=by unfold eY;rw[P0];show⟨λw=>by cases j;cases I;show congrArg Str.mk<|Array.toList_inj.mp w,λw=>w▸rfl⟩
def sC(H I:Str):eY H I=(H==I):=by rw[Bool.eq_iff_iff,AH,beq_iff_eq]
def Jg(H I:Str):Option aa:=eJ (eN<|H.length+I.length)<|.str<|H++I
noncomputable def pQ(H:Int):Bool:=decide<|H.natAbs<2^62
def AI(J:fg)(H I:Int):Option aa:=match J with|.cV=>some<|.int<|H+I|.cg=>some<|.int<|H-I|.oU=>eJ (pQ H&&pQ I)<|.int<|H*I|.m9=>eJ (decide<|0<I)<|.int<|H %I|.qK=>eJ (decide (0<I)&&decide (I<=1000))<|.int<|H/I|.vU=>eJ (H==1&&decide (0<=I)&&decide (I<=1000))<|.int<|2^I.toNat|.vV=>eJ (H==10&&I==9)<|.int 1000000000
noncomputable def D6:fg->Bool|.cV=>true|_=>false
def f9(J:fg)(G U:aa):Option aa:=match G with|.int H=>lp U λI=>AI J H I|.str H=>oV U λI=>bif D6 J then Jg H I else none|.tup H=>Jc U λI=>bif D6 J then eJ (eN<|H.length+I.length)<|.tup<|H++I else none|_=>none
noncomputable def AJ:fg->Bool|.cV|.cg|.qK=>true|_=>false
def lK(J:fg)(G U:aa):Option aa:=bif AJ J then lp G λH=>lp U λI=>AI J H I else none
noncomputable def ye(H I:Str):Bool:=decide<|H.cps.toList<I.cps.toList
def yf(E:Bool)(L:List aa)(M:Str):Option Bool:=match E with|true=>(match L with|[U]=>oV U λY=>some<|eY Y M|_=>none)|false=>some false
def AK(F N:List aa):Option Bool:=match F with|G::L=>(match N with|[U,Y]=>oV G λH=>oV U λI=>oV Y λM=>yf (eY H I) L M|_=>none)|_=>none
def Jh(F:List aa)(U:aa):Option Bool:=match U with|.str _=>some false|.tup N=>AK F N|_=>none
def Ji(G U:aa):Option Bool:=match G with|.str H=>oV U λI=>some<|eY H I|.int H=>lp U λI=>some<|H==I|.bool H=>Ja U λI=>some<|H==I|.tup F=>Jh F U|.fq H=>Jb U λI=>eJ (aa.AD H I) true|_=>none
noncomputable def yg(I:Bool)(S:Option Bool):Option Bool:=match S with|some U=>some<|I||U|none=>none
def jo(H:Str)(F:List aa):Option Bool:=List.rec (motive:=λ_=>Option Bool) (some false) (λQ _ S=>oV Q λI=>yg (eY H I) S) F
noncomputable def qP(H I:Str):Option Bool:=match H.cps.toList with|[M]=>some<|I.cps.toList.contains M|_=>none
def D7(S:Option aM)(G:Str):Option Bool:=match S with|some<|.list F=>jo G F|_=>none
def AL(H I:aa)(g:ag):Option Bool:=oV H λG=>match I with|.tup F=>jo G F|.str U=>qP G U|.ref J=>D7 g[J]? G|_=>none
def dK(J:fF)(H I:aa)(g:ag):Option Bool:=match J with|.aA=>Ji H I|.jD=>AL H I g|.sz=>(AL H I g).map (!·)|.dS=>lp H λH=>lp I λI=>some<|decide<|H<I|.gm=>(match H with|.int H=>lp I λI=>some<|decide<|H<=I|.str H=>oV I λI=>some<|!ye I H|_=>none)|.fQ=>lp H λH=>lp I λI=>some<|decide<|I<H
noncomputable def cF(K:Str)(H I:Nat):Str:=⟨K.cps.extract H I⟩
def AM(F:List aa)(J:Int):Option aa:=bif j2 J then F[J.toNat]?else none
def nh(F:List<|Nat×aa)(W:Nat):Option aa:=List.rec (motive:=λ_=>Option aa) none (λX _ S=>bif X.1==W then some X.2 else S) F
def lq(W:Nat)(Q:aa)(F:List<|Nat×aa):List<|Nat×aa:=List.rec (motive:=λ_=>List<|Nat×aa) [(W,Q)] (λX L S=>bif X.1==W then(X.1,Q)::L else X::S) F
def oX(N:Str)(Q:aa)(F:List<|Str×aa):List<|Str×aa:=List.rec (motive:=λ_=>List<|Str×aa) [(N,Q)] (λX L S=>bif eY X.1 N then(X.1,Q)::L else X::S) F
def nj(N:Str)(F:List<|Str×aa):Option aa:=List.rec (motive:=λ_=>Option aa) none (λX _ S=>bif eY X.1 N then some X.2 else S) F
noncomputable def afg:Nat:=100
def Jj(S:Option aM)(W:Nat):af aa:=uh S λ_ Q=>af.dZ<|nh Q W
def pR(Q:aa)(W:Nat):af aa:=jc Q λJ g=>Jj g[J]? W g
def P8(K:Str)(J:Int):Option aa:=eJ (j2 J&&Nat.blt J.toNat K.length)<|.str<|cF K J.toNat<|J.toNat+1
def AN(S:Option aM)(J:Int):af aa:=gX S λF=>af.dZ<|AM F J
def Jk(S:Option aM)(N:Str):af aa:=qO S λM=>af.dZ<|nj N M
def P9(w:Nat)(R:aa):af aa:=match R with|.int J=>λg=>AN g[w]? J g|.str N=>λg=>Jk g[w]? N g|_=>af.fail
def jE(Q R:aa):af aa:=match Q with|.tup F=>kJ R λJ=>af.dZ<|AM F J|.str K=>kJ R λJ=>af.dZ<|P8 K J|.ref g=>P9 g R|_=>af.fail
def Jl(K:Str)(g S:Option aa):Option aa:=match g with|some H=>lp H λH=>(match S with|some I=>lp I λI=>eJ (j2 H&&j2 I&&eN K.length)<|.str<|cF K H.toNat I.toNat|Option.none=>eJ (j2 H&&eN K.length)<|.str<|cF K H.toNat K.length)|Option.none=>match S with|some I=>lp I λI=>eJ (j2 I&&eN K.length)<|.str<|cF K 0 I.toNat|Option.none=>none
def AO(F:List aa)(g S:Option aa):Option aa:=match g with|Option.none=>(match S with|some I=>lp I λI=>eJ (j2 I&&eN F.length)<|.cM<|F.take I.toNat|Option.none=>none)|_=>none
def Jm(S:Option aM)(I g:Option aa):af aa:=gX S λF=>af.dZ<|AO F I g
def km(Q:aa)(I:Option aa)(S:Option aa):af aa:=match Q with|.str K=>af.dZ<|Jl K I S|.cM F=>af.dZ<|AO F I S|.ref J=>λg=>Jm g[J]? I S g|_=>af.fail
def Qa(F:List aa):Option aa:=eJ (eN F.length)<|.cM (F.drop 1).reverse
def AP(S:Option aM):af aa:=gX S λF=>af.dZ<|Qa F
def vZ(Q:aa):af aa:=jc Q λJ g=>AP g[J]? g
def D8(S:Option aM)(g:Nat)(J:Int)(G:aa):af Unit:=gX S λF=>af.d4 (j2 J&&Nat.blt J.toNat F.length)<|af.mB g (.list<|F.set J.toNat G) ()
def Jn(S:Option aM)(J:Nat)(N:Str)(G:aa):af Unit:=qO S λM=>af.d4 (Nat.ble M.length 1000)<|af.mB J (.dict<|oX N G M) ()
def Qb(w:Nat)(R G:aa):af Unit:=match R with|.int J=>λg=>D8 g[w]? w J G g|.str N=>λg=>Jn g[w]? w N G g|_=>af.fail
def sD(Q R G:aa):af Unit:=jc Q λJ=>Qb J R G
def Jo(S:Option aM)(J W:Nat)(G:aa):af Unit:=uh S λM Q=>af.d4 (Nat.ble Q.length 900)<|af.mB J (.bt M<|lq W G Q) ()
def nW(Q:aa)(W:Nat)(G:aa):af Unit:=jc Q λJ g=>Jo g[J]? J W G g
def yh(F:List aa):Option Str:=List.rec (motive:=λ_=>Option Str) (some ⟨#[]⟩) (λQ _ S=>oV Q λK=>S.map (K++·)) F
noncomputable def ui(M:Nat):Bool:=decide (32<=M)&&decide (M<127)&&M !=39&&M !=92
def uj(K:Str):Bool:=K.cps.toList.all ui
def gY(W:aa->Option aa)(F:List aa):Option<|List aa:=List.rec (motive:=λ_=>Option<|List aa) (some []) (λQ _ S=>(W Q).bind λR=>S.map (R::·)) F
theorem Jp(W:aa->Option aa)(Q:aa)(L:List aa):gY W (Q::L)=(W Q).bind λR=>(gY W L).map (R::·):=rfl
def fu(g:ag):Nat->aa->Option aa|0,_=>none|O+1,Q=>match Q with|.none=>some .none|.int J=>eJ (pQ J)<|.int J|.str K=>eJ (uj K)<|.str K|.tup F=>(gY (fu g O) F).map .tup|.ref J=>AE g[J]? λF=>(gY (fu g O) F).map .cM|_=>none
noncomputable def uk(J:Int):Nat:=if decide (0<=J)&&decide (J<10)then 1 else 25
def aa.jq(Q:aa):Nat:=aa.rec (motive_1:=λ_=>Nat) (motive_2:=λ_=>Nat) 4 (λ_=>40) uk (λK=>K.length+2) (λ_ O=>O+3) (λ_ O=>O+2) (λ_=>40) (λ_ _=>40) 0 (λ_ _ H L=>H+2+L) Q
def aa.pS(F:List aa):Nat:=aa.rec_1 (motive_1:=λ_=>Nat) (motive_2:=λ_=>Nat) 4 (λ_=>40) uk (λK=>K.length+2) (λ_ O=>O+3) (λ_ O=>O+2) (λ_=>40) (λ_ _=>40) 0 (λ_ _ H L=>H+2+L) F
theorem Jq(J:Int):(aa.int J).jq=uk J:=rfl
theorem afh(K:Str):(aa.str K).jq=K.length+2:=rfl
theorem AQ(F:List aa):(aa.tup F).jq=aa.pS F+3:=rfl
theorem D9(F:List aa):(aa.cM F).jq=aa.pS F+2:=rfl
theorem Qc:aa.none.jq=4:=rfl
theorem yi:aa.pS []=0:=rfl
theorem nX(H:aa)(L:List aa):aa.pS (H::L)=H.jq+2+aa.pS L:=rfl
def Jr(S:Option aM):af aa:=gX S λF=>af.d4 (eN F.length)<|af.bg<|.int F.length
def Js(G:aa):af aa:=match G with|.str K=>af.d4 (eN K.length)<|af.bg<|.int K.length|.tup F=>af.d4 (eN F.length)<|af.bg<|.int F.length|.ref J=>λg=>Jr g[J]? g|_=>af.fail
def Jt(S:Option aM):af aa:=uh S λ_ _=>af.bg<|.bool false
def Ea(J:Nat):af aa:=λg=>Jt g[J]? g
def Ju(G:aa):af aa:=match G with|.str _=>af.bg<|.bool true|.int _=>af.bg<|.bool false|.tup _=>af.bg<|.bool false|.ref J=>Ea J|_=>af.fail
def Jv(G:aa):af aa:=match G with|.int _=>af.bg<|.bool true|.str _=>af.bg<|.bool false|.tup _=>af.bg<|.bool false|.ref J=>Ea J|_=>af.fail
def Jw(G:aa):af aa:=match G with|.tup _=>af.bg<|.bool true|.str _=>af.bg<|.bool false|.int _=>af.bg<|.bool false|.none=>af.bg<|.bool false|_=>af.fail
def Jx(S:Option aM)(M:Nat):af aa:=uh S λg _=>af.bg<|.bool<|g==M
def Jy(M:Nat)(G:aa):af aa:=match G with|.str _=>af.bg<|.bool false|.int _=>af.bg<|.bool false|.ref J=>λg=>Jx g[J]? M g|_=>af.fail
noncomputable def Jz(K:Str):Option aa:=match K.cps.toList with|[M]=>some<|.int M|_=>none
def Qd(J:Int):Option aa:=eJ (decide (0<=J)&&decide (J<128))<|.str ⟨#[J.toNat]⟩
def JA(G U:aa):af aa:=kJ G λH=>kJ U λI=>af.d4 (decide (0<=H)&&decide (H<=1000)&&decide (0<=I)&&decide (I<=1000))<|af.ll<|.list<|(List.range (I-H).toNat).map λ(N:Nat)=>aa.int<|H+N
def JB(G:aa):af aa:=match G with|.tup F=>af.d4 (eN F.length)<|af.ll<|.list F|_=>af.fail
def AR(S:Option aM):af aa:=qO S λM=>af.d4 (Nat.ble M.length 1000)<|af.ll<|.dict M
def JC(S:Option aM)(J:Nat)(Q:aa):af aa:=gX S λF=>af.d4 (eN<|F.length+1)<|af.mB J (.list<|F++[Q]) .none
def nY(G Q:aa):af aa:=jc G λJ g=>JC g[J]? J Q g
def JD(S:Option aM)(J:Nat):af aa:=gX S λF=>af.d4 (eN F.length)<|match F.getLast? with|some Q=>af.mB J (.list F.dropLast) Q|Option.none=>af.fail
def JE(S:Option aM)(J:Nat):af aa:=gX S λF=>match F with|Q::L=>af.d4 (eN<|L.length+1)<|af.mB J (.list L) Q|[]=>af.fail
def JF(F N:List aa)(J g:Nat):af aa:=match N with|[H,I]=>af.d4 (J !=g&&eN (F.length+2))<|af.mB J (.list<|F++[H,I]) .none|_=>af.fail
def JG(S R:Option aM)(J g:Nat):af aa:=gX S λF=>gX R λN=>JF F N J g
def Eb(S:Option aM)(J:Nat):af aa:=gX S λF=>af.d4 (eN F.length)<|af.mB J (.list F.reverse) .none
def JH(S:Option aM)(N:Str)(Y:aa):af aa:=qO S λM=>af.bg<|(nj N M).getD Y
def Qe(F:List aa):Option aa:=bif Nat.ble F.length 100then(yh F).bind λU=>eJ (Nat.ble U.length 1000)<|.str U else none
def JI(S:Option aM)(K:Str):af aa:=gX S λF=>af.d4 (K.length==0)<|af.dZ<|Qe F
def Qf(g:ag)(Q:aa):Option aa:=(fu g 8 Q).bind λR=>eJ (eN R.jq)<|.fq R
def Qg(G:aa):af aa:=match G with|.tup F=>λg=>af.dZ (Qf g<|.tup F) g|_=>af.fail
def qQ(I:eE)(G:aa):af aa:=match I with|.aZ=>Js G|.Q=>Ju G|.W=>Jv G|.O=>Jw G|.R M=>Jy M G|.int=>kJ G λJ=>af.bg<|.int J|.t9=>ug G λK=>af.dZ<|Jz K|.ua=>kJ G λJ=>af.dZ<|Qd J|.ub=>kJ G λJ=>af.bg<|.int J.natAbs|.list=>JB G|.dict=>jc G λJ g=>AR g[J]? g|.G=>jc G λJ g=>JD g[J]? J g|.qL=>jc G λJ g=>JE g[J]? J g|.nf=>jc G λJ g=>Eb g[J]? J g|.X=>Qg G|_=>af.fail
def JJ(I:eE)(G U:aa):af aa:=match I with|.vW=>JA G U|.dj=>nY G U|.Y=>jc G λJ=>jc U λw g=>JG g[J]? g[w]? J w g|.qM=>ug G λK=>jc U λJ g=>JI g[J]? K g|_=>af.fail
def JK(I:eE)(G U Y:aa):af aa:=match I with|.gW=>jc G λJ=>ug U λN g=>JH g[J]? N Y g|_=>af.fail
def dO(I:eE)(Y:List aa):af aa:=match Y with|[G]=>qQ I G|[G,U]=>JJ I G U|[G,U,g]=>JK I G U g|_=>af.fail
def lr(Q:aa):af Bool:=match Q with|.bool I=>af.bg I|_=>af.fail
def oY(F:ak)(J:Nat):af aa:=match F[J]?with|some<|some Q=>af.bg Q|_=>af.fail
noncomputable def lL(Q:aa):Option<|List aa:=match Q with|.tup F=>some F|.cM F=>some F|.str K=>if K.cps.all λM=>decide<|M<128then some<|K.cps.toList.map λM=>.str ⟨#[M]⟩else none|_=>none
noncomputable def jF(N:Int):List aa:=(List.range N.toNat).map λ(J:Nat)=>aa.int J
structure bu where
p:List aa
T:List bG
Ec:List<|(Nat×Nat)×Nat
Ed:List<|Nat×Nat
noncomputable def bu.iV(P:bu)(M N:Nat):Option Nat:=(P.Ec.find? λX=>X.1==(M,N)).map (·.2)
noncomputable def bu.um(P:bu)(M:Nat):Option Nat:=(P.Ed.find? λX=>X.1==M).map (·.2)
section
variable(P:bu)(E:aW)
def kK(W:aa->af aa)(F:List aa):af Unit:=List.rec (motive:=λ_=>af Unit) (af.bg ()) (λQ _ S=>af.aN (W Q) λ_=>S) F
theorem JL(W:aa->af aa):kK W []=af.bg ():=rfl
theorem Ee(W:aa->af aa)(Q:aa)(L:List aa):kK W (Q::L)=af.aN (W Q) λ_=>kK W L:=rfl
def v9(W:aa->af aa)(w O J:Nat):af Unit:=Nat.rec (motive:=λ_=>Nat->af Unit) (λ_=>af.fail) (λ_ S J g=>gX g[w]? (λY=>Option.casesOn (motive:=λ_=>af Unit) Y[J]? (af.bg ()) λQ=>af.aN (W Q) λ_=>S<|J+1) g) O J
noncomputable def yj(w:Nat)(g:ag):Nat:=match g[w]?with|some<|.list Y=>Y.length|_=>0
noncomputable def kL(N:af e):af e:=λg=>Option.casesOn (motive:=λ_=>Option<|aI e×ag) (N g) Option.none λX=>aI.casesOn (motive:=λ_=>Option<|aI e×ag) X.1 (λH=>some (.ai H,X.2)) λ_=>Option.none
def Qh{N:af e}{g J:ag}{H:e}(w:N g=some (.ai H,J)):kL N g=some (.ai H,J):=by unfold kL;rw[w]
def uo(W:aa->af aa)(K:aa):af Unit:=match K with|.ref w=>λg=>v9 W w (yj w g+1) 0 g|_=>af.aN (af.dZ<|lL K) λY=>kK W Y
def nk(g:Nat)(O:List<|Option aa)(Q:aa):af ak:=bif g==1then af.bg<|some Q::O else match Q with|.tup F=>af.d4 (F.length==g)<|af.bg<|F.map some++O|_=>af.fail
noncomputable def iH(G:aa):Bool:=match G with|.none=>true|_=>false
def lu(M:Nat)(Y:List aa):af aa:=Option.casesOn (motive:=λ_=>af aa) (P.um M) (af.d4 Y.isEmpty<|af.ll<|.bt M []) λW=>af.aN (af.ll<|.bt M []) λG=>af.aN (E W<|G::Y) λL=>af.d4 (iH L)<|af.bg G
def JM(S:Option aM)(N:Nat):af Nat:=uh S λM _=>af.dZ<|P.iV M N
def wb(Q:aa)(N:Nat):af Nat:=jc Q λJ g=>JM P g[J]? N g
def JN(S:Option aM):af Unit:=gX S λ_=>af.bg ()
def JO(S:Option aM):af Unit:=qO S λ_=>af.bg ()
def uq(G:aa):af Unit:=jc G λJ g=>JN g[J]? g
def mD(I:eE)(G:aa):af Unit:=match I with|.qM=>ug G λ_=>af.bg ()|.gW=>jc G λJ g=>JO g[J]? g|.dj=>uq G|.G=>uq G|.qL=>uq G|.Y=>uq G|.nf=>uq G|_=>af.fail
noncomputable def AS(L:Option Bool)(g:ag):Option<|aI aa×ag:=match L with|some L=>some (.ai<|.bool L,g)|Option.none=>Option.none
def yk(J:fF)(G U:aa):af aa:=λg=>AS (dK J G U g) g
noncomputable def Ef(G:Option Bool)(g:ag)(W:af aa):Option<|aI aa×ag:=match G with|some I=>bif I then W g else some (.ai<|.bool false,g)|Option.none=>Option.none
mutual def cG:au->ak->af aa|.none,_=>af.bg .none|.bool I,_=>af.bg<|.bool I|.int J,_=>af.bg<|.int J|.str K,_=>af.bg<|.str K|.ae J,F=>oY F J|.bE XN,_=>af.dZ P.p[XN]?|.tup S,F=>af.aN (kN S F) λY=>af.bg<|.tup Y|.list S,F=>af.aN (kN S F) λY=>af.ll<|.list Y|.dict XO S,F=>af.aN (kN S F) λY=>af.ll<|.dict<|XO.zip Y|.bin V H I,F=>af.aN (cG H F) λG=>af.aN (cG I F) λU=>af.dZ<|f9 V G U|.vX H,F=>af.aN (cG H F) λG=>kJ G λJ=>af.bg<|.int<|-J|.not H,F=>af.aN (cG H F) λG=>af.aN (lr G) λI=>af.bg<|.bool<|!I|.d V H I,F=>af.aN (cG H F) λG=>af.aN (cG I F) λU=>yk V G U|.uc XQ XR H I M,F=>af.aN (cG H F) λG=>af.aN (cG I F) λU=>λg=>Ef (dK XQ G U g) g<|af.aN (cG M F) λT=>yk XR U T|.r H,F=>af.aN (cG H F) λG=>af.bg<|.bool<|iH G|.o H,F=>af.aN (cG H F) λG=>af.bg<|.bool<|!iH G|.and S,F=>yl S F|.or S,F=>ym S F|.b XS H I,F=>af.aN (cG XS F) λG=>af.aN (lr G) λM=>bif M then cG H F else cG I F|.attr w W,F=>af.aN (cG w F) λG=>pR G W|.c w J,F=>af.aN (cG w F) λG=>af.aN (cG J F) λU=>jE G U|.yd w H,F=>af.aN (cG w F) λG=>af.aN (cG H F) λU=>km G (some U) Option.none|.S w I,F=>af.aN (cG w F) λG=>af.aN (cG I F) λU=>km G Option.none<|some U|.sA w H I,F=>af.aN (cG w F) λG=>af.aN (cG H F) λU=>af.aN (cG I F) λT=>km G (some U)<|some T|.ud w,F=>af.aN (cG w F) vZ|.call W S,F=>af.aN (kN S F) λY=>E W Y|.mk M S,F=>af.aN (kN S F) λY=>lu P E M Y|.h w XT S,F=>af.aN (cG w F) λG=>af.aN (wb P G XT) λW=>af.aN (kN S F) λY=>E W<|G::Y|.g I S,F=>af.aN (kN S F) λY=>dO I Y|.i I w S,F=>af.aN (cG w F) λG=>af.aN (mD I G) λ_=>af.aN (kN S F) λY=>dO I<|G::Y|.iU Z XU O XW,F=>af.aN (cG XW F) λK=>af.aN (af.ll<|.list []) λX=>af.aN (kL<|uo (λQ=>af.aN (nk XU (O.map λJ=>(F[J]?).join) Q) λR=>af.aN (cG Z R) λG=>nY X G) K) λ_=>af.bg X|.ue Z O XX,F=>af.aN (cG XX F) λK=>kJ K λN=>af.d4 (decide (0<=N)&&decide (N<=1000)) (af.aN (af.ll<|.list []) λX=>af.aN (kL<|kK (λQ=>af.aN (nk 1 (O.map λJ=>(F[J]?).join) Q) λR=>af.aN (cG Z R) λG=>nY X G)<|jF N) λ_=>af.bg X)def kN:List au->ak->af (List aa)|[],_=>af.bg []|w::L,F=>af.aN (cG w F) λQ=>af.aN (kN L F) λY=>af.bg (Q::Y)def yl:List au->ak->af aa|[],_=>af.fail|w::L,F=>match L with|[]=>cG w F|_::_=>af.aN (cG w F) λG=>af.aN (lr G) λI=>bif I then yl L F else af.bg (.bool false)def ym:List au->ak->af aa|[],_=>af.fail|w::L,F=>match L with|[]=>cG w F|_::_=>af.aN (cG w F) λG=>af.aN (lr G) λI=>bif I then af.bg<|.bool true else ym L F end
def ur(g:au)(F:ak):af Bool:=af.aN (cG P E g F) lr
mutual def nq:ft->aa->ak->af ak|.ae J,Q,F=>af.bg<|F.set J<|some Q|.attr g W,Q,F=>af.aN (cG P E g F) λG=>af.aN (nW G W Q) λ_=>af.bg F|.c g J,Q,F=>af.aN (cG P E g F) λG=>af.aN (cG P E J F) λw=>af.aN (sD G w Q) λ_=>af.bg F|.tup V,Q,F=>match Q with|.tup Y=>af.d4 (Y.length==V.length)<|AU V Y F|_=>af.fail def AU:List ft->List aa->ak->af ak|[],_,F=>af.bg F|U::V,Y,F=>match Y with|Q::Y=>af.aN (nq U Q F) λR=>AU V Y R|[]=>af.fail end
def nr(N:ak->af (aV×ak))(L:aV×ak):af<|aV×ak:=match L.1with|.aK=>N L.2|.cont=>N L.2|.brk=>af.bg (.aK,L.2)|.ret Q=>af.bg (.ret Q,L.2)
def wd(G:ak->af Bool)(L:ak->af (aV×ak)):Nat->ak->af (aV×ak)|0,_=>af.fail|O+1,F=>af.aN (G F) λI=>bif I then af.aN (L F)<|nr<|wd G L O else af.bg (.aK,F)
def uu(G:Nat)(L:ak->af (aV×ak)):List aa->ak->af (aV×ak)|[],F=>af.bg (.aK,F)|Q::Y,F=>af.aN (L<|F.set G<|some Q)<|nr<|uu G L Y
def yn(G:Nat)(L:ak->af (aV×ak))(w:Nat):Nat->Nat->ak->af (aV×ak)|0,_,_=>af.fail|O+1,J,F=>λg=>gX g[w]? (λY=>match Y[J]?with|some Q=>af.aN (L<|F.set G<|some Q)<|nr<|yn G L w O<|J+1|Option.none=>af.bg (.aK,F)) g
noncomputable def pT(N:af<|aV×ak)(w:Int->af (aV×ak)):af<|aV×ak:=λg=>match N g with|some (.cR O,J)=>w O J|some (.ai H,J)=>some (.ai H,J)|Option.none=>Option.none
mutual def jr (R:Nat):bo->ak->af (aV×ak)|.expr g,F=>af.aN (cG P E g F) λ_=>af.bg (.aK,F)|.ret g,F=>af.aN (cG P E g F) λQ=>af.bg (.ret Q,F)|.assign U g,F=>af.aN (cG P E g F) λQ=>af.aN (nq P E U Q F) λZ=>af.bg (.aK,Z)|.L J V g,F=>af.aN (oY F J) λG=>af.aN (cG P E g F) λL=>af.aN (af.dZ<|lK V G L) λQ=>af.bg (.aK,F.set J<|some Q)|.Z g W V T,F=>af.aN (cG P E g F) λS=>af.aN (pR S W) λG=>af.aN (cG P E T F) λL=>af.aN (af.dZ<|lK V G L) λQ=>af.aN (nW S W Q) λ_=>af.bg (.aK,F)|.b U H I,F=>af.aN (ur P E U F) λM=>bif M then dw R H F else dw R I F|.z U I,F=>wd (λF=>ur P E U F) (λF=>dw R I F) R F|.D G w I,F=>af.aN (cG P E w F) λK=>(match K with|.ref X=>yn G (λF=>dw R I F) X R 0 F|_=>af.aN (af.dZ<|lL K) λXN=>uu G (λF=>dw R I F) XN F)|.uf G O I,F=>af.aN (cG P E O F) λK=>kJ K λN=>af.d4 (decide (0<=N)&&decide (N<=1000))<|uu G (λF=>dw R I F) (jF N) F|.raise O g,F=>af.aN (cG P E g F) λ_=>af.raise O|.vY I G g,F=>pT (dw R I F) λO=>af.aN (cG P E g F) λQ=>af.bg (.ret<|.tup [.str G,.int O,Q],F)|.brk,F=>af.bg (.brk,F)|.cont,F=>af.bg (.cont,F)def dw (R:Nat):List bo->ak->af (aV×ak)|[],F=>af.bg (.aK,F)|K::XO,F=>af.aN (jr R K F) λY=>match Y.1with|.aK=>dw R XO Y.2|.brk=>af.bg (.brk,Y.2)|.cont=>af.bg (.cont,Y.2)|.ret Q=>af.bg (.ret Q,Y.2)end
def fR(L:aV×ak):af aa:=match L.1with|.ret Q=>af.bg Q|_=>af.bg .none
def AV(R:Nat)(W:bG)(Y:List aa):af aa:=af.d4 (Y.length==W.H)<|af.aN (dw P E R W.qN<|Y.map some++List.replicate (W.pP-W.H) none) fR
end
def JP(P:bu)(R:Nat)(F:aW)(Y:List aa)(S:Option bG):af aa:=Option.casesOn (motive:=λ_=>af aa) S af.fail λH=>AV P F R H Y
def nZ(P:bu)(R Y:Nat):aW:=Nat.rec (motive:=λ_=>aW) (λ_ _=>af.fail) (λ_ F W g=>JP P R F g P.T[W]?) Y
end
section
variable{M L O R:Type}{N:Prop}{E G:M}{H K:L}{I J:ag}{Q S:Int}
theorem bQ(w:none=some E):N:=nomatch w
theorem bO(w:some E=some G):E=G:=jZ w
def dT(w:some (E,H)=some (G,K)):E=G/\H=K:=vN<|jZ w
def JQ(w:some (aI.ai E,I)=some (aI.ai G,J)):E=G/\I=J:=⟨aI.ai.inj (dT w).1,(dT w).2⟩
end
def AW(w:0<a):∃N,a=N+1:=⟨a-1,(iT w).symm⟩
theorem eA(w:∀T:Prop,(r->T)->T):r:=w r id
theorem eZ{F:Prop}{T:Prop}(w:r/\F)(N:r->F->T):T:=N w.1 w.2
theorem iI{F W:Prop}{T:Prop}(w:r/\F/\W)(N:r->F->W->T):T:=N w.1 w.2.1 w.2.2
def fS{F w:Prop}(H:r)(W:F)(g:w):r/\F/\w:=⟨H,W,g⟩
theorem pU{F W S:Prop}{T:Prop}(w:r/\F/\W/\S)(N:r->F->W->S->T):T:=N w.1 w.2.1 w.2.2.1 w.2.2.2
def kO{F w S:Prop}(H:r)(W:F)(g:w)(E:S):r/\F/\w/\S:=⟨H,W,g,E⟩
theorem AX{F W S g:Prop}{T:Prop}(w:r/\F/\W/\S/\g)(N:r->F->W->S->g->T):T:=N w.1 w.2.1 w.2.2.1 w.2.2.2.1 w.2.2.2.2
def gC{F G S I:Prop}(H:r)(W:F)(g:G)(E:S)(w:I):r/\F/\G/\S/\I:=⟨H,W,g,E,w⟩
theorem Eg{F W S g Y:Prop}{T:Prop}(w:r/\F/\W/\S/\g/\Y)(N:r->F->W->S->g->Y->T):T:=N w.1 w.2.1 w.2.2.1 w.2.2.2.1 w.2.2.2.2.1 w.2.2.2.2.2
def Qi{F G S I Y:Prop}(H:r)(W:F)(g:G)(E:S)(w:I)(L:Y):r/\F/\G/\S/\I/\Y:=⟨H,W,g,E,w,L⟩
def lM{g:e->Prop}(w:∃H,g H)(N:∀H,g H->r):r:=w.elim λH w=>N H w
def aB{g F:e->Prop}(w:∃H,g H/\F H)(N:∀H,g H->F H->r):r:=w.elim λH w=>N H w.1 w.2
def aX{w F:e->Prop}(H:e)(g:w H)(W:F H):∃H,w H/\F H:=⟨H,g,W⟩
def cC{g F W:e->Prop}(w:∃H,g H/\F H/\W H)(N:∀H,g H->F H->W H->r):r:=w.elim λH w=>N H w.1 w.2.1 w.2.2
def cO{E F G:e->Prop}(H:e)(g:E H)(W:F H)(w:G H):∃H,E H/\F H/\G H:=⟨H,g,W,w⟩
def AY{g F W S:e->Prop}(w:∃H,g H/\F H/\W H/\S H)(N:∀H,g H->F H->W H->S H->r):r:=w.elim λH w=>N H w.1 w.2.1 w.2.2.1 w.2.2.2
def kP{G F I S:e->Prop}(H:e)(g:G H)(W:F H)(w:I H)(E:S H):∃H,G H/\F H/\I H/\S H:=⟨H,g,W,w,E⟩
def Qj{g F W S E:e->Prop}(w:∃H,g H/\F H/\W H/\S H/\E H)(N:∀H,g H->F H->W H->S H->E H->r):r:=w.elim λH w=>N H w.1 w.2.1 w.2.2.1 w.2.2.2.1 w.2.2.2.2
def sE{G F J S K:e->Prop}(H:e)(g:G H)(W:F H)(w:J H)(E:S H)(I:K H):∃H,G H/\F H/\J H/\S H/\K H:=⟨H,g,W,w,E,I⟩
def pV{g:e->m->Prop}(w:∃H I,g H I)(N:∀H I,g H I->r):r:=w.elim λH w=>w.elim λI w=>N H I w
def qR{w:e->m->Prop}(H:e)(I:m)(g:w H I):∃H I,w H I:=⟨H,I,g⟩
def js{g F:e->m->Prop}(w:∃H I,g H I/\F H I)(N:∀H I,g H I->F H I->r):r:=w.elim λH w=>w.elim λI w=>N H I w.1 w.2
def lN{w F:e->m->Prop}(H:e)(I:m)(g:w H I)(W:F H I):∃H I,w H I/\F H I:=⟨H,I,g,W⟩
def gZ{g F W:e->m->Prop}(w:∃H I,g H I/\F H I/\W H I)(N:∀H I,g H I->F H I->W H I->r):r:=w.elim λH w=>w.elim λI w=>N H I w.1 w.2.1 w.2.2
def we{E F G:e->m->Prop}(H:e)(I:m)(g:E H I)(W:F H I)(w:G H I):∃H I,E H I/\F H I/\G H I:=⟨H,I,g,W,w⟩
def lO{g F W S:e->m->Prop}(w:∃H I,g H I/\F H I/\W H I/\S H I)(N:∀H I,g H I->F H I->W H I->S H I->r):r:=w.elim λH w=>w.elim λI w=>N H I w.1 w.2.1 w.2.2.1 w.2.2.2
def nu{G F J S:e->m->Prop}(H:e)(I:m)(g:G H I)(W:F H I)(w:J H I)(E:S H I):∃H I,G H I/\F H I/\J H I/\S H I:=⟨H,I,g,W,w,E⟩
def sF{g F W S E:e->m->Prop}(w:∃H I,g H I/\F H I/\W H I/\S H I/\E H I)(N:∀H I,g H I->F H I->W H I->S H I->E H I->r):r:=w.elim λH w=>w.elim λI w=>N H I w.1 w.2.1 w.2.2.1 w.2.2.2.1 w.2.2.2.2
def yo{G F K S L:e->m->Prop}(H:e)(I:m)(g:G H I)(W:F H I)(w:K H I)(E:S H I)(J:L H I):∃H I,G H I/\F H I/\K H I/\S H I/\L H I:=⟨H,I,g,W,w,E,J⟩
def JR{g F W S E Y:e->m->Prop}(w:∃H I,g H I/\F H I/\W H I/\S H I/\E H I/\Y H I)(N:∀H I,g H I->F H I->W H I->S H I->E H I->Y H I->r):r:=w.elim λH w=>w.elim λI w=>N H I w.1 w.2.1 w.2.2.1 w.2.2.2.1 w.2.2.2.2.1 w.2.2.2.2.2
def Qk{G F K S M Y:e->m->Prop}(H:e)(I:m)(g:G H I)(W:F H I)(w:K H I)(E:S H I)(J:M H I)(L:Y H I):∃H I,G H I/\F H I/\K H I/\S H I/\M H I/\Y H I:=⟨H,I,g,W,w,E,J,L⟩
def sG{g F:e->m->B->Prop}(w:∃H I M,g H I M/\F H I M)(N:∀H I M,g H I M->F H I M->r):r:=w.elim λH w=>w.elim λI w=>w.elim λM w=>N H I M w.1 w.2
def qS{w F:e->m->B->Prop}(H:e)(I:m)(M:B)(g:w H I M)(W:F H I M):∃H I M,w H I M/\F H I M:=⟨H,I,M,g,W⟩
def wg{g F W:e->m->B->Prop}(w:∃H I M,g H I M/\F H I M/\W H I M)(N:∀H I M,g H I M->F H I M->W H I M->r):r:=w.elim λH w=>w.elim λI w=>w.elim λM w=>N H I M w.1 w.2.1 w.2.2
def JS{E F G:e->m->B->Prop}(H:e)(I:m)(M:B)(g:E H I M)(W:F H I M)(w:G H I M):∃H I M,E H I M/\F H I M/\G H I M:=⟨H,I,M,g,W,w⟩
def lP{g F W S:e->m->B->Prop}(w:∃H I M,g H I M/\F H I M/\W H I M/\S H I M)(N:∀H I M,g H I M->F H I M->W H I M->S H I M->r):r:=w.elim λH w=>w.elim λI w=>w.elim λM w=>N H I M w.1 w.2.1 w.2.2.1 w.2.2.2
def mE{G F J S:e->m->B->Prop}(H:e)(I:m)(M:B)(g:G H I M)(W:F H I M)(w:J H I M)(E:S H I M):∃H I M,G H I M/\F H I M/\J H I M/\S H I M:=⟨H,I,M,g,W,w,E⟩
def Ql{g F W S E:e->m->B->Prop}(w:∃H I M,g H I M/\F H I M/\W H I M/\S H I M/\E H I M)(N:∀H I M,g H I M->F H I M->W H I M->S H I M->E H I M->r):r:=w.elim λH w=>w.elim λI w=>w.elim λM w=>N H I M w.1 w.2.1 w.2.2.1 w.2.2.2.1 w.2.2.2.2
def Qm{G F K S L:e->m->B->Prop}(H:e)(I:m)(M:B)(g:G H I M)(W:F H I M)(w:K H I M)(E:S H I M)(J:L H I M):∃H I M,G H I M/\F H I M/\K H I M/\S H I M/\L H I M:=⟨H,I,M,g,W,w,E,J⟩
def JT{g F W S E Y:e->m->B->Prop}(w:∃H I M,g H I M/\F H I M/\W H I M/\S H I M/\E H I M/\Y H I M)(N:∀H I M,g H I M->F H I M->W H I M->S H I M->E H I M->Y H I M->r):r:=w.elim λH w=>w.elim λI w=>w.elim λM w=>N H I M w.1 w.2.1 w.2.2.1 w.2.2.2.1 w.2.2.2.2.1 w.2.2.2.2.2
def Eh{G F K S N Y:e->m->B->Prop}(H:e)(I:m)(M:B)(g:G H I M)(W:F H I M)(w:K H I M)(E:S H I M)(J:N H I M)(L:Y H I M):∃H I M,G H I M/\F H I M/\K H I M/\S H I M/\N H I M/\Y H I M:=⟨H,I,M,g,W,w,E,J,L⟩
def AZ{E:Type}{g F W:e->m->B->E->Prop}(w:∃H I M Y,g H I M Y/\F H I M Y/\W H I M Y)(N:∀H I M Y,g H I M Y->F H I M Y->W H I M Y->r):r:=w.elim λH w=>w.elim λI w=>w.elim λM w=>w.elim λY w=>N H I M Y w.1 w.2.1 w.2.2
def A3{J:Type}{E F G:e->m->B->J->Prop}(H:e)(I:m)(M:B)(Y:J)(g:E H I M Y)(W:F H I M Y)(w:G H I M Y):∃H I M Y,E H I M Y/\F H I M Y/\G H I M Y:=⟨H,I,M,Y,g,W,w⟩
def A4{E:Type}{g F W S:e->m->B->E->Prop}(w:∃H I M Y,g H I M Y/\F H I M Y/\W H I M Y/\S H I M Y)(N:∀H I M Y,g H I M Y->F H I M Y->W H I M Y->S H I M Y->r):r:=w.elim λH w=>w.elim λI w=>w.elim λM w=>w.elim λY w=>N H I M Y w.1 w.2.1 w.2.2.1 w.2.2.2
def JU{K:Type}{G F J S:e->m->B->K->Prop}(H:e)(I:m)(M:B)(Y:K)(g:G H I M Y)(W:F H I M Y)(w:J H I M Y)(E:S H I M Y):∃H I M Y,G H I M Y/\F H I M Y/\J H I M Y/\S H I M Y:=⟨H,I,M,Y,g,W,w,E⟩
def yp{G:Type}{g F W S E:e->m->B->G->Prop}(w:∃H I M Y,g H I M Y/\F H I M Y/\W H I M Y/\S H I M Y/\E H I M Y)(N:∀H I M Y,g H I M Y->F H I M Y->W H I M Y->S H I M Y->E H I M Y->r):r:=w.elim λH w=>w.elim λI w=>w.elim λM w=>w.elim λY w=>N H I M Y w.1 w.2.1 w.2.2.1 w.2.2.2.1 w.2.2.2.2
def Ei{N:Type}{G F K S L:e->m->B->N->Prop}(H:e)(I:m)(M:B)(Y:N)(g:G H I M Y)(W:F H I M Y)(w:K H I M Y)(E:S H I M Y)(J:L H I M Y):∃H I M Y,G H I M Y/\F H I M Y/\K H I M Y/\S H I M Y/\L H I M Y:=⟨H,I,M,Y,g,W,w,E,J⟩
section
variable{H O I R J M E G K Q N L:Nat}
theorem A5(w:H-I=J+1):H-(I+1)=J:=congrArg Nat.pred w
def JV(w:H-I<=0)(W:I<=H):I=H:=i7 W<|Nat.le_of_sub_eq_zero<|Nat.le_zero.mp w
def yq(w:I<H):H-I=H-(I+1)+1:=(Nat.succ_pred_eq_of_pos<|Nat.sub_pos_of_lt w).symm
def JW(w:I<H)(W:E+(H-I)<=N):E+1+(H-(I+1))<=N:=by rw[Nat.add_right_comm,Nat.add_assoc,<-yq w];show W
theorem Qn:((G:Int)-E).toNat=G-E:=Int.toNat_sub G E
def Ej(w:J<=L):(L:Int)-(J:Int)=((L-J:Nat):Int):=(Int.ofNat_sub w).symm
def n0(w:G<H):¬H+E=G:=λg=>tY H<|jB (IS H E)<|g▸w
theorem iB(w:(E:Int)<(J:Int)):E<J:=ae8.mp w
def JX(w:I<H)(W:H-I<=J+1):H-(I+1)<=J:=(by intro H _ _ _ w W;show aq (Nat.sub_le_sub_left W H) (Nat.pred_le_pred w):∀{H I J M:Nat}(w:H-I<=J+1)(W:I<M),H-M<=J) W<|Nat.lt_succ_self I
def afi(w:¬I<=H):H+1-I=0:=PD<|m6 w
theorem Ek:E+1+G=E+G+1:=Nat.add_right_comm E 1 G
def El(w:E≠J):¬(E:Int)=(J:Int):=λg=>w<|Int.ofNat_inj.mp g
def d8{L U:Nat}(w:u<=L)(E:U+L<=a+u):U<=a:=Nat.le_of_add_le_add_right<|aq E<|i8 w a
def iq{R Q U I:Nat}(w:a<=u)(O:R<=Q)(E:U+(u+Q)<=I+(a+R)):U<=I:=d8 (ip w O) E
def yr{R Q E G U I:Nat}(w:a<=u)(O:R<=Q)(J:E<=G)(g:U+(u+(Q+G))<=I+(a+(R+E))):U<=I:=iq w (ip O J) g
theorem aR{E G:Nat}:E<=G+E:=Nat.le_add_left E G
theorem bD{E G:Nat}:E<=E+G:=IS E G
theorem aH{E:Nat}:E<=E:=Nat.le_refl E
theorem gM{E G K:Nat}:E+G+K=E+K+G:=Nat.add_right_comm E G K
theorem fx{E:Nat}:0<=E:=Nat.zero_le E
theorem n6{E G K:Nat}:E+G+K=E+(G+K):=Nat.add_assoc E G K
theorem kn{E G:Nat}:E-G<=E:=Nat.sub_le E G
theorem iW{E:Nat}:E<Nat.succ E:=Nat.lt_succ_self E
theorem lQ{E G:Nat}:E+G=G+E:=Nat.add_comm E G
theorem dI{E G:e}{F:List e}(w:E∈F):E∈G::F:=List.mem_cons_of_mem G w
end
noncomputable def Em:bG:=⟨2,5,[.assign (.tup [.ae 2,.ae 3])<|.tup [.list [],.list [.ae 0]],.z (.d .fQ (.g .aZ [.ae 3])<|.int 0) [.assign (.ae 4)<|.i .G (.ae 3) [],.b (.d .aA (.c (.ae 4)<|.int 0)<|.ae 1) [.expr<|.i .Y (.ae 3) [.list [.c (.ae 4)<|.int 2,.c (.ae 4)<|.int 1]]] [.expr<|.i .dj (.ae 2) [.ae 4]]],.ret<|.ae 2]⟩
noncomputable def yt:bG:=⟨1,1,[.ret<|.and [.d .aA (.c (.ae 0)<|.int 0)<|.str ab,.g .Q [.c (.ae 0)<|.int 1]]]⟩
noncomputable def En:bG:=⟨1,3,[.assign (.ae 1)<|.list [],.D 2 (.ae 0) [.b (.call 1 [.ae 2]) [.b (.d .aA (.c (.ae 2)<|.int 1)<|.str ⟨#[]⟩) [.cont] [],.b (.and [.d .fQ (.g .aZ [.ae 1])<|.int 0,.call 1 [.c (.ae 1)<|.bin .cg (.g .aZ [.ae 1])<|.int 1]]) [.assign (.ae 2)<|.tup [.str ab,.bin .cV (.c (.i .G (.ae 1) [])<|.int 1)<|.c (.ae 2)<|.int 1]] []] [],.expr<|.i .dj (.ae 1) [.ae 2]],.ret<|.ae 1]⟩
noncomputable def Eo:bG:=⟨1,1,[.assign (.attr (.ae 0) 0)<|.list []]⟩
noncomputable def Ep:bG:=⟨2,2,[.expr<|.i .dj (.attr (.ae 0) 0) [.ae 1],.ret<|.bin .cg (.g .aZ [.attr (.ae 0) 0])<|.int 1]⟩
noncomputable def jd:bG:=⟨2,4,[.assign (.ae 2)<|.c (.ae 1)<|.int 0,.b (.d .aA (.ae 2)<|.str ba) [.D 3 (.call 2 [.call 0 [.ae 1,.str ba]]) [.expr<|.h (.ae 0) 1 [.ae 3]]] [.b (.d .aA (.ae 2)<|.str cu) [.expr<|.h (.ae 0) 2 [.call 0 [.ae 1,.str cu]]] [.b (.d .jD (.ae 2)<|.bE 15) [.expr<|.h (.ae 0) 0 [.tup [.bE 0,.ae 2,.b (.d .fQ (.g .aZ [.ae 1])<|.int 1) (.c (.ae 1)<|.int 1)<|.none]]] [.b (.or [.d .aA (.ae 2)<|.str a3,.d .aA (.ae 2)<|.str a6]) [.expr<|.h (.ae 0) 0 [.tup [.bE 1,.ae 2]]] [.b (.d .aA (.ae 2)<|.str cx) [.expr<|.h (.ae 0) 3 [.c (.ae 1)<|.int 1]] [.b (.d .jD (.ae 2)<|.bE 16) [.expr<|.h (.ae 0) 0 [.tup [.ae 2]]] [.b (.d .aA (.ae 2)<|.str c3) [.expr<|.h (.ae 0) 0 [.tup [.bE 8,.c (.ae 1)<|.int 1]]] [.b (.d .aA (.ae 2)<|.str a4) [.expr<|.h (.ae 0) 0 [.tup [.bE 9,.c (.ae 1)<|.int 1]]] [.expr<|.h (.ae 0) 0 [.tup [.bE 4]],.expr<|.h (.ae 0) 1 [.c (.ae 1)<|.int 1],.expr<|.h (.ae 0) 0 [.tup [.b (.d .aA (.ae 2)<|.str cv) (.bE 5)<|.bE 6,.c (.ae 1)<|.int 2]]]]]]]]]]]⟩
noncomputable def Er:bG:=⟨2,6,[.assign (.ae 2)<|.list [],.D 3 (.S (.ae 1)<|.bin .cg (.g .aZ [.ae 1])<|.int 1) [.assign (.ae 4)<|.h (.ae 0) 0 [.none],.expr<|.h (.ae 0) 1 [.ae 3],.expr<|.i .dj (.ae 2) [.h (.ae 0) 0 [.none]],.assign (.c (.attr (.ae 0) 0)<|.ae 4)<|.tup [.bE 2,.g .aZ [.attr (.ae 0) 0]]],.expr<|.h (.ae 0) 1 [.c (.ae 1)<|.bin .cg (.g .aZ [.ae 1])<|.int 1],.D 5 (.ae 2) [.assign (.c (.attr (.ae 0) 0)<|.ae 5)<|.tup [.bE 3,.g .aZ [.attr (.ae 0) 0]]]]⟩
noncomputable def Es:bG:=⟨2,4,[.assign (.ae 2)<|.h (.ae 0) 0 [.none],.assign (.ae 3)<|.h (.ae 0) 0 [.none],.assign (.c (.attr (.ae 0) 0)<|.ae 2)<|.tup [.bE 2,.g .aZ [.attr (.ae 0) 0]],.expr<|.h (.ae 0) 0 [.tup [.bE 4]],.expr<|.h (.ae 0) 1 [.ae 1],.expr<|.h (.ae 0) 0 [.tup [.bE 7]],.expr<|.h (.ae 0) 0 [.tup [.bE 3,.ae 2]],.assign (.c (.attr (.ae 0) 0)<|.ae 3)<|.tup [.bE 3,.g .aZ [.attr (.ae 0) 0]]]⟩
noncomputable def Et:bG:=⟨1,4,[.assign (.ae 1)<|.list [],.D 2 (.ae 0) [.b (.d .jD (.c (.ae 2)<|.int 0)<|.tup [.bE 3,.bE 2]) [.assign (.ae 3)<|.c (.ae 2)<|.int 1,.z (.d .aA (.c (.c (.ae 0)<|.ae 3)<|.int 0)<|.bE 3) [.assign (.ae 3)<|.c (.c (.ae 0)<|.ae 3)<|.int 1],.assign (.ae 2)<|.tup [.c (.ae 2)<|.int 0,.ae 3]] [],.expr<|.i .dj (.ae 1) [.ae 2]],.ret<|.ae 1]⟩
noncomputable def Eu:bG:=⟨1,2,[.assign (.ae 1)<|.mk 0 [],.expr<|.h (.ae 1) 1 [.ae 0],.expr<|.h (.ae 1) 0 [.tup [.bE 14]],.ret<|.call 8 [.attr (.ae 1) 0]]⟩
noncomputable def Ew:bG:=⟨2,2,[.assign (.attr (.ae 0) 1)<|.ae 1]⟩
noncomputable def Qo:bG:=⟨2,2,[.assign (.attr (.ae 0) 2)<|.ae 1]⟩
noncomputable def Ex:bG:=⟨4,4,[.assign (.attr (.ae 0) 3)<|.ae 1,.assign (.attr (.ae 0) 4)<|.ae 2,.assign (.attr (.ae 0) 5)<|.ae 3]⟩
noncomputable def yu:bG:=⟨1,1,[.ret<|.g (.R 2) [.ae 0]]⟩
noncomputable def Ey:bG:=⟨2,2,[.ret<|.uc .gm .dS (.vX<|.bin .vU (.int 1)<|.bin .cg (.ae 1)<|.int 1) (.ae 0)<|.bin .vU (.int 1)<|.bin .cg (.ae 1)<|.int 1]⟩
noncomputable def sH:bG:=⟨2,5,[.b (.d .aA (.ae 0)<|.str ⟨#[]⟩) [.ret<|.int 0] [],.assign (.ae 2)<|.b (.d .jD (.c (.ae 0)<|.int 0)<|.str ⟨#[43,45]⟩) (.yd (.ae 0)<|.int 1)<|.ae 0,.b (.or [.d .aA (.ae 2)<|.str ⟨#[]⟩,.d .fQ (.g .aZ [.ae 2])<|.ae 1]) [.ret<|.none] [],.assign (.ae 3)<|.int 0,.D 4 (.ae 2) [.b (.not<|.uc .gm .gm (.str ⟨#[48]⟩) (.ae 4)<|.str ⟨#[57]⟩) [.ret<|.none] [],.assign (.ae 3)<|.bin .cg (.bin .cV (.bin .oU (.int 10)<|.ae 3)<|.g .t9 [.ae 4])<|.int 48],.assign (.ae 3)<|.b (.d .aA (.c (.ae 0)<|.int 0)<|.str ⟨#[45]⟩) (.vX<|.ae 3)<|.ae 3,.ret<|.b (.call 14 [.ae 3,.ae 1]) (.ae 3)<|.none]⟩
noncomputable def Ez:bG:=⟨1,3,[.assign (.tup [.ae 1,.ae 2])<|.tup [.g .ub [.ae 0],.str ⟨#[]⟩],.z (.or [.d .fQ (.ae 1)<|.int 0,.d .aA (.ae 2)<|.str ⟨#[]⟩]) [.assign (.ae 2)<|.bin .cV (.g .ua [.bin .cV (.int 48)<|.bin .m9 (.ae 1)<|.int 10])<|.ae 2,.L 1 .qK<|.int 10],.ret<|.b (.d .dS (.ae 0)<|.int 0) (.bin .cV (.str ⟨#[45]⟩)<|.ae 2)<|.ae 2]⟩
noncomputable def yv:bG:=⟨2,2,[.b (.g .W [.ae 0]) [.ret<|.ae 0] [],.ret<|.b (.g .Q [.ae 0]) (.call 15 [.ae 0,.ae 1])<|.none]⟩
noncomputable def yw:bG:=⟨1,1,[.b (.g .Q [.ae 0]) [.ret<|.ae 0] [],.ret<|.b (.g .W [.ae 0]) (.call 16 [.ae 0])<|.none]⟩
noncomputable def EA:bG:=⟨1,2,[.assign (.ae 1)<|.call 18 [.ae 0],.b (.r<|.ae 1) [.raise 1<|.str ⟨#[115,116,114,105,110,103]⟩] [],.ret<|.ae 1]⟩
noncomputable def EB:bG:=⟨1,1,[.ret<|.d .aA (.ae 0)<|.bE 19]⟩
noncomputable def wh:bG:=⟨2,3,[.assign (.ae 2)<|.call 17 [.ae 0,.bE 20],.b (.r<|.ae 2) [.raise 1<|.ae 1] [],.b (.d .dS (.ae 2)<|.int 0) [.raise 14<|.ae 1] [],.ret<|.ae 2]⟩
noncomputable def wi:bG:=⟨2,3,[.assign (.ae 2)<|.call 19 [.ae 0],.b (.d .aA (.ae 2)<|.str ⟨#[]⟩) [.raise 4<|.ae 1] [],.ret<|.ae 2]⟩
noncomputable def oZ:bG:=⟨2,2,[.b (.call 20 [.ae 0]) [.ret<|.ae 1] [],.b (.call 20 [.ae 1]) [.ret<|.ae 0] [],.b (.and [.d .aA (.c (.ae 0)<|.int 0)<|.str ab,.d .aA (.c (.ae 1)<|.int 0)<|.str ab]) [.ret<|.tup [.str ab,.bin .cV (.c (.ae 0)<|.int 1)<|.c (.ae 1)<|.int 1]] [],.ret<|.tup [.str ba,.ae 0,.ae 1]]⟩
noncomputable def EC:bG:=⟨2,2,[.ret<|.tup [.str cu,.ae 0,.ae 1]]⟩
noncomputable def uv:bG:=⟨1,2,[.b (.g (.R 3) [.ae 0]) [.ret<|.attr (.ae 0) 1] [],.b (.g (.R 4) [.ae 0]) [.ret<|.tup [.str a4,.attr (.ae 0) 2]] [],.assign (.ae 1)<|.call 18 [.ae 0],.b (.r<|.ae 1) [.raise 1<|.str ⟨#[112,97,116,116,101,114,110]⟩] [],.ret<|.tup [.str ab,.ae 1]]⟩
noncomputable def ED:bG:=⟨1,1,[.ret<|.g .O [.ae 0]]⟩
noncomputable def pW:bG:=⟨2,3,[.b (.or [.and [.d .sz (.c (.ae 0)<|.int 0)<|.bE 17,.d .sz (.c (.ae 0)<|.int 0)<|.bE 18],.not<|.call 26 [.c (.ae 0)<|.int 1]]) [.ret<|.ae 0] [],.assign (.ae 2)<|.h (.ae 1) 13 [.c (.c (.ae 0)<|.int 1)<|.int 1],.b (.call 13 [.ae 2]) [.ret<|.none] [],.b (.d .jD (.c (.ae 0)<|.int 0)<|.bE 17) [.ret<|.tup [.c (.ae 0)<|.int 0,.call 21 [.ae 2,.c (.ae 0)<|.int 0]]] [],.ret<|.tup [.c (.ae 0)<|.int 0,.call 22 [.ae 2,.c (.ae 0)<|.int 0]]]⟩
noncomputable def EE:bG:=⟨3,4,[.assign (.ae 3)<|.bin .cV (.ae 1)<|.g .aZ [.ae 2],.ret<|.b (.d .aA (.sA (.ae 0) (.ae 1)<|.ae 3)<|.ae 2) (.ae 3)<|.none]⟩
noncomputable def EF:bG:=⟨3,3,[.ret<|.b (.d .gm (.bin .cV (.ae 1)<|.ae 2)<|.g .aZ [.ae 0]) (.bin .cV (.ae 1)<|.ae 2)<|.none]⟩
noncomputable def EG:bG:=⟨2,2,[.ret<|.b (.d .aA (.ae 0)<|.ae 1) (.ae 0)<|.none]⟩
noncomputable def EH:bG:=⟨3,3,[.ret<|.b (.d .aA (.bin .cg (.g .aZ [.ae 0])<|.ae 1)<|.ae 2) (.ae 1)<|.none]⟩
noncomputable def EI:bG:=⟨3,3,[.ret<|.b (.uc .gm .gm (.ae 1) (.ae 2)<|.g .aZ [.ae 0]) (.ae 2)<|.none]⟩
noncomputable def A6:bG:=⟨3,4,[.assign (.ae 3)<|.bin .cg (.g .aZ [.ae 0])<|.ae 2,.ret<|.b (.d .gm (.ae 1)<|.ae 3) (.ae 3)<|.none]⟩
noncomputable def EJ:bG:=⟨1,1,[.ret<|.g .aZ [.ae 0]]⟩
noncomputable def A7:bG:=⟨3,3,[.ret<|.b (.and [.d .dS (.ae 1)<|.g .aZ [.ae 0],.d .jD (.c (.ae 0)<|.ae 1)<|.ae 2]) (.bin .cV (.ae 1)<|.int 1)<|.none]⟩
noncomputable def A8:bG:=⟨3,3,[.ret<|.b (.and [.d .dS (.ae 1)<|.g .aZ [.ae 0],.d .sz (.c (.ae 0)<|.ae 1)<|.ae 2]) (.bin .cV (.ae 1)<|.int 1)<|.none]⟩
noncomputable def EK:bG:=⟨4,4,[.z (.and [.d .dS (.ae 1)<|.g .aZ [.ae 0],.d .aA (.d .jD (.c (.ae 0)<|.ae 1)<|.ae 2)<|.ae 3]) [.L 1 .cV<|.int 1],.ret<|.ae 1]⟩
noncomputable def EL:bG:=⟨3,4,[.assign (.ae 3)<|.call 37 [.ae 0,.ae 1,.ae 2,.bool true],.ret<|.b (.d .fQ (.ae 3)<|.ae 1) (.ae 3)<|.none]⟩
noncomputable def EM:bG:=⟨3,4,[.assign (.ae 3)<|.call 37 [.ae 0,.ae 1,.ae 2,.bool false],.ret<|.b (.d .dS (.ae 3)<|.g .aZ [.ae 0]) (.ae 3)<|.none]⟩
noncomputable def EN:bG:=⟨2,2,[.ret<|.g .vW [.ae 1,.bin .cV (.g .aZ [.ae 0])<|.int 1]]⟩
noncomputable def A9:bG:=⟨2,3,[.assign (.ae 2)<|.int 0,.z (.d .dS (.ae 1)<|.g .aZ [.ae 0]) [.b (.d .aA (.c (.ae 0)<|.ae 1)<|.bE 21) [.L 2 .cV<|.int 1] [.b (.d .aA (.c (.ae 0)<|.ae 1)<|.bE 22) [.L 2 .cg<|.int 1] []],.L 1 .cV<|.int 1,.b (.d .dS (.ae 2)<|.int 0) [.ret<|.none] [],.b (.d .aA (.ae 2)<|.int 0) [.ret<|.ae 1] []],.ret<|.none]⟩
noncomputable def EP:bG:=⟨2,4,[.assign (.tup [.ae 2,.ae 3])<|.tup [.list [],.call 41 [.ae 0,.ae 1]],.z (.o<|.ae 3) [.expr<|.i .dj (.ae 2) [.ae 3],.assign (.ae 3)<|.call 41 [.ae 0,.ae 3]],.ret<|.ae 2]⟩
noncomputable def nx:bG:=⟨4,4,[.b (.d .aA (.ae 0)<|.str ab) [.ret<|.call 28 [.ae 1,.ae 2,.ae 3]] [],.b (.d .aA (.ae 0)<|.str b3) [.ret<|.call 29 [.ae 1,.ae 2,.ae 3]] [],.b (.d .aA (.ae 0)<|.str b4) [.ret<|.call 30 [.ae 2,.ae 3]] [],.b (.d .aA (.ae 0)<|.str b5) [.ret<|.call 31 [.ae 1,.ae 2,.ae 3]] [],.b (.d .aA (.ae 0)<|.str b6) [.ret<|.call 32 [.ae 1,.ae 2,.ae 3]] [],.b (.d .aA (.ae 0)<|.str b7) [.ret<|.call 33 [.ae 1,.ae 2,.ae 3]] [],.b (.d .aA (.ae 0)<|.str b9) [.ret<|.call 35 [.ae 1,.ae 2,.ae 3]] [],.b (.d .aA (.ae 0)<|.str cb) [.ret<|.call 36 [.ae 1,.ae 2,.ae 3]] [],.b (.d .aA (.ae 0)<|.str cj) [.ret<|.call 38 [.ae 1,.ae 2,.ae 3]] [],.ret<|.call 39 [.ae 1,.ae 2,.ae 3]]⟩
noncomputable def uw:bG:=⟨3,3,[.ret<|.b (.d .aA (.c (.ae 0)<|.int 0)<|.str b8) (.call 34 [.ae 1])<|.call 43 [.c (.ae 0)<|.int 0,.ae 1,.ae 2,.c (.ae 0)<|.int 1]]⟩
noncomputable def yx:bG:=⟨4,5,[.b (.d .aA (.ae 0)<|.str a3) [.ret<|.call 40 [.ae 1,.ae 2]] [],.b (.d .aA (.ae 0)<|.str a6) [.ret<|.call 42 [.ae 1,.ae 2]] [],.b (.d .aA (.ae 0)<|.str b8) [.ret<|.list [.call 34 [.ae 1]]] [],.assign (.ae 4)<|.call 43 [.ae 0,.ae 1,.ae 2,.ae 3],.ret<|.b (.r<|.ae 4) (.list [])<|.list [.ae 4]]⟩
noncomputable def ER:bG:=⟨7,7,[.assign (.attr (.ae 0) 0)<|.ae 1,.assign (.attr (.ae 0) 6)<|.ae 2,.assign (.attr (.ae 0) 7)<|.ae 3,.assign (.attr (.ae 0) 8)<|.ae 4,.assign (.attr (.ae 0) 9)<|.ae 5,.assign (.attr (.ae 0) 10)<|.ae 6]⟩
noncomputable def ET:bG:=⟨2,2,[.ret<|.mk 6 [.attr (.ae 0) 0,.ae 1,.attr (.ae 0) 7,.attr (.ae 0) 8,.attr (.ae 0) 9,.attr (.ae 0) 10]]⟩
noncomputable def EU:bG:=⟨3,3,[.assign (.attr (.ae 0) 11)<|.ae 1,.assign (.attr (.ae 0) 12)<|.ae 2,.assign (.attr (.ae 0) 13)<|.list []]⟩
noncomputable def EV:bG:=⟨3,5,[.assign (.ae 3)<|.mk 6 [.ae 1,.int 0,.ae 2,.none,.none,.none],.z (.o<|.ae 3) [.expr<|.h (.attr (.ae 0) 12) 15 [],.assign (.ae 4)<|.c (.attr (.ae 3) 0)<|.attr (.ae 3) 6,.b (.and [.d .aA (.c (.ae 4)<|.int 0)<|.bE 14,.r<|.attr (.ae 3) 10]) [.ret<|.tup [.bE 23,.ae 3]] [],.b (.d .aA (.c (.ae 4)<|.int 0)<|.bE 12) [.ret<|.tup [.bE 25,.none]] [],.b (.not<|.h (.ae 0) 7 [.ae 4,.ae 3]) [.assign (.ae 3)<|.h (.ae 0) 6 [],.b (.and [.o<|.ae 3,.r<|.attr (.ae 3) 0]) [.ret<|.tup [.bE 25,.none]] []] []],.ret<|.tup [.bE 24,.none]]⟩
noncomputable def yy:bG:=⟨1,1,[.ret<|.b (.d .fQ (.g .aZ [.attr (.ae 0) 13])<|.int 0) (.i .G (.attr (.ae 0) 13) [])<|.none]⟩
noncomputable def gD:bG:=⟨3,4,[.assign (.ae 3)<|.c (.ae 1)<|.int 0,.b (.d .aA (.ae 3)<|.bE 0) [.ret<|.h (.ae 0) 8 [.ae 1,.ae 2]] [],.b (.d .aA (.ae 3)<|.bE 2) [.expr<|.i .dj (.attr (.ae 0) 13) [.h (.ae 2) 4 [.c (.ae 1)<|.int 1]]] [.b (.d .aA (.ae 3)<|.bE 3) [.assign (.attr (.ae 2) 6)<|.c (.ae 1)<|.int 1,.ret<|.bool true] [.b (.d .aA (.ae 3)<|.bE 4) [.assign (.attr (.ae 2) 9)<|.tup [.attr (.ae 2) 9,.attr (.ae 2) 7]] [.b (.d .jD (.ae 3)<|.tup [.bE 5,.bE 6,.bE 7]) [.b (.not<|.h (.ae 0) 9 [.ae 1,.ae 2]) [.ret<|.bool false] []] [.b (.d .aA (.ae 3)<|.bE 8) [.b (.not<|.h (.attr (.ae 0) 12) 14 [.c (.ae 1)<|.int 1,.attr (.ae 2) 7]) [.ret<|.bool false] []] [.ret<|.h (.ae 0) 10 [.ae 1,.ae 2]]]]]],.Z (.ae 2) 6 .cV<|.int 1,.ret<|.bool true]⟩
noncomputable def ny:bG:=⟨3,6,[.assign (.ae 3)<|.c (.ae 1)<|.int 2,.b (.g .O [.ae 3]) [.assign (.ae 4)<|.call 27 [.tup [.c (.ae 1)<|.int 1,.ae 3],.attr (.ae 0) 12],.b (.r<|.ae 4) [.ret<|.bool false] [],.assign (.ae 3)<|.c (.ae 4)<|.int 1] [],.assign (.ae 5)<|.call 44 [.tup [.c (.ae 1)<|.int 1,.ae 3],.attr (.ae 0) 11,.attr (.ae 2) 7],.b (.r<|.ae 5) [.ret<|.bool false] [],.assign (.attr (.ae 2) 7)<|.ae 5,.Z (.ae 2) 6 .cV<|.int 1,.ret<|.bool true]⟩
noncomputable def ux:bG:=⟨3,6,[.assign (.tup [.ae 3,.ae 4])<|.attr (.ae 2) 9,.assign (.attr (.ae 2) 9)<|.ae 3,.assign (.ae 5)<|.sA (.attr (.ae 0) 11) (.ae 4)<|.attr (.ae 2) 7,.b (.d .aA (.c (.ae 1)<|.int 0)<|.bE 7) [.ret<|.d .fQ (.attr (.ae 2) 7)<|.ae 4] [],.b (.d .aA (.c (.ae 1)<|.int 0)<|.bE 6) [.ret<|.h (.attr (.ae 0) 12) 14 [.c (.ae 1)<|.int 1,.ae 5]] [],.assign (.attr (.ae 2) 8)<|.tup [.attr (.ae 2) 8,.tup [.c (.ae 1)<|.int 1,.ae 5]],.ret<|.bool true]⟩
noncomputable def o5:bG:=⟨3,4,[.assign (.ae 3)<|.c (.ae 1)<|.int 0,.b (.d .aA (.ae 3)<|.bE 11) [.ret<|.bool false] [],.b (.d .aA (.ae 3)<|.bE 1) [.ret<|.h (.ae 0) 11 [.ae 2,.call 45 [.c (.ae 1)<|.int 1,.attr (.ae 0) 11,.attr (.ae 2) 7,.none]]] [],.b (.d .aA (.ae 3)<|.bE 9) [.ret<|.h (.ae 0) 12 [.c (.ae 1)<|.int 1,.ae 2]] [],.b (.d .aA (.ae 3)<|.bE 14) [.assign (.tup [.attr (.ae 2) 10,.tup [.attr (.ae 2) 0,.attr (.ae 2) 6]])<|.attr (.ae 2) 10,.ret<|.bool true] [],.b (.d .aA (.ae 3)<|.bE 10) [.expr<|.i .dj (.attr (.ae 0) 13) [.mk 6 [.none,.int 0,.int 0,.none,.none,.none]]] [.b (.d .aA (.ae 3)<|.bE 13) [.expr<|.i .dj (.attr (.ae 0) 13) [.h (.ae 2) 4 [.attr (.ae 2) 6]]] []],.Z (.ae 2) 6 .cV<|.int 1,.ret<|.bool true]⟩
noncomputable def Ba:bG:=⟨3,5,[.b (.d .aA (.g .aZ [.ae 2])<|.int 0) [.ret<|.bool false] [],.Z (.ae 1) 6 .cV<|.int 1,.D 3 (.ud<|.ae 2) [.assign (.ae 4)<|.h (.ae 1) 4 [.attr (.ae 1) 6],.assign (.attr (.ae 4) 7)<|.ae 3,.expr<|.i .dj (.attr (.ae 0) 13) [.ae 4]],.assign (.attr (.ae 1) 7)<|.c (.ae 2)<|.int 0,.ret<|.bool true]⟩
noncomputable def yz:bG:=⟨3,4,[.assign (.ae 3)<|.h (.attr (.ae 0) 12) 13 [.ae 1],.b (.call 13 [.ae 3]) [.ret<|.bool false] [],.assign (.attr (.ae 2) 10)<|.tup [.attr (.ae 2) 10,.tup [.attr (.ae 2) 0,.bin .cV (.attr (.ae 2) 6)<|.int 1]],.assign (.tup [.attr (.ae 2) 0,.attr (.ae 2) 6])<|.tup [.call 9 [.call 25 [.ae 3]],.int 0],.ret<|.bool true]⟩
noncomputable def EW:bG:=⟨1,3,[.assign (.ae 1)<|.list [],.z (.o<|.ae 0) [.assign (.tup [.ae 0,.ae 2])<|.ae 0,.expr<|.i .dj (.ae 1) [.ae 2]],.expr<|.i .nf (.ae 1) [],.ret<|.ae 1]⟩
noncomputable def EX:bG:=⟨4,7,[.uf 4 (.b (.ae 2) (.int 1)<|.bin .cV (.g .aZ [.ae 1])<|.int 1) [.assign (.tup [.ae 5,.ae 6])<|.h (.mk 7 [.ae 1,.ae 3]) 5 [.ae 0,.ae 4],.b (.d .aA (.ae 5)<|.bE 23) [.ret<|.tup [.ae 4,.attr (.ae 6) 7,.call 57 [.attr (.ae 6) 8]]] [],.b (.d .aA (.ae 5)<|.bE 25) [.ret<|.none] []],.ret<|.none]⟩
noncomputable def EY:bG:=⟨4,4,[.ret<|.call 58 [.call 9 [.ae 0],.ae 1,.ae 2,.ae 3]]⟩
noncomputable def EZ:bG:=⟨4,4,[.assign (.attr (.ae 0) 14)<|.ae 1,.assign (.attr (.ae 0) 15)<|.ae 2,.assign (.attr (.ae 0) 16)<|.ae 3,.assign (.attr (.ae 0) 17)<|.int 0,.assign (.attr (.ae 0) 18)<|.list []]⟩
noncomputable def E0:bG:=⟨2,2,[.b (.d .aA (.c (.ae 1)<|.int 0)<|.str ax) [.ret<|.i .gW (.attr (.ae 0) 14) [.c (.ae 1)<|.int 1,.str ⟨#[]⟩]] [],.ret<|.b (.d .aA (.c (.ae 1)<|.int 0)<|.str da) (.mk 2 [])<|.c (.ae 1)<|.int 1]⟩
noncomputable def Bb:bG:=⟨3,3,[.b (.d .jD (.attr (.ae 1) 5)<|.attr (.ae 0) 16) [.ret<|.bool false] [],.assign (.c (.attr (.ae 0) 14)<|.attr (.ae 1) 5)<|.ae 2,.expr<|.i .dj (.attr (.ae 0) 18) [.tup [.attr (.ae 1) 5,.ae 2]],.ret<|.bool true]⟩
noncomputable def E1:bG:=⟨1,1,[.Z (.ae 0) 17 .cV<|.int 1,.b (.d .fQ (.attr (.ae 0) 17)<|.attr (.ae 0) 15) [.raise 22<|.str ⟨#[115,116,101,112,115]⟩] []]⟩
noncomputable def E2:bG:=⟨4,6,[.uf 4 (.b (.ae 2) (.int 1)<|.bin .cV (.g .aZ [.ae 1])<|.int 1) [.assign (.ae 5)<|.call 65 [.ae 0,.ae 1,.ae 4,.ae 3],.b (.o<|.ae 5) [.ret<|.b (.d .aA (.ae 5)<|.bE 26) (.none)<|.ae 5] []],.ret<|.none]⟩
noncomputable def qT:bG:=⟨4,5,[.assign (.ae 4)<|.call 66 [.ae 0,.ae 1,.ae 2,.ae 3],.ret<|.b (.or [.r<|.ae 4,.d .aA (.ae 4)<|.bE 26]) (.ae 4)<|.tup [.ae 2,.c (.ae 4)<|.int 0,.c (.ae 4)<|.int 1]]⟩
noncomputable def E3:bG:=⟨4,9,[.assign (.ae 4)<|.list [.tup [.tup [.ae 0,.none],.ae 2,.tup []]],.z (.d .fQ (.g .aZ [.ae 4])<|.int 0) [.assign (.ae 5)<|.i .G (.ae 4) [],.b (.r<|.ae 5) [.ret<|.bE 26] [],.assign (.tup [.ae 6,.ae 7,.ae 8])<|.ae 5,.z (.o<|.ae 6) [.expr<|.h (.ae 3) 15 [],.assign (.ae 5)<|.call 67 [.ae 6,.ae 7,.ae 8,.ae 1,.ae 4,.ae 3],.b (.r<|.ae 5) [.brk] [],.b (.d .aA (.ae 5)<|.bE 26) [.ret<|.bE 26] [],.assign (.tup [.ae 6,.ae 7,.ae 8])<|.ae 5],.b (.r<|.ae 6) [.ret<|.tup [.ae 7,.g .list [.ae 8]]] []],.ret<|.none]⟩
noncomputable def fy:bG:=⟨6,10,[.assign (.tup [.ae 6,.ae 7])<|.ae 0,.assign (.ae 8)<|.c (.ae 6)<|.int 0,.b (.d .jD (.ae 8)<|.tup [.str ba,.str cu,.str cx,.str cv,.str cy]) [.ret<|.call 68 [.ae 6,.ae 7,.ae 1,.ae 2,.ae 4]] [],.b (.d .aA (.S (.ae 8)<|.int 4)<|.str ⟨#[101,110,100,32]⟩) [.ret<|.call 69 [.ae 6,.ae 7,.ae 1,.ae 2,.ae 3,.ae 4,.ae 5]] [],.b (.d .aA (.ae 8)<|.str c3) [.ret<|.b (.h (.ae 5) 14 [.c (.ae 6)<|.int 1,.ae 1]) (.tup [.ae 7,.ae 1,.ae 2])<|.none] [],.b (.d .aA (.ae 8)<|.str a4) [.assign (.ae 9)<|.h (.ae 5) 13 [.c (.ae 6)<|.int 1],.ret<|.b (.call 13 [.ae 9]) (.none)<|.tup [.tup [.call 25 [.ae 9],.ae 7],.ae 1,.ae 2]] [],.b (.d .jD (.ae 8)<|.tup [.str b1,.str a7,.str a9,.str dd]) [.ret<|.call 70 [.ae 0,.ae 1,.ae 2,.ae 4]] [],.ret<|.call 71 [.ae 6,.ae 7,.ae 1,.ae 2,.ae 3,.ae 4,.ae 5]]⟩
noncomputable def pX:bG:=⟨5,6,[.assign (.ae 5)<|.c (.ae 0)<|.int 0,.b (.d .aA (.ae 5)<|.str ba) [.ret<|.tup [.tup [.c (.ae 0)<|.int 1,.tup [.c (.ae 0)<|.int 2,.ae 1]],.ae 2,.ae 3]] [],.b (.d .aA (.ae 5)<|.str cu) [.expr<|.i .dj (.ae 4) [.tup [.tup [.c (.ae 0)<|.int 2,.ae 1],.ae 2,.ae 3]],.ret<|.tup [.tup [.c (.ae 0)<|.int 1,.ae 1],.ae 2,.ae 3]] [],.b (.d .aA (.ae 5)<|.str cx) [.expr<|.i .dj (.ae 4) [.tup [.tup [.c (.ae 0)<|.int 1,.tup [.tup [.str ⟨#[101,110,100,32,114,111,117,110,100]⟩,.ae 0,.ae 2],.ae 1]],.ae 2,.ae 3]],.ret<|.tup [.ae 1,.ae 2,.ae 3]] [],.ret<|.tup [.tup [.c (.ae 0)<|.int 1,.tup [.tup [.bin .cV (.str ⟨#[101,110,100,32]⟩)<|.ae 5,.c (.ae 0)<|.int 2,.ae 2],.ae 1]],.ae 2,.ae 3]]⟩
noncomputable def sI:bG:=⟨7,10,[.assign (.tup [.ae 7,.ae 8,.ae 9])<|.ae 0,.b (.d .aA (.ae 7)<|.str ⟨#[101,110,100,32,108,97,116,101,114]⟩) [.ret<|.tup [.ae 1,.ae 2,.bin .cV (.ae 3)<|.tup [.tup [.ae 8,.sA (.ae 4) (.ae 9)<|.ae 2]]]] [],.b (.d .aA (.ae 7)<|.str ⟨#[101,110,100,32,110,111,119]⟩) [.ret<|.b (.h (.ae 6) 14 [.ae 8,.sA (.ae 4) (.ae 9)<|.ae 2]) (.tup [.ae 1,.ae 2,.ae 3])<|.none] [],.ret<|.b (.d .aA (.ae 2)<|.ae 9) (.none)<|.tup [.tup [.ae 8,.ae 1],.ae 2,.ae 3]]⟩
noncomputable def uy:bG:=⟨4,6,[.assign (.tup [.ae 4,.ae 5])<|.tup [.c (.c (.ae 0)<|.int 0)<|.int 0,.c (.ae 0)<|.int 1],.b (.d .aA (.ae 4)<|.str a7) [.ret<|.bE 26] [],.b (.d .aA (.ae 4)<|.str a9) [.ret<|.none] [],.expr<|.i .dj (.ae 3) [.b (.d .aA (.ae 4)<|.str b1) (.none)<|.tup [.ae 0,.ae 1,.ae 2]],.ret<|.tup [.ae 5,.ae 1,.ae 2]]⟩
noncomputable def nz:bG:=⟨7,11,[.assign (.ae 7)<|.c (.ae 0)<|.int 0,.b (.d .aA (.ae 7)<|.str a3) [.b (.d .dS (.ae 2)<|.g .aZ [.ae 4]) [.expr<|.i .dj (.ae 5) [.tup [.tup [.ae 0,.ae 1],.bin .cV (.ae 2)<|.int 1,.ae 3]]] [],.ret<|.tup [.ae 1,.ae 2,.ae 3]] [],.b (.d .aA (.ae 7)<|.str a6) [.assign (.ae 8)<|.call 42 [.ae 4,.ae 2],.D 9 (.ud<|.ae 8) [.expr<|.i .dj (.ae 5) [.tup [.ae 1,.ae 9,.ae 3]]],.ret<|.b (.d .fQ (.g .aZ [.ae 8])<|.int 0) (.tup [.ae 1,.c (.ae 8)<|.int 0,.ae 3])<|.none] [],.assign (.ae 10)<|.call 27 [.ae 0,.ae 6],.b (.r<|.ae 10) [.ret<|.none] [],.assign (.ae 9)<|.call 44 [.ae 10,.ae 4,.ae 2],.ret<|.b (.r<|.ae 9) (.none)<|.tup [.ae 1,.ae 9,.ae 3]]⟩
noncomputable def Bc:bG:=⟨2,2,[.b (.d .fQ (.g .aZ [.c (.ae 0)<|.int 0])<|.int 0) [.ret<|.bin .m9 (.i .qL (.c (.ae 0)<|.int 0) [])<|.ae 1] [],.assign (.c (.ae 0)<|.int 1)<|.bin .m9 (.bin .cV (.bin .oU (.c (.ae 0)<|.int 1)<|.int 4093)<|.int 12289)<|.int 1000003,.ret<|.bin .m9 (.bin .qK (.c (.ae 0)<|.int 1)<|.int 8)<|.ae 1]⟩
noncomputable def E4:bG:=⟨1,3,[.assign (.ae 1)<|.list [.iU (.g .int [.ae 0]) 1 []<|.S (.ae 0)<|.int 40,.int 7,.int 6,.list [.tup [.str ax,.str cm],.tup [.str ax,.str aT],.tup [.str da],.tup [.str ⟨#[116,101,120,116]⟩,.str cn]]],.D 2 (.S (.ae 0)<|.int 40) [.assign (.c (.ae 1)<|.int 1)<|.bin .m9 (.bin .cV (.bin .oU (.c (.ae 1)<|.int 1)<|.int 31)<|.ae 2)<|.int 1000003],.ret<|.ae 1]⟩
noncomputable def E5:bG:=⟨1,1,[.ret<|.c (.list [.str cz,.str cn,.str c0,.str ⟨#[40]⟩,.str ⟨#[41]⟩,.str ⟨#[]⟩,.str ⟨#[98,97]⟩,.str ⟨#[97,97]⟩])<|.call 72 [.ae 0,.int 8]]⟩
noncomputable def wj:bG:=⟨2,4,[.assign (.ae 2)<|.d .jD (.ae 1)<|.tup [.str b3,.str b4,.str b5,.str b6,.str b7],.b (.d .aA (.call 72 [.ae 0,.int 4])<|.int 0) [.assign (.ae 3)<|.c (.list [.str b2,.str a8,.str aT])<|.call 72 [.ae 0,.int 3],.ret<|.tup [.str a4,.b (.d .fQ (.call 72 [.ae 0,.int 3])<|.int 0) (.tup [.str ax,.ae 3])<|.tup [.str da]]] [],.ret<|.b (.ae 2) (.call 72 [.ae 0,.int 4])<|.c (.list [.str cz,.str cn,.str c0,.str ⟨#[97,40]⟩])<|.call 72 [.ae 0,.int 4]]⟩
noncomputable def E6:bG:=⟨3,8,[.assign (.c (.ae 0)<|.int 2)<|.bin .cg (.c (.ae 0)<|.int 2)<|.int 1,.assign (.ae 3)<|.call 72 [.ae 0,.b (.and [.d .fQ (.ae 1)<|.int 0,.d .fQ (.c (.ae 0)<|.int 2)<|.int 0]) (.int 22)<|.int 16],.b (.d .dS (.ae 3)<|.int 3) [.ret<|.tup [.str ab,.call 74 [.ae 0]]] [],.b (.d .dS (.ae 3)<|.int 12) [.assign (.ae 4)<|.c (.list [.str b3,.str b4,.str b5,.str b6,.str b7,.str b9,.str cb,.str cj,.str ct])<|.bin .cg (.ae 3)<|.int 3,.ret<|.tup [.ae 4,.call 75 [.ae 0,.ae 4]]] [],.b (.d .dS (.ae 3)<|.int 15) [.assign (.ae 5)<|.c (.list [.list [.str a3,.str b8,.str a6],.list [.str a3,.str b1,.str a6],.list [.str a9,.str a7,.str a3]])<|.bin .cg (.ae 3)<|.int 12,.ret<|.tup [.c (.ae 5)<|.call 72 [.ae 0,.int 3]]] [],.b (.d .aA (.ae 3)<|.int 15) [.b (.d .aA (.call 72 [.ae 0,.int 2])<|.int 0) [.ret<|.tup [.str c3,.c (.ae 2)<|.call 72 [.ae 0,.int 3]]] [],.ret<|.tup [.str a4,.c (.c (.ae 0)<|.int 3)<|.call 72 [.ae 0,.int 4]]] [],.assign (.ae 6)<|.call 76 [.ae 0,.bin .cg (.ae 1)<|.int 1,.ae 2],.b (.d .aA (.ae 3)<|.int 16) [.ret<|.tup [.str cx,.ae 6]] [],.b (.d .dS (.ae 3)<|.int 19) [.ret<|.tup [.c (.list [.str cv,.str cy])<|.bin .cg (.ae 3)<|.int 17,.ae 6,.c (.ae 2)<|.call 72 [.ae 0,.int 3]]] [],.assign (.ae 7)<|.call 76 [.ae 0,.bin .cg (.ae 1)<|.int 1,.ae 2],.b (.d .aA (.ae 3)<|.int 19) [.ret<|.call 23 [.ae 6,.ae 7]] [],.ret<|.b (.d .aA (.ae 3)<|.int 20) (.tup [.str ba,.ae 6,.ae 7])<|.call 24 [.ae 6,.ae 7]]⟩
noncomputable def E7:bG:=⟨6,8,[.assign (.ae 6)<|.mk 8 [.g .dict [.ae 4],.bin .vV (.int 10)<|.int 9,.ae 5],.vY [.b (.ae 0) [.assign (.ae 7)<|.call 59 [.ae 1,.ae 2,.ae 3,.ae 6]] [.assign (.ae 7)<|.call 64 [.ae 1,.ae 2,.ae 3,.ae 6]]] ⟨#[101,114,114,111,114]⟩<|.attr (.ae 6) 18,.b (.o<|.ae 7) [.assign (.ae 7)<|.tup [.c (.ae 7)<|.int 0,.c (.ae 7)<|.int 1,.iU (.tup [.attr (.ae 0) 5,.ae 1]) 2 []<|.c (.ae 7)<|.int 2]] [],.ret<|.tup [.ae 7,.attr (.ae 6) 18,.iU (.tup [.ae 0,.c (.attr (.ae 1) 14)<|.ae 0]) 1 [6]<|.tup [.str aT,.str ck,.str a5]]]⟩
noncomputable def E8:bG:=⟨1,10,[.assign (.ae 1)<|.call 73 [.ae 0],.assign (.ae 2)<|.iU (.mk 5 [.str c4,.none,.ae 0]) 1 []<|.tup [.str aT,.str ck,.str a5],.assign (.tup [.ae 3,.ae 4])<|.tup [.d .aA (.call 72 [.ae 1,.int 2])<|.int 1,.call 72 [.ae 1,.int 5]],.assign (.ae 5)<|.i .qM (.str ⟨#[]⟩) [.ue (.c (.str ⟨#[97,98,40,41,97,97,98]⟩)<|.call 72 [.ae 1,.int 7]) [1]<|.ae 4],.assign (.ae 6)<|.call 76 [.ae 1,.int 3,.ae 2],.assign (.tup [.c (.ae 1)<|.int 2,.c (.ae 1)<|.int 3])<|.tup [.int 2,.list [.tup [.str ax,.str a8],.tup [.str ax,.str aT],.tup [.str da],.tup [.str ⟨#[116,101,120,116]⟩,.str cn]]],.assign (.ae 7)<|.dict [b2,a8,aT,ck,a5] [.bin .cV (.int 1)<|.call 72 [.ae 1,.int 2],.c (.list [.str cz,.str c0])<|.call 72 [.ae 1,.int 2],.str a0,.str ⟨#[]⟩,.str ⟨#[]⟩],.assign (.c (.ae 7)<|.str cm)<|.mk 3 [.call 76 [.ae 1,.int 1,.ae 2]],.assign (.ae 8)<|.c (.list [.list [],.list [],.list [.str a5]])<|.call 72 [.ae 1,.int 3],.assign (.ae 9)<|.call 77 [.bool false,.ae 6,.ae 5,.ae 3,.ae 7,.ae 8],.ret<|.d .aA (.g .X [.call 77 [.bool true,.ae 6,.ae 5,.ae 3,.ae 7,.ae 8]])<|.g .X [.ae 9]]⟩
def aw:bu:=⟨[.str c1,.str c5,.str c6,.str c2,.str dr,.str ax,.str dt,.str df,.str ⟨#[112,108,97,99,101]⟩,.str ⟨#[97,115,107]⟩,.str b1,.str a9,.str a7,.str dd,.str cw,.tup [.str ab,.str b3,.str b4,.str b5,.str b6,.str b7,.str b9,.str cb,.str cj,.str ct,.str b8],.tup [.str b1,.str a9,.str a7,.str dd],.tup [.str b3,.str b4,.str b5,.str b6,.str b7],.tup [.str b9,.str cb,.str cj,.str ct],.tup [.str ab,.str ⟨#[]⟩],.int 64,.str ⟨#[40]⟩,.str ⟨#[41]⟩,.int 0,.int 1,.int 2,.str dk],[Em,yt,En,Eo,Ep,jd,Er,Es,Et,Eu,Ew,Qo,Ex,yu,Ey,sH,Ez,yv,yw,EA,EB,wh,wi,oZ,EC,uv,ED,pW,EE,EF,EG,EH,EI,A6,EJ,A7,A8,EK,EL,EM,EN,A9,EP,nx,uw,yx,ER,ET,EU,EV,yy,gD,ny,ux,o5,Ba,yz,EW,EX,EY,EZ,E0,Bb,E1,E2,qT,E3,fy,pX,sI,uy,nz,Bc,E4,E5,wj,E6,E7,E8],[((0,0),4),((0,1),5),((0,2),6),((0,3),7),((6,4),47),((7,5),49),((7,6),50),((7,7),51),((7,8),52),((7,9),53),((7,10),54),((7,11),55),((7,12),56),((8,13),61),((8,14),62),((8,15),63)],[(0,3),(3,10),(4,11),(5,12),(6,46),(7,48),(8,60)]⟩
noncomputable def Qp:List String:=["row_of","is_plain_text","with_texts_joined","PatternCode.__init__","PatternCode.emit","PatternCode.put","PatternCode.put_choice","PatternCode.put_repeat","straightened","compile_pattern","Pattern.__init__","Delayed.__init__","NameRef.__init__","is_fail","fits","whole_of_text","text_of_whole","to_whole","to_text","need_text","is_null_node","plain_count","plain_signs","joined","either","pattern_of","is_delayed","settled","chars_end","len_end","pos_end","rpos_end","tab_end","rtab_end","rem_end","any_at","notany_at","run_end","span_end","break_end","arb_ends","bal_end","bal_ends","one_end","plain_end","ends_of","Way.__init__","Way.copied","Match.__init__","Match.run","Match.way_back","Match.done","Match.met_once","Match.ended","Match.other","Match.met_often","Match.asked","named_rows","match_orders","match_compiled","PlainHost.__init__","PlainHost.value_of","PlainHost.assign","PlainHost.step","match_plain","match_at","tried","advanced","led_in","led_out","steered","taken","_law_take","_law_box","_law_text","_law_told","_law_node","_law_heard","law"]
noncomputable def Qq:List<|List Str:=([["node","kind","found","waiting","part"],["node"],["parts","found","part"],["self"],["self","order"],["self","node","kind","part"],["self","parts","ends","part","split","at"],["self","node","split","leave"],["orders","found","order","goal"],["node","code"],["self","node"],["self","tree"],["self","kind","owner","key"],["value"],["number","width"],["text","width","digits","number","sign"],["number","left","found"],["value","width"],["value"],["value","text"],["node"],["value","kind","count"],["value","kind","text"],["one","other"],["one","other"],["value","text"],["told"],["node","host","value"],["subject","at","text","end"],["subject","at","many"],["at","place"],["subject","at","place"],["subject","at","place"],["subject","at","place","goal"],["subject"],["subject","at","signs"],["subject","at","signs"],["subject","at","signs","is_in"],["subject","at","signs","end"],["subject","at","signs","end"],["subject","at"],["subject","at","level"],["subject","at","found","end"],["kind","subject","at","told"],["node","subject","at"],["kind","subject","at","told","end"],["self","orders","pc","at","named","marks","calls"],["self","pc"],["self","subject","host"],["self","orders","begin","way","order"],["self"],["self","order","way","word"],["self","order","way","told","node","end"],["self","order","way","marks","begin","text"],["self","order","way","word"],["self","way","ends","end","other"],["self","tree","way","value"],["named","found","last"],["orders","subject","is_anchored","host","begin","how","way"],["node","subject","is_anchored","host"],["self","values","limit","refused"],["self","tree"],["self","ref","value"],["self"],["node","subject","is_anchored","host","begin","found"],["node","subject","begin","host","found"],["node","subject","begin","host","pile","way","chain","at","named"],["chain","at","named","subject","pile","host","here","rest","kind","value"],["here","rest","at","named","pile","kind"],["here","rest","at","named","subject","pile","host","kind","told","begin"],["chain","at","named","pile","kind","rest"],["here","rest","at","named","subject","pile","host","kind","ends","end","plain"],["box","limit"],["script","box","one"],["box"],["box","kind","is_count","word"],["box","deep","refs","form","kind","kinds","one","other"],["is_made","node","subject","is_anchored","kept","refused","host","found"],["script","box","refs","is_anchored","many","subject","node","kept","refused","due"]]:List<|List String).map (·.map Str.ofString)
noncomputable def Qr:List String:=["PatternCode","SnobolError","Failure","Pattern","Delayed","NameRef","Way","Match","PlainHost"]
noncomputable def Qs:List String:=["ONE","WAYS","SPLIT","JUMP","MARK","NAME","SET","GAIN","PLACE","ASK","FENCE","FAIL","ABORT","SUCCEED","DONE","SINGLE","ALONE","COUNTED","SIGNED","NULL_NODE","WIDTH_OF_COUNT","OPENING","CLOSING","MET","FAILED","OVER","LOST"]
noncomputable def E9:List String:=["emit","put","put_choice","put_repeat","copied","run","way_back","done","met_once","ended","other","met_often","asked","value_of","assign","step"]
noncomputable def Qt:List String:=["orders","node","tree","kind","owner","key","pc","at","named","marks","calls","subject","host","history","values","limit","refused","steps","log"]
open PySem.W PySem.Calls PyProof.Rows PySem.Spec
section
variable{E:Type}{G:aa}{I:aI E×ag}{H K:ag}{J:Option aM}{L:Bool}{M:aI E}
theorem cq{U:e}{P:Prop}(w:none=some U):P:=nomatch w
def je{H Q:E}(w:eJ L H=some Q):L=true/\H=Q:=by
 induction L;·show bQ w
 ·show⟨rfl,jZ w⟩
def nA{W:Int->Option E}{Q:E}(w:lp G W=some Q):∃J,G=.int J/\W J=some Q:=by rcases G with⟨⟩<;>first|show aX _ rfl w|show cq w
def pY{W:Str->Option E}{Q:E}(w:oV G W=some Q):∃J,G=.str J/\W J=some Q:=by rcases G with⟨⟩<;>first|show aX _ rfl w|show cq w
def Qu{W:Bool->Option E}{Q:E}(w:Ja G W=some Q):∃J,G=.bool J/\W J=some Q:=by rcases G with⟨⟩<;>first|show aX _ rfl w|show cq w
def Qv{W:aa->Option E}{Q:E}(w:Jb G W=some Q):∃J,G=.fq J/\W J=some Q:=by rcases G with⟨⟩<;>first|show aX _ rfl w|show cq w
def Qw{W:List aa->Option E}{Q:E}(w:Jc G W=some Q):∃J,G=.tup J/\W J=some Q:=by rcases G with⟨⟩<;>first|show aX _ rfl w|show cq w
def Bd{W:List aa->Option E}{Q:E}(w:AE J W=some Q):∃F,J=some (.list F)/\W F=some Q:=by
 rcases J with _|N;·show cq w
 ·induction N<;>first|show aX _ rfl w|show cq w
def pZ{W:Int->af E}(w:kJ G W H=some I):∃J,G=.int J/\W J H=some I:=by rcases G with⟨⟩<;>first|show aX _ rfl w|show cq w
def Fb{W:Str->af E}(w:ug G W H=some I):∃J,G=.str J/\W J H=some I:=by rcases G with⟨⟩<;>first|show aX _ rfl w|show cq w
def lx{W:Nat->af E}(w:jc G W H=some I):∃J,G=.ref J/\W J H=some I:=by rcases G with⟨⟩<;>first|show aX _ rfl w|show cq w
def ly{W:List aa->af E}(w:gX J W H=some I):∃F,J=some (.list F)/\W F H=some I:=by
 rcases J with _|N;·show cq w
 ·induction N<;>first|show aX _ rfl w|show cq w
def yA{W:List (Str×aa)->af E}(w:qO J W H=some I):∃F,J=some (.dict F)/\W F H=some I:=by
 rcases J with _|N;·show cq w
 ·induction N<;>first|show aX _ rfl w|show cq w
def yB{W:Nat->List (Nat×aa)->af E}(w:uh J W H=some I):∃M F,J=some (.bt M F)/\W M F H=some I:=by
 rcases J with _|N;·show cq w
 ·induction N<;>first|show lN _ _ rfl w|show cq w
def jt{N:af E}(w:af.d4 L N H=some I):L=true/\N H=some I:=by
 induction L;·show bQ w
 ·show⟨rfl,w⟩
def cS{g:E}(w:af.bg g H=some (M,K)):M=.ai g/\K=H:=by obtain⟨rfl,rfl⟩:=dT w;show⟨rfl,rfl⟩
def sJ{g:E}{N:aM}(w:af.mB a N g H=some (M,K)):M=.ai g/\K=H.set a N:=by obtain⟨rfl,rfl⟩:=dT w;show⟨rfl,rfl⟩
def j3{g:Option E}(w:af.dZ g H=some (M,K)):∃Q,g=some Q/\M=.ai Q/\K=H:=by
 rcases g with _|Q;·show bQ w
 ·obtain⟨rfl,rfl⟩:=dT w;show cO Q rfl rfl rfl
end
abbrev aG:=List<|Addr×Addr
def eT(g:aG)(H:Addr):Prop:=∃X∈g,X.2=H
noncomputable def Qx:List Addr:=[82,120,133,154,175,196,458,535,598]
def dP(M:Nat):Addr:=Qx.getD M 0
noncomputable def fK:Addr:=120
def o6:List Str:=Qt.map Str.ofString
noncomputable def sL:Str:="number"
noncomputable def gN(M:Nat):Bool:=decide (M<9)&&M !=1
def dm(W:Nat):Str:=o6.getD W sL
def qa(F:List<|Nat×aa)(G:Str):Option aa:=List.rec (motive:=λ_=>Option aa) none (λX _ S=>bif dm X.1==G then some X.2 else S) F
def sM(Q:aa):PyData:=aa.rec (motive_1:=λ_=>PyData) (motive_2:=λ_=>List PyData) .none .bool .int .str (λ_ F=>.tuple F) (λ_ F=>.list F) (λ_=>.none) (λ_ _=>.none) [] (λ_ _ H L=>H::L) Q
def uz(F:List aa):List PyData:=aa.rec_1 (motive_1:=λ_=>PyData) (motive_2:=λ_=>List PyData) .none .bool .int .str (λ_ F=>.tuple F) (λ_ F=>.list F) (λ_=>.none) (λ_ _=>.none) [] (λ_ _ H L=>H::L) F
theorem JY(H:aa)(L:List aa):uz (H::L)=sM H::uz L:=rfl
mutual inductive aE (g:aG) (w:Heap):aa->Value->Prop|none:aE g w .none .none|bool (I):aE g w (.bool I)<|.bool I|int (J U):aE g w (.int J)<|.int J U|str (K U):aE g w (.str K)<|.str K U|tup {F:List aa} {H:Addr} {G:Array Value}:IsTup w H G->bh g w F G.toList->aE g w (.tup F) (.ref H)|cM {F:List aa} {H:Addr} {G:Array Value}:w.IsList H G->¬eT g H->bh g w F G.toList->aE g w (.cM F) (.ref H)|ref {J:Nat} {X:Addr×Addr}:g[J]?=some X->aE g w (.ref J) (.ref X.1)|fq (Q U):aE g w (.fq Q) (.str (sM Q).shown U)inductive bh (g:aG) (w:Heap):List aa->List Value->Prop|nil:bh g w [] []|cons {Q:aa} {E:Value} {F:List aa} {O:List Value}:aE g w Q E->bh g w F O->bh g w (Q::F) (E::O)end
def bh.wk{g:aG}{P:List aa->List Value->Prop}(O:P [] [])(M:∀{Q w F E},aE g h Q w->bh g h F E->P F E->P (Q::F) (w::E)):∀{F:List aa}{E:List Value},bh g h F E->P F E:=bh.rec (motive_1:=λ_ _ _=>True) (motive_2:=λF E _=>P F E) ⟨⟩ (λ_=>⟨⟩) (λ_ _=>⟨⟩) (λ_ _=>⟨⟩) (λ_ _ _=>⟨⟩) (λ_ _ _ _=>⟨⟩) (λ_=>⟨⟩) (λ_ _=>⟨⟩) O λH I _ N=>M H I N
inductive JZ(g:aG)(w:Heap)(F:List aa)(I:Value):Prop|mk (H:Addr) (M:Array Value) (E:I=.ref H) (G:IsTup w H M) (W:bh g w F M.toList)
inductive Qy(g:aG)(w:Heap)(F:List aa)(I:Value):Prop|mk (H:Addr) (J:Array Value) (E:I=.ref H) (G:w.IsList H J) (N:¬eT g H) (T:bh g w F J.toList)
def Qz(g:aG)(w:Heap)(Q:aa)(M:Value):Prop:=aa.casesOn Q (M=.none) (λI=>M=.bool I) (λJ=>∃U,M=.int J U) (λK=>∃U,M=.str K U) (JZ g w · M) (Qy g w · M) (λJ=>∃X,M=.ref X.1/\g[J]?=some X) λQ=>∃U,M=.str (sM Q).shown U
def aE.gb{g:aG}{Q:aa}(G:aE g h Q d):Qz g h Q d:=aE.casesOn G rfl (λ_=>rfl) (λ_ U=>⟨U,rfl⟩) (λ_ U=>⟨U,rfl⟩) (λH I=>⟨_,_,rfl,H,I⟩) (λH I d=>⟨_,_,rfl,H,I,d⟩) (λE=>⟨_,rfl,E⟩) λ_ U=>⟨U,rfl⟩
def QA(g:aG)(w:Heap)(F:List aa)(M:List Value):Prop:=List.casesOn F (M=[]) λQ L=>∃E Z,M=E::Z/\aE g w Q E/\bh g w L Z
def bh.gb{g:aG}{F:List aa}(G:bh g h F l):QA g h F l:=bh.casesOn G rfl λH I=>we _ _ rfl H I
def bh.jG{g:aG}{Q:aa}(G:bh g h [Q] [d]):aE g h Q d:=gZ G.gb λ_ _ E H _=>(m7 E).1▸H
def bh.gY{g T:aG}{w:Heap}(R:∀{H M},IsTup w H M->IsTup h H M)(O:∀{H M},w.IsList H M->¬eT g H->h.IsList H M/\¬eT T H)(P:∀{J:Nat}{X:Addr×Addr},g[J]?=some X->T[J]?=some X){F:List aa}(G:bh g w F l):bh T h F l:=bh.rec (motive_1:=λQ L _=>aE T h Q L) (motive_2:=λF l _=>bh T h F l) .none .bool .int .str (λU _ N=>.tup (R U) N) (λU K _ N=>.cM (O U K).1 (O U K).2 N) (λE=>.ref<|P E) .fq .nil (λ_ _ H I=>.cons H I) G
def aE.gY{g T:aG}{K:Heap}(I:∀{H w},IsTup h H w->IsTup K H w)(O:∀{H w},h.IsList H w->¬eT g H->K.IsList H w/\¬eT T H)(E:∀{J:Nat}{X:Addr×Addr},g[J]?=some X->T[J]?=some X){Q:aa}(G:aE g h Q d):aE T K Q d:=(bh.gY I O E<|.cons G .nil).jG
structure Fc(g:aG)(w:Heap)(X:Addr×Addr)(M:Nat)(H:List<|Nat×aa)(S I:Obj)(E:Array DictEntry)(O:Nat):Prop where
qU:w.get? X.1=some S
yC:S.cls=.ref (dP M)
jG:S.dict=some X.2
uA:S.data=.plain
o7:w.get? X.2=some I
J0:I.cls=.type "dict"
QB:I.dict=none
uB:I.data=.dict E O
Be:StrKeys E
Fd:E.size<=H.length
U:gN M=true
o8:∀Y∈H,Y.1<19
J1:∀G,qa H G=none->nsFind E G=none
yD:∀G Q,qa H G=some Q->∃F,nsFind E G=some F/\aE g w Q F
inductive jH(R:World)(g:aG)(w:Heap)(X:Addr×Addr):aM->Prop|list {F:List aa} {E:Array Value} {O:Nat}:X.2=X.1->IsL w X.1 E O->bh g w F E.toList->jH R g w X (.list F)|bt {M:Nat} {Q:List<|Nat×aa} {S Y:Obj} {U:Array DictEntry} {O:Nat}:Fc g w X M Q S Y U O->jH R g w X (.bt M Q)|dict {G:List<|Str×aa} {E:List<|Str×Value}:X.2=X.1->w.DictOf (strKind (default:Program) R) X.1 E->G.map (·.1)=E.map (·.1)->bh g w (G.map (·.2)) (E.map (·.2))->jH R g w X (.dict G)
def QC(R:World)(g:aG)(w:Heap)(X:Addr×Addr)(S:aM):Prop:=aM.casesOn S (λF=>∃E O,X.2=X.1/\IsL w X.1 E O/\bh g w F E.toList) (λM Q=>∃S Y U O,Fc g w X M Q S Y U O) λG=>∃E,X.2=X.1/\w.DictOf (strKind (default:Program) R) X.1 E/\G.map (·.1)=E.map (·.1)/\bh g w (G.map (·.2)) (E.map (·.2))
def jH.gb{R:World}{g:aG}{S:aM}(G:jH R g h v S):QC R g h v S:=jH.casesOn G (λH I M=>⟨_,_,H,I,M⟩) (λH=>⟨_,_,_,_,H⟩) λH I M Y=>⟨_,H,I,M,Y⟩
def yE{R:World}{X Y:Program}{G:List<|Str×Value}:h.DictOf (strKind X R) k G->h.DictOf (strKind Y R) k G:=by rintro⟨S,U,K,L,w,O,g,F,V⟩;show Eh S U K L w O g ((by intro _ _ _ _ _ h;induction h with|nil=>show .nil|cons k I M E=>show .cons k I E:∀{R X Y U G}(h:Pairs (strKind X R) U G),Pairs (strKind Y R) U G) F) V
structure br(R:World)(Q:Heap)(E:aG)(g:ag)(w:Heap):Prop where
cP:∀H S,Q.get? H=some S->w.get? H=some S
aZ:E.length=g.length
cI:∀(J:Nat)(X:Addr×Addr)(S:aM),E[J]?=some X->g[J]?=some S->jH R E w X S
j4:(E.map (·.2)).Nodup
qb:∀X∈E,Q.get? X.2=none
structure bp(g T:aG)(E M:Addr->Prop)(K G:Shared):Prop where
fc:∃L,T=g++L/\∀X∈L,K.heap.get? X.2=none
aF:∀H S,K.heap.get? H=some S->¬eT g H->¬E H->(∃w,G.heap.get? H=some {S with slots:=w})/\(¬M H->G.heap.get? H=some S)
ir:∀H,(K.heap.get? H).isSome=true->(G.heap.get? H).isSome=true
iJ:G.gens=K.gens
iX:G.drawn=K.drawn
iK:G.os=K.os
abbrev n7:Addr->Prop:=λ_=>False
def eT.dj{g L:aG}:eT (g++L) k↔eT g k\/eT L k:=by
 unfold eT;simp only[List.mem_append];constructor
 ·rintro⟨X,w|w,E⟩;·show .inl ⟨X,w,E⟩
  ·show .inr ⟨X,w,E⟩
 ·rintro(⟨X,w,E⟩|⟨X,w,E⟩);·show⟨X,.inl w,E⟩
  ·show⟨X,.inr w,E⟩
def bp.n8(g:aG)(X M:Addr->Prop)(K:Shared):bp g g X M K K where fc:=aX ([]) (by simp) (by simp);aF:=λH S w _ _=>⟨⟨S.slots,w⟩,λ_=>w⟩;ir:=λ_ w=>w;iJ:=rfl;iX:=rfl;iK:=rfl
def bp.lR(g:aG)(X M:Addr->Prop)(K:Shared)(N:Nat):bp g g X M K {K with toks:=N}:=let G:=bp.n8 g X M K
⟨G.fc,G.aF,G.ir,rfl,rfl,rfl⟩
def bp.o9{g T:aG}{M:Addr->Prop}(G:bp g T o M f x){S:Obj}(w:f.heap.get? k=some S)(N:¬eT g k):¬eT T k:=by
 show aB G.fc ?_;clear G;rintro L rfl K;rw[eT.dj];rintro(Y|⟨X,I,rfl⟩);·show N Y
 ·rw[K X I]at w;show bQ w
def bp.aC{J Q W:aG}{M:Addr->Prop}{T:Shared}(G:bp J Q o M f x)(K:bp Q W o M x T):bp J W o M f T where
fc:=by
 show aB G.fc ?_;rintro L rfl F;show aB K.fc ?_;rintro Y rfl R;show aX (L++Y) (by simp) λX I=> ?_;rcases oP.mp I with I|I;·show F X I
 ·rcases E:f.heap.get? X.2with _|S;·rfl
  ·have:=G.ir X.2 (by rw[E];rfl);rw[R X I]at this;show Bool.noConfusion this
aF:=λH S w g V=>by obtain⟨⟨P,E⟩,N⟩:=G.aF H S w g V;obtain⟨⟨a,U⟩,Z⟩:=K.aF H _ E (G.o9 w g) V;show⟨⟨a,U⟩,λO=> ?_⟩;have:=N O;rw[E]at this;show(Z O).trans this
ir:=λH w=>K.ir H<|G.ir H w;iJ:=K.iJ.trans G.iJ;iX:=K.iX.trans G.iX;iK:=K.iK.trans G.iK
def bp.cZ{g L:aG}{Q M T:Addr->Prop}(G:bp g L o M f x)(V:∀H,(f.heap.get? H).isSome=true->o H->Q H)(K:∀H,(f.heap.get? H).isSome=true->M H->T H):bp g L Q T f x where
fc:=G.fc;aF:=λH S w F O=>by
 have I:(f.heap.get? H).isSome=true:=by rw[w];rfl
 show eZ (G.aF H S w F λY=>O<|V H I Y) λE N=> ?_;show⟨E,λY=>N λJ=>Y<|K H I J⟩
ir:=G.ir;iJ:=G.iJ;iX:=G.iX;iK:=G.iK
def bp.sN{g T:aG}{M:Addr->Prop}(G:bp g T o M f x)(w:g[a]?=some v):T[a]?=some v:=by show aB G.fc ?_;clear G;rintro L rfl _;show(sm<|by have:=eD.mp w;show this.1).trans w
structure qV(X:Addr->Prop)(w:Heap):Prop where n9:∀H,X H->∀S,w.get? H=some S->(∀g O,S.data≠.seq g O)/\S.data≠.plain
def qW{R:World}{Q:Heap}{F:aG}{g:ag}(Z:br R Q F g h)(N:eT F k):∃S,h.get? k=some S/\((∃M O,S.data=.seq M O/\S.cls=.type "list")\/∃U O,S.data=.dict U O/\S.cls=.type "dict"):=by show aB N ?_;clear N;rintro X I rfl;obtain⟨J,G,rfl⟩:=List.getElem_of_mem I;have W:J<g.length:=Z.aZ▸G;have:=Z.cI J F[J] g[J] (tZ G)<|tZ W;generalize g[J]=P at this;induction this with|list E L _=>show E▸aX _ L (.inl<|lN _ _ rfl rfl)|bt K=>show aX _ K.o7<|.inr ⟨_,_,K.uB,K.J0⟩|dict E H _ _=>show lP H λS U T L w V _=> ?_;show E▸aX S L (.inr ⟨U,T,V,w.1⟩)
section
variable{N:World}{L:Heap}{G J:aG}{M:ag}{H K:Addr->Prop}{E I:Shared}
def Bf(Z:br N L G M E.heap)(R:qV H E.heap)(U:bp G J H K E I)(w:IsTup E.heap k y):IsTup I.heap k y:=by
 obtain⟨S,F,T,O,Q⟩:=w;have P:¬eT G k:=λP=>by
  show aB (qW Z P) λa W Y=> ?_;rw[F]at W;obtain rfl:=bO W;rcases Y with⟨_,_,_,Y⟩|⟨_,_,Y,_⟩;·rw[T]at Y;show absurd Y<|by decide
  ·rw[Q]at Y;contradiction
 have V:¬H k:=λV=>by show(R.n9 k V S F).1 _ _ Q
 obtain⟨⟨X,g⟩,_⟩:=U.aF k S F P V;show⟨_,g,T,O,Q⟩
def yF(R:qV H E.heap)(P:bp G J H K E I)(w:E.heap.IsList k y)(N:¬eT G k):I.heap.IsList k y/\¬eT J k:=by
 obtain⟨S,L,M,O,F⟩:=w;obtain V:¬H k:=λV=>by show(R.n9 k V S L).1 _ _ F
 obtain⟨⟨Q,g⟩,_⟩:=P.aF k S L N V;show⟨⟨_,g,M,O,F⟩,P.o9 L N⟩
def uC(Z:br N L G M E.heap)(R:qV H E.heap)(w:bp G J H K E I){F:List aa}(g:bh G E.heap F l):bh J I.heap F l:=g.gY (Bf Z R w) (yF R w) w.sN
def pb(Z:br N L G M E.heap)(R:qV H E.heap)(w:bp G J H K E I){Q:aa}(g:aE G E.heap Q d):aE J I.heap Q d:=g.gY (Bf Z R w) (yF R w) w.sN
end
structure cN(K G:Shared):Prop where
aF:∀H S,K.heap.get? H=some S->G.heap.get? H=some S
iJ:G.gens=K.gens
iX:G.drawn=K.drawn
iK:G.os=K.os
def cN.n8(K:Shared):cN K K:=⟨λ_ _ w=>w,rfl,rfl,rfl⟩
def cN.lR(K:Shared)(N:Nat):cN K {K with toks:=N}:=⟨λ_ _ w=>w,rfl,rfl,rfl⟩
def cN.aC{T:Shared}(H:cN f x)(I:cN x T):cN f T:=⟨λG S w=>I.aF G S<|H.aF G S w,I.iJ.trans H.iJ,I.iX.trans H.iX,I.iK.trans H.iK⟩
def cN.bK(T:cN f x)(g:aG)(X M:Addr->Prop):bp g g X M f x where
fc:=aX ([]) (by simp) (by simp);aF:=λH S w _ _=>⟨⟨S.slots,T.aF H S w⟩,λ_=>T.aF H S w⟩;ir:=λH w=>by
 rcases E:f.heap.get? H with _|S;·rw[E]at w;show Bool.noConfusion w
 ·rw[T.aF H S E];rfl
iJ:=T.iJ;iX:=T.iX;iK:=T.iK
def bh.iL{g T:aG}{w:Heap}(W:∀{Q:aa}{E:Value},aE g w Q E->aE T h Q E){F:List aa}(G:bh g w F l):bh T h F l:=G.wk (P:=λF l=>bh T h F l) .nil λH _ N=>.cons (W H) N
def jH.iL{R:World}{g M:aG}{K:Heap}(W:∀{Q:aa}{F:Value},aE g h Q F->aE M K Q F)(H:K.get? v.1=h.get? v.1)(w:K.get? v.2=h.get? v.2){S:aM}(L:jH R g h v S):jH R M K v S:=by induction L with|list E I T=>show .list E (H.trans I)<|T.iL W|bt N=>show .bt {N with qU:=H.trans N.qU,o7:=w.trans N.o7,yD:=λG Q V=>(N.yD G Q V).imp λ_ Y=>⟨Y.1,W Y.2⟩}|dict E O J T=>show sG O λS U P I L=> ?_;show .dict E (qS S U P (H.trans I) L) J<|T.iL W
def jH.wm{R:World}{g:aG}{S:aM}(L:jH R g h v S):∃Q,h.get? v.1=some Q/\(v.2=v.1\/Q.data=.plain):=by induction L with|list E w T=>show aX _ w<|.inl E|bt K=>show aX _ K.qU<|.inr K.uA|dict E O F T=>show sG O λS U G w L=> ?_;show aX S w<|.inl E
def jH.Bg{R:World}{g:aG}{S:aM}(L:jH R g h v S):∃Q,h.get? v.2=some Q/\Q.data≠.plain:=by induction L with|list E F T=>show E▸aX _ F (by simp)|bt K=>show aX _ K.o7<|by rw[K.uB];simp|dict E O G T=>show lP O λS U H F w I _=> ?_;show E▸aX S F (by rw[I];simp)
section
variable{I:World}{K:Heap}{E:aG}{J:ag}{G H:Shared}
def br.J2(Z:br I K E J G.heap){S:aM}(w:J[a]?=some S):∃X,E[a]?=some X/\jH I E G.heap X S:=by obtain L:a<E.length:=Z.aZ▸(eD.mp w).1;show aX (E[a]) (tZ L)<|Z.cI a _ S (tZ L) w
def br.at(Z:br I K E J G.heap){S:aM}(w:J[a]?=some S)(V:aE E G.heap (.ref a) d):∃X,d=.ref X.1/\E[a]?=some X/\jH I E G.heap X S:=by show aB (Z.J2 w) λX F Q=> ?_;obtain⟨Y,g,R⟩:=V.gb;obtain rfl:=bO<|F.symm.trans R;show cO X g F Q
inductive QD(E:aG)(w:Heap)(J:Nat)(F:List aa)(K:Value):Prop|mk (X:Addr×Addr) (M:Array Value) (O:Nat) (g:K=.ref X.1) (H:E[J]?=some X) (W:X.2=X.1) (G:IsL w X.1 M O) (I:bh E w F M.toList)
inductive QE(I:World)(E:aG)(w:Heap)(J:Nat)(M:List<|Str×aa)(L:Value):Prop|mk (X:Addr×Addr) (g:List<|Str×Value) (F:L=.ref X.1) (H:E[J]?=some X) (W:X.2=X.1) (G:w.DictOf (strKind (default:Program) I) X.1 g) (K:M.map (·.1)=g.map (·.1)) (N:bh E w (M.map (·.2))<|g.map (·.2))
def br.list(Z:br I K E J G.heap){F:List aa}(w:J[a]?=some (.list F))(V:aE E G.heap (.ref a) d):QD E G.heap a F d:=by show cC (Z.at w V) λX g H Q=> ?_;obtain⟨_,_,R,L,T⟩:=Q.gb;show⟨X,_,_,g,H,R,L,T⟩
def br.dict(Z:br I K E J G.heap){M:List<|Str×aa}(w:J[a]?=some (.dict M))(V:aE E G.heap (.ref a) d):QE I E G.heap a M d:=by show cC (Z.at w V) λX F H Q=> ?_;obtain⟨_,R,O,g,T⟩:=Q.gb;show⟨X,_,F,H,R,O,g,T⟩
def br.bt(Z:br I K E J G.heap){Q:List<|Nat×aa}(w:J[a]?=some (.bt u Q))(V:aE E G.heap (.ref a) d):∃X S Y U O,d=.ref X.1/\E[a]?=some X/\Fc E G.heap X u Q S Y U O:=by show cC (Z.at w V) λX g F L=> ?_;obtain⟨_,_,_,_,H⟩:=L.gb;show⟨X,_,_,_,_,g,F,H⟩
def br.aF(Z:br I K E J G.heap)(T:cN G H):br I K E J H.heap where
cP:=λF S w=>T.aF F S<|Z.cP F S w;aZ:=Z.aZ;cI:=λM O S U P=>by have L:=Z.cI M O S U P;show aB L.wm λN g _=> ?_;show aB L.Bg λV R _=> ?_;show L.iL (λQ=>pb Z (H:=λ_=>False) ⟨λ_ Y=>Y.elim⟩ (T.bK E (λ_=>False) n7) Q) ((T.aF _ _ g).trans g.symm)<|(T.aF _ _ R).trans R.symm
j4:=Z.j4;qb:=Z.qb
def Bh{M:Addr->Prop}(I:v∈E)(J:Heap.SameBut v.2 G.heap H.heap)(K:(H.heap.get? v.2).isSome=true)(O:H.gens=G.gens)(Y:H.drawn=G.drawn)(S:H.os=G.os):bp E E o M G H where
fc:=aX ([]) (by simp) (by simp);aF:=λF Q w N _=>by have:F≠v.2:=λg=>N<|aX v I g.symm;have g:=(J.2 F this).trans w;show⟨⟨Q.slots,g⟩,λ_=>g⟩
ir:=λF w=>by
 by_cases g:F=v.2;·show g▸K
 ·rw[J.2 F g];show w
iJ:=O;iX:=Y;iK:=S
def br.Fe(Z:br I K E J G.heap){S:aM}(l:E[a]?=some v)(e:Heap.SameBut v.2 G.heap H.heap) (O:H.gens=G.gens)(Y:H.drawn=G.drawn)(q:H.os=G.os)(V:(∀{Q:aa}{i:Value},aE E G.heap Q i->aE E H.heap Q i)->jH I E H.heap v S)(m:(H.heap.get? v.2).isSome=true)(k:a<J.length):br I K E (J.set a S) H.heap:=by
 have u:v∈E:=jC l;have W:∀{Q:aa}{i:Value},aE E G.heap Q i->aE E H.heap Q i:=λQ=>pb Z (H:=λ_=>False) ⟨λ_ b=>b.elim⟩ (Bh u e m O Y q:bp E E (λ_=>False) n7 G H) Q;show⟨λU t w=> ?_,by rw[List.length_set];show Z.aZ,λh b T p f=> ?_,Z.j4,Z.qb⟩
 ·have:U≠v.2:=λM=>by rw[M,Z.qb v u]at w;show bQ w
  show(e.2 U this).trans<|Z.cP U t w
 ·by_cases M:h=a;·subst M;rw[l]at p;obtain rfl:=bO p;rw[List.getElem?_set_self k]at f;obtain rfl:=bO f;show V W
  ·rw[List.getElem?_set_ne<|Ne.symm M]at f;obtain L:=Z.cI h b T p f;have d:b.2≠v.2:=λP=>by
    obtain j:=Z.j4;unfold List.Nodup at j;rw[List.pairwise_iff_getElem]at j;rcases Nat.lt_or_gt_of_ne M with F|F;·show j h a (by simpa using(eD.mp p).1) (by simpa using(eD.mp l).1) F<|by simp only[List.getElem_map,List.getElem_map,(List.getElem?_eq_some_iff.mp p).2,(List.getElem?_eq_some_iff.mp l).2,P]
    ·show j a h (by simpa using(eD.mp l).1) (by simpa using(eD.mp p).1) F<|by simp only[List.getElem_map,List.getElem_map,(List.getElem?_eq_some_iff.mp p).2,(List.getElem?_eq_some_iff.mp l).2,P]
   have c:b.1≠v.2:=λP=>by
    show aB L.wm λs g N=> ?_;rcases N with N|N;·show d<|N.trans P
    ·show aB (qW Z<|aX v u rfl) λr R o=> ?_;rw[P,R]at g;obtain rfl:=bO g;rcases o with⟨_,_,n,_⟩|⟨_,_,n,_⟩<;>(rw[N]at n;contradiction)
   show L.iL W (e.2 _ c)<|e.2 _ d
def br.cV(Z:br I K E J G.heap){S:aM}(T:cN G H)(e:G.heap.get? v.2=none) (V:(∀{Q:aa}{F:Value},aE E G.heap Q F->aE (E++[v]) H.heap Q F)->jH I (E++[v]) H.heap v S):br I K (E++[v]) (J++[S]) H.heap/\∀f M:Addr->Prop,bp E (E++[v]) f M G H:=by
 have h:∀f M:Addr->Prop,bp E (E++[v]) f M G H:=λf M=>⟨aX ([v]) rfl λY i=>by rw[List.mem_singleton.mp i];show e,(T.bK E f M).aF,(T.bK E f M).ir,T.iJ,T.iX,T.iK⟩;have W:∀{Q:aa}{F:Value},aE E G.heap Q F->aE (E++[v]) H.heap Q F:=λQ=>pb Z (H:=λ_=>False) ⟨λ_ Y=>Y.elim⟩ (h _ n7) Q;show⟨⟨λa k w=>T.aF a k<|Z.cP a k w,by simp[Z.aZ],λd Y m i c=> ?_, ?_,λY i=> ?_⟩,h⟩
 ·by_cases P:d<E.length;·rw[List.getElem?_append_left P]at i;rw[List.getElem?_append_left<|Z.aZ▸P]at c;have L:=Z.cI d Y m i c;show aB L.wm λN g _=> ?_;show aB L.Bg λj R _=> ?_;show L.iL W ((T.aF _ _ g).trans g.symm)<|(T.aF _ _ R).trans R.symm
  ·obtain U:d=E.length:=by have:=(eD.mp i).1;simp at this;show i7 (i9 this)<|sq P
   subst U;rw[List.getElem?_append_right aH]at i;rw[Z.aZ,List.getElem?_append_right aH]at c;simp at i c;subst i;subst c;show V W
 ·rw[List.map_append,List.nodup_append];show⟨Z.j4,by simp,λa l b O=> ?_⟩;simp at O;subst O;intro P;subst P;show aB (nU.mp l) λY i P=> ?_;show aB (qW Z<|aX Y i rfl) λS c _=> ?_;rw[P,e]at c;show bQ c
 ·rcases oP.mp i with i|i;·show Z.qb Y i
  ·rw[List.mem_singleton.mp i];rcases P:K.get? v.2with _|S;·rfl
   ·have:=Z.cP _ _ P;rw[e]at this;show bQ this
end
def cJ(g:aG)(K:Shared)(Q:aa)(F:Value)(G:Shared):Prop:=cN K G/\aE g G.heap Q F
section
variable{H:Program}{K:World}{J:Around}{I:Value->Shared->Prop}{G:aG}{E:Shared}
def kq{Q:aa}(w:aE G E.heap Q d):cJ G E Q d {E with toks:=a}:=⟨cN.lR E a,w⟩
def eU{Q:aa}(w:aE G E.heap Q d):cJ G E Q d E:=⟨cN.n8 E,w⟩
def sO(w:a<=ng):a<=sizeLine:=by unfold ng at w;unfold sizeLine;show aq w aR
def QF{g:Str}{U N:Tok}{Q:aa}(w:Jg j g=some Q):wpAny (model H K) J (binaryOp .Add (.str j U)<|.str g N) (cJ G E Q) I E:=by
 show eZ (je w) λL T=> ?_;clear w;subst T;show PySem.P.add_str ?_;by_cases M:(j.length==0)=true;·rw[if_pos M,PySem.Str.append_left_empty M];show eU<|.str _ _
 ·rw[if_neg M];by_cases F:(g.length==0)=true;·rw[if_pos F,PySem.Str.append_right_empty F];show eU<|.str _ _
  ·rw[if_neg F];show⟨sO<|by rw[PySem.strLen_append];show oW.mp L,kq<|.str _ _⟩
theorem Bi{H:Int}:pQ H=true↔H.natAbs<2^62:=by show decide_eq_true_iff
noncomputable def qc:fg->Operator|.cV=>.Add|.cg=>.Sub|.oU=>.Mult|.m9=>.Mod|.qK=>.FloorDiv|.vU=>.LShift|.vV=>.Pow
theorem QG{P:fg}{F L:Int}{U O:Tok}{Q:aa}(w:AI P F L=some Q):wpAny (model H K) J (binaryOp (qc P) (.int F U)<|.int L O) (cJ G E Q) I E:=by induction P using fg.casesOn with|cV=>obtain rfl:=bO w;show PySem.P.add_int<|kq<|.int _ _|cg=>obtain rfl:=bO w;show PySem.P.sub_int<|kq<|.int _ _|oU=>obtain⟨N,g⟩:=je w;subst g;rw[Bool.and_eq_true,Bi,Bi]at N;show PySem.P.mul_int (kq<|.int _ _)<|PySem.IntMulOk.of_left<|PySem.intBits_le_64 (by omega)<|by omega|m9=>obtain⟨N,g⟩:=je w;obtain N:=DX N;subst g;show PyProof.Rows.mod_int (Int.ne_of_gt N) ?_;rw[Int.fmod_eq_emod_of_nonneg _<|Int.le_of_lt N];show kq<|.int _ _|qK=>obtain⟨N,g⟩:=je w;subst g;rw[Bool.and_eq_true,decide_eq_true_eq,decide_eq_true_eq]at N;show PyProof.Rows.floordiv_int (Int.ne_of_gt N.1) ?_<|Or.inl<|PyProof.noPylong_small (by omega);rw[Int.fdiv_eq_ediv_of_nonneg _<|Int.le_of_lt N.1];show kq<|.int _ _|vU=>obtain⟨N,g⟩:=je w;subst g;rw[Bool.and_eq_true,Bool.and_eq_true,decide_eq_true_eq,decide_eq_true_eq,beq_iff_eq]at N;obtain⟨⟨rfl,W⟩,M⟩:=N;show PyProof.Rows.lshift_int_small W (by lia) (by decide) ?_;rw[Int.one_mul];show kq<|.int _ _|vV=>obtain⟨N,g⟩:=je w;clear w;subst g;rw[Bool.and_eq_true,beq_iff_eq,beq_iff_eq]at N;obtain⟨rfl,rfl⟩:=N;show PyProof.Rows.pow_int_small (by decide) (by decide) (by decide)<|kq<|.int _ _
theorem QH{P:fg}{F M:Int}{U O:Tok}{Q:aa}(L:AJ P=true)(w:AI P F M=some Q):wpAny (model H K) J (inplaceOp (qc P) (.int F U)<|.int M O) (cJ G E Q) I E:=by induction P using fg.casesOn with|cV=>obtain rfl:=bO w;show PySem.P.iadd_int<|kq<|.int _ _|cg=>obtain rfl:=bO w;show PySem.P.isub_int<|kq<|.int _ _|qK=>obtain⟨N,g⟩:=je w;clear w;subst g;simp only[Bool.and_eq_true,decide_eq_true_eq,decide_eq_true_eq]at N;show PyProof.Rows.ifloordiv_int (Int.ne_of_gt N.1) ?_<|Or.inl<|PyProof.noPylong_small (by omega);rw[Int.fdiv_eq_ediv_of_nonneg _<|Int.le_of_lt N.1];show kq<|.int _ _|_=>show Bool.noConfusion L
end
section
variable{J:Program}{I:World}{H:Around}{K:Value->Shared->Prop}{G:aG}{E:Shared}
noncomputable def nB:fF->CmpOp|.aA=>.Eq|.dS=>.Lt|.gm=>.LtE|.fQ=>.Gt|.jD=>.In|.sz=>.NotIn
def J3(H I:Str):(H.cps.toList==I.cps.toList)=(H==I):=by
 rw[<-Str.beq_eq_lists];rcases w:H.cps.toList==I.cps.toList with _|_;·simp
 ·have:H.cps.toList=I.cps.toList:=by simpa using w
  simp[<-Array.length_toList,this]
theorem J4{Q:aa}(w:aE G E.heap Q d):(d==Value.none)=iH Q:=by induction w using aE.casesOn<;>rfl
def J5{Q:aa}(w:aE G E.heap Q d):wpAny (model J I) H (compareOp .Is d .none) (cJ G E<|.bool<|iH Q) K E:=by show PyProof.Rows.is_none_gen ?_;rw[J4 w];show eU<|.bool _
def J6{Q:aa}(w:aE G E.heap Q d):wpAny (model J I) H (compareOp .IsNot d .none) (cJ G E<|.bool<|!iH Q) K E:=by show PyProof.Rows.isnot_none_gen ?_;rw[J4 w];show eU<|.bool _
theorem bh.lS{Q:aa}{F:List aa}(g:bh G h (Q::F) l):∃w L,l=w::L/\aE G h Q w/\bh G h F L:=g.gb
theorem bh.qX(g:bh G h [] l):l=[]:=g.gb
def bh.jI{F:List aa}:∀{O:List Value},bh G h F O->F.length=O.length:=by induction F with|nil=>intro O g;rw[g.qX];rfl|cons Q F S=>intro O g;show gZ g.lS ?_;clear g;rintro w L rfl H U;show congrArg (·+1)<|S U
def bh.gW{F:List aa}:∀{O:List Value},bh G h F O->∀{J:Nat}{Q:aa},F[J]?=some Q->∃w,O[J]?=some w/\aE G h Q w:=by induction F with|nil=>intro O g J Q E;show bQ E|cons I F S=>
intro O g J Q E;show gZ g.lS ?_;clear g;rintro w L rfl H U;rcases J with _|J;·show aX w rfl<|jZ E▸H
·show S U E
theorem aE.hJ(g:aE G h (.str j) d):∃U,d=.str j U:=g.gb
noncomputable def uD(N:Str)(Q:Value):Bool:=if w:Q.ctorIdx=6then Value.str.elim (motive:=λ_=>Bool) Q w λG _=>G==N else false
theorem QI{G:Str}{U:Tok}:uD j (.str G U)=(G==j):=rfl
def J7{U:Tok}{F:List aa}:∀{T:List Value}{I:Bool},bh G h F T->jo j F=some I->(∀M∈T,∀H,SeqAt.EqAt H E M (.str j U)<|uD j M)/\T.any (uD j)=I:=by induction F with|nil=>intro T I w g;show w.qX▸⟨λ_ h=>(t5 h).elim,jZ g⟩|cons Q F N=>
intro T I O g;show gZ O.lS ?_;clear O;rintro P L rfl J L;show aB (pY g) ?_;rintro w rfl g;obtain⟨V,rfl⟩:=J.hJ;show aB ((by
 intro _ _ S h;rcases S with _|Y;·show bQ h
 ·obtain rfl:=bO h;show aX Y rfl rfl:∀{I U S}(h:yg I S=some U),∃Y,S=some Y/\U=(I||Y)) g) ?_;clear g;clear g;rintro Y R rfl;obtain⟨K,W⟩:=N L R;show⟨λM X=> ?_, ?_⟩
·rcases gA.mp X with rfl|X;·show λH=>PE w V j U
 ·show K M X
·simp only[List.any_cons,W,sC,QI,Bool.beq_comm]
theorem J8(M:Array Value)(W:Value->Bool):M.any W=M.toList.any W:=by simp
def QJ(F M:Addr)(G U:Value)(a f:List Value)(O g:Nat)(b e:Option Addr)(V d:Array<|Option Value):PySem.Meets (Builtin.«tuple.__eq__» ⟨[.ref F,.ref M],[]⟩) λH Z E=>E.heap.get? F=some {cls:=.type "tuple",dict:=b,data:=.seq (G::a).toArray O,slots:=V}/\E.heap.get? M=some {cls:=.type "tuple",dict:=e,data:=.seq (U::f).toArray g,slots:=d}/\SeqAt.EqAt H.in1 E G U false/\Z (.ok<|.ret<|.bool false) E:=.of_wp λJ I H Z E w=>by obtain⟨R,P,Y,W,T⟩:=E;show pU w λN Q L w=> ?_;obtain c:=AutoSeq1.sub_tuple_tuple;obtain X:∀(K:Value->Shared->Prop)(S:Bool->Shared->Prop),S false ⟨R,P,Y,W,T⟩->wpAny (model J I) H.in1 (eqBool G U) S K ⟨R,P,Y,W,T⟩:=L J I;wp_walk using AutoSeq1.wpAny_loadPart' N,AutoSeq1.wpAny_loadPart' Q,X;show aX _ rfl w
def QK{N:Addr}{P:Str}{U d:Tok}{Y:Array Value}{F:List Value}(h:H.units<cLine)(W:IsTup E.heap k y)(Q:IsTup E.heap N Y)(g:y.toList=.str j U::l)(R:Y.toList=.str P d::F)(V:(j==P)=false) (w:b (.bool false) E):wpAny (model J I) H (compareOp .Eq (.ref k)<|.ref N) b K E:=by
 show eA λT c=> ?_;obtain⟨⟨o,Z,q,e⟩,L,a,O,X⟩:=W;obtain⟨⟨p,n,r,m⟩,i,G,f,s⟩:=Q;show c ?_;simp only at a X G s;subst a X G s;have M:y=(Value.str j U::l).toArray:=by rw[<-g]
 have S:Y=(Value.str P d::F).toArray:=by rw[<-R]
 clear R;clear g;subst M S;show richCompare_meets_room (op:=.Eq) (aX _ L rfl) (aX _ i rfl) PySem.F.slot_tuple_eq PySem.F.entry_tuple_eq (PySem.F.args_tuple_eq_2 _ _) (QJ k N _ _ l F O f Z n e m) (kO L i (by first|show by show V▸PE j U P d|show SeqAt.EqAt.of_in1<|by show V▸SeqAt.EqAt.str_str j U P d) ⟨(λj=>nomatch j),w⟩) h
def QL{L:List aa}{I:Bool}(w:yf true L j=some I):∃g,L=[.str g]/\some (eY g j)=some I:=by
 rcases L with-|⟨g,-|⟨_,_⟩⟩;·show bQ w
 ·show aB (pY w) λg E w=> ?_;show aX g (by rw[E]) w
 ·show bQ w
theorem QM{F W:List aa}{n:Addr}{l:Array Value}{P:Bool}(XQ:H.units+1<cLine)(c:IsTup E.heap k y)(T:bh G E.heap F y.toList)(t:IsTup E.heap n l)(X:bh G E.heap W l.toList)(w:AK F W=some P):wpAny (model J I) H (compareOp .Eq (.ref k)<|.ref n) (cJ G E<|.bool P) K E:=by
 show AZ ((by
  intro F W _ w;rcases F with-|⟨O,L⟩;·show bQ w
  ·rcases W with-|⟨U,-|⟨Y,-|⟨_,_⟩⟩⟩;·show bQ w
   ·show bQ w
   ·show aB (pY w) λO M w=> ?_;show aB (pY w) λU R w=> ?_;show aB (pY w) λY S w=> ?_;show A3 O L U Y (by rw[M]) (by rw[R,S]) w
   ·show bQ w:∀{F W P}(w:AK F W=some P),∃O L U Y,F=.str O::L/\W=[.str U,.str Y]/\yf (eY O U) L Y=some P) w) ?_;rintro O L U Y rfl rfl w;show gZ T.lS λXR XS g V b=> ?_;show gZ X.lS λXT XU R f x=> ?_;show gZ x.lS λXW XX S Z v=> ?_;obtain j:=v.qX;obtain⟨r,Q⟩:=V.hJ;obtain⟨q,h⟩:=f.hJ;obtain⟨u,i⟩:=Z.hJ;clear Z;clear T;clear X;clear f;clear x;clear V;subst j S Q h i;have N:yf (eY O U) L Y=some P:=w;clear w;clear w;rcases C:eY O U with _|_;·rw[C]at N;obtain rfl:=bO N;show QK (by lia) c t g R (by rw[<-sC];show C)<|eU<|.bool _
 ·replace N:=C▸N;obtain M:=AH.mp C;subst M;show aB (QL N) ?_;rintro d rfl N;obtain rfl:=bO N;show gZ b.lS λXY XZ o B z=> ?_;have p:=z.qX;obtain⟨D,m⟩:=B.hJ;clear B;clear b;subst p o m;have XN:y.size=2:=by rw[<-Array.length_toList,g];rfl
  obtain XO:l.size=2:=by show IT.symm.trans ?_;rw[R];rfl
  rw[sC];show SeqAt.eq_tupleAt (e:=λa=>if a=0then true else d==Y) c t (by lia) (λa X0 X2=> ?_) ?_
  ·rw[(Array.getElem_toList _).symm,(Array.getElem_toList _).symm];simp only[g,R];have:a=0\/a=1:=by lia
   rcases this with rfl|rfl;·have:=SeqAt.EqAt.str_str (A:=H.in1) (s:=E) O r O q;simp only[beq_self_eq_true]at this;show this
   ·show PE d D Y u
  ·rw[XN,XO];have:((List.range<|min 2 2).all (λa=>if a=0then true else d==Y)&&2==2)=(d==Y):=by change(true&&(d==Y&&true)&&true)=_;rw[Bool.and_true,Bool.and_true,Bool.true_and]
   rw[this];show eU<|.bool _
theorem aE.lT{F:List aa}(g:aE G h (.tup F) d):JZ G h F d:=g.gb
theorem aE.hR{N:Int}(g:aE G h (.int N) d):∃U,d=.int N U:=g.gb
end
section
variable{K:Program}{H:World}{M:Heap}{I:Around}{L:Value->Shared->Prop}{G:aG}{J:ag}{E:Shared}
def aE.aF(Z:br H M G J E.heap)(T:cN E f){Q:aa}(w:aE G E.heap Q d):aE G f.heap Q d:=pb Z (H:=λ_=>False) ⟨λ_ Y=>Y.elim⟩ (T.bK G (λ_=>False) n7) w
def J9{R h:aa}{o:Value}{b:Bool}(Z:br H M G J E.heap)(V:aE G E.heap R d)(Y:aE G E.heap h o)(w:AL R h J=some b):wpAny (model K H) I (compareOp .In d o) (cJ G E<|.bool b) L E/\wpAny (model K H) I (compareOp .NotIn d o) (cJ G E<|.bool<|!b) L E:=by
 show aB ((by
  intro _ h b w;show aB (pY w) λN P w=> ?_;show aX N P ?_;rcases h with-|b|c|i|F|F|c|Q<;>first|show .inl ⟨_,rfl,w⟩|show .inr<|.inl ⟨_,rfl,w⟩|show cq w|skip
  obtain w:D7 J[c]? N=some b:=w;generalize P:J[c]?=S at w;rcases S with-|(F|_|_)<;>first|show .inr<|.inr ⟨_,_,rfl,P,w⟩|show cq w:∀{R h b}(w:AL R h J=some b),∃N,R=.str N/\((∃F,h=.tup F/\jo N F=some b)\/(∃i,h=.str i/\qP N i=some b)\/∃c F,h=.ref c/\J[c]?=some (.list F)/\jo N F=some b)) w) λN P w=> ?_;rw[P]at V;obtain⟨U,P⟩:=V.hJ;subst P;clear P V;rcases w with⟨F,P,w⟩|⟨i,P,w⟩|⟨c,F,P,j,w⟩;·replace Y:=P▸Y;obtain⟨a,e,P,m,T⟩:=Y.lT;show eZ (J7 (E:=E) (U:=U) T w) λf W=> ?_;rw[P,<-W,<-J8];show⟨SeqAt.in_tupleAt (uD N) m (λh Y=>f h (Au.mpr Y) _)<|eU<|.bool _,SeqAt.notIn_tupleAt (uD N) m (λh Y=>f h (Au.mpr Y) _)<|eU<|.bool _⟩
 ·rw[P]at Y;obtain⟨n,P⟩:=Y.hJ;subst P;unfold qP at w;generalize l:N.cps.toList=F at w;rcases F with-|⟨e,-|⟨_,_⟩⟩;·show bQ w
  ·have g:N=⟨#[e]⟩:=by induction N with|mk p=>rw[show p=#[e]from by rw[<-Array.toArray_toList (xs:=p),l]]
   obtain P:(!(Builtin.Str.occurrences i N 0 i.length 1).isEmpty)=b:=by rw[g,StrLaws.found_one,<-Option.some.inj w];simp
   show⟨PySem.P.in_str<|P▸eU (.bool _),PySem.P.notIn_str<|P▸eU (.bool _)⟩
  ·show bQ w
 ·rw[P]at Y;obtain⟨X,e,O,P,_,_,k,T⟩:=Z.list j Y;show eZ (J7 (E:=E) (U:=U) T w) λf W=> ?_;rw[P,<-W,<-J8];show⟨SeqAt.in_listAt (uD N) k.isList (λh Y=>f h (Au.mpr Y) _)<|eU<|.bool _,SeqAt.notIn_listAt (uD N) k.isList (λh Y=>f h (Au.mpr Y) _)<|eU<|.bool _⟩
def Ka{F O:aa}{X:Value}{N:Bool}(V:aE G E.heap F d)(Y:aE G E.heap O X)(w:(lp F λM=>lp O λN=>some<|decide<|M<N)=some N):wpAny (model K H) I (compareOp .Lt d X) (cJ G E<|.bool N) L E/\wpAny (model K H) I (compareOp .Gt X d) (cJ G E<|.bool N) L E:=by show aB (nA w) λJ g w=> ?_;show aB (nA w) λP R w=> ?_;rw[g]at V;rw[R]at Y;obtain⟨U,g⟩:=V.hR;obtain⟨Q,R⟩:=Y.hR;rw[g,R,<-Option.some.inj w];show⟨PySem.P.lt_int<|eU<|.bool _,PySem.P.gt_int<|eU<|.bool _⟩
def wo{k:fF}{P c:aa}{X:Value}{W:Bool}(n:I.units+1<cLine)(Z:br H M G J E.heap)(V:aE G E.heap P d)(j:aE G E.heap c X)(w:dK k P c J=some W):wpAny (model K H) I (compareOp (nB k) d X) (cJ G E<|.bool W) L E:=by induction k using fF.casesOn with
|aA=>show(by intro P c d X W n V j w;cases P with|str Q=>obtain⟨b,O,w⟩:=pY w;subst O;obtain⟨U,g⟩:=V.hJ;obtain⟨i,R⟩:=j.hJ;rw[g,R,<-Option.some.inj w];show PySem.P.eq_str ?_;rw[J3,<-sC];show eU<|.bool _|int Q=>obtain⟨b,O,w⟩:=nA w;subst O;obtain⟨U,g⟩:=V.hR;obtain⟨i,R⟩:=j.hR;rw[g,R,<-Option.some.inj w];show PySem.P.eq_int<|eU<|.bool _|bool Q=>obtain⟨b,O,w⟩:=Qu w;subst O;rw[<-Option.some.inj w,show d=_ from V.gb,show X=_ from j.gb];show PyProof.Rows.eq_bool<|eU<|.bool _|fq Q=>obtain⟨b,O,w⟩:=Qv w;obtain⟨M,S⟩:=je w;rw[O,<-aa.PY M]at j;rw[<-S];clear O w M S;obtain⟨U,O⟩:=V.gb;obtain⟨i,R⟩:=j.gb;rw[O,R];show PySem.P.eq_str ?_;rw[J3,beq_self_eq_true];show eU<|.bool _|tup F=>
obtain⟨Q,b,O,h,T⟩:=V.lT;rw[O];rcases(by intro _ c _ w;rcases c with⟨⟩<;>first|show .inl ⟨_,rfl,(jZ w).symm⟩|show .inr<|aX _ rfl w|show cq w:∀{F c W}(w:Jh F c=some W),(∃b,c=.str b/\W=false)\/∃e,c=.tup e/\AK F e=some W) w with⟨Y,g,R⟩|⟨e,g,w⟩;·rw[g]at j;obtain⟨i,S⟩:=j.hJ;rw[R,S];show cmp_ofEq<|SeqAt.RcAt.tuple_str _ _ h (Nat.lt_of_succ_lt n) K H L _<|eU<|.bool _
·rw[g]at j;obtain⟨m,l,S,p,o⟩:=j.lT;rw[S];show QM n h T p o w|_=>show cq w:∀{P c d X W}(n:I.units+1<cLine)(V:aE G E.heap P d)(j:aE G E.heap c X)(w:Ji P c=some W),wpAny (model K H) I (compareOp .Eq d X) (cJ G E<|.bool W) L E) n V j w
|jD=>show(J9 Z V j w).1|sz=>show aB (kI.mp w) λ_ w O=> ?_;show O▸(J9 Z V j w).2|dS=>show(Ka V j w).1|fQ=>show(Ka j V ?_).2;show aB (nA w) λa O w=> ?_;show aB (nA w) λf R w=> ?_;rw[O,R];show w|gm=>show(by
intro P _ _ _ _ V j w;rcases P with-|_|a|N|_|_|_|_<;>first|(show cq w;done)|skip
·obtain⟨f,O,w⟩:=nA w;rw[O]at j;obtain⟨U,O⟩:=V.hR;obtain⟨i,R⟩:=j.hR;rw[O,R,<-Option.some.inj w];show PySem.P.le_int<|eU<|.bool _
·obtain⟨f,O,w⟩:=pY w;rw[O]at j;obtain⟨U,O⟩:=V.hJ;obtain⟨i,R⟩:=j.hJ;rw[O,R,<-Option.some.inj w];show PySem.P.le_str (eU<|.bool _):∀{P c d X W}(V:aE G E.heap P d)(j:aE G E.heap c X)(w:dK .gm P c J=some W),wpAny (model K H) I (compareOp .LtE d X) (cJ G E<|.bool W) L E) V j w
def bh.dj{F g:List aa}{Q:List Value}(H:bh G h F l)(I:bh G h g Q):bh G h (F++g)<|l++Q:=H.wk (P:=λF l=>bh G h (F++g)<|l++Q) I λH _ N=>.cons H N
def QN{F N:List aa}{X:Addr}{Y:Array Value}(h:IsTup E.heap k y)(d:bh G E.heap F y.toList)(V:IsTup E.heap X Y)(l:bh G E.heap N Y.toList)(w:F.length+N.length<=ng) (r:∀{Q:aa}{e:Value}{f:Shared},cN E f->aE G E.heap Q e->aE G f.heap Q e):wpAny (model K H) I (binaryOp .Add (.ref k)<|.ref X) (cJ G E<|.tup<|F++N) L E:=by
 obtain⟨⟨M,n,U,m⟩,c,j,O,i⟩:=id h;obtain⟨⟨s,J,t,q⟩,p,o,g,u⟩:=id V;simp only at j i o u;subst j i o u;by_cases b:y.isEmpty=true
 ·have:F=[]:=by
   have:y.toList=[]:=by simpa using b
   replace d:=this▸d;cases d;rfl
  subst this;show concat_meets (aX _ c rfl) (aX _ p rfl) noFill_tuple_add seq_tuple_add PF PG (PH _ _) (tuple_addW0 k X y Y O g n J m q b)<|fS c p<|eU<|.tup V l
 ·by_cases W:Y.isEmpty=true
  ·have:N=[]:=by
    have:Y.toList=[]:=by simpa using W
    simp only[this]at l;cases l;rfl
   subst this;rw[List.append_nil];show concat_meets (aX _ c rfl) (aX _ p rfl) noFill_tuple_add seq_tuple_add PF PG (PH _ _) (tuple_addW1 k X y Y O g n J m q b W) ⟨c,p,eU<|.tup h d⟩
  ·have Z:y.size+Y.size<=sizeLine:=by rw[<-Array.length_toList,<-Array.length_toList,<-d.jI,<-l.jI];show sO w
   have T:cN E {E with heap:=E.heap.push {cls:=.type "tuple",data:=.seq<|y++Y}}:=⟨λR S P=>ki _ P,rfl,rfl,rfl⟩;show concat_meets (aX _ c rfl) (aX _ p rfl) noFill_tuple_add seq_tuple_add PF PG (PH _ _) (tuple_addW2 k X y Y O g n J m q b W Z)<|fS c p ?_;show⟨T,.tup (H:=E.heap.objs.size) (G:=y++Y) ⟨_,my _ rfl,rfl,0,rfl⟩ ?_⟩;rw[Array.toList_append];show(d.iL<|r T).dj<|l.iL<|r T
def Kb{J:fg}{F O:aa}{X:Value}{Q:aa}(V:aE G E.heap F d)(Y:aE G E.heap O X)(w:lK J F O=some Q):wpAny (model K H) I (inplaceOp (qc J) d X) (cJ G E Q) L E:=by
 have P:AJ J=true:=by
  rcases g:AJ J with _|_;·unfold lK at w;rw[g]at w;show bQ w
  ·rfl
 unfold lK at w;rw[P]at w;show aB (nA w) λM g w=> ?_;show aB (nA w) λN R w=> ?_;rw[g]at V;rw[R]at Y;obtain⟨U,g⟩:=V.hR;obtain⟨S,R⟩:=Y.hR;rw[g,R];show QH P w
end
section
open Builtin Builtin.ObjectAttr
section
variable{G:Model}{I:Around}{H:Value->Shared->Prop}{E:Shared}
def Kc{F:Array DictEntry}(g:StrKeys F):F.any (·.refKey)=false:=by show Array.any_eq_false'.mpr ?_;intro E L;show pV (g E L) λO U w=> ?_;simp[DictEntry.refKey,w]
def Kd{S:Obj}{U:Array DictEntry}(L:E.heap.get? k=some S)(O:S.data=.dict U a)(g:StrKeys U) (w:t () {E with heap:=E.heap.update k<|Obj.putName j (PyData.keyHash G.w.params j) (.str j E.toks) d,toks:=E.toks+1}):wpAny G I (nsSet k j d) t H E:=by show b0<|b0<|wpAny_askSetting<|eM<|b0<|wpAny_mkText<|b0<|wpAny_loadPart L ?_;rw[O];dsimp only;rw[aRefKeyMayBeTheName_at,Kc g,Bool.and_false];show wpAny_updatePart L w
def Ff{H:Int}{Q:Value}{M:Value}{Y:Option Addr}{I:Array DictEntry}{P:Array<|Option Value}(O:∃U,Q=.str j U)(g:StrKeys I):∃N K,Obj.putName j H Q d ⟨M,Y,.dict I a,P⟩=⟨M,Y,.dict N K,P⟩/\StrKeys N/\N.size<=I.size+1/\(∀G,nsFind N G=if G=j then some d else nsFind I G)/\((nsFind I j).isSome=true->N.size=I.size):=by
 show lM O ?_;clear O;rintro U rfl;rw[Obj.putName_eq];unfold Obj.putNameByArray;rcases S:I.findIdx? (·.key.isStr j)with _|J
 ·show yo _ _ (by simp only[S];rfl) (g.push _ _ _ _) (by simp) (λG=> ?_) λw=> ?_
  ·show findBy_push (λa d=>d.isStr a) I j G _ _ d (λF=>by
   change(j==F)=decide (F=j);by_cases w:F=j;·subst w;rfl
   ·have:¬j=F:=λE=>w E.symm;simp[w,this]) S
  ·exfalso;have:I.find? (λE=>E.key.isStr j)=none:=by rw[Array.find?_eq_none];rw[Array.findIdx?_eq_none_iff]at S;intro E L;simpa using S E L
   unfold nsFind findBy at w;rw[this]at w;show Bool.noConfusion w
 ·show yo _ _ (by simp only[S];rfl) (g.modify _ _) (by simp) (λG=> ?_) (λ_=>by simp);show findBy_modify (λa d=>d.isStr a) Value.isStr_inj I j G d J S
def Ke{U:Array DictEntry}{S:Obj}(O:S.data=.dict U a)(g:StrKeys U):lookIn j S=some (nsFind U j):=by
 unfold lookIn;rw[O];obtain E:nsFind U j=(U.toList.find? (·.key.isStr j)).map (·.val):=by show congrArg _ ae9.symm
 simp only[E];induction w:U.toList.find? (·.key.isStr j)with|some G=>rfl|none=>
 have:(U.toList.any λG=>G.refKey)=false:=by show Array.any_toList.trans<|Kc g
 simp only[this,Bool.false_eq_true,if_false,Option.map_none]
end
section
variable{S:Program}{M:World}{U:Around}{T:Value->Shared->Prop}{E:Shared}{J:Frag}{R K I:Addr}{O H:Obj}{G:Str}{L:Value}{N:Array DictEntry}{Q:Nat}
def QO(X:J.In E.heap)(m:W.InstAt E.heap R O K<|some H)(h:O.dict=some I)(B:E.heap.get? I=some H)(Y:findIn J (.ref K) "__setattr__"=some (some<|.builtin "object.__setattr__")) (b:plainOver J K=true)(k:takerIn J K G=some none)(i:hasDictIn J K=true)(y:H.data=.dict N Q)(g:StrKeys N)(Z:N.size<=1000) (w:t () {E with heap:=E.heap.update I<|Obj.putName G (PyData.keyHash M.params G) (.str G<|E.toks+1) L,toks:=E.toks+2}):wpAny (model S M) U (setAttr (.ref R) G L) t T E:=by
 show aB (any_some i) λz j x=> ?_;show set_plain X m Y<|osa_open (s:={E with toks:=E.toks+1}) X m b k λXN=> ?_;dsimp only;show eA λf l=> ?_;obtain⟨XO,XQ,XR,XS⟩:=O;obtain⟨V,A,e,-⟩:=m;clear e;subst A h;show l ?_;show eA λf l=> ?_;show sF (Ff (j:=G) (H:=PyData.keyHash M.params G) (Q:=.str G<|E.toks+1) (d:=L) (M:=H.cls) (Y:=H.dict) (a:=Q) (P:=H.slots) ⟨_,rfl⟩ g) λq o r XT D XU _=> ?_;obtain⟨F,p,XW,C⟩:=H;show l ?_;dsimp only at y r;subst y;have u:(E.heap.update I<|Obj.putName G (PyData.keyHash M.params G) (.str G<|E.toks+1) L).get? I=some ⟨F,p,.dict q o,C⟩:=by rw[<-r];show t6 _ B<|by rw[r];rfl
 show b0<|eM<|b0<|b0<|wpAny_loadPart V<|b0<|(looks_clsIn X j) _ _ _ _ (λ_ _ P=>P) ?_;simp only[x];show wpAny_pure (a:=some I)<|b0<|eM<|b0 ?_;show Kd (E:={E with toks:=E.toks+1}) B rfl g ?_;show b0<|wpAny_lookBehind u (pastItsLine_dict<|by show sizeLine_eq▸aq D (cB<|aq Z aR)) ?_;show eM w
end
end
def sP(N:Nat):Str:=(E9.map Str.ofString).getD N sL
noncomputable def QP:List Addr:=[23,30,37,51,58,65,72,79,90,97,104]
def afj(W:Nat):Addr:=QP.getD W 0
structure yG(T:Frag)(J:Nat->Addr):Prop where
Kf:∀M,gN M=true->findIn T (.ref<|dP M) "__getattribute__"=some (some<|.builtin "object.__getattribute__")
fQ:∀M,gN M=true->findIn T (.ref<|dP M) "__getattr__"=some none
QQ:∀M,gN M=true->findIn T (.ref<|dP M) "__setattr__"=some (some<|.builtin "object.__setattr__")
uE:∀M,gN M=true->plainOver T (dP M)=true
jG:∀M,gN M=true->hasDictIn T (dP M)=true
Kg:∀M W,gN M=true->W<19->findIn T (.ref<|dP M) (dm W)=some none
Kh:∀M,gN M=true->makesIn T (dP M)=true
h:∀M N W,aw.iV M N=some W->gN M=true/\findIn T (.ref<|dP M) (sP N)=some (some<|.ref<|J W)/\typeIn T (.ref<|J W)=some (.type "function")
QR:∀M W,aw.um M=some W->gN M=true/\findIn T (.ref<|dP M) "__init__"=some (some<|.ref<|J W)/\typeIn T (.ref<|J W)=some (.type "function")
QS:findIn T (.ref<|dP 2) "__init__"=some (some<|.builtin "object.__init__")
def QT(E:a<19)(X:u<19)(w:dm a=dm u):a=u:=by
 have:∀a<19,∀u<19,dm a=dm u->a=u:=by decide+kernel
 show this a E u X w
def Ki(E:a<19)(X:u<19):(dm u==dm a)=(u==a):=by rw[Bool.eq_iff_iff,beq_iff_eq,beq_iff_eq];show⟨QT X E,congrArg _⟩
def Kj(E:a<19):∀{Q:List<|Nat×aa},(∀Y∈Q,Y.1<19)->qa Q (dm a)=nh Q a:=by intro Q;induction Q with|nil=>intro _;show rfl|cons g L S=>obtain⟨O,R⟩:=g;intro w;change(bif dm O==dm a then some R else qa L<|dm a)=bif O==a then some R else nh L a;simp only[Ki E<|w _ List.mem_cons_self,S λY N=>w Y<|dI N]
section
variable{M:Program}{H:World}{I:Heap}{K:Frag}{L:Nat->Addr}{O:Around}{N:Value->Shared->Prop}{E:aG}{J:ag}{G:Shared}
theorem aE.QU{Q:aa}(G:aE E h Q d):handedIn d=true:=by induction G using aE.casesOn<;>rfl
def Fg(l:yG K L)(k:K.In I)(Z:br H I E J G.heap){F:Nat}{f:List<|Nat×aa}{Q:aa}{w:Bool}(h:a<19)(V:aE E G.heap (.ref F) d)(R:J[F]?=some (.bt u f))(T:nh f a=some Q):wpAny (model M H) O (getAttr d (dm a) w) (cJ E G Q) N G:=by show eA λc i=> ?_;obtain⟨X,S,Y,U,P,g,W,j⟩:=Z.bt R V;show aB (j.yD (dm a) Q<|by show(Kj h j.o8).trans T) λd b e=> ?_;show i ?_;show g▸get_value (k.keeps Z.cP) (ox:=S) (od:=some Y) ⟨j.qU,j.yC,by simp only[notCls,j.uA],by show j.jG▸j.o7⟩ (l.Kf u j.U) (findObj_own (l.jG u j.U) (l.Kg u a j.U h) rfl ?_) e.QU (kq e);rw[Ke j.uB j.Be,b]
inductive jJ(H:World)(I:Heap)(E:aG)(J:ag)(G:Shared)(Q:aa)(F:Value)(g:Shared):Prop|mk (T:_):br H I T J g.heap->(∀X M:Addr->Prop,bp E T X M G g)->aE T g.heap Q F->jJ H I E J G Q F g
inductive Bj(H:World)(I:Heap)(E:aG)(J:ag)(G:Shared)(g:Shared):Prop|mk (T:_):br H I T J g.heap->(∀X M:Addr->Prop,bp E T X M G g)->Bj H I E J G g
def cJ.Kk(Z:br H I E J G.heap){Q:aa}(w:cJ E G Q d f):jJ H I E J G Q d f:=⟨E,Z.aF w.1,λX M=>w.1.bK E X M,w.2⟩
def Kl{Q:aa}(H:a<19):∀{F:List<|Nat×aa},(∀Y∈F,Y.1<19)->∀G,qa (lq a Q F) G=if G=dm a then some Q else qa F G:=by
 intro F;induction F with|nil=>
 intro _ G;change(bif dm a==G then _ else _)=_;by_cases w:G=dm a;·rw[if_pos w,w,beq_self_eq_true];rfl
 ·rw[if_neg w,beq_eq_false_iff_ne.mpr<|Ne.symm w];rfl|cons g L S=>
 obtain⟨O,I⟩:=g;intro R G;change qa (bif O==a then(O,Q)::L else(O,I)::lq a Q L) G=_;rcases E:O==a with _|_
 ·change(bif dm O==G then some I else qa (lq a Q L) G)=if G=dm a then some Q else bif dm O==G then some I else qa L G;rw[S (λY N=>R Y<|dI N) G];rcases w:dm O==G with _|_;·rfl
  ·show(if_neg λY=>by rw[Y,Ki H<|R _ List.mem_cons_self,E]at w;show Bool.noConfusion w).symm
 ·obtain E:=Av.mp E;subst E;change(bif dm O==G then _ else _)=if G=dm O then some Q else bif dm O==G then _ else _;by_cases w:G=dm O;·rw[if_pos w,w,beq_self_eq_true];rfl
  ·rw[if_neg w,beq_eq_false_iff_ne.mpr<|Ne.symm w];rfl
def QV{Q:aa}(G:a<19):∀{F:List<|Nat×aa},(∀Y∈F,Y.1<19)->∀Y∈lq a Q F,Y.1<19:=by intro F;induction F with|nil=>intro _ Y w;rw[List.mem_singleton.mp w];show G|cons g L S=>
obtain⟨O,I⟩:=g;intro R Y w;obtain X:=R (O,I) cY;obtain w:Y∈bif O==a then(O,Q)::L else(O,I)::lq a Q L:=w;induction E:O==a<;>rw[E]at w<;>rcases gA.mp w with w|w;·rw[w];show X
·show S (λY N=>R Y<|dI N) Y w
·rw[w];show X
·show R Y<|dI w
def QW{Q:aa}:∀{w:List<|Nat×aa},w.length<=(lq a Q w).length/\(nh w a=none->(lq a Q w).length=w.length+1):=by intro w;induction w with|nil=>show⟨fx,λ_=>rfl⟩|cons g L S=>
obtain⟨O,I⟩:=g;change _<=List.length (bif O==a then _ else _)/\((bif O==a then _ else nh L a)=none->List.length (bif O==a then _ else _)=_);induction O==a;·show⟨cB S.1,λY=>congrArg Nat.succ<|S.2 Y⟩
·show⟨aH,λY=>bQ Y.symm⟩
def Fh{S:Obj}(w:S.data=.plain):notCls S=true:=by simp only[notCls,w]
def QX:∀{Q:List<|Nat×aa},(∀Y∈Q,dm Y.1≠j)->qa Q j=none:=by intro Q;induction Q with|nil=>intro _;show rfl|cons g L S=>obtain⟨O,H⟩:=g;intro w;change(bif dm O==j then _ else _)=_;rw[beq_eq_false_iff_ne.mpr<|w _ List.mem_cons_self];show S λY R=>w Y<|dI R
def QY(o:yG K L)(m:K.In I)(Z:br H I E J G.heap){P W:Nat}{Q:List<|Nat×aa}{F:Sem Bool}{h:Value×List Value->Shared->Prop}(V:aE E G.heap (.ref P) d)(c:J[P]?=some (.bt u Q))(f:aw.iV u a=some W) (n:∀b<19,dm b≠sP a)(w:h (.ref<|L W,[d]) G):wpAny (model M H) O (getMethod d (sP a) F) h N G:=by obtain⟨X,S,l,U,T,g,e,k⟩:=Z.bt c V;show iI (o.h u a W f) λ_ i j=> ?_;clear V;subst g;show method_fn (m.keeps Z.cP) (ox:=S) (od:=some l) ⟨k.qU,k.yC,Fh k.uA,by show k.jG▸k.o7⟩ (o.Kf u k.U) (o.fQ u k.U) i j ?_ w;change(lookIn (sP a) l).map _=_;rw[Ke k.uB k.Be,k.J1 _<|QX λY R=>n Y.1<|k.o8 Y R];rfl
end
section
variable{J:Program}{I:World}{K:Heap}{M:Around}{L:Value->Shared->Prop}{E:aG}{H:ag}{G:Shared}
def sQ{J:Int}(w:j2 J=true):∃O:Nat,J=O/\O<1000000000:=match J,w with|.ofNat O,w=>aX O rfl<|Jf.mp w
def Km(H:a<u):seqIndex? (a:Int) u=some a:=by unfold seqIndex?;rw[if_neg<|Int.not_lt.mpr<|Int.natCast_nonneg a,if_pos<|by rw[Bool.and_eq_true,decide_eq_true_eq,decide_eq_true_eq];show And.intro (Int.natCast_nonneg _)<|Int.ofNat_lt.mpr H];rfl
def Kn{F:List aa}{J:Int}{Q:aa}(w:AM F J=some Q):∃O:Nat,J=O/\O<1000000000/\F[O]?=some Q:=by
 unfold AM at w;rcases E:j2 J with _|_;·rw[E]at w;show bQ w
 ·rw[E]at w;show aB (sQ E) λO E V=> ?_;subst E;show cO O rfl V w
def Ko{M:List<|Str×aa}:∀{I:List<|Str×Value},M.map (·.1)=I.map (·.1)->bh E h (M.map (·.2)) (I.map (·.2))->(∀Q,nj j M=some Q->∃F,valueAt I j=some F/\aE E h Q F)/\(nj j M=none->valueAt I j=none):=by induction M with
|nil=>
intro I w T;rcases I with _|⟨_,_⟩;·show⟨nofun,λ_=>rfl⟩
·contradiction|cons G L S=>intro I w T;induction I with|nil=>contradiction|cons U Y=>
show gZ T.lS λO K R H W=> ?_;obtain⟨J,V⟩:=m7 R;obtain S:=S (m7 w).2<|V▸W;unfold valueAt at S⊢;simp only[List.find?_cons];change(∀N,(bif eY G.1 j then some G.2 else nj j L)=some N->_)/\((bif eY G.1 j then some G.2 else nj j L)=none->_);rw[sC,show G.1=U.1from(List.cons.inj w).1];induction Decidable.em<|U.1=j with|inl g=> ?_|inr g=> ?_;·rw[g,beq_self_eq_true,decide_eq_true rfl];show⟨λN Y=>aX U.2 rfl<|jZ Y▸(show U.2=O from J)▸H,nofun⟩
·rw[beq_eq_false_iff_ne.mpr g,decide_eq_false g];show S
def Bk(w:a<j.cps.size):cF j a (a+1)=⟨#[j.cps[a]]⟩:=by
 unfold cF;congr 1;apply Array.ext;·rw[Array.size_extract,Nat.min_eq_left w];show Nat.add_sub_cancel_left a 1
 ·intro J H W;have:J=0:=Nat.lt_one_iff.mp W;subst this;rw[Array.getElem_extract];rfl
theorem QZ(Z:br I K E H G.heap){a l:aa}{A:Value}{e:aI aa}{h:ag}(j:∀S b,subscripted c false S b=operate [S,b] (getItem S b))(V:aE E G.heap a d)(Y:aE E G.heap l A)(w:jE a l H=some (e,h)):∃Q,e=.ai Q/\h=H/\wpAny (model J I) M (subscriptTail p c d A) (cJ E G Q) L G:=by
 rcases a with-|_|_|a|F|_|XO|_<;>first|(show cq w;done)|skip
 ·show aB (pZ w) λb D w=> ?_;show cC (j3 w) λQ w g R=> ?_;show⟨Q,g,R, ?_⟩;rw[D]at Y;obtain⟨U,P⟩:=V.hJ;show eZ (je w) λu B=> ?_;show lM Y.hR λXQ R=> ?_;obtain⟨u,C⟩:=iG.mp u;show aB (sQ u) λO y i=> ?_;clear u;subst y;have C:O<a.cps.size:=j0 C;simp only[P,R,<-B];show xS (typeIs_str G a U) PySem.F.slot_str_getitem.lookup (PyProof.Rows.getItem_str (c:=a.cps[O]) ?_ ?_ ?_)<|j _ _;·rw[decide_eq_false<|Int.not_lt.mpr<|by simp+arith];show(decide_eq_false<|by lia).trans ?_;rfl
  ·rw[Km (u:=a.length) C];show Array.getElem?_eq_getElem C
  ·change cJ E G (.str<|cF a O<|O+1) _ _;rw[Bk C];show kq<|.str _ _
 ·show aB (pZ w) λb D w=> ?_;show cC (j3 w) λQ w g R=> ?_;show⟨Q,g,R, ?_⟩;rw[D]at Y;obtain⟨XR,f,P,x,T⟩:=V.lT;obtain⟨U,R⟩:=Y.hR;show cC (Kn w) λO y i W=> ?_;show aB (T.gW W) λr z v=> ?_;rw[P,R,y];show xS x.typeIs PySem.F.slot_tuple_getitem.lookup (PyProof.Rows.getItem_tuple x (by simp+arith) (by lia) (Km<|IT▸(eD.mp z).1) (DY.symm.trans z)<|eU v)<|j _ _
 ·rcases l with-|_|b|N|_|_|_|_<;>first|(show cq w;done)|skip
  ·obtain⟨F,o,w⟩:=ly w;obtain⟨Q,w,g,R⟩:=j3 w;show⟨Q,g,R, ?_⟩;obtain⟨X,f,O,P,s,_,q,T⟩:=Z.list o V;obtain⟨U,R⟩:=Y.hR;show cC (Kn w) λm y i W=> ?_;show aB (T.gW W) λr z v=> ?_;rw[P,R,y];show xS q.isList.typeIs PI.lookup (wpAny_getItem_list q.isList (xT m) (by lia) (DY.symm.trans z)<|eU v)<|j _ _
  ·obtain⟨F,o,w⟩:=yA (w:qO _ _ _=_);obtain⟨Q,w,g,R⟩:=j3 w;show⟨Q,g,R, ?_⟩;obtain⟨X,XS,P,s,_,t,XN,T⟩:=Z.dict o V;obtain⟨U,R⟩:=Y.hJ;show aB ((Ko (j:=N) XN T).1 Q w) λr z v=> ?_;rw[P,R];show xS t.typeIs PySem.F.slot_dict_getitem.lookup (wpAny_getItem_of (strKind_is J I N U) t.mapOf z<|kq v)<|j _ _
end
noncomputable def qd(H I M:Value):Obj:={cls:=.type "slice",data:=.fields #[H,I,M]}
structure mF(Q:Option aa)(F:Value):Prop where
int:∀J,Q=some (.int J)->∃U,F=.int J U
none:Q=Option.none->F=.none
def Kp(H O:Nat):max (0:Int) (min (H:Int) O)=(min H O:Nat):=by
 rcases Nat.le_total H O with w|w;·rw[Nat.min_eq_left w,Int.min_eq_left<|Int.ofNat_le.mpr w];show Int.max_eq_right<|xT _
 ·rw[Nat.min_eq_right w,Int.min_eq_right<|Int.ofNat_le.mpr w];show Int.max_eq_right<|xT _
def Q0(H I O:Nat):Builtin.Str.strSliceIndices (some (H:Int)) (some (I:Int)) 1 O=Builtin.Str.strSliceIndices (some ((min H O:Nat):Int)) (some ((min I O:Nat):Int)) 1 O:=by have w (G:Nat):¬(G:Int)<0:=PJ.mpr<|xT G;simp only[Builtin.Str.strSliceIndices,w,if_false,Kp,Nat.min_assoc,Nat.min_self,show(1:Int)>0 by decide,if_true]
def Kq(H I O:Nat):Builtin.Str.strSliceIndices (some (H:Int)) (some (I:Int)) 1 O=(List.range<|min I O-min H O).map (min H O+·):=by
 rw[Q0];by_cases w:min H O<=min I O;·show StrLaws.strSliceIndices_plain w<|xU ..
 ·rw[Nat.sub_eq_zero_of_le<|Nat.le_of_not_le w];have N (G:Nat):¬(G:Int)<0:=PJ.mpr<|xT G;simp only[Builtin.Str.strSliceIndices,N,if_false,Kp,Nat.min_assoc,Nat.min_self,show(1:Int)>0 by decide,if_true,sliceRange,show¬((min H O:Nat):Int)<(min I O:Nat)from λY=>w<|Nat.le_of_lt<|Int.ofNat_lt.mp Y];rfl
def Q1(G:Str)(H I:Nat):(Builtin.Str.strSliceIndices (some (H:Int)) (some (I:Int)) 1 G.length).filterMap (G.cps[·]?)=(G.cps.extract H I).toList:=by
 obtain w:=StrLaws.picks G.cps.toList (min I G.length-min H G.length) (min H G.length) (by
 rcases Nat.le_total (min H G.length)<|min I G.length with Y|Y;·rw[Nat.add_sub_cancel' Y];show xU ..
 ·rw[Nat.sub_eq_zero_of_le Y];show xU ..);simp only[Array.getElem?_toList]at w;rw[Kq,w,Array.toList_extract,show G.length=G.cps.toList.length from Array.length_toList.symm];apply List.ext_getElem?;intro J;simp only[List.extract_eq_take_drop,List.getElem?_take,List.getElem?_drop];by_cases g:min H G.cps.toList.length+J<G.cps.toList.length;·have E:min H G.cps.toList.length=H:=Nat.min_eq_left (sq λY=>by rw[Nat.min_eq_right<|Nat.le_of_lt Y]at g;show Aw.mpr bD g);rw[E]at g⊢;obtain N:(J<min I G.cps.toList.length-H)=(J<I-H):=propext (by rw[Nat.lt_sub_iff_add_lt,Nat.lt_sub_iff_add_lt,Nat.lt_min];show⟨And.left,λY=>⟨Y,Nat.add_comm H J▸g⟩⟩);simp only[N]
 ·simp only[List.getElem?_eq_none<|Nat.le_of_not_lt g,List.getElem?_eq_none<|Nat.le_trans (Nat.le_of_not_lt g)<|Nat.add_le_add_right (Nat.min_le_left ..) J,ite_self,ite_self]
def Q2(G:Str)(H I:Nat)(w:(Builtin.Str.strSliceIndices (some (H:Int)) (some (I:Int)) 1 G.length).length=G.length):G.cps.extract H I=G.cps:=by
 rw[Kq,List.length_map,List.length_range]at w;by_cases W:G.cps.size=0;·rw[Array.eq_empty_of_size_eq_zero W];show Array.extract_empty ..
 ·have X:=Nat.pos_of_ne_zero W;have g:H=0:=Nat.eq_zero_of_not_pos λY=>absurd w<|gL<|jB (Nat.sub_le_sub_right (xU I G.length) _)<|Nat.sub_lt X<|Nat.lt_min.mpr ⟨Y,X⟩;subst g;show Array.extract_eq_self_of_le<|aq (bP w.symm)<|Nat.min_le_left ..
section
variable{K:Program}{I:World}{J:Heap}{M:Around}{L:Value->Shared->Prop}{G:aG}{H:ag}{E:Shared}
def Q3:∀{N:Made}{L U:Value->Shared->Prop}{E:Shared},(∀Q G,L Q G->U Q G)->N.post L E->N.post U E:=by intro N L U E w;induction N with|val|int|float=>show λX=>w _ _ X|str|bytes=>show λX=>⟨X.1,w _ _ X.2⟩|either H I J g=>show λX=>⟨J X.1,g X.2⟩
def cN.gq(E:Shared)(S:Obj):cN E {E with heap:=E.heap.push S}:=⟨λ_ _ g=>ki _ g,rfl,rfl,rfl⟩
def cJ.eV{E:Shared}{Q:aa}(T:cN E f)(w:cJ G f Q d x):cJ G E Q d x:=⟨T.aC w.1,w.2⟩
def Q4(N:Array Value)(I:Nat):slicePick N none (some (I:Int)) none=(N.toList.take I).toArray:=by rw[kms_pick_eq];delta kms_pick kms_lo kms_hi;have:¬(I:Int)<0:=PJ.mpr<|xT I;simp only[this,if_false,List.drop_zero,Nat.sub_zero,Int.toNat_natCast];congr 1;rw[kmk_take_min]
def Q5(G:Array Value):slicePick G none (some 0) (some<|-1)=((G.toList.drop 1).reverse).toArray:=by
 delta slicePick sliceBounds;simp only[Option.getD_some,(by decide:¬(-1:Int)>0),if_false,show¬(0:Int)<0 by decide];congr 1;by_cases V:G.size=0;·rw[Array.eq_empty_of_size_eq_zero V];rfl
 ·show lM (Nat.exists_eq_succ_of_ne_zero V) λg F=> ?_;obtain w:(if(g:Int)>0then((g:Int)-0- -1-1)/ - -1 else 0).toNat=g:=by
   simp only[show(- -1:Int)=1from rfl,Int.ediv_one,Int.sub_zero,Int.sub_neg,Int.add_sub_cancel];rcases g with _|g;·rfl
   ·rw[if_pos<|Int.natCast_succ_pos g];rfl
  simp only[(by show F▸Int.add_sub_cancel (g:Int) 1:((G.size:Nat):Int)-1=(g:Int)),Int.min_eq_left<|Int.natCast_nonneg g,show max (-1:Int) 0=0from rfl];unfold sliceRange;simp only[(by decide:¬(-1:Int)>0),if_false];rw[w];obtain E:G.toList.length=g+1:=IT.trans F;obtain K:∀O,O<=g->((List.range O).map λ(N:Nat)=>((g:Int)+-1*(N:Int)).toNat).filterMap (G[·]?)=(G.toList.drop<|g+1-O).reverse:=by intro O;induction O with|zero=>intro _;rw[Nat.sub_zero,<-E,List.drop_length];rfl|succ O S=>
   intro J;obtain R:((g:Int)+-1*(O:Int)).toNat=g-O:=by rw[Int.neg_mul,Int.one_mul,<-Int.sub_eq_add_neg];show Int.toNat_sub g O
   have W:g-O<G.toList.length:=E▸xV (Nat.sub_le g O);simp only[Nat.add_sub_add_right,List.range_succ,List.map_append,List.filterMap_append,S<|Nat.le_of_succ_le J,List.drop_eq_getElem_cons W,List.reverse_cons,show g-O+1=g+1-O from(Nat.succ_sub<|Nat.le_of_succ_le J).symm];congr 1;simp only[List.map_cons,R,List.filterMap_cons];rw[Array.getElem?_eq_getElem<|by show Array.length_toList▸W];rfl
  rw[K g aH,Nat.add_sub_cancel_left]
def bh.Kr{F:List aa}(O:Nat)(g:bh G h F l):bh G h (F.take O)<|l.take O:=g.wk (P:=λF l=>∀O,bh G h (F.take O)<|l.take O) (λO=>by induction O<;>show .nil) (λH _ N O=>O.casesOn .nil λO=>.cons H<|N O) O
def bh.Q6{F:List aa}(O:Nat)(g:bh G h F l):bh G h (F.drop O)<|l.drop O:=g.wk (P:=λF l=>∀O,bh G h (F.drop O)<|l.drop O) (λO=>by induction O<;>show .nil) (λH L N O=>O.casesOn (.cons H L) λO=>N O) O
def bh.nf{F:List aa}(g:bh G h F l):bh G h F.reverse l.reverse:=g.wk (P:=λF l=>bh G h F.reverse l.reverse) .nil λH _ N=>by simp only[List.reverse_cons,List.reverse_cons];show N.dj<|.cons H .nil
def Ks(Z:br I J G H E.heap){F:List aa}(w:bh G E.heap F l):cJ G E (.cM F) (.ref E.heap.objs.size) {E with heap:=E.heap.push {cls:=.type "list",data:=.seq l.toArray}}:=by
 obtain T:cN E {E with heap:=E.heap.push {cls:=.type "list",data:=.seq l.toArray}}:=cN.gq _ _;show⟨T,.cM (G:=l.toArray) ⟨_,my _ rfl,rfl,0,rfl⟩ ?_ ?_⟩;·intro N;show aB (qW Z N) λS g _=> ?_;show absurd (kj g)<|tY _
 ·show bh.iL (λL=>L.aF Z T)<|by simpa using w
def Kt(Z:br I J G H E.heap){F:List aa}{N:Value}{l h:Option aa}{Q:aa}(j:E.heap.IsList k y)(T:bh G E.heap F y.toList) (o:mF l d)(n:mF h N)(w:AO F l h=some Q)(e:∀S Y,subscripted c false S Y=operate [Y,S] (getItem S Y)):wpAny (model K I) M (subscriptTail p c (.ref k)<|.ref E.heap.objs.size) (cJ G E Q) L {E with heap:=E.heap.push<|qd d N .none}:=by
 show AY ((by
 intro _ l h _ w;rcases l with _|_
 ·rcases h with _|f;·show cq w
  ·show aB (nA w) λX P w=> ?_;obtain⟨w,R⟩:=je w;obtain⟨b,W⟩:=iG.mp w;show aB (sQ b) λO i _=> ?_;subst i P;show kP O rfl rfl (oW.mp W) R.symm
 ·show cq w:∀{F l h Q}(w:AO F l h=some Q),∃X:Nat,l=none/\h=some (.int X)/\F.length<=ng/\Q=.cM (F.take X)) w) λX g R W i=> ?_;obtain⟨U,V⟩:=n.int _ R;rw[o.none g,V,i];obtain m:=cN.gq E<|qd .none (.int X U) .none;show xS (Heap.IsList.typeIs (s:={E with heap:=E.heap.push<|qd .none (.int X U) .none})<|j.push _) PI.lookup (wpAny_getItem_list_slice (j.push _) (Heap.IsSliceOf.new ..) .none (.int X U) .none nofun ?_ ?_)<|e _ _;·rw[Q4];show cJ.eV m<|Ks (E:={E with heap:=E.heap.push<|qd .none (.int X U) .none}) (Z.aF m)<|(T.iL λa=>a.aF Z m).Kr _
 ·rw[<-Array.length_toList,<-T.jI];show sO W
def Q7{L S:Option aa}{Q:aa}(w:Jl j L S=some Q):∃H I:Nat,Q=.str (cF j H I)/\j.length<=ng/\(L=some (.int H)\/L=none/\H=0)/\(S=some (.int I)\/S=none/\I=j.length):=by
 rcases L with _|H
 ·rcases S with _|I;·show cq w
  ·obtain⟨G,E,w⟩:=nA w;subst E;obtain⟨w,E⟩:=je w;obtain⟨F,K⟩:=iG.mp w;obtain⟨N,g,_⟩:=sQ F;subst g;show nu 0 N E.symm (oW.mp K) (.inr ⟨rfl,rfl⟩)<|.inl rfl
 ·show aB (nA w) λJ E w=> ?_;subst E;rcases S with _|I;·obtain⟨w,E⟩:=je w;obtain⟨F,K⟩:=iG.mp w;obtain⟨N,g,_⟩:=sQ F;subst g;show nu N _ E.symm (oW.mp K) (.inl rfl)<|.inr ⟨rfl,rfl⟩
  ·show aB (nA w) λG E w=> ?_;subst E;obtain⟨w,E⟩:=je w;obtain⟨w,K⟩:=iG.mp w;obtain⟨F,W⟩:=iG.mp w;show aB (sQ W) λO R _=> ?_;show aB (sQ F) λN g _=> ?_;subst g R;show nu N O E.symm (oW.mp K) (.inl rfl)<|.inl rfl
def mF.Ku{Q:Option aa}(X:mF Q d)(w:Q=some (.int a)\/Q=Option.none/\a=u):∃F:Option<|Int×Tok,d=partValue F/\(F.map (·.1)=some (a:Int)\/F=Option.none/\a=u):=by
 rcases w with w|⟨w,E⟩;·obtain⟨U,E⟩:=X.int _ w;show⟨some (a,U),E,.inl rfl⟩
 ·show⟨Option.none,X.none w,.inr ⟨rfl,E⟩⟩
theorem Fi(Z:br I J G H E.heap){W:aa}{y N:Value}{x k:Option aa}{e:aI aa}{f:ag}(V:aE G E.heap W d) (C:mF x y)(B:mF k N)(w:km W x k H=some (e,f))(h:∀S b,subscripted c false S b=operate [b,S] (getItem S b)):∃Q,e=.ai Q/\f=H/\wpAny (model K I) M (subscriptTail p c d<|.ref E.heap.objs.size) (cJ G E Q) L {E with heap:=E.heap.push<|qd y N .none}:=by
 rcases W with-|_|_|W|_|F|XO|_<;>first|(show cq w;done)|skip
 ·show cC (j3 w) λQ T g R=> ?_;show⟨Q,g,R, ?_⟩;obtain⟨U,P⟩:=V.hJ;show lO (Q7 T) λY a v o m J=> ?_;show aB (C.Ku m) λF z i=> ?_;show aB (B.Ku J) λn D r=> ?_;rw[P,v,z,D];show xS (typeIs_str _ W U) PySem.F.slot_str_getitem.lookup (wpAny_getItem_str_slice (l:=F) (u:=n) (st:=none) (cO _ (my _ rfl) rfl rfl) rfl ?_)<|h _ _;have X:=(by
 intro _ W _ F n Y a _ i r h;obtain P:slicePicked W F n none=Builtin.Str.strSliceIndices (some (Y:Int)) (some (a:Int)) 1 W.length:=by
  unfold slicePicked;simp only[Option.map_none,Option.getD_none];rcases i with i|⟨rfl,rfl⟩<;>rcases r with r|⟨rfl,rfl⟩;·rw[i,r]
  ·show i▸StrLaws.sliceIdx_none_hi _ _
  ·show r▸StrLaws.sliceIdx_none_lo _ _
  ·change Builtin.Str.strSliceIndices none none 1 W.length=_;rw[StrLaws.sliceIdx_none_lo,StrLaws.sliceIdx_none_hi];rfl
 unfold sliceMade;rw[P];split
 ·rename_i w;rw[Option.map_none,Option.getD_none,beq_self_eq_true,Bool.true_and,beq_iff_eq]at w;have:=Q2 W Y a w;obtain R:cF W Y a=W:=by unfold cF;rw[this]
  rw[R];show eU<|.str _ _
 ·rw[Q1];show⟨?_, ?_⟩;·change Array.size _<=_;simp only[Array.toArray_toList,Array.size_extract];show aq (Nat.sub_le ..)<|aq (xU ..)<|aq h<|sO aH
  ·have:(⟨((W.cps.extract Y a).toList).toArray⟩:Str)=cF W Y a:=by unfold cF;rw[Array.toArray_toList]
   show this▸kq (.str _ _):∀{G:aG}{W:Str}{U:Tok}{F n:Option<|Int×Tok}{Y a:Nat}{E:Shared}(i:F.map (·.1)=some (Y:Int)\/F=none/\Y=0)(r:n.map (·.1)=some (a:Int)\/n=none/\a=W.length)(h:W.length<=ng),(sliceMade W U F n none).post (cJ G E<|.str<|cF W Y a) E) (G:=G) (U:=U) (E:={E with heap:=E.heap.push<|qd (partValue F) (partValue n) .none}) i r o;generalize sliceMade W U F n none=XQ at X;show Q3 (λXR XS O=>cJ.eV (cN.gq _ _) O) X
 ·show cC (j3 w) λQ T g R=> ?_;show⟨Q,g,R, ?_⟩;obtain⟨_,_,rfl,q,XT,A⟩:=V.gb;show Kt Z q A C B T h
 ·show aB (ly<|show gX _ _ _=_ from w) λF i w=> ?_;show cC (j3 w) λQ T g R=> ?_;obtain⟨X,XU,XW,P,XX,_,j,XN⟩:=Z.list i V;show P▸cO Q g R (Kt Z j.isList XN C B T h)
def Q8(Z:br I J G H E.heap){P:aa}{U l:Tok}{Y:aI aa}{b:ag}(V:aE G E.heap P d)(w:vZ P H=some (Y,b))(e:∀S W,subscripted c false S W=operate [S,W] (getItem S W)):∃Q,Y=.ai Q/\b=H/\wpAny (model K I) M (subscriptTail p c d<|.ref E.heap.objs.size) (cJ G E Q) L {E with heap:=E.heap.push<|qd .none (.int 0 U)<|.int (-1) l}:=by
 show aB (lx w) λi N w=> ?_;show aB (ly w) λF f w=> ?_;show cC (j3 w) λQ T g R=> ?_;obtain⟨m,n⟩:=je T;clear T;subst n;obtain⟨X,a,O,N,j,_,h,k⟩:=Z.list f<|N▸V;subst N;have o:=cN.gq E<|qd .none (.int 0 U)<|.int (-1) l;show cO _ g R ?_;show xS (Heap.IsList.typeIs (s:={E with heap:=E.heap.push<|qd .none (.int 0 U)<|.int (-1) l})<|h.isList.push _) PI.lookup (wpAny_getItem_list_slice (h.isList.push _) (Heap.IsSliceOf.new ..) .none (.int 0 U) (.int (-1) l) nofun ?_ ?_)<|e _ _;·rw[Q5];show cJ.eV o<|Ks (E:={E with heap:=E.heap.push<|qd .none (.int 0 U)<|.int (-1) l}) (Z.aF o) ((k.iL λY=>Y.aF Z o).Q6 1).nf
 ·rw[<-Array.length_toList,<-k.jI];show sO<|oW.mp m
end
section
set_option tactic.hygienic true
structure uF(T:Frag):Prop where
yH:∀M g,gN M=true->g=2\/g=3\/g=4->M≠g->kin_not T (dP M) (dP g)=true
Q9:∀M K,gN M=true->K="str"\/K="int"\/K="tuple"->kin_notT T (dP M) K=true
Kv:∀M,gN M=true->plainGet T (dP M) "__class__"=true
jG:∀M,gN M=true->hasDictIn T (dP M)=true
Kw:∀M,gN M=true->findIn T (.ref<|dP M) "__class__"=some (some<|.builtin "object.__class__")
Kx:∀M,gN M=true->mroIn T (dP M) (.type "object")=some true
Ky:specialIn T (.builtin "object.__class__") "__get__"=some (some<|.builtin "getset_descriptor.__get__")
Kz:takesIn T (.builtin "object.__class__")=some true
KA:∀K g,K="str"\/K="int"->g=2\/g=3\/g=4->isNotIn T K (dP g)=true
section
variable{L:Program}{I:World}{J:Heap}{K:Frag}{N:Around}{M:Value->Shared->Prop}{G:aG}{H:ag}{E:Shared}
theorem Fj(w:eN a=true):(a:Int)<2^63:=by have:=oW.mp w;unfold ng at this;lia-abstractProof
def Ra(w:eN a=true):a<=sizeLine:=sO<|oW.mp w
def cJ.Rb{E:Shared}{Q:aa}(w:cJ G {E with toks:=a} Q d f):cJ G E Q d f:=⟨(cN.lR E a).aC w.1,w.2⟩
def jK{E:Shared}{Q:aa}(w:aE G E.heap Q d):cJ G E Q d {E with toks:=a}:=⟨cN.lR E a,w⟩
def Rc(Z:br I J G H E.heap){P:aa}{a:aI aa}{c:ag}(V:aE G E.heap P d)(w:Js P H=some (a,c)):∃Q,a=.ai Q/\c=H/\wpAny (model L I) N (call (.builtin "len") [d]) (cJ G E Q) M E:=by
 rcases P with-|_|_|P|F|_|Y|_<;>first|(show cq w;done)|skip
 ·obtain⟨j,w⟩:=jt w;obtain⟨g,R⟩:=cS w;show lM V.hJ λU K=> ?_;show K▸cO _ g R (PyProof.Rows.len_str (Int.not_le.mpr<|Fj j)<|jK<|.int _ _)
 ·obtain⟨j,w⟩:=jt w;obtain⟨g,R⟩:=cS w;obtain⟨W,b,K,i,T⟩:=V.lT;obtain e:(F.length:Int)=b.size:=by rw[T.jI,Array.length_toList]
  show cO _ g R ?_;rw[K,e];show PyProof.Rows.len_tuple i (e▸Fj j)<|jK<|.int _ _
 ·show aB (ly w) λF S w=> ?_;obtain⟨j,w⟩:=jt w;show eZ (cS w) λg R=> ?_;obtain⟨X,b,O,K,h,_,f,T⟩:=Z.list S V;have e:(F.length:Int)=b.size:=by rw[T.jI,Array.length_toList]
  show cO _ g R ?_;rw[K,e];show PyProof.Rows.len_list f.isList (e▸Fj j)<|jK<|.int _ _
def KC(Z:br I J G H E.heap){Q:List<|Nat×aa}(V:aE G E.heap (.ref u) d)(L:H[u]?=some (.bt a Q)):∃w F Y,d=.ref w/\InstAt E.heap w F (dP a) (some Y)/\gN a=true:=by show eA λT N=> ?_;obtain⟨X,S,Y,U,O,g,M,K⟩:=Z.bt L V;show N ?_;show JS X.1 S Y g ⟨K.qU,K.yC,Fh K.uA,by show K.jG▸K.o7⟩ K.U
def KD(f:K.In J)(h:uF K)(Z:br I J G H E.heap){U:aI aa}{X:ag}{b:String}(T:b="str"\/b="int"\/b="tuple")(j:typeOf (.type b)=pure (.type "type"))(V:aE G E.heap (.ref a) d)(w:Ea a H=some (U,X)):∃Q,U=.ai Q/\X=H/\wpAny (model L I) N (call (.builtin "isinstance") [d,.type b]) (cJ G E Q) M E:=by show js (yB w) λW c S w=> ?_;obtain⟨g,R⟩:=cS w;show cO _ g R<|(by intro f h Z b T j _ W _ _ V S;show wg (KC Z V S) λP F Y O e i=> ?_;clear V;subst O;show kin_callT (f.keeps Z.cP) e (h.Q9 W b i T) j (h.Kv W i) (h.jG W i) (h.Kw W i) h.Ky h.Kz (h.Kx W i) (jK<|.bool _):∀(f:K.In J)(h:uF K)(Z:br I J G H E.heap){b}(T:b="str"\/b="int"\/b="tuple")(j:typeOf (.type b)=pure (.type "type")){a W c d}(V:aE G E.heap (.ref a) d)(S:H[a]?=some (.bt W c)),wpAny (model L I) N (call (.builtin "isinstance") [d,.type b]) (cJ G E<|.bool false) M E) f h Z T j V S
def Rd(f:K.In J)(h:uF K)(Z:br I J G H E.heap){P:aa}{Y:aI aa}{b:ag}(V:aE G E.heap P d)(w:Ju P H=some (Y,b)):∃Q,Y=.ai Q/\b=H/\wpAny (model L I) N (call (.builtin "isinstance") [d,.type "str"]) (cJ G E Q) M E:=by
 rcases P with-|_|P|P|F|_|X|_<;>first|(show cq w;done)|skip
 ·obtain⟨g,R⟩:=cS w;obtain⟨U,O⟩:=V.hR;show cO _ g R<|O▸sr (isinstance_false_int rfl IU PySem.F.sub_int_str) (jK<|.bool _)
 ·obtain⟨g,R⟩:=cS w;obtain⟨U,O⟩:=V.hJ;show cO _ g R<|O▸sr (isinstance_true IU PySem.F.isi_self_str) ⟨typeIs_str _ _ _,eU<|.bool _⟩
 ·obtain⟨g,R⟩:=cS w;obtain⟨W,a,O,⟨S,c,e,_⟩,T⟩:=V.lT;show cO _ g R<|O▸sr (isinstance_false_tuple (by decide) IU PySem.F.sub_tuple_str) ⟨aX S c e,jK<|.bool _⟩
 ·show KD f h Z (.inl rfl) IU V w
def Rf(f:K.In J)(h:uF K)(Z:br I J G H E.heap){P:aa}{Y:aI aa}{b:ag}(V:aE G E.heap P d)(w:Jv P H=some (Y,b)):∃Q,Y=.ai Q/\b=H/\wpAny (model L I) N (call (.builtin "isinstance") [d,.type "int"]) (cJ G E Q) M E:=by
 rcases P with-|_|P|P|F|_|X|_<;>first|(show cq w;done)|skip
 ·obtain⟨g,R⟩:=cS w;obtain⟨U,O⟩:=V.hR;show cO _ g R<|O▸sr (isinstance_true IV PySem.F.isi_self_int) ⟨typeIs_int _ _ _,eU<|.bool _⟩
 ·obtain⟨g,R⟩:=cS w;obtain⟨U,O⟩:=V.hJ;show cO _ g R<|O▸sr (isinstance_false_str rfl IV PySem.F.sub_str_int) (jK<|.bool _)
 ·obtain⟨g,R⟩:=cS w;obtain⟨W,a,O,⟨S,c,e,_⟩,T⟩:=V.lT;show cO _ g R<|O▸sr (isinstance_false_tuple (by decide) IV PySem.F.sub_tuple_int) ⟨aX S c e,jK<|.bool _⟩
 ·show KD f h Z (.inr<|.inl rfl) IV V w
theorem Rg{K:aa}{O:aI aa}{J:ag}(V:aE G E.heap K d)(w:qQ .t9 K H=some (O,J)):∃Q,O=.ai Q/\J=H/\wpAny (model L I) N (call (.builtin "ord") [d]) (cJ G E Q) M E:=by
 show aB (Fb (w:ug _ _ _=_)) λK F w=> ?_;show cC (j3 w) λQ T g R=> ?_;obtain⟨U,F⟩:=(F▸V).hJ;show cO Q g R ?_;rw[F];unfold Jz at T;split at T
 ·rename_i P W;obtain S:K=⟨#[P]⟩:=by clear w;induction K with|mk X=>rw[(by rw[<-Array.toArray_toList (xs:=X),W]:X=#[P])]
  rw[S,<-Option.some.inj T];show PySem.P.ord_of_char<|jK<|.int _ _
 ·show cq T
end
end
section
variable{L:Program}{H:World}{I:Heap}{K:Around}{M:Value->Shared->Prop}{E:aG}{J:ag}{G:Shared}
def wq(Z:br H I E J G.heap){F R:List aa}(g:E[a]?=some v)(S:J[a]?=some (.list F))(w:v.2=v.1)(L:IsL G.heap v.1 y u)(W:Array Value->Array Value) (T:bh E G.heap R (W y).toList):br H I E (J.set a<|.list R) (G.heap.update v.1<|Obj.mapSeq W)/\∀X M:Addr->Prop,bp E E X M G {G with heap:=G.heap.update v.1<|Obj.mapSeq W}:=by
 obtain N:=IsL.update L W;have K:((G.heap.update v.1<|Obj.mapSeq W).get? v.2).isSome=true:=by rw[w,N];rfl
 show⟨Z.Fe (H:={G with heap:=G.heap.update v.1<|Obj.mapSeq W}) g (by show w▸Heap.SameBut.update ..) rfl rfl rfl (λO=>.list w N<|T.iL O) K (eD.mp S).1,λX M=>Bh (jC g) (by show w▸Heap.SameBut.update ..) K rfl rfl rfl⟩
def wt{F:List aa}(Z:eN (F.length+a)=true)(T:bh E h F y.toList):y.size+a<=sizeLine:=by rw[<-Array.length_toList,<-T.jI];show Ra Z
def KG(Z:br H I E J G.heap){S U:aa}{j:Value}{a:aI aa}{c:ag}(V:aE E G.heap S j)(Y:aE E G.heap U d)(w:nY S U J=some (a,c)):∃Q,a=.ai Q/\wpAny (model L H) K (call (.builtin "list.append") [j,d]) (jJ H I E c G Q) M G:=by show aB (lx w) λW N w=> ?_;show aB (ly w) λP e w=> ?_;obtain⟨k,w⟩:=jt w;obtain⟨g,R⟩:=sJ w;obtain⟨X,b,O,N,h,i,f,T⟩:=Z.list e<|N▸V;obtain⟨m,n⟩:=wq Z h e i f (λl=>l.push d) (R:=P++[U]) (by rw[Array.toList_push];show T.dj<|.cons Y .nil);rw[N,R];show aX _ g<|DZ F.slot_list_append f.isList.typeIs F.entry_list_append (F.args_list_append_2 _ _) (list_append X.1 b O d<|ie<|wt k T) ⟨f,E,m,n,.none⟩
def bh.Rh{F:List aa}{Q:aa}(G:bh E h F l)(g:F.getLast?=some Q):∃w,l[l.length-1]?=some w/\aE E h Q w/\bh E h F.dropLast l.dropLast:=by show aB (G.gW<|by show List.getLast?_eq_getElem?.symm.trans g) λw H W=> ?_;show cO w (by show G.jI▸H) W ?_;rw[List.dropLast_eq_take,List.dropLast_eq_take,G.jI];show G.Kr _
def Ri(Z:br H I E J G.heap){a:aa}{U:Tok}{c:aI aa}{h:ag}(V:aE E G.heap a d)(w:qQ .qL a J=some (c,h)):∃Q,c=.ai Q/\wpAny (model L H) K (call (.builtin "list.pop") [d,.int 0 U]) (jJ H I E h G Q) M G:=by
 show aB (lx<|show jc _ _ _=_ from w) λb N w=> ?_;show aB (ly<|show gX _ _ _=_ from w) λP i w=> ?_;rcases P with-|⟨Q,P⟩;·show cq w
 show eA λq s=> ?_;obtain⟨t,w⟩:=jt w;obtain⟨g,R⟩:=sJ w;obtain⟨f,e,O,N,o,p,j,T⟩:=Z.list i<|N▸V;show gZ T.lS λm y S W k=> ?_;have r:e=(m::y).toArray:=by rw[<-S]
 obtain⟨v,x⟩:=wq Z o i p j (λu=>u.eraseIdxIfInBounds 0) (R:=P) (by rw[r,Array.eraseIdxIfInBounds,dif_pos<|show 0<(m::y).toArray.size from Nat.zero_lt_succ _,Array.toList_eraseIdx];show k);show s ?_;rw[N,R];show aX _ g<|DZ F.slot_list_pop j.isList.typeIs F.entry_list_pop (F.args_list_pop_2 _ _) (MeetsSeq.list_pop_at f.1 e O 0 U 0 m rfl (by rw[r];simp[seqIndex?]) (by rw[r];rfl)<|wt (F:=Q::P) (a:=0) t T) ⟨j,E,v,x,pb Z (H:=λ_=>False) ⟨λ_ Y=>Y.elim⟩ (x _ n7) W⟩
def Rj(Z:br H I E J G.heap){S:aa}{W:aI aa}{a:ag}(V:aE E G.heap S d)(w:qQ .nf S J=some (W,a)):∃Q,W=.ai Q/\wpAny (model L H) K (call (.builtin "list.reverse") [d]) (jJ H I E a G Q) M G:=by show aB (lx w) λU N w=> ?_;show aB (ly w) λP b w=> ?_;obtain⟨h,w⟩:=jt w;obtain⟨g,R⟩:=sJ w;obtain⟨X,Y,O,N,e,f,c,T⟩:=Z.list b<|N▸V;obtain⟨j,k⟩:=wq Z e b f c (λi=>i.reverse) (R:=P.reverse) (by rw[Array.toList_reverse];show T.nf);rw[N,R];show aX _ g<|DZ F.slot_list_reverse c.isList.typeIs F.entry_list_reverse (F.args_list_reverse_1 _) (AutoSeq1.list_reverse_list_0 X.1 Y O<|wt (a:=0) h T) ⟨c,E,j,k,.none⟩
def afk(Z:br H I E J G.heap){Y:Addr×Addr}(K:E[a]?=some v)(R:E[u]?=some Y)(L:a≠u):v.2≠Y.2:=λg=>by
 obtain w:=Z.j4;unfold List.Nodup at w;rw[List.pairwise_iff_getElem]at w;obtain S:=(eD.mp K).1;obtain U:=(eD.mp R).1;obtain Q:E[a]=v:=(eD.mp K).2;rcases Nat.lt_or_gt_of_ne L with F|F;·show w a u (by simpa using S) (by simpa using U) F<|by simp only[List.getElem_map,List.getElem_map,Q,(List.getElem?_eq_some_iff.mp R).2,g]
 ·show w u a (by simpa using U) (by simpa using S) F<|by simp only[List.getElem_map,List.getElem_map,Q,(List.getElem?_eq_some_iff.mp R).2,g]
def br.Rk(Z:br H I E J G.heap){S:aM}(N:¬eT E v.2)(W:I.get? v.2=none) (V:(∀{Q:aa}{F:Value},aE E G.heap Q F->aE (E++[v]) G.heap Q F)->jH H (E++[v]) G.heap v S) (T:∀{Q:aa}{F:Value},aE E G.heap Q F->aE (E++[v]) G.heap Q F):br H I (E++[v]) (J++[S]) G.heap:=by
 show⟨Z.cP,by simp[Z.aZ],λP Y X R L=> ?_, ?_,λY R=> ?_⟩
 ·by_cases w:P<E.length;·rw[List.getElem?_append_left w]at R;rw[List.getElem?_append_left<|Z.aZ▸w]at L;show(Z.cI P Y X R L).iL T rfl rfl
  ·obtain U:P=E.length:=by have:=(eD.mp R).1;simp at this;show i7 (i9 this)<|sq w
   subst U;rw[List.getElem?_append_right aH]at R;rw[Z.aZ,List.getElem?_append_right aH]at L;simp at R L;subst R;subst L;show V T
 ·rw[List.map_append,List.nodup_append];show⟨Z.j4,by simp,λK g M O=> ?_⟩;simp at O;subst O;intro w;subst w;show aB (nU.mp g) λY R w=> ?_;show N<|aX Y R w
 ·rcases oP.mp R with R|R;·show Z.qb Y R
  ·rw[List.mem_singleton.mp R];show W
def yI(Z:br H I E J G.heap)(T:cN G f){S:aM}(g:G.heap.get? v.2=none) (V:(∀{Q:aa}{F:Value},aE E G.heap Q F->aE (E++[v]) f.heap Q F)->jH H (E++[v]) f.heap v S):jJ H I E (J++[S]) G (.ref J.length) (.ref v.1) f:=by show eZ (Z.cV T g V) λw R=> ?_;show⟨_,w,R,.ref<|by rw[<-Z.aZ];simp⟩
def nC(w:Heap):w.get? w.objs.size=none:=by
 rcases E:w.get? w.objs.size with _|S;·rfl
 ·show absurd (kj E)<|tY _
def Rm{E:aG}{H:Int}:∀(O:Nat)(F:List Value),F.length=O->(∀(J:Nat)(Q:Value),F[J]?=some Q->∃U,Q=Value.int (H+J*1) U)->bh E h ((List.range O).map λ(N:Nat)=>aa.int<|H+N) F:=by intro O;induction O with|zero=>intro F G _;rw[List.length_eq_zero_iff.mp G];show .nil|succ O S=>
intro F G I;have T:F≠[]:=by intro Y;rw[Y]at G;contradiction
rw[List.range_succ,List.map_append,<-List.dropLast_concat_getLast T];show(S F.dropLast (by rw[List.length_dropLast,G];rfl) λJ Q K=>I J Q ?_).dj ?_
·rw[List.getElem?_dropLast]at K;split at K;·show K
 ·show cq K
·obtain⟨g,w⟩:=I O (F.getLast T) (by rw[<-List.getLast?_eq_some_getLast T,List.getLast?_eq_getElem?,G];rfl);rw[w,Int.mul_one];show bh.cons (aE.int _ _) bh.nil
theorem Rn(b:K.handled=none)(Z:br H I E J G.heap){O P:Int}{U e Q:Tok}{R:aI aa}{X:ag}(c:IsRange G.heap k O P 1 U e Q)(m:cN f G)(o:br H I E J f.heap)(w:JA (.int O) (.int P) J=some (R,X)):∃Q,R=.ai Q/\wpAny (model L H) K (call (.type "list") [.ref k]) (jJ H I E X f Q) M G:=by
 show eZ (jt<|show af.d4 _ _ _=_ from w) λi w=> ?_;obtain⟨l,rfl⟩:=dT w;rw[<-l];simp only[Bool.and_eq_true,decide_eq_true_eq]at i;show aX _ rfl<|call_list_range (n:=(P-O).toNat) b c ?_ (rangeSize_nat O P) (by omega) λd j q g V Y F=> ?_;·show small_one (by omega) (by omega) (by omega)<|by omega
 ·obtain T:cN G {G with heap:=d,toks:=j}:=⟨V,rfl,rfl,rfl⟩;show yI o (m.aC T) (v:=(G.heap.objs.size,G.heap.objs.size)) ?_ λW=>.list rfl Y ?_
  ·rcases N:f.heap.get? G.heap.objs.size with _|S;·rfl
   ·show absurd (kj<|m.aF _ _ N)<|tY _
  ·show Rm _ q.toList (by show F.1) λa Q h=>F.2 a Q<|by show DY.symm.trans h
def KH(Q:(I.get? sysModules).isSome=true)(Z:br H I E J G.heap)(w:v∈E):(v.2==sysModules)=false:=by show afa.mpr ?_;intro g;rw[<-g,Z.qb v w]at Q;show Bool.noConfusion Q
end
noncomputable def wu(K:Env)(G:Str):Bool:=G !=("__debug__":Str)&&G !=("__classdict__":Str)&&(K.kindOf G==some .local||(K.kindOf G==some .cell||K.kindOf G==some .free)&&(K.cells.lookup G).isSome)
def iM(K:Env)(H:Addr):Prop:=H=K.locals\/∃G,(G,H)∈K.cells
structure c9(K:Env)(Z:List Str):Prop where
eO:K.scope.kind=.function
bE:K.globals=mainGlobals
sR:K.builtins=builtinsNs
kQ:∀G∈Z,wu K G=true
j4:Z.Nodup
KJ:K.cells.Pairwise λG U=>G.2≠U.2
uG:∀G M,(G,M)∈K.cells->M≠K.locals
inductive wx(w:Heap)(T:Addr):Prop|mk (S:Obj) (U:Array DictEntry) (O:Nat) (H:w.get? T=some S) (W:S.data=.dict U O) (g:StrKeys U)
inductive Ro(w:Heap)(M:Addr):Prop|mk (S:Obj) (Q:Option Value) (H:w.get? M=some S) (W:S.data=.cell Q)
structure KL(w:Heap)(K:Env):Prop where
a:wx w K.locals
B:∀G M,(G,M)∈K.cells->Ro w M
inductive yJ(w:Heap)(K:Env)(G:Str)(F:Value):Prop|sS (N:K.kindOf G=some .local) (S:Obj) (U:Array DictEntry) (O:Nat) (H:w.get? K.locals=some S) (W:S.data=.dict U O) (g:StrKeys U) (E:nsFind U G=some F)|inr (N:K.kindOf G=some .cell\/K.kindOf G=some .free) (M:Addr) (S:Obj) (H:K.cells.lookup G=some M) (W:w.get? M=some S) (g:S.data=.cell (some F))
structure jL(R:World)(I:Heap)(K:Env)(Z:List Str)(E:aG)(g:ag)(F:ak)(w:Heap):Prop where
aP:br R I E g w
gc:KL w K
qY:∀H,iM K H->I.get? H=none
eK:∀H,iM K H->¬eT E H
ae:∀(J:Nat)(G:Str)(Q:aa),Z[J]?=some G->F[J]?=some (some Q)->∃L,yJ w K G L/\aE E w Q L
aZ:F.length=Z.length
section
variable{O:Program}{J:World}{K:Heap}{R:Around}{Q:Value->Shared->Prop}{H S:aG}{N T:ag}{E M:Shared}{G:Env}{I:List Str}{L:ak}
def jL.fT(M:jL J K G I H N L E.heap):qV (iM G) E.heap:=⟨λF V S T=>by
rcases V with rfl|⟨O,X⟩;·obtain⟨R,U,O,P,W,_⟩:=M.gc.a;rw[T]at P;obtain rfl:=bO P;show⟨λw O g=>by rw[W]at g;contradiction,λg=>by rw[W]at g;contradiction⟩
·obtain⟨R,Q,P,W⟩:=M.gc.B O F X;rw[T]at P;obtain rfl:=bO P;show⟨λw O g=>by rw[W]at g;contradiction,λg=>by rw[W]at g;contradiction⟩⟩
def pd:∀{w:Heap},qV (λ_=>False) w:=⟨λ_ Y=>Y.elim⟩
def jL.bK(R:jL J K G I H N L E.heap)(l:br J K S T M.heap)(j:bp H S (λ_=>False) o E M):jL J K G I S T L M.heap where
aP:=l;gc:=by obtain⟨b,U,O,c,W,d⟩:=R.gc.a;obtain⟨⟨w,g⟩,_⟩:=j.aF _ b c (R.eK _<|.inl rfl) λY=>Y;show⟨⟨_,U,O,g,W,d⟩,λP Z e=> ?_⟩;obtain⟨b,Q,c,W⟩:=R.gc.B P Z e;obtain⟨⟨w,g⟩,_⟩:=j.aF _ b c (R.eK _<|.inr ⟨P,e⟩) λY=>Y;show⟨_,Q,g,W⟩
qY:=R.qY;eK:=λP V=>by
 rcases V with rfl|⟨O,e⟩;·obtain⟨b,U,O,c,_,k⟩:=R.gc.a;show j.o9 c<|R.eK _<|.inl rfl
 ·obtain⟨b,Q,c,_⟩:=R.gc.B O P e;show j.o9 c<|R.eK _<|.inr ⟨O,e⟩
ae:=λX P Q c W=>by
 show aB (R.ae X P Q c W) λF f i=> ?_;show aX F ?_<|pb R.aP pd j i;rcases f with⟨a,b,U,O,c,W,d,h⟩|⟨a,Z,b,c,W,d⟩;·obtain⟨⟨w,g⟩,_⟩:=j.aF _ b c (R.eK _<|.inl rfl) λY=>Y;show .sS a _ U O g W d h
 ·obtain⟨⟨w,g⟩,_⟩:=j.aF _ b W (R.eK _<|.inr ⟨P,oQ c⟩) λY=>Y;show .inr a Z _ c g d
aZ:=R.aZ
def Bl(w:wu G j=true):(j==("__debug__":Str))=false/\(j==("__classdict__":Str))=false/\(G.kindOf j=some .local\/((G.kindOf j=some .cell\/G.kindOf j=some .free)/\∃M,G.cells.lookup j=some M)):=by unfold wu at w;rw[Bool.and_eq_true,Bool.and_eq_true,Bool.or_eq_true,Bool.and_eq_true,Bool.or_eq_true,beq_iff_eq,beq_iff_eq,beq_iff_eq,Option.isSome_iff_exists]at w;show⟨by simpa using w.1.1,by simpa using w.1.2,w.2⟩
def KN(X:c9 G I)(g:jL J K G I H N L E.heap){Y:aa}(V:I[a]?=some j)(T:L[a]?=some (some Y)):∃F,aE H E.heap Y F/\∀{f:Value->Shared->Prop},f F E->wpAny (model O J) R (loadName G j) f Q E:=by
 show aB (g.ae a j Y V T) λF c e=> ?_;show iI (Bl<|X.kQ j<|jC V) λ_ i _=> ?_;show aX F e λh=> ?_;rcases c with⟨w,S,U,P,Z,W,b,d⟩|⟨w,M,S,Z,W,b⟩;·show PK X.eO w (mE S U P Z W b λ_=>rfl) d h
 ·rcases w with w|w;·show wpAny_loadName_cell X.eO w Z ⟨S,W,b⟩ h
  ·show wpAny_loadName_free X.eO w Z ⟨S,W,b⟩ h i
def KO(X:c9 G I)(g:jL J K G I H N L E.heap){M:aa}(V:I[a]?=some j)(T:L[a]?=some (some M)):wpAny (model O J) R (eval (.Name j i) G) (cJ H E M) Q E:=by show aB (KN (O:=O) (R:=R) (Q:=Q) X g V T) λF P w=> ?_;show wpAny_Name (w<|eU P) (Bl<|X.kQ j<|jC V).1
def bp.Rp{W:Obj->Obj}{M:Addr->Prop}{E:Shared}{G:Tok}{S:Obj}(L:E.heap.get? k=some S)(F:(W S).isFreed=false)(V:o k):bp H H o M E {E with heap:=E.heap.update k W,toks:=G}where
fc:=aX ([]) (by simp) (by simp);aF:=λI Q w _ J=>by have:=(lk E.heap W<|Ne.symm (λg=>J (g▸V):I≠k)).trans w;show⟨⟨Q.slots,this⟩,λ_=>this⟩
ir:=λI w=>by
 by_cases g:I=k;·subst g;rw[Heap.get?_update_self W L F];rfl
 ·change((E.heap.update k W).get? I).isSome=true;rw[Heap.get?_update_other E.heap W<|Ne.symm g];show w
iJ:=rfl;iX:=rfl;iK:=rfl
def jL.Rq(R:jL J K G I H N L E.heap){W:Obj->Obj}{S:Obj}{i:Tok}(n:iM G k)(c:E.heap.get? k=some S)(f:(W S).isFreed=false):br J K H N (E.heap.update k W)/\(∀{Q:aa}{F:Value},aE H E.heap Q F->aE H (E.heap.update k W) Q F)/\bp H H (·=k) o E {E with heap:=E.heap.update k W,toks:=i}:=by
 have e:bp H H (·=k) o E {E with heap:=E.heap.update k W,toks:=i}:=bp.Rp c f rfl;have m:∀{Q:aa}{F:Value},aE H E.heap Q F->aE H (E.heap.update k W) Q F:=λw=>pb R.aP (H:=(·=k)) ⟨λP V S w=>R.fT.n9 P (V▸n) S w⟩ e w;show fS ⟨λM p w=>(λM p T w=>(lk E.heap W<|Ne.symm T).trans w) M p (λO=>by rw[O,R.qY k n]at w;show bQ w)<|R.aP.cP M p w,R.aP.aZ,λY b U d q=> ?_,R.aP.j4,R.aP.qb⟩ m e;obtain Z:=R.aP.cI Y b U d q;have j:b.2≠k:=λO=>R.eK k n<|aX b (jC d) O;have l:b.1≠k:=λO=>by
  show aB Z.wm λh g a=> ?_;rcases a with a|a;·show j<|a.trans O
  ·rw[O,c]at g;obtain rfl:=bO g;show(R.fT.n9 k n S c).2 a
 show Z.iL m (lk E.heap W<|Ne.symm l)<|lk E.heap W<|Ne.symm j
def iu(G:Env)(g:Str)(H:Addr):Prop:=G.kindOf g=some .local/\H=G.locals\/(G.kindOf g=some .cell\/G.kindOf g=some .free)/\G.cells.lookup g=some H
def jL.mB(X:c9 G I)(M:jL J K G I H N L E.heap){Q:aa}(V:I[a]?=some j)(T:aE H E.heap Q d){W:Obj->Obj}{S:Obj}{h:Tok}(m:iM G k)(O:E.heap.get? k=some S)(c:(W S).isFreed=false) (q:KL (E.heap.update k W) G)(g:yJ (E.heap.update k W) G j d)(r:∀U p,U≠j->yJ E.heap G U p->yJ (E.heap.update k W) G U p):jL J K G I H N (L.set a<|some Q) (E.heap.update k W)/\bp H H (·=k) o E {E with heap:=E.heap.update k W,toks:=h}:=by
 show iI (M.Rq (o:=o) (i:=h) m O c) λn l b=> ?_;show⟨⟨n,q,M.qY,M.eK,λP U e f i=> ?_,by show List.length_set.trans M.aZ⟩,b⟩;by_cases w:P=a;·subst w;obtain rfl:=bO<|V.symm.trans f;obtain rfl:=bO<|bO<|(List.getElem?_set_self<|by show M.aZ▸(eD.mp V).1).symm.trans i;show aX d g<|l T
 ·rw[List.getElem?_set_ne<|Ne.symm w]at i;show aB (M.ae P U e f i) λp R Z=> ?_;show⟨p,r U p (λY=>w ?_) R,l Z⟩;show(List.getElem?_inj (eD.mp f).1 X.j4).mp<|f.trans<|Y▸V.symm
def uH(p:c9 G I)(W:jL J K G I H N L E.heap){e:aa}(V:I[a]?=some j)(T:aE H E.heap e d) (w:∀M,jL J K G I H N (L.set a<|some e) M.heap->bp H H (iu G j) o E M->t () M):wpAny (model O J) R (storeName G j d) t Q E:=by
 show iI (Bl<|p.kQ j<|jC V) λX5 X6 g=> ?_;rcases g with g|⟨g,Y,l⟩;·show(by
  intro o p W _ j e d _ V T g w;rw[storeName_local g<|by rw[p.eO];rfl];obtain⟨⟨B,x,X7,C⟩,i,b,h,XN,XU⟩:=W.gc.a;subst XN;show sF (Ff (j:=j) (H:=PyData.keyHash J.params j) (Q:=.str j E.toks) (d:=d) (M:=B) (Y:=x) (a:=b) (P:=C) ⟨_,rfl⟩ XU) λz r XW XO _ XX _=> ?_;show Kd h rfl XU ?_;have D:(Obj.putName j (PyData.keyHash J.params j) (.str j E.toks) d ⟨B,x,.dict i b,C⟩).isFreed=false:=by rw[XW];rfl
  have A:(E.heap.update G.locals<|Obj.putName j (PyData.keyHash J.params j) (.str j E.toks) d).get? G.locals=some ⟨B,x,.dict z r,C⟩:=by show XW▸t6 _ h D
  have X:=W.mB (o:=o) (h:=E.toks+1) p V T (.inl rfl) h D ⟨⟨_,z,r,A,rfl,XO⟩,λU Y k=> ?_⟩ (.sS g _ z r A rfl XO<|by rw[XX];simp) λU X0 XQ XR=> ?_;·show w _ X.1<|X.2.cZ (λX2 _ P=>.inl ⟨g,P⟩) λ_ _ XS=>XS
  ·obtain⟨S,e,q,m⟩:=W.gc.B U Y k;show⟨S,e,(lk _ _<|Ne.symm<|p.uG U Y k).trans q,m⟩
  ·rcases XR with⟨Z,S,XY,XZ,q,m,s,XT⟩|⟨Z,Y,S,q,m,s⟩;·replace q:=h.symm.trans q;obtain rfl:=bO q;cases m;show .sS Z _ z r A rfl XO ?_;rw[XX,if_neg XQ];show XT
   ·show .inr Z Y S q ((lk _ _<|Ne.symm<|p.uG U Y<|oQ q).trans m) s:∀{o}(p:c9 G I)(W:jL J K G I H N L E.heap){a j e d t}(V:I[a]?=some j)(T:aE H E.heap e d)(g:G.kindOf j=some .local)(w:∀M,jL J K G I H N (L.set a<|some e) M.heap->bp H H (iu G j) o E M->t () M),wpAny (model O J) R (storeName G j d) t Q E) p W V T g w
 ·obtain P:storeName G j d=cellOf G j>>=λY=>cellSet Y<|some d:=by delta storeName;rcases g with g|g<;>rw[g,p.eO]<;>rfl
  show P▸b0 (wpAny_cellOf l<|(by
  intro o p W _ j Y e d _ V T g l w;have k:=oQ l;obtain⟨S,X8,h,XN⟩:=W.gc.B j Y k;show b0<|wpAny_load h ?_;show XN▸wpAny_update h ?_;obtain D:({S with data:=.cell<|some d}:Obj).isFreed=false:=rfl;obtain A:=t6 (λS:Obj=>{S with data:=.cell<|some d}) h D;have X:=W.mB (o:=o) (W:=λS=>{S with data:=.cell<|some d}) (h:=E.toks) p V T (.inr ⟨j,k⟩) h D ⟨?_,λU y X3=> ?_⟩ (.inr g Y _ l A rfl) λU X0 XQ XR=> ?_;·show w _ X.1<|X.2.cZ (λX2 _ P=>.inr ⟨g,P▸l⟩) λ_ _ XS=>XS
  ·obtain⟨u,i,b,q,m,s⟩:=W.gc.a;show⟨u,i,b,(lk _ _<|p.uG j Y k).trans q,m,s⟩
  ·by_cases P:y=Y;·clear h;subst P;show⟨_,_,A,rfl⟩
   ·obtain⟨u,e,q,m⟩:=W.gc.B U y X3;show⟨u,e,(lk _ _<|Ne.symm P).trans q,m⟩
  ·rcases XR with⟨Z,u,XY,XZ,q,m,s,XT⟩|⟨Z,y,u,q,m,s⟩;·show .sS Z u XY XZ ((lk _ _<|p.uG j Y k).trans q) m s XT
   ·show .inr Z y u q ((lk _ _<|Ne.symm (λX4=>XQ (name_of_addr p.KJ (oQ q)<|X4▸k):y≠Y)).trans m) s:∀{o}(p:c9 G I)(W:jL J K G I H N L E.heap){a j Y e d t}(V:I[a]?=some j)(T:aE H E.heap e d)(g:G.kindOf j=some .cell\/G.kindOf j=some .free)(l:G.cells.lookup j=some Y)(w:∀M,jL J K G I H N (L.set a<|some e) M.heap->bp H H (iu G j) o E M->t () M),wpAny (model O J) R (cellSet Y<|some d) t Q E) p W V T g l w)
end
noncomputable def eB(N:List Env):List Addr:=N.filterMap (·.frame)
abbrev bR:Addr->Prop:=λ_=>False
inductive KP(w:Heap)(H:Addr)(O:Int)(K:Addr)(G:Value):Prop|mk (Q:_) (g:_) (Y:_) (F:_) (E:_) (I:_) (U:_) (J:_) (V:_):w.get? H=some Q->Q.cls=.ref fK->Q.data=.fields g->g[1]?=some (.ref K)->Q.dict=some Y->w.get? Y=some F->F.data=.dict E I->StrKeys E->nsFind E sL=some (.int O U)->K≠H->w.get? K=some J->J.data=.fields V->V[3]?=some G->KP w H O K G
inductive Rr(Q:Heap)(g:aG)(w:Heap)(K:Env):Prop|mk (N:K.scope.kind≠.module) (T:Addr) (H:K.frame=some T) (W:Q.get? T=none) (F:¬eT g T) (S:Obj) (U:Array DictEntry) (O:Nat) (E:w.get? T=some S) (G:S.data=.dict U O)
def jM(Q:Heap)(g:aG)(w:Heap)(N:List Env):Prop:=∀K∈N,Rr Q g w K
inductive iN(R:World)(Q:Heap)(w:aG)(g:Shared)(X:Addr->Prop)(N:List Env)(O:Int)(J:ag)(E:Value)(G:Shared):Prop|mk (H:_) (K:_) (T:_):E=.ref H->br R Q T J G.heap->bp w T X (·∈eB N) g G->jM Q T G.heap N->KP G.heap H O K .none->Q.get? H=none->Q.get? K=none->g.heap.get? H=none->g.heap.get? K=none->iN R Q w g X N O J E G
section
variable{U:World}{I:Heap}{M K Q O:aG}{V R:ag}{T J L N:Shared}{S:Addr->Prop}{G:List Env}{H:Int}{E:Value}
def jM.bK(W:jM I M T.heap G)(X:bp M K bR o T J):jM I K J.heap G:=λO L=>by show eA λV Q=> ?_;obtain⟨N,a,g,F,P,S,U,H,R,Z⟩:=W O L;obtain⟨⟨w,E⟩,_⟩:=X.aF a S R P λY=>Y;show Q ?_;show⟨N,a,g,F,X.o9 R P,_,U,H,E,Z⟩
def jM.Fl(W:jM I M h G)(F:h.get? k=none):k∉eB G:=λN=>by show aB (PL.mp N) λK L E=> ?_;obtain⟨_,T,g,_,_,S,U,H,w,_⟩:=W K L;rw[E]at g;obtain rfl:=bO g;rw[F]at w;show bQ w
def jM.eO{S:Obj}(W:jM I M h G)(J:h.get? k=some S)(O:∀U H,S.data≠.dict U H):k∉eB G:=λN=>by show aB (PL.mp N) λK L E=> ?_;obtain⟨_,T,g,_,_,R,U,H,w,F⟩:=W K L;rw[E]at g;obtain rfl:=bO g;rw[J]at w;obtain rfl:=bO w;show O U H F
def iN.cP(V:bp Q O S (·∈eB G) L N)(w:iN U I O N bR G H R E J):iN U I Q L S G H R E J:=by
 obtain⟨F,T,K,rfl,Z,d,W,g,X,a,b,c⟩:=w;obtain e:∀M,N.heap.get? M=none->L.heap.get? M=none:=λM I=>by
  rcases E:L.heap.get? M with _|P;·rfl
  ·have:=V.ir M (by rw[E];rfl);rw[I]at this;show Bool.noConfusion this
 show⟨F,T,K,rfl,Z,V.aC<|d.cZ (λ_ _ Y=>Y.elim) λ_ _ Y=>Y,W,g,X,a,e F b,e T c⟩
end
def bp.uI{P Q:aG}{M:Addr->Prop}{R:Shared}(G:bp P Q o M R f)(N:∀H S,(R.heap.get? H).isSome=true->f.heap.get? H=some S->x.heap.get? H=some S)(O:x.gens=f.gens)(Y:x.drawn=f.drawn)(Z:x.os=f.os):bp P Q o M R x:=by
 show⟨G.fc,λH S L F V=> ?_,λH J=> ?_,O.trans G.iJ,Y.trans G.iX,Z.trans G.iK⟩
 ·obtain⟨⟨U,E⟩,g⟩:=G.aF H S L F V;have w:(R.heap.get? H).isSome=true:=by rw[L];rfl
  show⟨⟨U,N H _ w E⟩,λK=>N H _ w<|g K⟩
 ·obtain⟨I,T⟩:=xW.mp<|G.ir H J;rw[N H I J T];rfl
structure ay(R:World)(Q:Heap)(G:aG)(H:Shared)(I:Addr->Prop)(N:List Env)(E:Env)(Z:List Str)(w:aG)(g:ag)(F:ak)(K:Shared):Prop where
a:jL R Q E Z w g F K.heap
eB:jM Q w K.heap N
cP:bp G w I (·∈Mine.Internal.eB N) H K
section
variable{I:World}{H:Heap}{E M O:aG}{L J:ag}{G K Q:Shared}{R:Addr->Prop}{N:List Env}{S:Env}{U:List Str}{T V:ak}
def ay.bK(g:ay I H O Q R N S U E L T G)(F:br I H M J K.heap)(w:bp E M bR (·∈Mine.Internal.eB N) G K):ay I H O Q R N S U M J T K:=⟨g.a.bK F w,g.eB.bK w,g.cP.aC<|w.cZ (λ_ _ Y=>Y.elim) λ_ _ Y=>Y⟩
def ay.aF(g:ay I H O Q R N S U E L T G)(w:cN G K):ay I H O Q R N S U E L T K:=g.bK (g.a.aP.aF w)<|w.bK E _ _
def ay.lR(g:ay I H O Q R N S U E L T G)(w:Nat):ay I H O Q R N S U E L T {G with toks:=w}:=g.aF<|cN.lR G w
theorem fU{Q:aa}(Z:br I H E L G.heap)(g:bp E M bR o G K)(w:aE E G.heap Q d):aE M K.heap Q d:=pb Z pd g w
theorem Fm{Q:List aa}(Z:br I H E L G.heap)(g:bp E M bR o G K)(w:bh E G.heap Q l):bh M K.heap Q l:=uC Z pd g w
inductive jf{X O:Type}(I:World)(H:Heap)(F:Addr->Prop)(N:aG->Heap->X->O->Prop)(E:aG)(G:Shared)(L:aI X)(J:ag)(w:O)(K:Shared):Prop|mk (g:_) (M:_):L=.ai g->br I H M J K.heap->bp E M bR F G K->N M K.heap g w->jf I H F N E G L J w K
abbrev mG(I:World)(H:Heap)(M:Addr->Prop)(E:aG)(G:Shared)(L:aI aa)(J:ag):Value->Shared->Prop:=jf I H M aE E G L J
abbrev afl(I:World)(H:Heap)(M:Addr->Prop)(E:aG)(G:Shared)(L:aI<|List aa)(J:ag):List Value->Shared->Prop:=jf I H M bh E G L J
abbrev uJ(I:World)(H:Heap)(M:Addr->Prop)(E:aG)(G:Shared)(L:aI Bool)(J:ag):Bool->Shared->Prop:=jf I H M (λ_ _ g w=>g=w) E G L J
def cJ.fV(Z:br I H E L G.heap){Q:aa}(w:cJ E G Q d K):mG I H o E G (.ai Q) L d K:=⟨Q,E,rfl,Z.aF w.1,w.1.bK E _ _,w.2⟩
def jJ.fV{Q:aa}(w:jJ I H E J G Q d K):mG I H o E G (.ai Q) J d K:=by obtain⟨M,g,F,L⟩:=w;show⟨Q,M,rfl,g,F _ _,L⟩
def jf.eV{S:aG->Heap->e->m->Prop}{L:aI e}{O:m}(R:bp E M bR o G K)(w:jf I H o S M K L J O f):jf I H o S E G L J O f:=by obtain⟨F,N,g,P,W,Q⟩:=w;show⟨F,N,g,P,R.aC W,Q⟩
def jf.Rb{F:aG->Heap->e->m->Prop}{L:aI e}{g:m}(w:jf I H o F E {G with toks:=a} L J g f):jf I H o F E G L J g f:=jf.eV (bp.lR E _ _ G a) w
def yK(I:World)(H:Heap)(O:aG)(Q:Shared)(R:Addr->Prop)(N:List Env)(L:aI e)(J:ag)(w:Value->Shared->Prop):Prop:=∀g E K,L=.cR g->iN I H O Q R N g J E K->w E K
inductive KQ{X w:Type}(N:af X)(W:X->af w)(L:ag)(g:aI w)(J:ag):Prop|mk (E:aI X) (M:ag):N L=some (E,M)->(∀O,E=.cR O->g=.cR O/\J=M)->(∀H,E=.ai H->W H M=some (g,J))->KQ N W L g J
def af.fW{F:af e}{W:e->af m}{L J:ag}{g:aI m}(w:af.aN F W L=some (g,J)):KQ F W L g J:=by
 unfold af.aN at w;rcases E:F L with _|X;·obtain w:=E▸w;show cq w
 ·obtain⟨G|O,M⟩:=X<;>replace w:=E▸w;·show⟨.ai G,M,E,nofun,λI Y=>aI.ai.inj Y▸w⟩
  ·obtain⟨rfl,rfl⟩:=dT w;show⟨.cR O,_,E,λN Y=>⟨congrArg aI.cR<|aI.cR.inj Y,rfl⟩,nofun⟩
def yK.cg{L:aI m}{T:aI e}{J M:ag}(P:yK I H O Q R N L J b)(w:∀F,T=.cR F->L=.cR F/\J=M):yK I H O Q R N T M b:=λF E K S W=>by obtain⟨g,G⟩:=w F S;show P F E K g<|G▸W
end
noncomputable def qZ(E:PySem.Expr)(O:Nat):Bool:=Nat.beq E.ctorIdx O
def dy(E:PySem.Expr):Bool:= !qZ E 22
noncomputable def yL:List Str:=["len","isinstance","int","str","tuple","ord","chr","abs","list","range","dict","repr"]
def Bm:List Str:=Qs.map Str.ofString
def q0:List Str:=Qr.map Str.ofString
def KR:List Str:=E9.map Str.ofString
def og:List Str:=Qp.map Str.ofString
structure bL where
dD:Program
cf:World
bH:Heap
iY:Frag
uK:Nat->Addr
call:aW
qe:Nat
yM:aG
gE:Shared
wy:Addr->Prop
oh:List Env
bV:Around
def Fn(S:Program)(R:World)(H:Heap)(U:Nat->Addr)(F:aW)(Y:Nat):Prop:=∀(W:Nat)(I:List aa)(g:ag)(L:aI aa)(J:ag),F W I g=some (L,J)->∀(P:Around)(w:aG)(K:Shared)(T:List Value)(N:List Env)(Z:Result->Shared->Prop),br R H w g K.heap->bh w K.heap I T->jM H w K.heap N->P.handled=none->P.frames=some N->P.guards=some []->P.depth+2*Y+3<recursionLimit->P.units+8*Y+56<cLine->(∀Q M G,L=.ai Q->mG R H (·∈eB N) w K L J M G->Z (.ok<|.ret M) G)->(∀O E G,L=.cR O->iN R H w K bR N O J E G->Z (.error E) G)->codeAny (model S R) P (.call (.ref<|U W) ⟨T,[]⟩) Z K
structure Bn(S:Program)(R:World)(g:Heap)(T:Frag)(J:Nat->Addr):Prop where
q9:yG T J
mH:uF T
V:T.In g
KU:(g.get? sysModules).isSome=true
KV:g.NoLimit
kQ:∃E w,g.Ns mainGlobals E/\g.Ns builtinsNs w/\(∀(O:Nat) G Q,Bm[O]?=some G->aw.p[O]?=some Q->∃F,E G=some F/\aE [] g Q F)/\(∀(W:Nat) G,og[W]?=some G->G.cps.toList.contains 46=false->E G=some (.ref<|J W))/\(∀(M:Nat) G,q0[M]?=some G->E G=some (.ref<|dP M))/\∀G Q,bootBuiltins G=some Q->G∈yL->E G=none/\w G=some Q
KW:∀(W:Nat) G,og[W]?=some G->keepIn T (.ref<|J W)=true
KX:∀(M:Nat) G,q0[M]?=some G->keepIn T (.ref<|dP M)=true
structure bL.dn(g:bL):Prop where
bH:Bn g.dD g.cf g.bH g.iY g.uK
call:Fn g.dD g.cf g.bH g.uK g.call g.qe
M:g.bV.handled=none
wz:g.bV.frames=some g.oh
Bo:g.bV.guards=some []
jG:g.bV.depth+2*g.qe+4<recursionLimit
yN:g.bV.units+8*g.qe+60<cLine
abbrev bL.bS(M:bL):Addr->Prop:=(·∈eB M.oh)
abbrev bL.ay(M:bL)(E:Env)(Z:List Str)(w:aG)(g:ag)(F:ak)(K:Shared):Prop:=Mine.Internal.ay M.cf M.bH M.yM M.gE M.wy M.oh E Z w g F K
abbrev bL.iC(M:bL)(L:aI e)(J:ag)(I:Value->Shared->Prop):Prop:=yK M.cf M.bH M.yM M.gE M.wy M.oh L J I
abbrev bL.cL(M:bL)(U:Sem e)(L:e->Shared->Prop)(I:Value->Shared->Prop)(K:Shared):Prop:=wpAny (model M.dD M.cf) M.bV U L I K
def Bp(M:bL)(H:Env)(Z:List Str)(E:PySem.Expr)(G:au):Prop:=∀(w:aG)(g:ag)(F:ak)(K:Shared)(L:aI aa)(J:ag)(I:Value->Shared->Prop),M.ay H Z w g F K->cG aw M.call G F g=some (L,J)->M.iC L J I->M.cL (eval E H) (mG M.cf M.bH M.bS w K L J) I K
def Fo(M:bL)(H:Env)(Z:List Str)(E:PySem.Expr)(G:au):Prop:=∀(w:aG)(g:ag)(F:ak)(K:Shared)(L:aI Bool)(J:ag)(I:Value->Shared->Prop),M.ay H Z w g F K->af.aN (cG aw M.call G F) lr g=some (L,J)->M.iC L J I->M.cL (isTrue E H<|eval E H) (uJ M.cf M.bH M.bS w K L J) I K
structure aQ(M:bL)(K:Env)(Z:List Str)(E:PySem.Expr)(G:au):Prop where
bw:Bp M K Z E G
ig:Fo M K Z E G
inductive hU{X O:Type}(P:X->O->Prop):List X->List O->Prop|nil:hU P [] []|cons {H:X} {I:O} {F:List X} {N:List O}:P H I->hU P F N->hU P (H::F) (I::N)
def hU.jI{P:e->m->Prop}{F:List e}{N:List m}(w:hU P F N):F.length=N.length:=by induction w with|nil=>rfl|cons _ _ S=>simp[S]
section
variable{E:bL}{I:Env}{M:List Str}{J:aG}{G L:ag}{K:ak}{H:Shared}
def dp{i:au}{W:aa->af e}{P:aI e}(V:E.ay I M J G K H)(Y:Bp E I M c i)(w:af.aN (cG aw E.call i K) W G=some (P,L))(d:E.iC P L b) (N:∀Q F S R f,W Q f=some (P,L)->E.ay I M S f K R->bp J S bR E.bS H R->aE S R.heap Q F->s F R):E.cL (eval c I) s b H:=by obtain⟨O,f,U,Z,a⟩:=af.fW w;show dH (Y J G K H O f b V U<|d.cg Z) (λF R X=> ?_) λ_ _ g=>g;clear U;clear Z;obtain⟨Q,S,rfl,j,h,T⟩:=X;show N Q F S R f (a Q rfl) (V.bK j h) h T
def sT{k:au}{W:Bool->af e}{U:aI e}{i:Bool->Shared->Prop}(V:E.ay I M J G K H)(Y:Fo E I M c k)(w:af.aN (af.aN (cG aw E.call k K) lr) W G=some (U,L))(f:E.iC U L b) (N:∀P S R h,W P h=some (U,L)->E.ay I M S h K R->bp J S bR E.bS H R->i P R):E.cL (isTrue c I<|eval c I) i b H:=by obtain⟨O,h,Z,a,d⟩:=af.fW w;show dH (Y J G K H O h b V Z<|f.cg a) (λF R X=> ?_) λ_ _ g=>g;clear Z;clear a;obtain⟨Q,S,rfl,l,j,T⟩:=X;subst T;show N Q S R h (d Q rfl) (V.bK l j) j
def af.wA(N:af e)(W:e->af m)(O:m->af B):af.aN (af.aN N W) O=af.aN N λH=>af.aN (W H) O:=by
 funext G;unfold af.aN;rcases N G with _|X;·rfl
 ·obtain⟨L,T⟩:=X;induction L<;>rfl
theorem af.afm(H:e)(W:e->af m):af.aN (af.bg H) W=W H:=rfl
def om{N:af e}{W:e->af m}{O:m->af B}{Y:Option<|aI B×ag}(w:af.aN (af.aN N W) O G=Y):af.aN N (λH=>af.aN (W H) O) G=Y:=(congrFun (af.wA N W O) G).symm.trans w
def Rt{N:af e}{W:e->af m}{O:m->af B}{Y:Option<|aI B×ag}(w:af.aN N (λH=>af.aN (W H) O) G=Y):af.aN (af.aN N W) O G=Y:=(congrFun (af.wA N W O) G).trans w
def Bq{F:Type}{E:af e}{N:e->af m}{O:m->af B}{W:B->af F}{Y:Option<|aI F×ag}(w:af.aN (af.aN E λg=>af.aN (N g) O) W G=Y):af.aN (af.aN E N) (λI=>af.aN (O I) W) G=Y:=by rw[<-w,af.wA,af.wA];congr 1;funext g;show(af.wA _ _ _).symm
def Fp{Q:aa}{W:Bool->af e}{Y:aI e×ag}(w:af.aN (lr Q) W G=some Y):∃I,Q=.bool I/\W I G=some Y:=by rcases Q with-|I|_|_|_|_|_|_<;>first|show cq w|show aX I rfl w
theorem aE.rb{I:Bool}(G:aE J h (.bool I) d):d=.bool I:=G.gb
def nD(w:n.all dy=true):backTo i (starEach n I)=n.map λE=>(false,eval E I):=by induction n with|nil=>rfl|cons E L S=>
simp only[List.all_cons,Bool.and_eq_true]at w;obtain g:starEach (E::L) I=(false,eval E I)::starEach L I:=by rcases E with-|-<;>first|rfl|(cases w.1)
simp only[g,List.map_cons,<-S w.2];rfl
def Fq{Z:List au}(q:hU (aQ E I M) n Z):∀{J:aG}{G:ag}{H:Shared}{W:List aa->af e}{P:aI e}{b:Value->Shared->Prop}{h:List Value->Shared->Prop},E.ay I M J G K H->af.aN (kN aw E.call Z K) W G=some (P,L)->E.iC P L b->(∀Y g f R d,W Y d=some (P,L)->E.ay I M f d K R->bp J f bR E.bS H R->bh f R.heap Y g->g.length=n.length->h g R)->E.cL (spliced<|n.map λO=>(false,eval O I)) h b H:=by induction q with|nil=>intro J G H W P b h V w c N;show t7<|N [] [] J H G w V (bp.n8 ..) .nil rfl|cons s _ S=>intro J G H W P b h V w c N;show oR<|dp V s.bw (om w) c λQ F f R d X U i T=> ?_;show S U (om X) c λY g l j m a k o r p=> ?_;show N (Q::Y) (F::g) l j m a k (i.aC o) (.cons (fU U.a.aP o T) r)<|by simp[p]
def sU{S:aG}{M:ag}{Q:aa}{U:Sem Value}(g:bp J S bR E.bS H f)(Z:br E.cf E.bH S M f.heap)(w:E.cL U (cJ S f Q) b f):E.cL U (mG E.cf E.bH E.bS J H (.ai Q) M) b f:=dH w (λ_ _ O=>(O.fV Z).eV g) λ_ _ G=>G
def Br{S:aG}{M:ag}{Q:aa}{U:Sem Value}(g:bp J S bR E.bS H f)(w:E.cL U (jJ E.cf E.bH S M f Q) b f):E.cL U (mG E.cf E.bH E.bS J H (.ai Q) M) b f:=dH w (λ_ _ O=>O.fV.eV g) λ_ _ G=>G
end
section
set_option tactic.hygienic true
noncomputable def eP(Z:Scope)(G:Str):Bool:=Z.names.lookup G==some .globalImplicit&&G !=("__debug__":Str)
def KY(E:PySem.Expr):Bool:=qZ E 26
noncomputable def Ru:PySem.Expr->Option (PySem.Expr×List PySem.Expr)|.Call W U _ _=>some (W,U)|_=>none
def lU(E:PySem.Expr):Bool:=match Ru E with|some (W,U)=> !qZ W 23|| !U.isEmpty|none=>true
theorem KZ{K:Env}{R:Sem Value}(I:lU c=true):attributeBase c j K R=R:=by
 rcases c with-|-<;>first|rfl|skip
 rename_i W U V X;rcases W with-|-<;>first|rfl|skip
 induction U<;>first|rfl|show Bool.noConfusion I
section
variable{E:bL}{G:Env}{H:List Str}
def wB(w:eP G.scope j=true):G.kindOf j=some .globalImplicit/\(j==("__debug__":Str))=false:=by unfold eP at w;rw[Bool.and_eq_true,beq_iff_eq]at w;show⟨w.1,by simpa using w.2⟩
def gF{e:au}(b:∀i,isTrue c G i=do let Q<-i;standAt c.pos;holding [Q]<|truthy Q)(Y:Bp E G H c e):aQ E G H c e:=⟨Y,(by
intro _ _ b Y;show λN g F K L J P V w a=>by rw[b];show b0<|dp V Y w a λQ Z S d M O U W T=>b0<|Ax<|qJ ?_;show cC ((by
intro _ _ Q _ w;rcases Q with-|I|_|_|_|_|_|_<;>first|(show cq w;done)|skip
obtain⟨X,R⟩:=cS w;show cO I rfl X R:∀{g J:ag}{Q L}(w:lr Q g=some (L,J)),∃I,Q=.bool I/\L=.ai I/\J=g) O) λI X R f=> ?_;have h:=(X▸T).rb;subst h;show xX ⟨I,S,R,f▸U.a.aP,W,rfl⟩:∀{c e}(b:∀i,isTrue c G i=do let Q<-i;standAt c.pos;holding [Q]<|truthy Q)(Y:Bp E G H c e),Fo E G H c e) b Y⟩
def Rv:aQ E G H (.Constant .none a i) .none:=gF (λ_=>rfl) λN g F K L J I V w O=>by clear O;obtain⟨M,rfl⟩:=dT w;show M▸eM (cJ.fV V.a.aP<|eU .none)
def Rw{I:Bool}:aQ E G H (.Constant (.bool I) a i)<|.bool I:=gF (λ_=>rfl) λN g F K L J O V w P=>by clear P;obtain⟨M,rfl⟩:=dT w;show M▸eM (cJ.fV V.a.aP<|eU<|.bool I)
def Rx{J:Int}:aQ E G H (.Constant (.int J) a i)<|.int J:=gF (λ_=>rfl) λN g F K L O I V w P=>by clear P;obtain⟨M,rfl⟩:=dT w;show M▸PM (cJ.fV V.a.aP<|kq<|.int J _)
def Ry:aQ E G H (.Constant (.str j) a i)<|.str j:=gF (λ_=>rfl) λN g F K L J I V w O=>by clear O;obtain⟨M,rfl⟩:=dT w;show M▸Constant_str (cJ.fV V.a.aP<|kq<|.str j _)
def Fs{F:ak}{g J:ag}{L:aI aa}(w:oY F a g=some (L,J)):∃Q,F[a]?=some (some Q)/\L=.ai Q/\J=g:=by
 unfold oY at w;generalize F[a]?=S at w;rcases S with-|(-|Q);·show cq w
 ·show cq w
 ·obtain⟨E,R⟩:=cS w;show cO Q rfl E R
mutual noncomputable def Bs:aa->Bool|.none|.bool _|.int _|.str _=>true|.tup F=>wC F|_=>false noncomputable def wC:List aa->Bool|[]=>true|Q::L=>Bs Q&&wC L end
def Rz:wC aw.p=true:=by decide+kernel
def RA{F:List aa}:∀{J:Nat}{Q:aa},wC F=true->F[J]?=some Q->Bs Q=true:=by induction F with|nil=>show λ_ E=>bQ E|cons R F S=>intro J Q w E;have w:=iG.mp w;induction J using Nat.casesOn with|zero=>show jZ E▸w.1|succ J=>show S w.2 E
def bL.ay.qf{I:aG}{g:ag}{F:ak}(V:E.ay G H I g F f)(w:E.bH.Ns k C):f.heap.Ns k C:=by show sG w λS U O J W=> ?_;show qS S U O (V.a.aP.cP _ _ J) W
def RB(m:E.dn)(o:c9 G H)(X:eP G.scope j=true)(d:Bm[a]?=some j):aQ E G H (.Name j i)<|.bE a:=gF (λ_=>rfl) λR g F K L W b V w f=>by clear f;show cC (j3 w) ?_;clear w;rintro Q T rfl rfl;obtain⟨h,O⟩:=wB X;show lO m.bH.kQ λr q s t p _=> ?_;show aB (p a j Q d T) λe M l=> ?_;show Ay o.eO h (loadGlobal_global (mg:=r) (by show o.bE▸V.qf s) M ?_) O;show cJ.fV V.a.aP<|eU<|(by intro c w R N Q e k j;show((by intro _ w R N Q e k j;show bh.rec (motive_1:=λQ e _=>Bs Q=true->aE R w Q e) (motive_2:=λF n _=>wC F=true->bh R w F n) (λ_=>.none) (λI _=>.bool I) (λJ U _=>.int J U) (λj U _=>.str j U) (λU _ Z k=>.tup (U.elim λS Y=>aX S (N _ S Y.1) Y.2)<|Z k) (λ_ _ _ _ k=>Bool.noConfusion k) (λ_ k=>Bool.noConfusion k) (λ_ _ k=>Bool.noConfusion k) (λ_=>.nil) (λ_ _ P I k=>have k:=iG.mp (k:(_&&_)=true);.cons (P k.1)<|I k.2) j k:∀{c w R}(N:∀P S,c.get? P=some S->w.get? P=some S){Q e}(k:wC Q=true)(j:bh [] c Q e),bh R w Q e) N (Q:=[Q]) (iG.mpr ⟨k,rfl⟩)<|.cons j .nil).jG:∀{c w R}(N:∀P S,c.get? P=some S->w.get? P=some S){Q e}(k:Bs Q=true)(j:aE [] c Q e),aE R w Q e) (R:=R) V.a.aP.cP (RA Rz T) l
def Bt(w:a<=1000):a<=sizeLine:=by have:ng<=sizeLine:=sO aH;show aq w<|aq (by decide) this
def K4{w:aG}{g:ag}{F:List aa}(Z:br E.cf E.bH w g f.heap)(G:bh w f.heap F l):cJ w f (.tup F) (.ref f.heap.objs.size) {f with heap:=f.heap.push {cls:=.type "tuple",data:=.seq l.toArray}}:=by obtain T:=cN.gq f {cls:=.type "tuple",data:=.seq l.toArray};show⟨T,.tup ⟨_,my _ rfl,rfl,0,rfl⟩<|uC Z pd (T.bK w bR E.bS) G⟩
def RC{Z:List au}(P:n.all dy=true)(X:n.length<=1000)(Q:hU (aQ E G H) n Z):aQ E G H (.Tuple n a i)<|.tup Z:=gF (λ_=>rfl) λN g F K L J I V w b=>by show wpAny_Tuple ?_;rw[nD P];show Fq Q V w b λY c S R M O U W T d=>⟨Bt<|d▸X, ?_⟩;clear b;clear w;show eZ (dT O) ?_;clear O;rintro rfl rfl;show((K4 U.a.aP T).fV U.a.aP).eV W
def RD{e:List au}(X:n.all dy=true)(a:n.length<=1000)(Q:hU (aQ E G H) n e):aQ E G H (.List n i)<|.list e:=gF (λ_=>rfl) λN g F K L J I V w b=>by show wpAny_List ?_;rw[nD X];show Fq Q V w b λY c S R M P U d T f=>⟨Bt<|f▸a, ?_⟩;clear b;clear w;show eZ (dT P) ?_;clear P;rintro rfl rfl;show((by intro _ _ K _ O Z T;show yI Z (v:=(K.heap.objs.size,K.heap.objs.size)) (cN.gq K {cls:=.type "list",data:=.seq O.toArray}) (nC _) λW=> ?_;show .list rfl (my _ rfl) (T.iL W):∀{N g K F O}(Z:br E.cf E.bH N g K.heap)(T:bh N K.heap F O),jJ E.cf E.bH N (g++[.list F]) K (.ref g.length) (.ref K.heap.objs.size) {K with heap:=K.heap.push {cls:=.type "list",data:=.seq O.toArray}}) U.a.aP T).fV.eV d
def RE{r:fg}{t O:au}(x:aQ E G H c t)(z:aQ E G H p O):aQ E G H (.BinOp c (qc r) p i)<|.bin r t O:=gF (λ_=>rfl) λP g F K L XQ I V w k=>by show wpAny_BinOp<|dp V x.bw w k λQ XR XS XT XU a m o f=> ?_;show dp m z.bw a k λXW XX XY XZ X0 W s u A=> ?_;clear k;clear w;clear a;show cC (j3 W) ?_;clear W;rintro N e rfl rfl;show sU (o.aC u) s.a.aP<|(by
intro _ _ _ _ _ _ _ _ r N _ _ _ Q Z e Y w;have D:∀{X:Type}{S:Option X}{Q:X},(bif D6 r then S else none)=some Q->r=.cV/\S=some Q:=λ{X S Q} w=>by induction r using fg.casesOn<;>first|show⟨rfl,w⟩|show bQ w
rcases N with-|_|c|c|F|_|_|_<;>first|(show cq w;done)|skip
·obtain⟨p,M,w⟩:=nA w;rw[M]at Y;obtain⟨U,M⟩:=e.hR;obtain⟨q,j⟩:=Y.hR;rw[M,j];show QG w
·obtain⟨p,M,w⟩:=pY w;obtain⟨h,w⟩:=D w;rw[M]at Y;obtain⟨U,M⟩:=e.hJ;obtain⟨q,j⟩:=Y.hJ;simp only[M,j,h];show QF w
·obtain⟨X2,M,w⟩:=Qw w;obtain⟨h,w⟩:=D w;obtain⟨b,B⟩:=je w;rw[M]at Y;obtain⟨c,E,M,l,f⟩:=e.lT;obtain⟨p,X3,j,C,n⟩:=Y.lT;rw[M,j,h,<-B];show QN l f C n (oW.mp b) λT L=>L.aF Z T:∀{y:Program}{R:World}{XN:Heap}{XO:Around}{I:Value->Shared->Prop}{P:aG}{g:ag}{K:Shared}{r N d J v Q}(Z:br R XN P g K.heap)(e:aE P K.heap N J)(Y:aE P K.heap d v)(w:f9 r N d=some Q),wpAny (model y R) XO (binaryOp (qc r) J v) (cJ P K Q) I K) s.a.aP (fU m.a.aP u f) A e
def RF{e:au}(f:aQ E G H c e):aQ E G H (.UnaryOp .USub c i)<|.vX e:=gF (λ_=>rfl) λO g F K L P I V w a=>by show UnaryOp_<|dp V f.bw w a λQ Z S b M X d W T=> ?_;show aB (pZ X) λJ N X=> ?_;obtain⟨Y,R⟩:=cS X;obtain⟨U,N⟩:=(N▸T).hR;simp only[N,Y,R];show PySem.P.neg_int<|((kq<|.int _ _).fV d.a.aP).eV W
def RG{d:au}(e:aQ E G H c d):aQ E G H (.UnaryOp .Not c i) (.not d)where
bw:=λO g F K L J X V w a=>by show UnaryOp_<|dp V e.bw w a λQ Z S b M P U W T=> ?_;show aB (Fp P) λI N P=> ?_;obtain⟨Y,R⟩:=cS P;simp only[(N▸T).rb,Y,R];show not_of<|xX<|((eU<|.bool _).fV U.a.aP).eV W
ig:=λO g F K L J X V w a=>by show isTrue_not<|sT V e.ig (Bq w) a λI S b M P U W=> ?_;obtain⟨Y,R⟩:=cS P;show⟨_,S,Y,R▸U.a.aP,W,rfl⟩
def K5{l O:au}{W:aa->aa->af e}{M:aG}{g J:ag}{F:ak}{L:aI e}{a:Value->Value->Shared->Prop}(V:E.ay G H M g F f)(m:aQ E G H c l)(n:aQ E G H p O) (w:af.aN (cG aw E.call l F) (λI=>af.aN (cG aw E.call O F) λU=>W I U) g=some (L,J))(K:E.iC L J b) (N:∀I d U X Q i k,W I U k=some (L,J)->E.ay G H Q k F i->bp M Q bR E.bS f i->aE Q i.heap I d->aE Q i.heap U X->a d X i):E.cL (eval c G) (λr R=>E.cL (eval p G) (λq i=>a r q i) b R) b f:=dp V m.bw w K λ_ _ _ _ _ P Z h T=>dp Z n.bw P K λ_ _ _ _ _ Y j S o=>N _ _ _ _ _ _ _ Y j (h.aC S) (fU Z.a.aP S T) o
def K6{E:fF}{G U:aa}{g J:ag}{L:aI aa}(w:yk E G U g=some (L,J)):∃I,dK E G U g=some I/\L=.ai (.bool I)/\J=g:=by unfold yk at w;generalize dK E G U g=S at w;induction S with|none=>show cq w|some I=>obtain⟨rfl,rfl⟩:=dT w;show cO I rfl rfl rfl
def bL.dn.wD(N:E.dn):E.bV.units+1<cLine:=by have:=N.yN;show jB (ip bD aR) this
def cJ.rb{g:aG}{I:Bool}(O:cJ g f (.bool I) d x):d=.bool I/\cN f x:=⟨O.2.rb,O.1⟩
def Bu{g S:aG}{I:Bool}{U:Sem Value}{L:aI Bool}{M J:ag}(Z:br E.cf E.bH S M f.heap)(K:bp g S bR E.bS x f)(H:L=.ai I)(R:J=M)(O:E.cL U (cJ S f<|.bool I) b f):E.cL U (λF N=>E.cL (truthy F) (uJ E.cf E.bH E.bS g x L J) b N) b f:=dH O (λF P O=>by obtain⟨w,T⟩:=O.rb;rw[w,R];show xX ⟨I,S,H,Z.aF T,K.aC<|T.bK .. ,rfl⟩) λ_ _ G=>G
def K7{E:fF}{G U:aa}{g J:ag}{L:aI Bool}(w:af.aN (yk E G U) lr g=some (L,J)):∃I,dK E G U g=some I/\L=.ai I/\J=g:=by obtain w:dv (AS (dK E G U g) g) lr=some (L,J):=w;generalize dK E G U g=S at w;induction S with|none=>show cq w|some I=>obtain⟨rfl,rfl⟩:=dT w;show cO I rfl rfl rfl
def RH(j:E.dn){n:fF}{s O:au}(N:behindInMarks (nB n) c=false)(u:aQ E G H p s)(v:aQ E G H c O):aQ E G H (.Compare p [nB n] [c] i) (.d n s O)where
bw:=λZ g F K L J I V w e=>by show wpAny_Compare1 (K5 V u v w e λT k U X q m r W o t b Y=> ?_) N;show cC (K6 W) λQ P d R=> ?_;simp only[d,R];show sU t o.a.aP<|wo j.wD o.a.aP b Y P
ig:=λZ g F K L J I V w e=>by show PN (dp V u.bw (om w) e λT k S f M a h l b=>dp h v.bw (om a) e λU X q m r W o t Y=> ?_) N;show cC (K7 W) λQ P d R=> ?_;show Bu o.a.aP (l.aC t) d R<|wo j.wD o.a.aP (fU h.a.aP t b) Y P
def RI{b:au}(d:aQ E G H c b):aQ E G H (.Compare c [.Is] [.Constant .none a z] i) (.r b)where
bw:=λN g F K L J I V w T=>by show wpAny_Compare1 (dp V d.bw w T λM U Q X Z W Y S O=> ?_) rfl;obtain⟨P,R⟩:=cS W;rw[P,R];show eM<|sU S Y.a.aP<|J5 O
ig:=λN g F K L J I V w T=>by show PN (dp V d.bw (om w) T λM U Q X Z W Y S O=> ?_) rfl;obtain⟨P,R⟩:=cS W;show eM<|Bu Y.a.aP S P R<|J5 O
def RJ{b:au}(d:aQ E G H c b):aQ E G H (.Compare c [.IsNot] [.Constant .none a z] i) (.o b)where
bw:=λN g F K L J I V w T=>by show wpAny_Compare1 (dp V d.bw w T λM U Q X Z W Y S O=> ?_) rfl;obtain⟨P,R⟩:=cS W;rw[P,R];show eM<|sU S Y.a.aP<|J6 O
ig:=λN g F K L J I V w T=>by show PN (dp V d.bw (om w) T λM U Q X Z W Y S O=> ?_) rfl;obtain⟨P,R⟩:=cS W;show eM<|Bu Y.a.aP S P R<|J6 O
def RK{G:Option Bool}{W:af aa}{g J:ag}{L:aI aa}(w:Ef G g W=some (L,J)):∃I,G=some I/\(I=false->L=.ai (.bool false)/\J=g)/\(I=true->W g=some (L,J)):=by
 rcases G with-|(_|_);· show cq w
 · obtain⟨rfl,rfl⟩:=dT w;show cO false rfl (λ_=>⟨rfl,rfl⟩) nofun
 ·show cO true rfl nofun λ_=>w
def RL(j:E.dn){t I:fF}{P:PySem.Expr}{r o D:au}(N:lastMarks [nB t,nB I] [c,p]=false)(u:aQ E G H P r)(v:aQ E G H c o)(A:aQ E G H p D):aQ E G H (.Compare P [nB t,nB I] [c,p] i) (.uc t I r o D)where
bw:=λXN g XO XQ L J XR V w K=>by show Compare_chain (dp V u.bw w K λM XS XT XU XW X h l d=> ?_) N;show chain_link<|dp h v.bw X K λb XX Q XY q a n s Y=> ?_;obtain⟨U,F,k,m⟩:=RK a;show dH (wo j.wD n.a.aP (fU h.a.aP s d) Y F) (λXZ X0 O=> ?_) λ_ _ M=>M;obtain⟨S,T⟩:=O.rb;have z:=T.bK Q bR E.bS;rw[S];have y:=n.bK (n.a.aP.aF T) z;show xX ?_;induction U with|false=>rw[(k rfl).1,(k rfl).2];show((eU<|.bool false).fV y.a.aP).eV<|(l.aC s).aC z|true=>show chain_last<|dp y A.bw (m rfl) K λX2 X3 X4 X5 X6 f C B Z=> ?_;obtain⟨X7,F,e,R⟩:=K6 f;rw[e,R];show sU (((l.aC s).aC z).aC B) C.a.aP<|wo j.wD C.a.aP (fU y.a.aP B<|fU n.a.aP z Y) Z F
ig:=λXN g XO XQ L J XR V w K=>by show isTrue_chain (dp V u.bw (om w) K λM XS XT XU XW X h l d=> ?_) N;show test_link<|dp h v.bw (om X) K λb XX Q XY q a n s Y=> ?_;obtain⟨U,F,k,m⟩:=(by
intro M _ _ _ _ w;rcases M with-|(_|_);· show cq w
· obtain⟨rfl,rfl⟩:=dT w;show cO false rfl (λ_=>⟨rfl,rfl⟩) nofun
·show cO true rfl nofun λ_=>w:∀{M W g J L}(w:af.aN (λg=>Ef M g W) lr g=some (L,J)),∃c,M=some c/\(c=false->L=.ai false/\J=g)/\(c=true->af.aN W lr g=some (L,J))) (M:=dK t M b q) a;show dH (wo j.wD n.a.aP (fU h.a.aP s d) Y F) (λXZ X0 O=> ?_) λ_ _ M=>M;obtain⟨S,T⟩:=O.rb;have z:=T.bK Q bR E.bS;rw[S];have y:=n.bK (n.a.aP.aF T) z;show xX ?_;induction U with|false=>show⟨false,Q,(k rfl).1,(k rfl).2▸y.a.aP,(l.aC s).aC z,rfl⟩|true=>show test_last<|dp y A.bw (om<|m rfl) K λX2 X3 X4 X5 X6 f C B Z=> ?_;obtain⟨X7,F,e,R⟩:=K7 f;show Bu C.a.aP (((l.aC s).aC z).aC B) e R<|wo j.wD C.a.aP (fU y.a.aP B<|fU n.a.aP z Y) Z F
theorem uJ.eV{g S:aG}{L:aI Bool}{J:ag}{I:Bool}{G:Shared}(w:bp g S bR E.bS f x)(O:uJ E.cf E.bH E.bS S x L J I G):uJ E.cf E.bH E.bS g f L J I G:=jf.eV w O
def RM{m:Sem Value}{Z:List au}(Q:hU (aQ E G H) n Z):∀(T:aG)(g:ag)(F:ak)(K:Shared)(L:aI Bool)(J:ag)(I:Value->Shared->Prop),E.ay G H T g F K->af.aN (yl aw E.call Z F) lr g=some (L,J)->E.iC L J I->E.cL (isTrue (.BoolOp .And n i) G m) (uJ E.cf E.bH E.bS T K L J) I K:=by induction Q with|nil=>intro T g F K L J I V w b;show cq w|cons Y f S=>intro T g F K L J I V w b;induction f with
|nil=>show isTrue_and<|dH (Y.ig T g F K L J I V w b) (λU c ⟨h,e,N,j,W,R⟩=> ?_) λ_ _ P=>P;subst R;induction h with|false=>show⟨false,e,N,j,W,rfl⟩|true=>show isTrue_and_nil ⟨true,e,N,j,W,rfl⟩
|cons l k=>show isTrue_and<|sT V Y.ig (Bq w) b λU e c M X d W=> ?_;induction U with|false=>obtain⟨a,R⟩:=cS<|show af.bg false M=_ from X;show⟨false,e,a,R▸d.a.aP,W,rfl⟩|true=>show dH (S e M F c L J I d X b) (λ_ _ O=>jf.eV W O) λ_ _ P=>P
def RN{m:Sem Value}{Z:List au}(Q:hU (aQ E G H) n Z):∀(T:aG)(g:ag)(F:ak)(K:Shared)(L:aI Bool)(J:ag)(I:Value->Shared->Prop),E.ay G H T g F K->af.aN (ym aw E.call Z F) lr g=some (L,J)->E.iC L J I->E.cL (isTrue (.BoolOp .Or n i) G m) (uJ E.cf E.bH E.bS T K L J) I K:=by induction Q with|nil=>intro T g F K L J I V w b;show cq w|cons Y f S=>intro T g F K L J I V w b;induction f with
|nil=>show isTrue_or<|dH (Y.ig T g F K L J I V w b) (λU c ⟨h,e,N,j,W,R⟩=> ?_) λ_ _ P=>P;subst R;induction h with|true=>show⟨true,e,N,j,W,rfl⟩|false=>show isTrue_or_nil ⟨false,e,N,j,W,rfl⟩
|cons l k=>show isTrue_or<|sT V Y.ig (Bq w) b λU e c M X d W=> ?_;induction U with|true=>obtain⟨a,R⟩:=cS<|show af.bg true M=_ from X;show⟨true,e,a,R▸d.a.aP,W,rfl⟩|false=>show dH (S e M F c L J I d X b) (λ_ _ O=>jf.eV W O) λ_ _ P=>P
def RO{I:PySem.Expr}{X a Z:au}(e:aQ E G H c X)(b:aQ E G H p a)(d:aQ E G H I Z):aQ E G H (.IfExp c p I i) (.b X a Z)where
bw:=λP g F K L J T V w Y=>by show IfExp_<|sT V e.ig (Rt w) Y λc S R M Q U W=> ?_;induction c with|true=>show dH (b.bw S M F R L J T U Q Y) (λ_ _ O=>jf.eV W O) λ_ _ N=>N|false=>show dH (d.bw S M F R L J T U Q Y) (λ_ _ O=>jf.eV W O) λ_ _ N=>N
ig:=λP g F K L J T V w Y=>by show isTrue_IfExp<|sT V e.ig (Bq w) Y λc S R M Q U W=> ?_;induction c with|true=>show dH (b.ig S M F R L J T U Q Y) (λ_ _ O=>jf.eV W O) λ_ _ N=>N|false=>show dH (d.ig S M F R L J T U Q Y) (λ_ _ O=>jf.eV W O) λ_ _ N=>N
def Ft{G:aa}{g F:ag}{L:aI aa}(w:pR G a g=some (L,F)):∃J N I Q,G=.ref J/\g[J]?=some (.bt N I)/\nh I a=some Q/\L=.ai Q/\F=g:=by show aB (lx w) λJ E w=> ?_;show js (yB w) λN I S w=> ?_;show cC (j3 w) λQ T H R=> ?_;show Ei J N I Q E S T H R
def RP(l:E.dn){m:au}(Y:o6[a]?=some j)(e:lU c=true)(o:aQ E G H c m):aQ E G H (.Attribute c j i)<|.attr m a:=gF (λ_=>rfl) λO g F K L P I V w d=>by
 have q:dm a=j:=by unfold dm;rw[List.getD_eq_getElem?_getD,Y];rfl
 show Attribute_any_ (dp V o.bw w d λQ b h f M X U W T=> ?_) ?_;·show yp (Ft X) λJ N k n c S p Z R=> ?_;simp only[<-q,Z,R];show sU W U.a.aP<|Fg l.bH.q9 l.bH.V U.a.aP ((eD.mp Y).1) (c▸T) S p
 ·rw[arm_eval_Attribute,KZ e]
end
end
section
variable{E:bL}{G:Env}{H:List Str}
def mF.cA{g:aG}{Q:aa}(G:aE g h Q d):mF (some Q) d:=⟨λ_ E=>aE.hR<|jZ E▸G,nofun⟩
def mF.dq:mF Option.none Value.none:=⟨nofun,λ_=>rfl⟩
def RQ{e n:au}(P:KY c=false)(l:aQ E G H p e)(o:aQ E G H c n):aQ E G H (.Subscript p c i)<|.c e n:=gF (λ_=>rfl) λO g F K L J I V w b=>by show D0<|K5 V l o w b λM d U X j f k W h m T Y=> ?_;show cC (QZ (p:=p) (J:=E.dD) (M:=E.bV) (L:=I) (c:=c) h.a.aP λS a=>by clear o;rcases c with-|-<;>first|rfl|(show Bool.noConfusion P) T Y W) λQ Z R N=> ?_;simp only[Z,R];show sU m h.a.aP N
def RS{k q:au}(r:aQ E G H c k)(t:aQ E G H p q):aQ E G H (.Subscript c (.Slice (some p) none none i) z)<|.yd k q:=gF (λ_=>rfl) λT g F K L J I V w d=>by show D0<|dp V r.bw w d λP h S e M Z f j a=> ?_;show wpAny_Slice<|dp f t.bw Z d λU X n l o W m s Y=> ?_;show eM<|eM ?_;show cC (Fi (p:=c) (K:=E.dD) (M:=E.bV) (L:=I) (c:=.Slice (some p) none none i) m.a.aP (fU f.a.aP s a) (mF.cA Y) .dq W λ_ _=>rfl) λQ b R N=> ?_;simp only[b,R];show dH N (λ_ _ O=>(O.fV m.a.aP).eV<|j.aC s) λ_ _ P=>P
def RT{k n:au}(r:aQ E G H c k)(t:aQ E G H p n):aQ E G H (.Subscript c (.Slice none (some p) none i) z)<|.S k n:=gF (λ_=>rfl) λT g F K L J I V w d=>by show D0<|dp V r.bw w d λP h S e M Z f j a=> ?_;show wpAny_Slice<|eM<|dp f t.bw Z d λU X o l q W m s Y=> ?_;show eM ?_;show cC (Fi (p:=c) (K:=E.dD) (M:=E.bV) (L:=I) (c:=.Slice none (some p) none i) m.a.aP (fU f.a.aP s a) .dq (mF.cA Y) W λ_ _=>rfl) λQ b R N=> ?_;simp only[b,R];show dH N (λ_ _ O=>(O.fV m.a.aP).eV<|j.aC s) λ_ _ P=>P
def RU{I:PySem.Expr}{n u s:au}(v:aQ E G H c n)(y:aQ E G H p u)(B:aQ E G H I s):aQ E G H (.Subscript c (.Slice (some p) (some I) none i) z)<|.sA n u s:=gF (λ_=>rfl) λT g F K L J b V w h=>by show D0<|dp V v.bw w h λP l S j M a k m d=> ?_;show wpAny_Slice<|dp k y.bw a h λU X Q o t W r x q=> ?_;show dp r B.bw W h λY XN XO XQ XR f C D Z=> ?_;show eM ?_;show cC (Fi (p:=c) (K:=E.dD) (M:=E.bV) (L:=b) (c:=.Slice (some p) (some I) none i) C.a.aP (fU r.a.aP D<|fU k.a.aP x d) (mF.cA<|fU r.a.aP D q) (mF.cA Z) f λ_ _=>rfl) λXS e R N=> ?_;simp only[e,R];show dH N (λ_ _ O=>(O.fV C.a.aP).eV<|(m.aC x).aC D) λ_ _ P=>P
def RV{X Y m:Pos}{j:au}(l:aQ E G H c j):aQ E G H (.Subscript c (.Slice none (some<|.Constant (.int 0) a i) (some<|.UnaryOp .USub (.Constant (.int 1) u z) m) Y) X)<|.ud j:=gF (λ_=>rfl) λT g F K L J I V w e=>by show D0<|dp V l.bw w e λP h S f M Z U W b=> ?_;show wpAny_Slice<|eM<|wpAny_Constant_int (k:=a) (pos:=i)<|UnaryOp_ (op:=.USub) (pos:=m)<|wpAny_Constant_int (k:=u) (pos:=z)<|PySem.P.neg_int ?_;show cC (Q8 (U:=f.toks) (l:=f.toks+1+1) (E:={f with toks:=f.toks+1+1+1}) (p:=c) (K:=E.dD) (M:=E.bV) (L:=I) (c:=.Slice none (some<|.Constant (.int 0) a i) (some<|.UnaryOp .USub (.Constant (.int 1) u z) m) Y) U.a.aP b Z λ_ _=>rfl) λQ d R N=> ?_;simp only[d,R];show dH N (λ_ _ O=>((cJ.fV (G:={f with toks:=f.toks+1+1+1}) U.a.aP O).eV<|bp.lR S _ _ f _).eV W) λ_ _ P=>P
inductive sV:List (Option PySem.Expr)->List Str->Prop|nil:sV [] []|cons (G:Str) (H:Nat) (I:Pos) {Q:List<|Option PySem.Expr} {U:List Str}:sV Q U->sV (some (.Constant (.str G) H I)::Q) (G::U)
def aE.RW{g:aG}{K:Heap}(w:∀H,H≠k->∀S,h.get? H=some S->K.get? H=some S)(F:∀S,h.get? k=some S->∀J O,S.data≠.seq J O){Q:aa}(G:aE g h Q d):aE g K Q d:=G.gY (λ⟨S,L,I,O,Y⟩=>⟨S,w _ (λE=>F S (E▸L) _ _ Y) S L,I,O,Y⟩) (λ⟨S,L,I,O,Y⟩ N=>⟨⟨S,w _ (λE=>F S (E▸L) _ _ Y) S L,I,O,Y⟩,N⟩) id
def br.n9{R:World}{G:aG}{g:ag}(Z:br R h G g f.heap)(K:∀H,H≠k->∀S,f.heap.get? H=some S->x.heap.get? H=some S)(Y:∃S,f.heap.get? k=some S/\(∀e O,S.data≠.seq e O)/\S.data≠.plain)(W:¬eT G k)(a:h.get? k=none):br R h G g x.heap/\∀{Q:aa}{F:Value},aE G f.heap Q F->aE G x.heap Q F:=by
 show cC Y λS M m o=> ?_;have V:∀{Q:aa}{F:Value},aE G f.heap Q F->aE G x.heap Q F:=λw=>aE.RW K (λd E=>by rw[M]at E;obtain rfl:=bO E;show m) w;show⟨⟨λH l w=>K H (λE=>by rw[E,a]at w;show bQ w) _<|Z.cP H l w,Z.aZ,λJ X U I n=> ?_,Z.j4,Z.qb⟩,V⟩;have L:=Z.cI J X U I n;have i:X.2≠k:=λE=>W<|aX X (jC I) E;show aB L.wm λc P N=> ?_;show aB L.Bg λb T _=> ?_;have j:X.1≠k:=λE=>by
  rcases N with N|N;·show i<|N.trans E
  ·rw[E,M]at P;obtain rfl:=bO P;show o N
 show L.iL V ((K _ j _ P).trans P.symm)<|(K _ i _ T).trans T.symm
def K8{g:aG}(I:∀E,¬h.IsList v.2 E){E:Array Value}(w:h.IsList k E)(N:¬eT g k):h.IsList k E/\¬eT (g++[v]) k:=⟨w,λY=>by
rcases eT.dj.mp Y with Y|⟨T,H,W⟩;·show N Y
·rw[List.mem_singleton.mp H]at W;show I _<|W▸w⟩
def K9{g:aG}{X:Addr×Addr}(w:g[a]?=some v):(g++[X])[a]?=some v:=by show(sm (eD.mp w).1).trans w
def bh.Bv{g:aG}(I:∀w,¬h.IsList v.2 w){Q:List aa}(G:bh g h Q l):bh (g++[v]) h Q l:=G.gY id (K8 I) K9
def aE.Bv{g:aG}(I:∀w,¬h.IsList v.2 w){Q:aa}(G:aE g h Q d):aE (g++[v]) h Q d:=G.gY id (K8 I) K9
def RX:∀{U:List Str}{Y:List aa},Y.length=U.length->(U.zip Y).map (·.1)=U/\(U.zip Y).map (·.2)=Y:=λw=>⟨List.map_fst_zip<|bP w.symm,List.map_snd_zip<|bP w⟩
def RY{Q:List<|Option PySem.Expr}(w:sV Q D):Q.all (·.isSome)=true/\Q.length=D.length:=by induction w with|nil=>show⟨rfl,rfl⟩|cons _ _ _ _ S=>show⟨S.1,congrArg Nat.succ S.2⟩
def R0{z:List<|Option PySem.Expr}{Z:List au}(k:sV z D)(d:D.length=n.length)(X6:D.Nodup)(X7:z≠[])(XO:z.length<=15)(x:hU (aQ E G H) n Z):aQ E G H (.Dict z n i)<|.dict D Z:=gF (λ_=>rfl) λc g F b L J I V w h=>by
 obtain⟨X8,X9⟩:=RY k;show wpAny_Dict_walk (knd:=strKind E.dD E.cf) X8 (X9.trans d) X7 XO ?_;obtain XU:=cN.gq b {cls:=.type "dict",data:=.dict #[]};obtain A:({b with heap:=b.heap.push {cls:=.type "dict",data:=.dict #[]}}:Shared).heap.get? b.heap.objs.size=some {cls:=.type "dict",data:=.dict #[]}:=my _ rfl;have C:¬eT c b.heap.objs.size:=λXQ=>by show aB (qW V.a.aP XQ) λS Yb _=> ?_;show absurd (kj Yb)<|tY _
 have XW:E.bH.get? b.heap.objs.size=none:=by induction P:E.bH.get? b.heap.objs.size with|none=>rfl|some S=>show absurd (kj<|V.a.aP.cP _ _ P)<|tY _
 show(by intro _ _ XX _ _ k;induction k with
  |nil=>intro n Z d x O c g F b W L J I q V w h N;induction x with|nil=>show pairTrees_nil_walk<|N [] [] [] c b g w V (bp.n8 ..) .nil rfl rfl trivial rfl|cons _ _=>contradiction
  |cons X a YB _ Yc=>intro n Z d x O c g F b W L J I q V w h N;induction x with|nil=>contradiction|cons Yd Ye=>show pairTrees_cons_walk<|Constant_str ?_;show dp (V.lR<|b.toks+1) Yd.bw (om w) h λQ f m R M XR U t T=> ?_;show Yc (vO d) Ye U (om XR) h λe r v Yg Yh Yi Yj Yk XY Yl XO B XS XZ=> ?_;show N (Q::e) ((X,f)::r) _ Yg Yh Yi Yj Yk ((bp.lR c _ _ b _).aC<|t.aC XY) (.cons (fU U.a.aP XY T) Yl) (congrArg Nat.succ XO) (congrArg (X::·) B) (fS (XX X _) rfl XS) (congrArg Nat.succ XZ):∀{i X0}(XX:∀X Ym,X0.is X (.str X Ym)=true){z D}(k:sV z D),∀{n:List PySem.Expr}{Z:List au}(_:D.length=n.length)(_:hU (aQ E G H) n Z) {O:Type}{c:aG}{g:ag}{F:ak}{b:Shared}{W:List aa->af O}{L:aI O}{J:ag}{I:Value->Shared->Prop}{q:List (Value×Value)->Shared->Prop},E.ay G H c g F b->af.aN (kN aw E.call Z F) W g=some (L,J)->E.iC L J I->(∀e r v m R M,W e M=some (L,J)->E.ay G H m M F R->bp c m bR E.bS b R->bh m R.heap e (r.map (·.2))->e.length=D.length->r.map (·.1)=D->Carries X0 v r->v.length=D.length->q v R)->E.cL (evalPairs<|pairTrees z n G i) q I b) (X0:=strKind E.dD E.cf) (strKind_is E.dD E.cf) k d x (V.aF XU) w h λe r v m R M XR U t T Yn B XS XZ=> ?_
 ·clear h;obtain⟨rfl,rfl⟩:=dT XR;show cO r XS ?_ λu y XN=> ?_;·obtain⟨_,XT⟩:=t.aF _ _ A C λY=>Y;show sG (Heap.DictOf.new (knd:=strKind E.dD E.cf) b.heap) λS Yo Yp Yq X2=> ?_;obtain rfl:=bO<|A.symm.trans Yq;show qS _ Yo Yp (XT<|V.eB.Fl<|nC _) X2
  ·have Yr:(r.map (·.1)).Nodup:=by rw[B];show X6
   obtain Ys:(u.get? b.heap.objs.size).isSome=true:=by show sG y λS _ _ Y _=> ?_;rw[Y];rfl
   simp only[merged_nil_of_nodup _ Yr]at y;show eZ (t.aF _ _ A C λY=>Y) λ_ XT=> ?_;show eZ (br.n9 (x:={R with heap:=u,toks:=R.toks+v.length}) U.a.aP (λa l S P=>(XN.2 a l).trans P) (cO _ (XT<|V.eB.Fl<|nC _) (λ_ _ Y=>by injection Y) λY=>by injection Y) (t.o9 A C) XW) λX3 X4=> ?_;have X5:∀{Q:aa}{f:Value},aE m u Q f->aE (m++[(b.heap.objs.size,b.heap.objs.size)]) u Q f:=λw=>aE.Bv (λa l=>by show lP y λS _ _ Y X2 Yt _=> ?_;obtain⟨YC,Yu,_,_,Yv⟩:=l;obtain rfl:=bO<|Y.symm.trans Yu;cases Yt.symm.trans Yv) w;obtain⟨Yw,Yx⟩:=RX (U:=D) (Y:=e) Yn;show⟨.ref M.length,_,rfl,br.Rk (G:={R with heap:=u,toks:=R.toks+v.length}) (v:=(b.heap.objs.size,b.heap.objs.size)) X3 (t.o9 A C) XW (λW=>.dict (E:=r) rfl (yE y) (by rw[Yw,B])<|by rw[Yx];show(T.iL X4).iL W) X5, ?_, ?_⟩
   ·have o:=(XU.bK c bR E.bS).aC t;show⟨?_,λa S l XQ Yy=> ?_,λa l=> ?_,o.iJ,o.iX,o.iK⟩
    ·clear t;clear X3;clear T;clear X5;clear X4;show aB o.fc ?_;rintro Y rfl Yz;show⟨Y++[(b.heap.objs.size,b.heap.objs.size)],by simp,λi j=> ?_⟩;rcases oP.mp j with j|j;·show Yz i j
     ·rw[List.mem_singleton.mp j];show nC _
    ·show eZ (o.aF a S l XQ Yy) ?_;rintro⟨YA,P⟩ N;show⟨⟨YA,(XN.2 a<|gL<|kj l).trans P⟩,λY=>(XN.2 a<|gL<|kj l).trans<|N Y⟩
    ·by_cases P:a=b.heap.objs.size;·show P▸Ys
     ·change(u.get? a).isSome=true;rw[XN.2 a P];show o.ir a l
   ·have:(m++[(b.heap.objs.size,b.heap.objs.size)])[M.length]?=some (b.heap.objs.size,b.heap.objs.size):=by rw[<-U.a.aP.aZ];simp
    show .ref this
end
section
variable{E:bL}{G:Env}{H:List Str}
theorem bL.ay.wF{w:aG}{g:ag}{F:ak}(N:E.dn)(V:E.ay G H w g F f):E.iY.In f.heap:=N.bH.V.keeps V.a.aP.cP
def sW(U:List PySem.Expr):(U.map λE=>(false,eval E G)).any (·.1)=false:=by rw[List.any_map];simp
def Fu{Z:List au}{P:Args→Shared→Prop}{O:aG}{g J:ag}{F:ak}{c:List aa→af e}{L:aI e}(Q:hU (aQ E G H) n Z)(V:E.ay G H O g F f) (w:af.aN (kN aw E.call Z F) c g=some (L,J))(K:E.iC L J b)
(N:∀Y X S R M,c Y M=some (L,J)→E.ay G H S M F R→bp O S bR E.bS f R→bh S R.heap Y X→X.length=n.length→P ⟨X,[]⟩ R):E.cL (evalArgs d true (n.map fun I=>(false,eval I G)) []) P b f:=by show(by
intro _ n _ _ _ a w;rcases n with _|⟨I,L⟩;·show evalArgs_nil3<|a rfl
·show vP w:∀{W n U b f}(a:n=[]→U ⟨[],[]⟩ f)(w:E.cL (spliced<|n.map fun I=>(false,eval I G)) (fun Y T=>U ⟨Y,[]⟩ T) b f),E.cL (evalArgs W true (n.map fun I=>(false,eval I G)) []) U b f) (fun I=> ?_)<|Fq Q V w K N;subst I;cases Q;show N [] [] O f g w V (bp.n8 ..) .nil rfl
def Fv{Z:List au}{I:aG}{g J:ag}{F:ak}{k:List aa->af e}{L:aI e}(h:E.dn)(c:keepIn E.iY d=true) (X:n.all dy=true)(Q:hU (aQ E G H) n Z)(V:E.ay G H I g F f)(w:af.aN (kN aw E.call Z F) k g=some (L,J))(K:E.iC L J b) (N:∀Y j S R M,k Y M=some (L,J)->E.ay G H S M F R->bp I S bR E.bS f R->bh S R.heap Y j->j.length=n.length->E.cL (call d<|l++j) s b R):E.cL (callWith i d l (backTo i<|starEach n G) []) s b f:=by rw[nD X];show callWith_of (P:=E.iY.In) (by rw[sW];rfl) (λw=>keeps_K c w)<|Fu Q V w K λY j S R M O U W T a=>⟨U.wF h,N Y j S R M O U W T a⟩
def Bw{Z:List au}{T:String}{I:aG}{g J:ag}{F:ak}{U:List aa->af e}{L:aI e} (O:n.all dy=true)(Q:hU (aQ E G H) n Z)(V:E.ay G H I g F f)(w:af.aN (kN aw E.call Z F) U g=some (L,J))(K:E.iC L J b) (N:∀Y P S R M,U Y M=some (L,J)->E.ay G H S M F R->bp I S bR E.bS f R->bh S R.heap Y P->P.length=n.length->E.cL (call (.builtin T)<|l++P) s b R):E.cL (callWith i (.builtin T) l (backTo i<|starEach n G) []) s b f:=by rw[nD O];show callWith_builtin (sW n)<|Fu Q V w K N
def La{Z:List au}{T:String}{I:aG}{g J:ag}{F:ak}{U:List aa->af e}{L:aI e} (O:n.all dy=true)(Q:hU (aQ E G H) n Z)(V:E.ay G H I g F f)(w:af.aN (kN aw E.call Z F) U g=some (L,J))(K:E.iC L J b) (N:∀Y P S R M,U Y M=some (L,J)->E.ay G H S M F R->bp I S bR E.bS f R->bh S R.heap Y P->P.length=n.length->E.cL (call (.type T)<|l++P) s b R):E.cL (callWith i (.type T) l (backTo i<|starEach n G) []) s b f:=by rw[nD O];show IW (sW n)<|Fu Q V w K N
def Lb{Y:List aa}{M Z:aG}{g J:ag}{F:ak}{L:aI aa}(N:E.dn)(V:E.ay G H M g F f)(U:bp Z M bR E.bS x f)(T:bh M f.heap Y l)(w:E.call a Y g=some (L,J))(K:E.iC L J b):E.cL (call (.ref<|E.uK a) l) (mG E.cf E.bH E.bS Z x L J) b f:=by show wpAny_call<|N.call a Y g L J w E.bV M f l E.oh _ V.a.aP T V.eB N.M N.wz N.Bo (by have:=N.jG;show mz<|lJ this) (by have:=N.yN;show jB (i8 aR _) this) (λQ P R _ X=>jf.eV U X) λO I R S W=>K O I R S<|W.cP V.cP
def R7(N:E.dn)(P:c9 G H){I:aG}{g:ag}{F:ak}(V:E.ay G H I g F f)(X:eP G.scope j=true)(J:og[a]?=some j)(O:j.cps.toList.contains 46=false)(w:b (.ref<|E.uK a) f):E.cL (eval (.Name j i) G) b s f:=by show sF N.bH.kQ λR Q Y S _ L _=> ?_;obtain⟨K,M⟩:=wB X;show Ay P.eO K (loadGlobal_global (mg:=R) (by show P.bE▸V.qf Y) (L a j J O) w) M
def Lc(N:E.dn)(L:c9 G H){I:aG}{g:ag}{F:ak}(V:E.ay G H I g F f)(X:eP G.scope j=true)(J:q0[a]?=some j)(w:b (.ref<|dP a) f):E.cL (eval (.Name j i) G) b s f:=by show JR N.bH.kQ λQ O Y R _ _ P _=> ?_;obtain⟨K,M⟩:=wB X;show Ay L.eO K (loadGlobal_global (mg:=Q) (by show L.bE▸V.qf Y) (P a j J) w) M
def qg(R:E.dn)(S:c9 G H){K:aG}{g:ag}{F:ak}(V:E.ay G H K g F f)(X:eP G.scope j=true)(P:bootBuiltins j=some d)(N:j∈yL)(w:b d f):E.cL (eval (.Name j i) G) b s f:=by show JR R.bH.kQ λT O Y U _ _ _ L=> ?_;obtain⟨Q,M⟩:=wB X;obtain⟨J,I⟩:=L j d P N;show Ay S.eO Q (loadGlobal_builtin (mg:=T) (mb:=O) (by rw[S.bE];show V.qf Y) J (by rw[S.sR];show V.qf U) I w) M
def R8(N:E.dn)(k:c9 G H){Z:List au}(X:eP G.scope j=true)(d:og[a]?=some j)(O:j.cps.toList.contains 46=false)(c:n.all dy=true)(Q:hU (aQ E G H) n Z):aQ E G H (.Call (.Name j z) n [] i)<|.call a Z:=gF (λ_=>rfl) λP g F K L J I V w f=>by show Call_<|R7 N k V X d O ?_;show Fv N (N.bH.KW a j d) c Q V w f λY h S R M b U W T e=> ?_;show Lb N U W T b f
def R9{Q:aa}{g F:ag}{L:aI Nat}(w:wb aw Q a g=some (L,F)):∃J N H W,Q=.ref J/\g[J]?=some (.bt N H)/\aw.iV N a=some W/\L=.ai W/\F=g:=by show aB (lx w) λJ E w=> ?_;show js (yB w) λN H S w=> ?_;show cC (j3 w) λW I G R=> ?_;show Ei J N H W E S I G R
def Sa{N:Nat}(w:aw.iV u N=some a):a<og.length:=by
 show aB (kI.mp w) ?_;rintro X I rfl;have:∀Y∈aw.Ec,Y.2<og.length:=by decide+kernel
 show this X<|IX I
def Sb:∀N,N<16->∀O,O<19->dm O≠sP N:=by decide+kernel
def yO(I:lU c=true)(E:(z.endLine==i.line)=true)(w:n.all dy=true)(V:n.length<30):eval (.Call (.Attribute c j z) n [] i) G=(do let F<-eval c G;standAt z.atName let(W,M)<-holding [F]<|getMethod F j (do return(<-importBound c G).getD true);callWith i W M (backTo i<|starEach n G) []):=by
 obtain g:methodCallForm (n.length+([]:List Keyword).length) (backTo i<|starEach n G) (backToKw i<|keywordEach [] G)=true:=by
  rw[nD w];unfold methodCallForm;have:(n.map λc=>(false,eval c G)).all (!·.1)=true:=by simp
  simp only[this];change(true&&true&&decide (n.length+0+0<30))=true;simpa using V
 rw[arm_eval_Call];rw[KZ I];unfold methodCall;rw[g];delta calleeOf methodCallPos;rw[E];rfl
def Sd(N:E.dn){u:au}{Z:List au}(d:KR[a]?=some j)(m:lU c=true)(e:(i.endLine==z.line)=true)(b:n.all dy=true)(o:n.length<30)(x:aQ E G H c u)(A:hU (aQ E G H) n Z):aQ E G H (.Call (.Attribute c j i) n [] z)<|.h u a Z:=gF (λ_=>rfl) λP g F K L J I V w l=>by
 have D:sP a=j:=by unfold sP;rw[List.getD_eq_getElem?_getD,show(E9.map Str.ofString)[a]?=some j from d];rfl
 show D1 (dp V x.bw w l λQ k r q M X U t T=> ?_)<|yO m e b o;obtain⟨O,XN,Y,_,f⟩:=af.fW X;show yp (R9 Y) λXO XQ XR W C S s h R=> ?_;show D▸QY N.bH.q9 N.bH.V U.a.aP (C▸T) S s (Sb a<|(eD.mp d).1) ?_;show Fv N (N.bH.KW W _<|tZ<|Sa s) b A U (R▸f W h) l λXS XT XU XW XX p v y B e=> ?_;show Lb N v (t.aC y) (.cons (fU U.a.aP y T) B) p l
def afn(w:aw.um u=some a):a<og.length:=by
 show aB (kI.mp w) ?_;rintro X I rfl;have:∀Y∈aw.Ed,Y.2<og.length:=by decide+kernel
 show this X<|IX I
end
section
variable{E:bL}{G:Env}{H:List Str}
theorem Se(N:E.dn)(XX:c9 G H){v:List au}(XY:eP G.scope j=true)(d:q0[a]?=some j)(l:gN a=true)(XZ:n.all dy=true)(X0:hU (aQ E G H) n v):aQ E G H (.Call (.Name j z) n [] i)<|.mk a v:=gF (λ_=>rfl) λb g F K L J I V O f=>by show Call_<|Lc N XX V XY d ?_;show Fv N (N.bH.KX a j d) XZ X0 V O f λY t r Yv m c X2 u T Yw=> ?_;show(by
intro N a Y t b _ g J _ K _ L _ V s T l O f;obtain⟨r,B,u,d⟩:=(by
 intro _ _ _ _ K Z a l;obtain X3:cN K {K with heap:=(K.heap.push emptyDict).push<|instObj (dP a) K.heap.objs.size}:=⟨λX4 X5 P=>ki _<|ki _ P,rfl,rfl,rfl⟩;obtain c:((K.heap.push emptyDict).push<|instObj (dP a) K.heap.objs.size).get? (K.heap.objs.size+1)=some (instObj (dP a) K.heap.objs.size):=by have:=my (K.heap.push emptyDict) (o:=instObj (dP a) K.heap.objs.size) rfl;rwa[Heap.size_push]at this
 show yI Z X3 (v:=(K.heap.objs.size+1,K.heap.objs.size)) (nC _) λW=>.bt (Y:=emptyDict) (U:=#[]) (O:=0) ⟨c,rfl,rfl,rfl,ki _<|my _ rfl,rfl,rfl,rfl,λP X6=>absurd X6<|Array.not_mem_empty P,aH,l,λz O=>absurd O t5,λ_ _=>rfl,λ_ _ O=>cq O⟩:∀{R XN b g K}(Z:br R XN b g K.heap){a}(l:gN a=true),jJ R XN b (g++[.bt a []]) K (.ref g.length) (.ref<|K.heap.objs.size+1) {K with heap:=(K.heap.push emptyDict).push<|instObj (dP a) K.heap.objs.size}) (R:=E.cf) (XN:=E.bH) V.a.aP l;show wpAny_call ?_;have X:=V.wF N;rcases S:aw.um a with _|W
·have O:af.d4 Y.isEmpty (af.ll<|.bt a []) g=some (L,J):=by unfold lu at O;obtain O:=S▸O;show O
 obtain⟨X7,O⟩:=jt O;have X8:a=2:=by
  have:∀e<9,aw.um e=none->gN e=true->e=2:=by decide+kernel
  show this a (DX (iG.mp l).1) S l
 clear f;obtain⟨rfl,rfl⟩:=dT O;have k:t=[]:=by rw[List.isEmpty_iff.mp X7]at T;show T.qX
 clear O;clear O;clear O;clear T;subst X8 k;have XO:=makes_of (M:=model E.dD E.cf) X<|N.bH.q9.Kh 2 l;obtain X9:((K.heap.push emptyDict).push<|instObj (dP 2) K.heap.objs.size).get? (K.heap.objs.size+1)=some (instObj (dP 2) K.heap.objs.size):=by have:=my (K.heap.push emptyDict) (o:=instObj (dP 2) K.heap.objs.size) rfl;rwa[Heap.size_push]at this
 show make_core XO (looks_findIn X N.bH.q9.QS) (λD=>Looks.of_pure<|oi_bind D) (.inr ⟨rfl,rfl⟩) ?_;show PQ oi_plain entry_oi<|@check_slot (model E.dD E.cf) _ _ _ "object.__init__" "object" "__init__" (.ref<|K.heap.objs.size+1) [] [] _ oi_kind oi_split (((Looks.ld X9).andThen .now).andThen<|XO.top.keeps λX4 X5 P=>ki _<|ki _ P) (oi_args<|.ref<|K.heap.objs.size+1) ?_;show eM<|And.intro rfl ⟨.ref g.length,r,rfl,B,s.aC<|u bR E.bS,d⟩
·have Yb:af.aN (E.call W<|.ref g.length::Y) (λL=>af.d4 (iH L)<|af.bg<|.ref g.length) (g++[.bt a []])=some (L,J):=by unfold lu at O;rw[S]at O;show O
 show iI (N.bH.q9.QR a W S) λ_ Yc Yd=> ?_;show make_core (makes_of X<|N.bH.q9.Kh a l) (looks_findIn X Yc) (λD=>bind_fn X D Yd) (.inl rfl) ?_;show AX ((by
  intros;show gC rfl ?_ ?_ ?_ ?_;·have:(Code.builtin "type.__call__" ⟨.ref y::U,C⟩).envs=[]:=rfl;simp only[Around.under,this,pushEnvs]
  ·have:(Code.builtin "type.__call__" ⟨.ref y::U,C⟩).guards=[]:=by
    unfold Code.guards;have:(Code.builtin "type.__call__" ⟨.ref y::U,C⟩).isGuard=false:=by change guardIds.contains "type.__call__"=false;decide+kernel
    rw[this];rfl
   simp only[Around.under,this,pushGuards]
  ·rfl
  ·rfl:∀(h:Around)(y:Addr)(U:List Value)(C),(h.under<|.builtin "type.__call__" ⟨.ref y::U,C⟩).handled=h.handled/\(h.under<|.builtin "type.__call__" ⟨.ref y::U,C⟩).frames=h.frames/\(h.under<|.builtin "type.__call__" ⟨.ref y::U,C⟩).guards=h.guards/\(h.under<|.builtin "type.__call__" ⟨.ref y::U,C⟩).depth=h.depth+1/\(h.under<|.builtin "type.__call__" ⟨.ref y::U,C⟩).units=h.units+1) E.bV (dP a) t []) λYe Yg Yh Yx Yi=> ?_;obtain⟨Yj,m,c,Yk,Yl⟩:=af.fW Yb;show N.call W (.ref g.length::Y) (g++[.bt a []]) Yj m c _ r _ _ E.oh _ B (.cons d<|Fm V.a.aP (u bR E.bS) T) (V.bK B<|u bR E.bS).eB (Ye.trans N.M) (Yg.trans N.wz) (Yh.trans N.Bo) (by have:=N.jG;show jB (fI (bP gM) _) this) (by rw[Yi];have:=N.yN;show jB (fI (by simp+arith) _) this) (λQ Ym XQ q i=> ?_) λXR P XQ q Yn=> ?_
 ·obtain⟨Yo,Yp,P,Yq,XS,XT⟩:=i;obtain⟨k,Yr⟩:=jt<|Yl Q q;obtain⟨x,A⟩:=cS Yr;have Ys:Q=.none:=by rcases Q with⟨-,-⟩<;>first|rfl|show Bool.noConfusion k
  have Yt:Yo=Q:=(aI.ai.inj<|P.symm.trans q).symm▸rfl;obtain Yu:Ym=.none:=by simp only[Yt,Ys]at XT;show XT.gb
  show⟨Yu,.ref g.length,Yp,x,A▸Yq,(s.aC<|u bR E.bS).aC XS,fU B XS d⟩
 ·obtain⟨x,A⟩:=Yk XR q;show f XR P XQ x (A▸Yn.cP (V.bK B<|u bR E.bS).cP):∀(N:E.dn){a Y t b XU g J F K XW L I}(V:E.ay G H b g F K)(s:bp XU b bR E.bS XW K)(T:bh b K.heap Y t)(l:gN a=true)(O:lu aw E.call a Y g=some (L,J))(f:E.iC L J I),E.cL (call (.ref<|dP a) t) (mG E.cf E.bH E.bS XU XW L J) I K) N X2 u T l c f
def qh(E:bL)(W:Value)(I:eE):Prop:=∀(w:aG)(g:ag)(K:Shared)(G:aa)(H:Value)(L:aI aa)(J:ag)(F:Value->Shared->Prop),br E.cf E.bH w g K.heap->aE w K.heap G H->dO I [G] g=some (L,J)->∃Q,L=.ai Q/\E.cL (call W [H]) (jJ E.cf E.bH w J K Q) F K
def bh.cW{g:aG}{Y:List aa}(G:bh g h Y l)(E:l.length=1):∃Q F,Y=[Q]/\l=[F]/\aE g h Q F:=by induction G using bh.casesOn with|nil=>contradiction|cons H L=>induction L using bh.casesOn with|nil=>show we _ _ rfl rfl H|cons _ _=>simp at E
def bh.rd{g:aG}{Y:List aa}(G:bh g h Y l)(E:l.length=2):∃Q F X M,Y=[Q,X]/\l=[F,M]/\aE g h Q F/\aE g h X M:=by induction G using bh.casesOn with|nil=>contradiction|cons H L=>show gZ (L.cW<|vO E) λQ F w R I=> ?_;show JU _ _ Q F (by show congrArg _ w) (by show congrArg _ R) H I
theorem afo{N:au}{F:ak}{W:List aa->af e}:af.aN (kN aw E.call [N] F) W=af.aN (cG aw E.call N F) λG=>W [G]:=af.wA _ _ _
def yP(m:E.dn)(q:c9 G H){r:String}{I:eE}{o:au}(X:eP G.scope j=true)(b:bootBuiltins j=some (.builtin r))(k:j∈yL)(u:qh E (.builtin r) I)(Z:dy c=true)(t:aQ E G H c o):aQ E G H (.Call (.Name j z) [c] [] i)<|.g I [o]:=gF (λ_=>rfl) λO g F K L J a V w h=>by show Call_<|qg m q V X b k ?_;show Bw (n:=[c]) (by rw[List.all_cons,Z];rfl) (.cons t .nil) V w h λY n S l M P U W T d=> ?_;show gZ (T.cW d) λQ f e R s=> ?_;rw[e]at P;show aB (u S M l _ _ L J a U.a.aP s P) λQ p N=> ?_;rw[R,p];show Br W N
def Fw(m:E.dn)(q:c9 G H){r:String}{I:eE}{o:au}(X:eP G.scope j=true)(b:bootBuiltins j=some (.type r))(k:j∈yL)(u:qh E (.type r) I)(Z:dy c=true)(t:aQ E G H c o):aQ E G H (.Call (.Name j z) [c] [] i)<|.g I [o]:=gF (λ_=>rfl) λO g F K L J a V w h=>by show Call_<|qg m q V X b k ?_;show La (n:=[c]) (by rw[List.all_cons,Z];rfl) (.cons t .nil) V w h λY n S l M P U W T d=> ?_;show gZ (T.cW d) λQ f e R s=> ?_;rw[e]at P;show aB (u S M l _ _ L J a U.a.aP s P) λQ p N=> ?_;rw[R,p];show Br W N
def rh{F:aG}{g:ag}{Q:aa}{U:Sem Value}(Z:br E.cf E.bH F g f.heap)(w:E.cL U (cJ F f Q) b f):E.cL U (jJ E.cf E.bH F g f Q) b f:=dH w (λ_ _ O=>O.Kk Z) λ_ _ G=>G
def Sf:qh E (.builtin "len") .aZ:=λM g K G O L J I Z V w=>by show cC (Rc (L:=E.dD) (N:=E.bV) (M:=I) Z V w) λQ H F N=> ?_;show aX Q H<|F▸rh Z N
def Sg:qh E (.type "int") .int:=λO g K G Y L P I Z V F=>by show cC ((by intro _ _ _ _ _ _ _ _ _ _ _ V F;show aB (pZ F) λJ M F=> ?_;obtain⟨T,W⟩:=cS F;obtain⟨U,M⟩:=(M▸V).hR;show cO _ T W (M▸call_int_int (eU<|.int _ _)):∀{S:Program}{R:World}{X:Around}{I:Value->Shared->Prop}{O:aG}{g:ag}{K:Shared}{G Y L P}(V:aE O K.heap G Y)(F:qQ .int G g=some (L,P)),∃Q,L=.ai Q/\P=g/\wpAny (model S R) X (call (.type "int") [Y]) (cJ O K Q) I K) (S:=E.dD) (R:=E.cf) (X:=E.bV) (I:=I) V F) λQ H M N=> ?_;show aX Q H<|M▸rh Z N
def Sh:qh E (.builtin "ord") .t9:=λO g K G P L J I Z V F=>by show cC (Rg (L:=E.dD) (I:=E.cf) (N:=E.bV) (M:=I) V F) λQ H M N=> ?_;show aX Q H<|M▸rh Z N
theorem Si:qh E (.builtin "chr") .ua:=λO g K G Y L J I Z V F=>by show cC ((by intro _ _ _ _ _ _ _ G _ _ _ V F;show aB (pZ F) λG M F=> ?_;show cC (j3 F) λQ T P W=> ?_;obtain⟨U,M⟩:=(M▸V).hR;obtain⟨a,b⟩:=je T;simp only[Bool.and_eq_true,decide_eq_true_eq,decide_eq_true_eq]at a;show cO Q P W ?_;rw[M,<-b];show PySem.P.chr_of_int ?_<|jK<|.str _ _;rw[decide_eq_false<|Int.not_lt.mpr a.1,decide_eq_false<|by lia];rfl:∀{S:Program}{R:World}{X:Around}{I:Value->Shared->Prop}{O:aG}{g:ag}{K:Shared}{G Y L J}(V:aE O K.heap G Y)(F:qQ .ua G g=some (L,J)),∃Q,L=.ai Q/\J=g/\wpAny (model S R) X (call (.builtin "chr") [Y]) (cJ O K Q) I K) (S:=E.dD) (R:=E.cf) (X:=E.bV) (I:=I) V F) λQ H M N=> ?_;show aX Q H<|M▸rh Z N
theorem Sj:qh E (.builtin "abs") .ub:=λO g K G X L J I Z V F=>by show cC ((by intro _ _ _ _ _ _ _ G _ _ _ V F;show aB (pZ F) λG M F=> ?_;obtain⟨P,T⟩:=cS F;obtain⟨U,M⟩:=(M▸V).hR;show cO _ P T<|M▸PyProof.Rows.call_abs_int λY a=> ?_;rw[show(if G<0then-G else G)=(G.natAbs:Int) by split<;>lia-abstractProof];show jK (.int _ _):∀{S:Program}{R:World}{W:Around}{I:Value->Shared->Prop}{O:aG}{g:ag}{K:Shared}{G X L J}(V:aE O K.heap G X)(F:qQ .ub G g=some (L,J)),∃Q,L=.ai Q/\J=g/\wpAny (model S R) W (call (.builtin "abs") [X]) (cJ O K Q) I K) (S:=E.dD) (R:=E.cf) (W:=E.bV) (I:=I) V F) λQ H M N=> ?_;show aX Q H<|M▸rh Z N
def Sk:qh E (.type "list") .list:=λN g K G f L P I Z V w=>(by
intro _ _ _ _ _ _ _ K Z G _ _ _ V w;rcases G with-|_|G|G|F|_|J|_<;>first|(show cq w;done)|skip
show eZ (jt w) λj w=> ?_;obtain⟨rfl,rfl⟩:=dT w;obtain⟨H,E,M,⟨S,X,d,O,c⟩,a⟩:=V.lT;show aX _ rfl<|M▸call_list_seq H (.inr rfl) X d c (λh k e Y=> ?_) (wt (a:=0) j a);obtain T:cN K {K with heap:=h}:=⟨e,rfl,rfl,rfl⟩;show yI Z T (v:=(K.heap.objs.size,K.heap.objs.size)) (nC _) λW=>.list rfl Y (a.iL W):∀{i:Program}{R:World}{U:Heap}{b:Around}{I:Value->Shared->Prop}{N:aG}{g:ag}{K:Shared}(Z:br R U N g K.heap){G f L P}(V:aE N K.heap G f)(w:JB G g=some (L,P)),∃Q,L=.ai Q/\wpAny (model i R) b (call (.type "list") [f]) (jJ R U N P K Q) I K) (i:=E.dD) (b:=E.bV) (I:=I) Z V w
def Sl(N:E.dn):qh E (.type "dict") .dict:=λP g K G m L a I Z V w=>(by
intro o R _ _ _ _ _ K t Z _ _ _ _ V w;show aB (lx<|show jc _ _ _=_ from w) λJ F w=> ?_;show aB (yA<|show qO _ _ _=_ from w) λM c w=> ?_;show eA λi q=> ?_;obtain⟨r,w⟩:=jt w;obtain⟨rfl,rfl⟩:=dT w;obtain⟨X,l,F,f,h,O,j,d⟩:=Z.dict c<|F▸V;have Y:l.length=M.length:=by have:=congrArg List.length j;rw[List.length_map,List.length_map]at this;show this.symm
show q ?_;show aX _ rfl<|F▸kt_call_dict (knd:=PySem.strKind o R) (by show h▸KH t Z (jC f)) (yE O) (by show Y▸aq (j0 r) (j0 rfl)) λn s U=> ?_;obtain T:cN K {K with heap:=n}:=⟨λH S k=>(U.2 H<|gL<|kj k).trans<|ki _ k,rfl,rfl,rfl⟩;show yI Z T (v:=(K.heap.objs.size,K.heap.objs.size)) (nC _) λW=>.dict rfl (yE s) j (d.iL W):∀{o:Program}{R:World}{b:Heap}{e:Around}{I:Value->Shared->Prop}{P:aG}{g:ag}{K:Shared}(t:(b.get? sysModules).isSome=true)(Z:br R b P g K.heap){G m L a}(V:aE P K.heap G m)(w:qQ .dict G g=some (L,a)),∃Q,L=.ai Q/\wpAny (model o R) e (call (.type "dict") [m]) (jJ R b P a K Q) I K) (o:=E.dD) (e:=E.bV) (I:=I) N.bH.KU Z V w
def Bx(h:E.dn)(o:c9 G H){I:eE}{m:au}(X:eP G.scope "isinstance"=true)(Z:dy c=true)(l:dy p=true)(q:aQ E G H c m) (f:∀{P:aG}{g:ag}{F:ak}{K:Shared}{a:Value->Shared->Prop}{j:Value->Shared->Prop},E.ay G H P g F K->j d K->E.cL (eval p G) j a K) (r:∀(P:aG)(g:ag)(K:Shared)(O:aa)(k:Value)(L:aI aa)(J:ag)(a:Value->Shared->Prop),br E.cf E.bH P g K.heap->aE P K.heap O k->dO I [O] g=some (L,J)->∃Q,L=.ai Q/\E.cL (call (.builtin "isinstance") [k,d]) (jJ E.cf E.bH P J K Q) a K):aQ E G H (.Call (.Name "isinstance" z) [c,p] [] i)<|.g I [m]:=gF (λ_=>rfl) λP g F K L J a V w e=>by show Call_<|qg h o V X (d:=.builtin "isinstance") (by kernel_rfl) (by decide+kernel) ?_;rw[nD (n:=[c,p])<|by conv=>lhs;simp[Z,l]];show callWith_builtin (sW [c,p])<|vP<|oR<|dp V q.bw (om w) e λQ b S R M Y U W T=> ?_;show oR<|f U<|t7 ?_;show aB (r S M R _ _ L J a U.a.aP T Y) λQ n N=> ?_;show n▸Br W N
def Sm(S:E.dn)(Y:c9 G H){W:Pos}{U:au}(X:eP G.scope "isinstance"=true)(b:eP G.scope "str"=true)(P:dy c=true)(a:aQ E G H c U):aQ E G H (.Call (.Name "isinstance" z) [c,.Name "str" W] [] i)<|.g .Q [U]:=Bx (d:=.type "str") S Y X P rfl a (λV w=>qg S Y V b (by kernel_rfl) (by decide+kernel) w) λO g K F T L J I Z R w=>by show cC (Rd (L:=E.dD) (N:=E.bV) (M:=I) S.bH.V S.bH.mH Z R w) λQ M c N=> ?_;show aX Q M<|c▸rh Z N
def Sn(S:E.dn)(Y:c9 G H){W:Pos}{U:au}(X:eP G.scope "isinstance"=true)(b:eP G.scope "int"=true)(P:dy c=true)(a:aQ E G H c U):aQ E G H (.Call (.Name "isinstance" z) [c,.Name "int" W] [] i)<|.g .W [U]:=Bx (d:=.type "int") S Y X P rfl a (λV w=>qg S Y V b (by kernel_rfl) (by decide+kernel) w) λO g K F T L J I Z R w=>by show cC (Rf (L:=E.dD) (N:=E.bV) (M:=I) S.bH.V S.bH.mH Z R w) λQ M c N=> ?_;show aX Q M<|c▸rh Z N
def So(h:E.dn)(n:c9 G H){m:Pos}{l:au}(X:eP G.scope "isinstance"=true)(p:eP G.scope "tuple"=true)(a:dy c=true)(o:aQ E G H c l):aQ E G H (.Call (.Name "isinstance" z) [c,.Name "tuple" m] [] i)<|.g .O [l]:=Bx (d:=.type "tuple") h n X a rfl o (λV M=>qg h n V p (by kernel_rfl) (by decide+kernel) M) λW g K O j L Y I Z b M=>by show cC ((by
intro _ _ _ _ _ _ _ O j _ _ b M;rcases O with-|_|O|O|F|_|J|_<;>first|(show cq M;done)|skip
·obtain⟨d,e⟩:=cS M;obtain c:j=.none:=b.gb;show cO _ d e<|c▸sr (isinstance_false_none (by decide) IY PySem.F.sub_NoneType_tuple) (jK<|.bool _)
·obtain⟨d,e⟩:=cS M;obtain⟨U,c⟩:=b.hR;show⟨_,d,e,c▸sr (isinstance_false_int (by decide) IY PySem.F.sub_int_tuple) (jK<|.bool _)⟩
·obtain⟨d,e⟩:=cS M;obtain⟨U,c⟩:=b.hJ;show⟨_,d,e,c▸sr (isinstance_false_str (by decide) IY PySem.F.sub_str_tuple) (jK<|.bool _)⟩
·obtain⟨d,e⟩:=cS M;obtain⟨P,E,c,k,T⟩:=b.lT;show cO _ d e (c▸sr (isinstance_true IY PySem.F.isi_self_tuple) ⟨k.typeIs,eU<|.bool _⟩):∀{S:Program}{R:World}{f:Around}{I:Value->Shared->Prop}{W:aG}{g:ag}{K:Shared}{O j L Y}(b:aE W K.heap O j)(M:Jw O g=some (L,Y)),∃Q,L=.ai Q/\Y=g/\wpAny (model S R) f (call (.builtin "isinstance") [j,.type "tuple"]) (cJ W K Q) I K) (S:=E.dD) (R:=E.cf) (f:=E.bV) (I:=I) b M) λQ P c N=> ?_;show aX Q P<|c▸rh Z N
def Sp(f:E.dn)(l:c9 G H){X Y:Pos}{o m:au}(j:eP G.scope "list"=true)(x:eP G.scope "range"=true)(Z:dy c=true)(L:dy p=true)(q:aQ E G H c o)(r:aQ E G H p m):aQ E G H (.Call (.Name "list" Y) [.Call (.Name "range" z) [c,p] [] i] [] X)<|.g .vW [o,m]:=gF (λ_=>rfl) λg XN XO XQ XR XS I V w K=>by show Call_<|qg f l V j (d:=.type "list") (by kernel_rfl) (by decide+kernel) ?_;rw[nD (n:=[.Call (.Name "range" z) [c,p] [] i]) rfl];show IW (sW _)<|vP<|oR ?_;show Call_<|qg f l V x (d:=.type "range") (by kernel_rfl) (by decide+kernel) ?_;show La (n:=[c,p]) (by conv=>lhs;simp[Z,L]) (.cons q<|.cons r .nil) V w K λXT XU XW e XX P U h b a=> ?_;show eA λXY k=> ?_;show A4 (b.rd a) λQ XZ X0 X2 d R n M=> ?_;rw[d]at P;show aB (pZ<|show kJ _ _ _=_ from P) λc u W=> ?_;show aB (pZ W) λp B W=> ?_;obtain⟨D,t⟩:=(u▸n).hR;obtain⟨y,C⟩:=(B▸M).hR;rw[u,B]at P;show k ?_;simp only[R,t,C];show call_range_2<|t7 ?_;obtain T:cN e {e with heap:=e.heap.push {cls:=.type "range",data:=.fields #[.int c D,.int p y,.int 1 e.toks]},toks:=e.toks+1}:=⟨λ_ _ F=>ki _ F,rfl,rfl,rfl⟩;show aB (Rn (L:=E.dD) (K:=E.bV) (M:=I) (f:=e) (G:={e with heap:=e.heap.push {cls:=.type "range",data:=.fields #[.int c D,.int p y,.int 1 e.toks]},toks:=e.toks+1}) f.M (U.a.aP.aF T) (IsRange.new e.heap c p 1 D y e.toks) T U.a.aP P) λQ S N=> ?_;show S▸dH N (λ_ _ O=>O.fV.eV h) λ_ _ J=>J
def Ld{Y:String}{I:aG}{g:ag}{F:List aa}{K:Sem Bool}{J:Value×List Value->Shared->Prop}(Z:br E.cf E.bH I g f.heap)(V:aE I f.heap (.ref a) d)(S:g[a]?=some (.list F))(N:PySem.Slot "list" j Y)(M:typeOf (.builtin Y)=pure (.type "method_descriptor")) (w:J (.builtin Y,[d]) f):E.cL (getMethod d j K) J b f:=by obtain⟨X,E,O,G,_,_,L,_⟩:=Z.list S V;rw[G]at w⊢;show getMethod_builtin (aX _ L rfl) PySem.F.plainAttrs_list N M (λH G=>by cases G;show aX _ L rfl) w
def Sq{Y:String}{I:aG}{g:ag}{F:List<|Str×aa}{P:Sem Bool}{N:Value×List Value->Shared->Prop}(Z:br E.cf E.bH I g f.heap)(V:aE I f.heap (.ref a) d)(J:g[a]?=some (.dict F))(R:PySem.Slot "dict" j Y)(Q:typeOf (.builtin Y)=pure (.type "method_descriptor")) (w:N (.builtin Y,[d]) f):E.cL (getMethod d j P) N b f:=by obtain⟨X,O,G,_,_,⟨S,U,K,L,M,_⟩,_⟩:=Z.dict J V;rw[G]at w⊢;show getMethod_builtin (aX _ L M.1) PySem.F.plainAttrs_dict R Q (λH G=>by cases G;show aX _ L M.2.1) w
def Le{G:aa}{g H:ag}{L:aI Unit}(w:uq G g=some (L,H)):∃J F,G=.ref J/\g[J]?=some (.list F)/\L=.ai ()/\H=g:=by show aB (lx w) λJ E w=> ?_;show aB (ly w) λF S w=> ?_;obtain⟨I,R⟩:=cS w;show nu J F E S I R
def Sr{G:aa}{g H:ag}{L:aI Unit}(w:mD .gW G g=some (L,H)):∃J F,G=.ref J/\g[J]?=some (.dict F)/\L=.ai ()/\H=g:=by show aB (lx w) λJ E w=> ?_;show aB (yA w) λF S w=> ?_;obtain⟨I,R⟩:=cS w;show nu J F E S I R
structure Ss(I:eE)(G:Str)(Y:String):Prop where
Su:PySem.Slot "list" G Y
Sv:typeOf (.builtin Y)=pure (.type "method_descriptor")
Sw:∀Q,mD I Q=uq Q
def By{I:eE}{F:Str}{r:String}{p:au}{Z:List au}(j:Ss I F r)(h:lU c=true)(a:(i.endLine==z.line)=true)(P:n.all dy=true)(k:n.length<30)(u:aQ E G H c p)(y:hU (aQ E G H) n Z) (D:∀(M:aG)(g:ag)(K:Shared)(F:aa)(m:Value)(Y:List aa)(l:List Value)(L:aI aa)(J:ag)(X:Value->Shared->Prop),br E.cf E.bH M g K.heap->aE M K.heap F m->bh M K.heap Y l->l.length=n.length->dO I (F::Y) g=some (L,J)->∃Q,L=.ai Q/\E.cL (call (.builtin r)<|m::l) (jJ E.cf E.bH M J K Q) X K):aQ E G H (.Call (.Attribute c F i) n [] z)<|.i I p Z:=gF (λ_=>rfl) λM g XN K L J X V w f=>by show D1 (dp V u.bw w f λQ XO XQ XR XS O U o T=> ?_)<|yO h a P k;obtain⟨XT,XU,W,_,b⟩:=af.fW O;rw[j.Sw]at W;show lO (Le W) λXW XX C S d R=> ?_;obtain e:=b () d;rw[C]at T e;rw[R]at e;show Ld U.a.aP T S j.Su j.Sv ?_;show Bw P y U e f λY l t q B e s v A x=> ?_;show aB (D t B q _ _ _ _ L J X s.a.aP (fU U.a.aP v T) A x e) λQ c N=> ?_;show c▸Br (o.aC v) N
def Sx{b d:au}(U:lU c=true)(P:(i.endLine==z.line)=true)(O:dy p=true)(e:aQ E G H c b)(f:aQ E G H p d):aQ E G H (.Call (.Attribute c "append" i) [p] [] z)<|.i .dj b [d]:=By (r:="list.append") ⟨PySem.F.slot_list_append,PySem.F.type_list_append,λ_=>rfl⟩ U P (by rw[List.all_cons,O];rfl) (j0 rfl) e (.cons f .nil) λN g K M a Y X L J I Z V T P w=>by show gZ (T.cW P) λQ F S R W=> ?_;obtain w:=S▸w;clear P;subst R;show KG (L:=E.dD) (K:=E.bV) (M:=I) Z V W w
def Sy{q t:au}(m:lU p=true)(f:(z.endLine==i.line)=true)(b:dy c=true)(u:aQ E G H p q)(v:aQ E G H c t):aQ E G H (.Call (.Attribute p "extend" z) [c] [] i)<|.i .Y q [t]:=By (r:="list.extend") ⟨PySem.F.slot_list_extend,PySem.F.type_list_extend,λ_=>rfl⟩ m f (by rw[List.all_cons,b];rfl) (j0 rfl) u (.cons v .nil) λP g K O n X0 X2 L a d Z V T f w=>by show gZ (T.cW f) λQ X3 j l W=> ?_;obtain w:=j▸w;clear f;subst l;show(by
intro _ _ _ _ _ P g _ Z _ _ _ _ L a V Y w;show eA λX4 o=> ?_;show aB (lx<|show jc _ _ _=_ from w) λJ p w=> ?_;show aB (lx w) λk C w=> ?_;show aB (ly<|show gX _ _ _=_ from w) λM f w=> ?_;show aB (ly w) λN r w=> ?_;show lO ((by
intro _ N _ _ _ _ w;rcases N with-|⟨c,-|⟨I,-|⟨_,_⟩⟩⟩<;>first|(show cq w;done)|skip
obtain⟨s,w⟩:=jt w;show eZ (sJ w) λj l=> ?_;show nu c I rfl ((iG.mp s).2) j l:∀{M N J k L a}(w:JF M N J k g=some (L,a)),∃c I,N=[c,I]/\eN (M.length+2)=true/\L=.ai .none/\a=g.set J (.list<|M++N)) w) λc I D s j l=> ?_;obtain⟨i,E,XN,p,m,XO,h,T⟩:=Z.list f<|p▸V;obtain⟨XQ,S,XR,XS,X5,_,XT,y⟩:=Z.list r<|C▸Y;obtain x:=wt s T;obtain B:S.size=2:=by rw[<-Array.length_toList,<-y.jI,D];rfl
obtain⟨XU,XW⟩:=wq Z m f XO h (λXX=>XX++S) (R:=M++N) (by rw[Array.toList_append];show T.dj y);show o ?_;rw[p,l,XS];show aX _ j<|DZ F.slot_list_extend h.isList.typeIs F.entry_list_extend (F.args_list_extend_2 _ _) (AutoSeq1.list_extend_list_list_0 i.1 E XN XQ.1 S XR ?_ (aq bD x)<|jb<|aq (i8 (bP B) _) x) ⟨h,XT,P,XU,XW,.none⟩;rw[B,show Builtin.List.listTooLong (E.size+2)=false by show decide_eq_false<|Nat.not_lt.mpr x];simp:∀{XY:Program}{R:World}{e:Heap}{XZ:Around}{d:Value->Shared->Prop}{P:aG}{g:ag}{K:Shared}(Z:br R e P g K.heap){O U n X L a}(V:aE P K.heap O n)(Y:aE P K.heap U X)(w:JJ .Y O U g=some (L,a)),∃Q,L=.ai Q/\wpAny (model XY R) XZ (call (.builtin "list.extend") [n,X]) (jJ R e P a K Q) d K) (XY:=E.dD) (XZ:=E.bV) (d:=d) Z V W w
end
section
set_option backward.eqns.nonrecursive true
set_option backward.eqns.deepRecursiveSplit true
set_option tactic.hygienic true
set_option genCtorIdx false in inductive fh where|E (F:List aa)|ref (Y:Nat)
noncomputable def fh.ctorIdx(U:fh):Nat:=U.casesOn (λ_=>0) λ_=>1
noncomputable def fh.aK:fh->Nat->ag->Option (Option aa)|.E F,J,_=>some F[J]?|.ref w,J,g=>match g[w]?with|some<|.list Y=>some Y[J]?|_=>none
inductive fG(g:aG)(w:Heap)(K:Addr):fh->Nat->Prop|tup {F:List aa} {H:Addr} {E:Array Value} {J:Nat}:w.IsTuple H E->bh g w F E.toList->w.IsTupleIter K H J->fG g w K (.E F) J|cM {F:List aa} {H:Addr} {E:Array Value} {J:Nat}:w.IsList H E->¬eT g H->bh g w F E.toList->w.IsListIter K H J->fG g w K (.E F) J|str {G:Str} {U:Tok} {J:Nat}:w.IsStrIter K "str_ascii_iterator" G U J->fG g w K (.E<|G.cps.toList.map λM=>.str ⟨#[M]⟩) J|ri {O J:Nat}:IsRangeIter w K (0+(J:Nat)*1) ((O:Int)-(J:Nat)) 1->fG g w K (.E<|jF O) J|ref {Y:Nat} {X:Addr×Addr} {J:Nat}:g[Y]?=some X->w.IsListIter K X.1 J->fG g w K (.ref Y) J
def fG.cI{g:aG}{w:fh}(G:fG g h k w a):∃S E,h.get? k=some S/\S.data=.fields E:=by induction G with|tup _ _ h=>show cC h λS L _ O=> ?_;show lN S _ L O|cM _ _ _ h=>show cC h λS L _ O=> ?_;show lN S _ L O|str h=>show cC h λS L _ O=> ?_;show lN S _ L O|ri h=>show lN _ _ h rfl|ref _ h=>show cC h λS L _ O=> ?_;show lN S _ L O
section
variable{L:World}{K:Heap}{J O:aG}{M Q:ag}{E I:Shared}{G:Addr}{N:fh}{H:Nat}
def fG.o9(Z:br L K J M E.heap)(g:fG J E.heap G N H):¬eT J G:=λI=>by show js g.cI λS w F O=> ?_;show aB (qW Z I) λR W Y=> ?_;rw[F]at W;obtain rfl:=bO W;rcases Y with⟨_,_,Y,_⟩|⟨_,_,Y,_⟩<;>(rw[O]at Y;contradiction)
def fG.uL{J:aG}{F:List Env}(W:jM K J h F)(g:fG J h G N H):G∉eB F:=by show js g.cI λS w L E=> ?_;show W.eO L λU O Y=>by rw[E]at Y;contradiction
def fG.bK{P:Addr->Prop}(R:qV o E.heap)(X:¬o G)(a:¬P G)(Z:br L K J M E.heap)(g:fG J E.heap G N H)(V:bp J O o P E I):fG O I.heap G N H:=by have b:∀S,E.heap.get? G=some S->I.heap.get? G=some S:=λS F=>(V.aF G S F (g.o9 Z) X).2 a;induction g with|tup W T w=>show aB w λS F Y=> ?_;show .tup (Bf Z R V W) (uC Z R V T)<|aX S (b S F) Y|cM W U T w=>show aB w λS F Y=> ?_;show .cM (yF R V W U).1 (yF R V W U).2 (uC Z R V T)<|aX S (b S F) Y|str w=>show aB w λS F Y=> ?_;show .str<|aX S (b S F) Y|ri w=>show .ri<|b _ w|ref Q w=>show aB w λS F Y=> ?_;show .ref (V.sN Q)<|aX S (b S F) Y
structure rj(G:Addr)(E I:Shared):Prop where
aF:∀g,g≠G->∀S,E.heap.get? g=some S->I.heap.get? g=some S
iJ:I.gens=E.gens
iX:I.drawn=E.drawn
iK:I.os=E.os
def rj.Bz(P:rj G E I)(Z:br L K J M E.heap)(g:fG J E.heap G N H)(T:K.get? G=none):br L K J M I.heap/\∀{Q:aa}{F:Value},aE J E.heap Q F->aE J I.heap Q F:=by show js g.cI λS w R O=> ?_;show br.n9 Z P.aF (cO S R λ_ _ Y=>by rw[O]at Y;contradiction λY=>by rw[O]at Y;contradiction) (g.o9 Z) T
def Sz{H:Nat}{Q:aa}(w:(jF a)[H]?=some Q):H<a/\Q=.int H:=by unfold jF at w;simp only[List.getElem?_map,Int.toNat_natCast]at w;show aB (kI.mp w) ?_;clear w;rintro J U rfl;obtain⟨g,E⟩:=eD.mp U;rw[List.length_range]at g;rw[List.getElem_range]at E;show⟨g,by rw[E]⟩
theorem fG.Lf{XN:Program}{h:Around}{l:Option Value->Shared->Prop}{Q:aa}(W:h.handled=none)(Z:br L K J M E.heap)(R:fG J E.heap G N H)(m:K.get? G=none)(V:N.aK H M=some (some Q)) (c:∀e I,rj G E I->aE J I.heap Q e->fG J I.heap G N (H+1)->l (some e) I):wpAny (model XN L) h (pyNext<|.ref G) l b E:=by
 have A:∀p q,(∀a S,a∉[G]->E.heap.get? a=some S->p.get? a=some S)->rj G E {E with heap:=p,toks:=q}:=λp q XO=>⟨λa K S P=>XO a S (by simpa using K) P,rfl,rfl,rfl⟩;have y:∀{Y:Addr}{n:Array Value},E.heap.IsTuple Y n\/E.heap.IsList Y n->Y≠G:=λXQ P=>by subst P;show js R.cI λS X3 d XR=> ?_;rcases XQ with⟨XS,v,_,O,u⟩|⟨XS,v,_,O,u⟩<;>(replace v:=d.symm.trans v;obtain rfl:=bO v;(obtain u:=XR.symm.trans u;contradiction))
 have s:=R;induction R with| @tup F Y n H o T f=>
 have z:F[H]?=some Q:=by simpa[fh.aK]using V
 obtain⟨e,w,k⟩:=T.gW z;have D:H<n.size:=by have:=(eD.mp w).1;show this
 show(Walks.tuple W G Y (y<|.inl o) n).item H E l b D ⟨f,o⟩ λB p q x C j=> ?_;have:B=e:=by rw[<-Array.getElem?_toList]at x;show bO<|x.symm.trans w
 subst this;obtain⟨t,r⟩:=(A p q j).Bz Z s m;show c _ _ (A p q j) (r k)<|.tup C.2 (T.iL r) C.1| @cM F Y n H o XT T f=>
 have z:F[H]?=some Q:=by simpa[fh.aK]using V
 show aB (T.gW z) λe w k=> ?_;have D:H<n.size:=by have:=(eD.mp w).1;simpa using this
 show(Walks.list W G Y (y<|.inr o) n).item H E l b D ⟨f,o⟩ λB p q x C j=> ?_;have:B=e:=by rw[<-Array.getElem?_toList]at x;show bO<|x.symm.trans w
 subst this;obtain⟨t,r⟩:=(A p q j).Bz Z s m;show c _ _ (A p q j) (r k)<|.cM C.2 XT (T.iL r) C.1| @str U XU H f=>
 have z:(U.cps.toList.map λXW=>aa.str ⟨#[XW]⟩)[H]?=some Q:=by simpa only[fh.aK,Option.some.injEq]using V
 rw[List.getElem?_map]at z;obtain⟨X4,w,rfl⟩:=kI.mp z;have D:H<U.cps.size:=by have:=(eD.mp w).1;simpa using this
 show(Walks.strAscii W G U XU).item H E l b D f λB p q x C j=> ?_;show js x ?_;rintro X5 XX g rfl;rw[<-Array.getElem?_toList,w]at g;obtain rfl:=bO g;show c _ _ (A p q j) (.str _ _)<|.str C| @ri O H f=>
 obtain⟨XY,rfl⟩:=Sz (by simpa[fh.aK]using V);show(Walks.range W G 0 1 O).item H E l b XY f λB p q x C j=> ?_;obtain⟨XX,rfl⟩:=x;have:0+(H:Int)*1=(H:Int):=by simp+arith
 rw[this];show c _ _ (A p q j) (.int _ _)<|.ri C| @ref XZ X H i f=>
 simp only[fh.aK]at V;split at V
 ·rename_i X6 X0;have X2:=Z.cI XZ X _ i X0;obtain⟨n,O,P,d,T⟩:=X2.gb;show aB (T.gW<|by simpa using V) λe w k=> ?_;have D:H<n.size:=by have:=(eD.mp w).1;show this
  show(Walks.list W G X.1 (y<|.inr<|⟨_,d,rfl,O,rfl⟩) n).item H E l b D ⟨f,⟨_,d,rfl,O,rfl⟩⟩ λB p q x C j=> ?_;have:B=e:=by show bO<|(DY.trans x).symm.trans w
  subst this;obtain⟨t,r⟩:=(A p q j).Bz Z s m;show c _ _ (A p q j) (r k)<|.ref i C.1
 ·show bQ V
theorem fG.done{t:Program}{l:Around}{p:Option Value->Shared->Prop}(o:l.handled=none)(Z:br L K J M E.heap)(a:fG J E.heap G N H)(V:N.aK H M=some none)(D:∀F,N=.E F->H<=F.length) (e:∀I,rj G E I->p none I):wpAny (model t L) l (pyNext<|.ref G) p b E:=by
 have C:∀s v,(∀d S,d∉[G]->E.heap.get? d=some S->s.get? d=some S)->rj G E {E with heap:=s,toks:=v}:=λs v Y=>⟨λd K S P=>Y d S (by simpa using K) P,rfl,rfl,rfl⟩;have A:∀{c:Addr}{q:Array Value},E.heap.IsTuple c q\/E.heap.IsList c q->c≠G:=λw P=>by subst P;show js a.cI λS XQ i n=> ?_;rcases w with⟨R,y,_,O,x⟩|⟨R,y,_,O,x⟩<;>(rw[i]at y;obtain rfl:=bO y;obtain x:=n.symm.trans x;contradiction)
 induction a with| @tup F c q H r T k=>
 have B:F[H]?=none:=by simpa[fh.aK]using V
 have f:F.length<=H:=D2.mp B;have W:=D F rfl;obtain j:H=q.size:=by rw[<-Array.length_toList,<-T.jI];show i7 W f
 subst j;show(Walks.tuple o G c (A<|.inl r) q).done E p b ⟨k,r⟩ λs v g=>e _<|C s v g| @cM F c q H r XR T k=>
 have f:F.length<=H:=D2.mp (by simpa[fh.aK]using V);have W:=D F rfl;have j:H=q.size:=by rw[<-Array.length_toList,<-T.jI];show i7 W f
 subst j;show(Walks.list o G c (A<|.inr r) q).done E p b ⟨k,r⟩ λs v g=>e _<|C s v g| @str h U H k=>
 obtain f:=D2.mp (by simpa only[fh.aK,Option.some.injEq]using V);obtain W:=D _ rfl;obtain j:H=h.cps.size:=by rw[List.length_map]at f W;show IT▸i7 W f
 clear D;subst j;show(Walks.strAscii o G h U).done E p b k λs v g=>e _<|C s v g| @ri O H k=>
 have f:=D2.mp (by simpa[fh.aK]using V);have XS:(jF O).length=O:=by unfold jF;simp
 have j:H=O:=by lia
 clear D;subst j;show(Walks.range o G 0 1 H).done E p b k λs v g=>e _<|C s v g| @ref u X H m k=>
 simp only[fh.aK]at V;split at V
 ·rename_i XT z;have Q:=Z.cI u X _ m z;obtain⟨q,O,P,i,T⟩:=Q.gb;have XN:q[H]?=none:=by rw[<-Array.getElem?_toList,List.getElem?_eq_none_iff,<-T.jI];show D2.mp<|by simpa using V
  show wpAny_pyNext_list_end o k (⟨_,i,rfl,O,rfl⟩) XN λs XO=>e _ ⟨λd K S P=>XO d S K P,rfl,rfl,rfl⟩
 ·show bQ V
theorem Lg{S:Program}{W:Around}{Q:aa}{F:List aa}(Z:br L K J M E.heap)(V:aE J E.heap Q d)(R:lL Q=some F) (N:∀G I,cN E I->E.heap.get? G=none->fG J I.heap G (.E F) 0->b (.ref G) I):wpAny (model S L) W (pyIter d) b s E:=by
 rcases Q with⟨⟩<;>first|(simp[lL]at R;done)|skip
 ·rename_i O;obtain⟨U,rfl⟩:=V.gb;simp only[lL]at R;by_cases Y:O.cps.all λP=>decide<|P<128=true;·rw[if_pos Y]at R;obtain rfl:=bO R;show wpAny_pyIter_ascii Y<|N _ _ (cN.gq E _) (nC _)<|.str (U:=U)<|cO _ (my _ rfl) rfl rfl
  ·rw[if_neg Y]at R;show bQ R
 ·obtain rfl:=bO R;obtain⟨H,g,rfl,w,a⟩:=V.gb;have T:=cN.gq E {cls:=.type "tuple_iterator",data:=.fields #[.ref H,.int 0 0]};show wpAny_pyIter_tuple (items:=g) w<|N _ _ T (nC _)<|.tup (Bf Z pd (T.bK J bR n7) w) (uC Z pd (T.bK J bR n7) a)<|cO _ (my _ rfl) rfl rfl
 ·obtain rfl:=bO R;obtain⟨H,g,rfl,w,X,a⟩:=V.gb;obtain T:=cN.gq E {cls:=.type "list_iterator",data:=.fields #[.ref H,.int 0 0]};show wpAny_pyIter_list (items:=g) w<|N _ _ T (nC _)<|.cM (yF pd (T.bK J bR n7) w X).1 X (uC Z pd (T.bK J bR n7) a)<|cO _ (my _ rfl) rfl rfl
def Lh{S:Program}{U:Around}{P:List aa}(Z:br L K J M E.heap)(T:aE J E.heap (.ref a) d)(F:M[a]?=some (.list P)) (N:∀G I,cN E I->E.heap.get? G=none->fG J I.heap G (.ref a) 0->b (.ref G) I):wpAny (model S L) U (pyIter d) b s E:=by show aB (Z.J2 F) λX V Q=> ?_;obtain⟨Y,rfl,R⟩:=T.gb;obtain rfl:=bO<|V.symm.trans R;obtain⟨g,O,w,H,T⟩:=Q.gb;show wpAny_pyIter_list (items:=g) ⟨_,H,rfl,O,rfl⟩<|N _ _ (cN.gq E {cls:=.type "list_iterator",data:=.fields #[.ref X.1,.int 0 0]}) (nC _)<|.ref V<|cO _ (my _ rfl) rfl rfl
theorem Li{S:Program}{Z:Around}{O:Int}{U g Q:Tok}(K:IsRange E.heap k 0 O 1 U g Q)(V:O<=1000)(W:-2^62<=O) (N:∀G I,cN E I->E.heap.get? G=none->fG J I.heap G (.E<|jF O) 0->b (.ref G) I):wpAny (model S L) Z (pyIter<|.ref k) b s E:=by
 have w:Builtin.Range.rangeSize 0 O 1=(O.toNat:Int):=by rw[rangeSize_one];split<;>lia-abstractProof
 show wpAny_pyIter_range K (small_one (by decide) (by decide) W<|by lia-abstractProof) ?_;show N _ _ (cN.gq E _) (nC _) ?_;show .ri ?_;rw[w];show my _ rfl
end
end
section
variable{J:bL}{L:Env}{R:List Str}{K:aG}{E H:ag}{I:ak}{M Q:Shared}{N:Addr}{O:fh}{G:Nat}
def jM.cA{V:List Env}{w M:Heap}(W:jM h K w V)(N:∀Y S I O,w.get? Y=some S->S.data=.dict I O->¬eT K Y->∃R Z X,M.get? Y=some R/\R.data=.dict Z X):jM h K M V:=λL J=>by show eA λT Q=> ?_;obtain⟨H,Y,g,F,G,S,I,O,E,P⟩:=W L J;show Q ?_;show(N Y S I O E P G).elim λR U=>U.elim λZ U=>U.elim λX U=>⟨H,Y,g,F,G,R,Z,X,U.1,U.2⟩
def ay.uM(V:J.ay L R K E I M)(Z:fG K M.heap N O G)(e:rj N M Q)(v:J.bH.get? N=none)(q:J.gE.heap.get? N=none):J.ay L R K E I Q:=by
 show js Z.cI λB s z Y=> ?_;obtain⟨x,u⟩:=e.Bz V.a.aP Z v;have j:∀H S i b,M.heap.get? H=some S->S.data=.dict i b->H≠N:=λH S i b d W P=>by rw[P,z]at d;obtain rfl:=bO d;rw[Y]at W;contradiction
 have A:∀H S c,M.heap.get? H=some S->S.data=.cell c->H≠N:=λH S c d W P=>by rw[P,z]at d;obtain rfl:=bO d;rw[Y]at W;contradiction
 obtain⟨S,i,b,g,h,o⟩:=V.a.gc.a;show⟨⟨x,⟨⟨S,i,b,e.aF _ (j _ _ _ _ g h) _ g,h,o⟩,λU H k=> ?_⟩,V.a.qY,V.a.eK,λf U c d W=> ?_,V.a.aZ⟩,V.eB.cA λT S i b d W _=>qS S i b (e.aF _ (j _ _ _ _ d W) _ d) W, ?_⟩;·obtain⟨X,c,p,n⟩:=V.a.gc.B U H k;show⟨X,c,e.aF _ (A _ _ _ p n) _ p,n⟩
 ·show aB (V.a.ae f U c d W) λF l m=> ?_;show aX F ?_<|u m;rcases l with⟨a,S,i,b,p,n,r,t⟩|⟨a,H,S,p,n,r⟩;·show .sS a S i b (e.aF _ (j _ _ _ _ p n) _ p) n r t
  ·show .inr a H S p (e.aF _ (A _ _ _ n r) _ n) r
 ·obtain y:∀H,(J.gE.heap.get? H).isSome=true->H≠N:=λH w P=>by rw[P,q]at w;show Bool.noConfusion w
  show V.cP.uI (λH S w P=>e.aF H (y H w) S P) e.iJ e.iX e.iK
def ay.nq{n:ak}(V:J.ay L R K E I M)(H:jL J.cf J.bH L R K E n Q.heap)(G:bp K K (iu L j) J.bS M Q)(X:∀H,iu L j H->(J.gE.heap.get? H).isSome=true->J.wy H):J.ay L R K E n Q:=by
 show⟨H,V.eB.cA λT S U O b W e=> ?_, ?_⟩
 ·by_cases o:iu L j T
  ·rcases o with⟨_,rfl⟩|⟨_,f⟩;·obtain⟨q,r,l,k,i,_⟩:=H.gc.a;show qS q r l k i
   ·obtain⟨s,a,k,i⟩:=V.a.gc.B j T<|oQ f;rw[b]at k;obtain rfl:=bO k;rw[W]at i;contradiction
  ·obtain⟨⟨p,F⟩,_⟩:=G.aF T S b e o;show qS _ U O F W
 ·have m:=V.cP;show⟨m.fc.imp λZ w=>w,λP S w e c=> ?_,λP w=>G.ir P<|m.ir P w,G.iJ.trans m.iJ,G.iX.trans m.iX,G.iK.trans m.iK⟩;obtain⟨⟨p,t⟩,N⟩:=m.aF P S w e c;obtain⟨⟨g,d⟩,h⟩:=G.aF P _ t (m.o9 w e) λY=>c<|X P Y (by rw[w];rfl);show⟨⟨g,d⟩,λY=>(h Y).trans<|t.symm.trans<|N Y⟩
def rk(W:aa->af aa)(O:fh)(N:Nat):Nat->ag->ag->Prop:=Nat.rec (motive:=λ_=>Nat->ag->ag->Prop) (λG E H=>O.aK G E=some none/\H=E) (λ_ S G E H=>∃Q I M,O.aK G E=some (some Q)/\W Q E=some (.ai I,M)/\S (G+1) M H) N
def Lj{N:af e}{W:e->af m}{I:m}(w:af.aN N W E=some (.ai I,H)):∃g M,N E=some (.ai g,M)/\W g M=some (.ai I,H):=by
 obtain⟨G,M,F,V,L⟩:=af.fW w;rcases G with g|O;·show lN g M F<|L g rfl
 ·show nomatch(V O rfl).1
def Lk{W:aa->af aa}:∀{L:List aa}{I:List aa}{G:Nat}{E H:ag},I.drop G=L->kK W L E=some (.ai (),H)->∃N,rk W (.E I) N G E H:=by intro L;induction L with|nil=>intro I G E H F w;cases w;show⟨0,by rw[fh.aK,List.getElem?_eq_none<|List.drop_eq_nil_iff.mp F],rfl⟩|cons Q L S=>
intro I G E H F w;show js (Lj w) λO M J K=> ?_;obtain P:I[G]?=some Q:=by have:=List.getElem?_drop (xs:=I) (i:=G) (j:=0);rw[F]at this;show this.symm
obtain⟨N,g⟩:=S (I:=I) (G:=G+1) (by rw[<-List.tail_drop,F];rfl) K;show⟨N+1,Q,O,M,by rw[fh.aK,P],J,g⟩
def SA{W:aa->af aa}:∀{G:Nat}{E H:ag},v9 W u a G E=some (.ai (),H)->∃N,rk W (.ref u) N G E H:=by induction a with|zero=>intro G E H w;show cq w|succ a L=>
intro G E H w;show aB (ly w) λY F w=> ?_;generalize R:Y[G]?=S at w;rcases S with-|Q;·obtain rfl:=(JQ w).2;show⟨0,by simp only[fh.aK,F,R],rfl⟩
·show js (Lj w) λI M J K=> ?_;show lM (L K) λN g=> ?_;show⟨N+1,Q,I,M,by simp only[fh.aK,F,R],J,g⟩
def Ll{N:af e}{L:aI e}(w:kL N E=some (L,H)):∃g,L=.ai g/\N E=some (.ai g,H):=by
 unfold kL at w;generalize N E=S at w;rcases S with-|⟨g|O,T⟩;·show cq w
 ·obtain⟨rfl,rfl⟩:=dT w;show aX g rfl rfl
 ·show cq w
def afp{W:aa->af aa}(w:rk W O a G E H):∀I,O=.E I->a=0->I.length<=G:=λI F g=>by subst g;subst F;simpa[fh.aK,List.getElem?_eq_none_iff]using w.1
end
section
variable{I:Program}{H:World}{J:Heap}{M:Around}{L:Value->Shared->Prop}{E:aG}{K:ag}{G:Shared}
def SD{N:Int}{U:Tok}(g:IsL G.heap k y a)(W:0<=N)(V:N<y.size)(O:N<2^63) (w:t () {G with heap:=G.heap.update k<|Obj.mapSeq (·.setIfInBounds N.toNat d)}):wpAny (model I H) M (setItem (.ref k) (.int N U) d) t L G:=by show qJ ?_;show b0<|wpAny_sequenceKey g.isList.typeIs rfl ?_;show b0<|wpAny_callSpecial?_slot (name:=Str.ofString "__setitem__") g.isList.typeIs PySem.slot_list_setitem<|IZ PySem.slot_list_setitem g.isList.typeIs PySem.entry_list_setitem ?_<|PySem.args_list_setitem _ _ _;change wpAny _ _ (Builtin.List.listSubscript? (.int N U)>>=_) _ _ G;show b0<|wpAny_listSubscript_int (fitsIndex_of W O) ?_;clear O;obtain⟨J,rfl⟩:=Int.eq_ofNat_of_zero_le W;show b0<|b0<|wpAny_seqItemAt g rfl<|eM ?_;rw[Array.getElem?_eq_getElem<|iB V];show b0<|wpAny_setSeqItemAt g rfl ?_;first|show b0<|eM<|eM<|fS (.none) rfl<|eM w|show eM<|aX (.none) rfl<|eM w
def bh.pe{F:List aa}{Q:aa}(L:bh E h F l)(G:aE E h Q d):bh E h (F.set a Q)<|l.set a d:=L.wk (P:=λF l=>∀a,bh E h (F.set a Q)<|l.set a d) (λ_=>.nil) (λH L N a=>a.casesOn (.cons G L) λa=>.cons H<|N a) a
def SE{Q:aa}:∀{M:List<|Str×aa}{N:List<|Str×Value},(N.map (·.1)).Nodup->M.map (·.1)=N.map (·.1)->bh E h (M.map (·.2)) (N.map (·.2))->aE E h Q d->(oX j Q M).map (·.1)=(stored N j d).map (·.1)/\bh E h ((oX j Q M).map (·.2)) ((stored N j d).map (·.2)):=by intro M;induction M with
|nil=>intro N _ J T G;induction N using List.casesOn with|nil=>show⟨rfl,.cons G .nil⟩|cons _ _=>simp at J
|cons H L S=>intro N V J T G;obtain⟨f,a⟩:=H;induction N using List.casesOn with|nil=>simp at J|cons I Y=>
obtain⟨i,F⟩:=I;simp only[List.map_cons,List.cons.injEq]at J;obtain⟨rfl,J⟩:=J;simp only[List.map_cons,List.nodup_cons]at V
·show gZ T.gb λb Z w W K=> ?_;show eZ (m7 w) λg R=> ?_;rw[<-g]at W;rw[<-R]at K;clear w g R T;change(bif eY f j then(f,Q)::L else(f,a)::oX j Q L).map (·.1)=_/\bh E h ((bif eY f j then(f,Q)::L else(f,a)::oX j Q L).map (·.2)) _;rcases pM<|f=j with w|w
 ·subst w;obtain O:Y.map (λX=>if X.1=f then(X.1,d)else X)=Y:=by apply map_eq_self;intro U P;rw[if_neg];intro w;show V.1<|w▸List.mem_map_of_mem P
  rw[AH.mpr rfl];unfold stored;rw[if_pos<|by simp];simp only[cond_true,List.map_cons,O,if_true,J];show⟨trivial,.cons G K⟩
 ·rw[show eY f j=false by rw[sC];show beq_eq_false_iff_ne.mpr w];show eZ (S V.2 J K G) λc e=> ?_;have:stored ((f,F)::Y) j d=(f,F)::stored Y j d:=by unfold stored;rw[List.any_cons,decide_eq_false w,Bool.false_or,List.map_cons,if_neg w];split<;>rfl
  rw[this];simp only[cond_false,List.map_cons,c];show⟨trivial,.cons W e⟩
theorem SG(Z:br H J E K G.heap){Q U l:aa}{o v:Value}{W:aI Unit}{a:ag}(V:aE E G.heap Q o)(q:aE E G.heap U v)(r:aE E G.heap l d)(w:sD Q U l K=some (W,a)):W=.ai ()/\wpAny (model I H) M (setItem o v d) (λ_=>Bj H J E a G) L G:=by
 show aB (lx w) λXU D w=> ?_;rcases U with-|_|XW|N|_|_|_|_<;>first|(show cq w;done)|skip
 ·obtain⟨F,c,w⟩:=ly (w:gX _ _ _=_);obtain⟨m,w⟩:=jt w;obtain⟨g,R⟩:=sJ w;obtain⟨S,A⟩:=iG.mp m;show aB (sQ S) λb C XX=> ?_;obtain⟨X,n,XY,P,f,h,e,T⟩:=Z.list c<|D▸V;obtain⟨XZ,z⟩:=q.hR;subst C;have i:b<n.size:=by rw[<-Array.length_toList,<-T.jI];show j0 A
  show eZ (wq Z f c h e (·.setIfInBounds b d) (R:=F.set b l)<|by rw[Array.toList_setIfInBounds];show T.pe r) λu x=> ?_;rw[P,z,R];show⟨g,SD e (xT _) (ae8.mpr i) (by lia) ⟨E,u,x⟩⟩
 ·obtain⟨s,c,w⟩:=yA w;obtain⟨m,w⟩:=jt w;obtain⟨g,R⟩:=sJ w;obtain⟨X,n,P,f,h,O,i,T⟩:=Z.dict c<|D▸V;obtain⟨t,XN⟩:=q.hJ;have XO:(n.map (·.1)).Nodup:=by show JT O λ_ _ _ _ _ _ _ _ Y=> ?_;show Y
  obtain⟨XQ,XR⟩:=SE (j:=N) XO i T r;have XS:n.length=s.length:=by have:=congrArg List.length i;rw[List.length_map,List.length_map]at this;show this.symm
  simp only[P,XN,R];show⟨g,wpAny_setItem_pairs (knd:=strKind I H) (strKind_is I H N t) (yE O) (λp y B=> ?_)<|Bt<|XS▸j0 m⟩;have j:(p.get? X.2).isSome=true:=by show sG y λX0 _ _ Y _=> ?_;rw[h,Y];rfl
  show⟨E,Z.Fe (H:={G with heap:=p,toks:=G.toks+1}) f (h▸B) rfl rfl rfl (λXT=>.dict (E:=stored n N d) h (yE y) XQ<|XR.iL XT) j (eD.mp c).1,λX2 X3=>Bh (jC f) (h▸B) j rfl rfl rfl⟩
end
section
variable{E:bL}{G:Env}{H:List Str}
inductive Fx(E:bL)(G:Env)(H:List Str)(g:aG)(K:Shared)(L:aI ak)(J:ag)(w:Shared):Prop|mk (R:_) (T:_):L=.ai R->E.ay G H T J R w->bp g T (iM G) E.bS K w->Fx E G H g K L J w
def rq(E:bL)(G:Env)(H:List Str)(U:PySem.Expr)(X:ft):Prop:=∀(w:aG)(g:ag)(F:ak)(K:Shared)(Q:aa)(M:Value)(L:aI ak)(J:ag)(I:Value->Shared->Prop),E.ay G H w g F K->aE w K.heap Q M->nq aw E.call X Q F g=some (L,J)->E.iC L J I->E.cL (assign U G M) (λ_=>Fx E G H w K L J) I K
def iu.fT(w:iu G j k):iM G k:=by
 rcases w with⟨_,rfl⟩|⟨_,w⟩;·show .inl rfl
 ·show .inr ⟨j,oQ w⟩
def Lm(X:c9 G H)(f:∀N O,iu G N O->E.gE.heap.get? O=none){N:Str}(U:H[a]?=some N):rq E G H (.Name N i)<|.ae a:=λP g M K Q Z L J S V T w b=>by obtain⟨W,R⟩:=cS w;simp only[W,R];show I0<|uH (o:=E.bS) X V.a U T λc O e=> ?_;show⟨_,P,rfl,V.nq O e λI Y d=>by rw[f N I Y]at d;show Bool.noConfusion d,e.cZ (λ_ _ Y=>Y.fT) λ_ _ Y=>Y⟩
def Ln(N:E.dn){M:aG}{g P:ag}{G o:aa}{B:Value}{L:aI Unit}(q:a<19)(Z:br E.cf E.bH M g f.heap)(V:aE M f.heap G d)(s:aE M f.heap o B)(w:nW G a o g=some (L,P)):L=.ai ()/\E.cL (setAttr d (dm a) B) (λ_=>Bj E.cf E.bH M P f) b f:=by show aB (lx w) λJ H w=> ?_;show js (yB w) λXZ p S w=> ?_;obtain⟨j,w⟩:=jt w;obtain⟨l,m⟩:=sJ w;show m▸⟨l,(by
intro _ R _ _ _ _ _ M _ f U C Z J a E p Q _ F q V k S x;show eA λX0 XN=> ?_;obtain⟨X,XO,u,X2,XQ,H,I,K⟩:=Z.bt S V;show sF (Ff (j:=dm a) (H:=PyData.keyHash R.params<|dm a) (Q:=.str (dm a)<|f.toks+1) (d:=F) (M:=u.cls) (Y:=u.dict) (a:=XQ) (P:=u.slots) ⟨_,rfl⟩ K.Be) λy t z XR XS W s=> ?_;have XT:X.1≠X.2:=λH=>by obtain w:=K.qU;rw[H,K.o7]at w;obtain w:=K.uA.symm.trans<|jZ w▸K.uB;contradiction
show XN ?_;rw[H];show QO (C.keeps Z.cP) (O:=XO) (H:=u) ⟨K.qU,K.yC,Fh K.uA,by show K.jG▸K.o7⟩ K.jG K.o7 (U.QQ E K.U) (U.uE E K.U) (by unfold takerIn;rw[U.Kg E a K.U q];rfl) (U.jG E K.U) K.uB K.Be (aq K.Fd<|aq x<|j0 rfl) ?_;obtain z:Obj.putName (dm a) (PyData.keyHash R.params<|dm a) (.str (dm a)<|f.toks+1) F u=⟨u.cls,u.dict,.dict y t,u.slots⟩:=by rw[<-z,<-K.uB]
have A:(f.heap.update X.2<|Obj.putName (dm a) (PyData.keyHash R.params<|dm a) (.str (dm a)<|f.toks+1) F).get? X.2=some ⟨u.cls,u.dict,.dict y t,u.slots⟩:=by show z▸t6 _ K.o7 (by rw[z];rfl)
obtain D:=Heap.SameBut.update (h:=f.heap) (a:=X.2)<|Obj.putName (dm a) (PyData.keyHash R.params<|dm a) (.str (dm a)<|f.toks+1) F;show⟨M,Z.Fe (a:=J) I D rfl rfl rfl (λO=>.bt ⟨(D.2 _ XT).trans K.qU,K.yC,K.jG,K.uA,A,K.J0,K.QB,rfl,XR, ?_,K.U,QV q K.o8,λG V=> ?_,λG r V=> ?_⟩) (by rw[A];rfl) (eD.mp S).1,λX3 X4=>Bh (jC I) D (by rw[A];rfl) rfl rfl rfl⟩
·obtain w:=QW (a:=a) (Q:=Q) (w:=p);rcases Y:nh p a with _|r;·rw[w.2 Y];show aq XS<|cB K.Fd
 ·show aB (K.yD (dm a) r<|by show(Kj q K.o8).trans Y) λX5 XU _=> ?_;rw[s<|by rw[XU];rfl];show aq K.Fd w.1
·rw[Kl q K.o8]at V;rw[W];by_cases H:G=dm a;·rw[if_pos H]at V;show nomatch V
 ·rw[if_neg H]at V⊢;show K.J1 G V
·rw[Kl q K.o8]at V;rw[W];by_cases H:G=dm a;·rw[if_pos H]at V⊢;show aX F rfl<|jZ V▸O k
 ·rw[if_neg H]at V⊢;show(K.yD G r V).imp λ_ Y=>⟨Y.1,O Y.2⟩:∀{XW:Program}{R:World}{e:Heap}{T:Frag}{XX:Nat->Addr}{XY:Around}{b:Value->Shared->Prop}{M:aG}{g:ag}{f:Shared}(U:yG T XX)(C:T.In e)(Z:br R e M g f.heap){J a E p Q d F}(q:a<19)(V:aE M f.heap (.ref J) d)(k:aE M f.heap Q F)(S:g[J]?=some (.bt E p))(x:p.length<=900),wpAny (model XW R) XY (setAttr d (dm a) F) (λ_=>Bj R e M (g.set J<|.bt E<|lq a Q p) f) b f) N.bH.q9 N.bH.V Z q (H▸V) s S<|j0 j⟩
def SH(m:E.dn){p:au}(Z:o6[a]?=some j)(u:aQ E G H c p):rq E G H (.Attribute c j i)<|.attr p a:=λO g F K Q e L J I V T w f=>by
 have z:dm a=j:=by unfold dm;rw[List.getD_eq_getElem?_getD,Z];rfl
 simp only[assign_Attribute,<-z];show b0<|qJ<|dp V u.bw w f λU X S k M P l n r=>b0<|Ax<|b0<|qJ ?_;show eA λh o=> ?_;obtain⟨x,t,W,_,b⟩:=af.fW P;obtain⟨c,N⟩:=Ln (b:=I) m ((eD.mp Z).1) l.a.aP r (fU V.a.aP n T) W;obtain⟨d,R⟩:=cS<|b () c;show o ?_;show dH N (λ_ q ⟨s,y,v⟩=>wpAny_release' ?_) λ_ _ j=>j;rw[d,R];show⟨F,s,rfl,l.bK y<|v _ _,(n.cZ (λ_ _ Y=>Y.elim) λ_ _ Y=>Y).aC<|v _ _⟩
def SI{o B:au}(v:aQ E G H c o)(C:aQ E G H p B):rq E G H (.Subscript c p i)<|.c o B:=λP g F K Q f L J I V T w h=>by show b0<|qJ<|dp V v.bw w h λO l S j M Z k m a=>b0<|qJ ?_;show dp k C.bw Z h λU X t q u W s x r=>b0<|Ax<|b0<|qJ ?_;show eA λXN n=> ?_;obtain⟨XO,XQ,e,_,b⟩:=af.fW W;obtain⟨c,N⟩:=SG (I:=E.dD) (M:=E.bV) (L:=I) s.a.aP (fU k.a.aP x a) r (fU k.a.aP x<|fU V.a.aP m T) e;obtain⟨d,R⟩:=cS<|b () c;show n ?_;show dH N (λ_ XR ⟨z,D,y⟩=>wpAny_release' ?_) λ_ _ O=>O;rw[d,R];show⟨F,z,rfl,s.bK D<|y _ _,((m.aC x).cZ (λ_ _ Y=>Y.elim) λ_ _ Y=>Y).aC<|y _ _⟩
def BA(w:n.all dy=true):assignEach n G=n.map λU=>(false,assign U G):=by induction n with|nil=>rfl|cons E L S=>
simp only[List.all_cons,Bool.and_eq_true]at w;obtain g:assignEach (E::L) G=(false,assign E G)::assignEach L G:=by rcases E with-|-<;>first|rfl|(cases w.1)
simp only[g,List.map_cons,<-S w.2]
def SJ(u:∀{P:aG}{g:ag}{F:ak}{K:Shared},E.ay G H P g F K->qV (iM G) K.heap){Z:List ft}(q:hU (rq E G H) n Z):∀(P:aG)(g:ag)(F:ak)(K:Shared)(Y:List aa)(k:List Value)(L:aI ak)(J:ag)(I:Value->Shared->Prop),Y.length=Z.length->E.ay G H P g F K->bh P K.heap Y k->AU aw E.call Z Y F g=some (L,J)->E.iC L J I->E.cL (assignInOrder (n.map λU=>assign U G) k) (λ_=>Fx E G H P K L J) I K:=by induction q with|nil=>intro P g F K Y k L J I b V T w e;show eZ (cS w) λd R=> ?_;rw[d,R];show eM ⟨F,P,rfl,V,bp.n8 ..⟩|cons r _ S=>intro P g F K Y k L J I b V T w e;induction T using bh.casesOn with|nil=>contradiction|cons o i=>obtain⟨O,M,X,a,c⟩:=af.fW<|show af.aN _ _ _=_ from w;show b0<|qJ<|dH (r P g F K _ _ O M I V o X<|e.cg a) (λ_ f ⟨s,j,d,h,W⟩=> ?_) λ_ _ N=>N;show dH (S j M s f _ _ L J I (vO b) h (uC V.a.aP (u V) W i) (c s d) e) (λ_ l ⟨t,Q,R,m,p⟩=>⟨t,Q,R,m,W.aC p⟩) λ_ _ N=>N
def SK(N:E.dn){Z:List ft}(W:n.all dy=true)(p:hU (rq E G H) n Z):rq E G H (.Tuple n a i)<|.tup Z:=λR g F K Q d L J X V c w e=>by
 rcases Q with-|_|_|_|Y|_|_|_<;>first|(show cq w;done)|skip
 show eZ (jt w) λb w=> ?_;have b:=Av.mp b
 ·obtain⟨P,f,q,h,c⟩:=c.lT;show q▸assign_Tuple_tuple (items:=f) N.M h ?_ ?_ λj U=> ?_;·rw[BA W,List.length_map,<-Array.length_toList,<-c.jI,b];show p.jI
  ·rw[BA W,List.findIdx?_eq_none_iff];simp
  ·have T:cN K {K with heap:=j}:=⟨λI S M=>U I S (gL<|kj M) M,rfl,rfl,rfl⟩;rw[BA W,List.map_map];show dH (SJ (λV=>V.a.fT) p R g F _ Y f.toList L J X b (V.aF T) (Fm V.a.aP (T.bK R bR E.bS) c) w e) (λ_ k i=> ?_) λ_ _ O=>O;obtain⟨r,m,M,l,o⟩:=i;show⟨r,m,M,l,(T.bK R _ _).aC o⟩
end
section
variable{K:World}{M:Heap}{I O:aG}{L Q:ag}{E N:Shared}{G:Addr}{J:fh}{H:Nat}
def fG.wG{l:Program}{f:Around}(j:f.handled=none)(Z:br K M I L E.heap)(Q:fG I E.heap G J H)(c:∀m,J=.ref m->∃Y,L[m]?=some (.list Y))(w:b (.ref G) E):wpAny (model l K) f (pyIter<|.ref G) b s E:=by
 have q:∀{V:Addr}{g:Array Value},E.heap.IsTuple V g\/E.heap.IsList V g->V≠G:=λW P=>by subst P;show js Q.cI λS n d i=> ?_;rcases W with⟨R,p,_,O,o⟩|⟨R,p,_,O,o⟩<;>(rw[d]at p;obtain rfl:=bO p;rw[i]at o;contradiction)
 clear c;induction Q with| @tup F V g H k T e=>show(Walks.tuple j G V (q<|.inl k) g).self H E b s ⟨e,k⟩ w| @cM F V g H k N T e=>show(Walks.list j G V (q<|.inr k) g).self H E b s ⟨e,k⟩ w| @str a U H e=>show(Walks.strAscii j G a U).self H E b s e w| @ri O H e=>show(Walks.range j G 0 1 O).self H E b s e w| @ref m X H h e=>show wpAny_pyIter_listiter e w
def fG.oo(g:fG I h G J H):∃S F O,h.get? G=some S/\S.data=.fields F/\S.cls=.type O/\["enumerate","zip","dict_itemiterator","dict_reverseitemiterator","odict_iterator","itertools.zip_longest","itertools.pairwise"].contains O=false:=by induction g with|tup _ _ h=>show cC h λS L w E=> ?_;show mE S _ _ L E w<|rfl|cM _ _ _ h=>show cC h λS L w E=> ?_;show mE S _ _ L E w<|rfl|str h=>show cC h λS L w E=> ?_;show mE S _ _ L E w<|rfl|ri h=>show mE _ _ _ h rfl rfl<|rfl|ref _ h=>show cC h λS L w E=> ?_;show mE S _ _ L E w<|rfl
def fG.dE{Q:Program}{Z:Around}(g:fG I E.heap G J H)(w:t () E):wpAny (model Q K) Z (letOwnedTupleGo c (.ref G) d) t b E:=by
 show lP g.oo λS R O L N P V=> ?_;have T:∀U F X,wpAny (model Q K) Z (letOwnedTupleGo (.Tuple U F X) (.ref G) d) t b E:=λU F X=>by induction d with|ref M=>show b0<|wpAny_load L ?_;rw[P,N];dsimp only;rw[V,Bool.false_and];show eM w|_=>show eM w
 rcases c with-|-<;>first|show eM w|show T [] 0<|by assumption
end
structure ju(K:Env)(Z:List Str)(L:Scope)(g:List Str)(O:List Nat):Prop where
eO:L.kind=.function
SM:∀U∈L.names,U.2≠.cell
kQ:∀U∈L.names,U.2=.local->L.names.lookup U.1=some .local
Lo:∀G∈g,L.names.lookup G=some .local/\(G==("__debug__":Str))=false/\(G==("__classdict__":Str))=false
cW:(L.names.filter (·.2==.free)).length<=1
yQ:∀X∈L.names,X.2=.free->L.names.lookup X.1=some .free/\K.kindOf X.1=some .cell/\∃H,K.cells.lookup X.1=some H
Lp:∀J∈O,∃G,Z[J]?=some G/\(G,NameKind.free)∈L.names/\(G==("__debug__":Str))=false/\(G==("__classdict__":Str))=false
j4:(g++O.map λJ=>Z.getD J "").Nodup
noncomputable def fi(L:Scope)(K:Env):List<|Str×Addr:=(L.names.filter (·.2==.free)).reverse.map λX=>(X.1,(K.cells.lookup X.1).getD 0)
noncomputable def ij(Z:List Str)(X:List Str)(O:List Nat):List Str:=X++O.map λJ=>Z.getD J ""
section
variable{E:Env}{H:List Str}{G:Scope}{J:List Str}{I:List Nat}
def ju.Lq(N:ju E H G J I):closureFor G E=pure (fi G E):=(by
intro G E w;have b:∀(c:List<|Str×NameKind)(W:List<|Str×Addr),(∀X∈c,X.2=.free->∃M,E.cells.lookup X.1=some M)->(forIn c W λF L=>(match F with|(Z,d)=>if(d==NameKind.free)=true then do let U<-cellOf E Z;pure<|ForInStep.yield<|(Z,U)::L else pure (ForInStep.yield L):Sem<|ForInStep<|List<|Str×Addr))=pure ((c.filter (·.2==.free)).reverse.map (λX=>(X.1,(E.cells.lookup X.1).getD 0))++W):=by intro c;induction c with|nil=>intro W _;rfl|cons X L S=>
 intro W P;obtain⟨O,N⟩:=X;have K:=λY R=>P Y<|dI R;rw[List.forIn_cons];by_cases g:N=.free
 ·subst g;obtain⟨M,T⟩:=P (O,.free) cY rfl;have:cellOf E O=pure M:=by unfold cellOf;rw[T]
  simp only[this];show(S _ K).trans ?_;simp[T]
 ·have Q:(N==NameKind.free)=false:=by simpa using g
  simp only[Q];show(S _ K).trans ?_;rw[List.filter_cons_of_neg<|by simp[Q]]
have:=b G.names [] w;rw[List.append_nil]at this;change(forIn G.names [] _>>=λa=>pure a:Sem _)=_;rw[this];rfl:∀{G E}(w:∀X∈G.names,X.2=.free->∃M,E.cells.lookup X.1=some M),closureFor G E=pure ((G.names.filter (·.2==.free)).reverse.map λX=>(X.1,(E.cells.lookup X.1).getD 0))) λX P V=>(N.yQ X P V).2.2
def ju.cg(N:ju E H G J I)(w:(j,k)∈fi G E):(j,NameKind.free)∈G.names/\E.cells.lookup j=some k:=by
 show aB (nU.mp w) λX L F=> ?_;have L:=List.mem_filter.mp<|List.mem_reverse.mp L;obtain⟨O,M⟩:=X;have g:M=.free:=by simpa using L.2
 clear w;subst g;obtain⟨rfl,rfl⟩:=vN F;obtain⟨_,_,K,Q⟩:=N.yQ _ L.1 rfl;show⟨L.1, ?_⟩;rw[Q];rfl
theorem ju.Lr(N:ju E H G J I)(V:(j,NameKind.free)∈G.names)(g:E.cells.lookup j=some k):(fi G E).lookup j=some k:=by unfold fi;rw[(by
intros;rcases F with _|⟨U,L⟩;·simp at w
·rcases L with _|⟨_,_⟩;·rw[List.mem_singleton.mp w]
 ·show absurd W (Nat.not_le.mpr<|Nat.succ_lt_succ<|Nat.succ_pos _):∀{X F j}(w:j∈F)(W:F.length<=1),F=[j]) (List.mem_filter.mpr ⟨V,rfl⟩) N.cW];simp[g]
def ju.Ls(N:ju E H G J I)(K:E.scope.kind=.function)(M:Addr)(V:(j,NameKind.free)∈G.names):(compEnvC G (fi G E) M E).kindOf j=some .cell:=by
 show iI (N.yQ _ V rfl) λg W _=> ?_;have P:∀(Z:List<|Str×NameKind),Z.lookup j=some .free->(Z.map λ(O,N)=>if N==NameKind.free&&E.scope.kind==.function&&E.kindOf O==some .cell then(O,NameKind.cell)else(O,N)).lookup j=some .cell:=by intro Z;induction Z with|nil=>intro w;show bQ w|cons X L S=>
  intro w;obtain⟨O,Q⟩:=X;rw[List.map_cons];rcases R:j==O with _|_
  ·simp only[List.lookup_cons,R]at w;by_cases F:(Q==NameKind.free&&E.scope.kind==.function&&E.kindOf O==some .cell)=true;·dsimp only;rw[if_pos F];simp only[List.lookup_cons,R];show S w
   ·dsimp only;rw[if_neg F];simp only[List.lookup_cons,R];show S w
  ·simp only[List.lookup_cons,R]at w;rw[bO w];have:O=j:=(Av.mp R).symm;cases this;dsimp only at W⊢;rw[if_pos<|by simp[K,W]];simp
 show P _ g
def ju.SN(N:ju E H G J I)(Y:c9 E H)(g:∀K M,(K,M)∈E.cells->M≠k):c9 (compEnvC G (fi G E) k E) (ij H J I)where
eO:=N.eO;bE:=Y.bE;sR:=Y.sR;kQ:=λK V=>by
 rcases oP.mp V with V|V;·show iI (N.Lo K V) λQ W R=> ?_;have:(compEnvC G (fi G E) k E).kindOf K=some .local:=lookup_relabel_local Q;unfold wu;rw[this];simp only[bne,W,R];rfl
 ·show aB (nU.mp V) ?_;clear V;clear V;rintro P S rfl;show AY (N.Lp P S) λK Q W R T=> ?_;obtain F:H.getD P ""=K:=by rw[List.getD_eq_getElem?_getD,Q];rfl
  rw[F];have:=N.Ls Y.eO k W;obtain⟨_,_,O,U⟩:=N.yQ _ W rfl;unfold wu;rw[this,show(compEnvC G (fi G E) k E).cells.lookup K=some O from N.Lr W U];simp only[bne,R,T];rfl
j4:=N.j4;KJ:=by
 obtain W:=N.cW;change(fi G E).Pairwise _;unfold fi;generalize G.names.filter (·.2==.free)=Z at W;rcases Z with _|⟨X,L⟩;·show .nil
 ·rcases L with _|⟨_,_⟩;·simp
  ·show absurd W<|xY.mpr<|Nat.succ_lt_succ<|vQ _
uG:=λK O w=>g K O<|oQ (N.cg w).2
end
section
variable{L:bL}{E:Env}{H:List Str}{N:Scope}{I:List Str}{K:List Nat}{M:aG}{Q:ag}{J:ak}{O:Shared}{G:Addr}
def SP(X:c9 E H)(c:ju E H N I K)(V:L.ay E H M Q J O)(m:wx O.heap G)(g:L.bH.get? G=none)(i:¬eT M G):L.ay (compEnvC N (fi N E) G E) (ij H I K) M Q (List.replicate I.length none++K.map λb=>(J[b]?).join) O:=by
 show⟨⟨V.a.aP,⟨m,λT a w=> ?_⟩,λa k=> ?_,λa k=> ?_,λb T d e W=> ?_, ?_⟩,V.eB,V.cP⟩;·show V.a.gc.B T a<|oQ (c.cg w).2
 ·rcases k with rfl|⟨T,w⟩;·show g
  ·show V.a.qY a<|.inr ⟨T,oQ (c.cg w).2⟩
 ·rcases k with rfl|⟨T,w⟩;·show i
  ·show V.a.eK a<|.inr ⟨T,oQ (c.cg w).2⟩
 ·by_cases h:b<I.length;·rw[List.getElem?_append_left<|by simpa using h]at W;simp[h]at W
  ·rw[List.getElem?_append_right<|by simpa using h,List.length_replicate,List.getElem?_map]at W;unfold ij at e;rw[List.getElem?_append_right<|by simpa using h,List.getElem?_map]at e;rcases p:K[b-I.length]?with _|f;·rw[p]at e;show bQ e
   ·rw[p]at e W;simp only[Option.map_some,Option.some.injEq]at e W;show cC (c.Lp f<|jC p) λU q o _=> ?_;obtain P:H.getD f ""=U:=by show List.getD_eq_getElem?_getD.trans ?_;rw[q];rfl
    rw[P]at e;subst e;have u:J[f]?=some (some d):=by
     rcases Y:J[f]?with _|l;·rw[Y]at W;show bQ W
     ·rw[Y]at W;simp at W;rw[W]
    show aB (V.a.ae f U d q u) λF j n=> ?_;obtain⟨_,s,a,k⟩:=c.yQ _ o rfl;show aX F ?_ n;rcases j with⟨l⟩|⟨l,t,S,Z,R,r⟩;·rw[s]at l;show nomatch l
    ·show .inr (.inl<|c.Ls X.eO G o) t S (c.Lr o Z) R r
 ·unfold ij;simp only[List.length_append,List.length_append,List.length_replicate,List.length_map,List.length_map]
end
inductive pf:PySem.Expr->List Str->Prop|cW (G:Str) (X:Pos):pf (.Name G X) [G]|rd (G U:Str) (X Y L:Pos) (N:Nat):pf (.Tuple [.Name G X,.Name U Y] N L) [G,U]
section
variable{E:bL}{H:Env}{R:List Str}{I:Scope}{K:List Str}{Q:List Nat}{M S:aG}{N T:ag}{O:ak}{L J:Shared}{G:Addr}{U:Value->Shared->Prop}
def iu.iU(N:ju H R I K Q)(V:j∈K)(w:iu (compEnvC I (fi I H) G H) j k):k=G:=by
 rcases w with⟨_,rfl⟩|⟨w,_⟩;·rfl
 ·rw[show(compEnvC I (fi I H) G H).kindOf j=some .local from lookup_relabel_local (N.Lo j V).1]at w;rcases w with w|w<;>contradiction
def Fy(P:ju H R I K Q)(W:c9 (compEnvC I (fi I H) G H)<|ij R K Q)(e:E.gE.heap.get? G=none){S:aa}(X:K[a]?=some j) (V:E.ay (compEnvC I (fi I H) G H) (ij R K Q) M N O L)(T:aE M L.heap S d) (w:∀J,E.ay (compEnvC I (fi I H) G H) (ij R K Q) M N (O.set a<|some S) J->bp M M (·=G) E.bS L J->t () J):E.cL (assign (.Name j i) (compEnvC I (fi I H) G H) d) t U L:=by
 obtain Z:=jC X;obtain f:(ij R K Q)[a]?=some j:=by show(sm (eD.mp X).1).trans X
 show I0<|uH W V.a f T λJ g c=>w J ?_<|c.cZ (λF _ Y=>Y.iU P Z) λ_ _ Y=>Y;show V.nq g c λF Y b=>by rw[Y.iU P Z,e]at b;show Bool.noConfusion b
def SQ{G:List<|Option aa}{Q:aa}{L:aI ak}(w:nk 2 G Q N=some (L,T)):∃H I,Q=.tup [H,I]/\L=.ai (some H::some I::G)/\T=N:=by
 rcases Q with-|_|_|_|O|_|_|_<;>first|(show cq w;done)|skip
 rcases O with-|⟨H,-|⟨I,-|⟨_,_⟩⟩⟩<;>first|(show cq w;done)|skip
 obtain⟨g,R⟩:=cS w;show we H I rfl g R
def SR(o:E.dn)(a:ju H R I K Q)(z:c9 (compEnvC I (fi I H) G H)<|ij R K Q)(C:E.gE.heap.get? G=none)(l:pf c K){b:aa}{u x:List<|Option aa}{v:ak} (V:E.ay (compEnvC I (fi I H) G H) (ij R K Q) M N (u++x) L)(A:u.length=K.length)(k:aE M L.heap b d)(j:nk K.length x b N=some (.ai v,T)) (w:∀J D,T=N->v=D++x->D.length=K.length->E.ay (compEnvC I (fi I H) G H) (ij R K Q) M N (D++x) J->bp M M (·=G) E.bS L J->t () J):E.cL (assign c (compEnvC I (fi I H) G H) d) t U L:=by induction l with|cW P X=>obtain⟨rfl,rfl⟩:=JQ j;obtain⟨f,rfl⟩:=afb.mp A;show Fy a z C (a:=0) rfl V k λJ Y n=>w J [some b] rfl rfl rfl Y n|rd P X2 X X3 X4 s=>
show gZ (SQ j) ?_;clear j;rintro Y Z rfl B rfl;obtain rfl:=aI.ai.inj B
·skip;show pV ((by
 intro _ O w;rcases O with-|⟨Y,-|⟨Z,-|⟨_,_⟩⟩⟩;·show Nat.noConfusion w
 ·show Nat.noConfusion<|vO w
 ·show qR Y Z rfl
 ·show Nat.noConfusion (vO<|vO w):∀{h:Type}{O:List h}(w:O.length=2),∃Y Z,O=[Y,Z]) A) ?_;clear A;rintro f X5 rfl;show eA λX6 s=> ?_;obtain⟨X7,p,rfl,q,y⟩:=k.gb;show gZ y.lS λX8 X9 g m y=> ?_;show gZ y.lS λYb Yc XN XO y=> ?_;show s ?_;obtain XQ:=y.qX;subst XQ;subst XN;show assign_Tuple_tuple (items:=p) o.M q ?_ rfl λr XR=> ?_;·change 2=p.size;rw[<-Array.length_toList,g];rfl
 ·rw[g];have e:cN L {L with heap:=r}:=⟨λZ S F=>XR Z S (gL<|kj F) F,rfl,rfl,rfl⟩;have XS:qV (·=G) ({L with heap:=r}:Shared).heap:=⟨λXT XU S XW=>(V.aF e).a.fT.n9 XT (by rw[XU];show .inl rfl) S XW⟩;show I1<|Fy a z C (a:=0) rfl (V.aF e) (fU V.a.aP (e.bK M bR E.bS) m) λYd XX W=> ?_;show I1<|Fy a z C (a:=1) rfl XX (pb (V.aF e).a.aP XS W<|fU V.a.aP (e.bK M bR E.bS) XO) λXY XZ X0=> ?_;show assignInOrder_nil<|w XY [some Y,some Z] rfl rfl rfl XZ<|((e.bK M _ _).aC W).aC X0
def bp.Bv{S Q F:aG}{T:Shared}(G:bp S Q bR E.bS f x)(K:bp Q F o E.bS x T)(w:∀H,(f.heap.get? H).isSome=true->¬o H):bp S F bR E.bS f T:=bp.cZ ((bp.cZ G (λ_ _ Y=>Y.elim) λ_ _ Y=>Y).aC K) (λH g Y=>w H g Y) λ_ _ Y=>Y
def bp.uM{F Q:aG}{T:Shared}(G:bp F Q bR o f x)(N:rj k x T)(w:f.heap.get? k=none):bp F Q bR o f T:=G.uI (λH S g E=>N.aF H (λY=>by rw[Y,w]at g;show Bool.noConfusion g) S E) N.iJ N.iX N.iK
def gr(E:bL)(K:List Str)(Q:List Nat)(O:ak)(I:au)(w:Nat):aa->af aa:=λg=>af.aN (nk K.length (Q.map λJ=>(O[J]?).join) g) λR=>af.aN (cG aw E.call I R) λG=>nY (.ref w) G
inductive SS(E:bL)(Y:Env)(Z K:List Str)(Q:List Nat)(O:ak)(G:aa->af aa)(R:fh)(I X:Addr)(M:aG)(L:Shared)(H:Nat)(W:ag)(F:Nat)(g:Shared):Prop|mk (T:aG) (U:ag) (J:Nat) (N:ak) (V:E.ay Y Z T U (N++Q.map λJ=>(O[J]?).join) g) (w:N.length=K.length) (P:fG T g.heap I R J) (S:rk G R F J U W) (XN:∀O,R=.E O->J<=O.length) (XO:bp M T bR E.bS L g) (XQ:T[H]?=some (X,X))
def rk.elim{M:aa->af aa}{G:fh}{N K:ag}(w:rk M G u a N K)(H:G.aK a N=some none->K=N->r)(I:∀g Q F J,u=g+1->G.aK a N=some (some Q)->M Q N=some (.ai F,J)->rk M G g (a+1) J K->r):r:=by induction u using Nat.casesOn with|zero=>show H w.1 w.2|succ g=>show wg w λQ F J V E L=> ?_;show I _ _ _ _ rfl V E L
def Lu(h:E.dn)(Yc:c9 H R)(v:ju H R I K Q){Yd:PySem.Expr}(YA:pf c K){XX:au}{w:fh}{XY:ag}{u:Value->Addr->Result->Shared->Prop} (YB:∀G,c9 (compEnvC I (fi I H) G H) (ij R K Q)->aQ E (compEnvC I (fi I H) G H) (ij R K Q) p XX) (XZ:E.ay H R M N O L)(r:L.heap.get? k=none)(X0:cN L J)(m:fG M J.heap k w 0) (YC:∀j,w=.ref j->∃X2,N[j]?=some (.list X2)) (Ye:rk (gr E K Q O XX N.length) w a 0 (N++[.list []]) XY) (YD:∀f G S q,br E.cf E.bH S XY q.heap->bp M S bR E.bS L q->aE S q.heap (.ref N.length) (.ref f)->L.heap.get? G=none->¬eT S G->E.bH.get? G=none->wx q.heap G->u (.ref f) G (.ok .next) q):E.cL (newList []) (λYg T=>E.cL (newFunctionEnv I H.globals (fi I H) [] H.qual none .none<|some H) (λYh Yi=>codeAny (model E.dD E.cf) E.bV (.compStart (.ListComp p [⟨c,Yd,[],0⟩] I i) 0 (.ref k) Yg {Yh with scope:=relabel I H}) (u Yg Yh.locals) Yi) U T) U J:=by
 show wpAny_newObj_type<|wpAny_newFunctionEnv v.SM (by intro Zb YE;simp at YE) (λt z B=> ?_) v.eO;have D:=XZ.aF X0;generalize X3:J.heap.push {cls:=.type "list",dict:=none,data:=.seq ([]:List Value).toArray}=Yj at z B⊢;generalize n:J.heap.objs.size=f at z B⊢;have g:Yj.objs.size=f+1:=by rw[<-X3,Heap.size_push,n]
 generalize Zc:Yj.objs.size=G at g z B⊢;have Yk:∀P,f<=P->J.heap.get? P=none:=λP e=>by induction F:J.heap.get? P with|none=>rfl|some Z=>show absurd (kj F)<|n▸Aw.mpr e
 have XN:J.heap.get? G=none:=Yk G<|g▸m8 _;obtain YF:∀P,J.heap.get? P=none->L.heap.get? P=none/\E.bH.get? P=none/\E.gE.heap.get? P=none:=λP e=>by
  show fS ?_ ?_ ?_;·induction F:L.heap.get? P with|none=>rfl|some Z=>obtain e:=(X0.aF P Z F).symm.trans e;injection e
  ·cases F:E.bH.get? P with|none=>rfl|some Z=>replace e:=(D.a.aP.cP P Z F).symm.trans e;cases e
  ·induction F:E.gE.heap.get? P with|none=>rfl|some Z=>have:=D.cP.ir P (by rw[F];rfl);rw[e]at this;contradiction
 have Yl:f≠G:=by rw[g];show gL iW
 have YG:cN J {J with heap:=t,toks:=J.toks+([]:List<|Str×Value).length}:=⟨λX4 Z F=>by show B.extBut X4 Z (g▸gL (I2<|n▸kj F))<|ki _ ?_;show X3▸ki _ F,rfl,rfl,rfl⟩;obtain YH:t.get? f=some {cls:=.type "list",dict:=none,data:=.seq ([]:List Value).toArray}:=by show B.extBut f _ Yl<|ki _ ?_;rw[<-X3,<-n];show my _ rfl
 obtain⟨Ym,X5⟩:=br.cV (H:={J with heap:=t,toks:=J.toks+([]:List<|Str×Value).length}) (S:=.list []) D.a.aP YG (v:=(f,f)) (Yk f aH) λZd=>.list rfl YH .nil;obtain YI:wx t G:=by show lP z λZ YJ W P X4 YK _=> ?_;show⟨Z,YJ,W,P,X4,YK⟩
 obtain YL:¬eT (M++[(f,f)]) G:=λd=>by
  rcases eT.dj.mp d with d|⟨Ze,YM,F⟩;·show aB (qW D.a.aP d) λZ b _=> ?_;replace b:=XN.symm.trans b;show bQ b
  ·rw[List.mem_singleton.mp YM]at F;show Yl F
 have Yn:=m.bK (o:=bR) pd (λY=>Y) (m.uL D.eB) D.a.aP<|X5 bR E.bS;show iI (YF G XN) λYo Yp YN=> ?_;have Yq:=v.SN Yc (k:=G) λXO P d F=>by obtain⟨Z,Yr,b,_⟩:=D.a.gc.B XO P d;rw[F,XN]at b;show bQ b
 have y:E.gE.heap.get? k=none/\E.bH.get? k=none:=by
  show⟨?_, ?_⟩;·induction F:E.gE.heap.get? k with|none=>rfl|some Z=>have:=XZ.cP.ir k (by rw[F];rfl);rw[r]at this;show Bool.noConfusion this
  ·cases F:E.bH.get? k with|none=>rfl|some Z=>replace r:=(XZ.a.aP.cP k Z F).symm.trans r;cases r
 obtain YO:k≠G:=λF=>by show js m.cI λZ Zf b _=> ?_;rw[F,XN]at b;show bQ b
 have Ys:codeAny (model E.dD E.cf) E.bV (.compLoop (.ListComp p [⟨c,Yd,[],0⟩] I i) 0 (.ref k) (.ref f)<|compEnvC I (fi I H) G H) (u (.ref f) G) {J with heap:=t,toks:=J.toks+([]:List<|Str×Value).length}:=by
  show kcp_loop (SS E (compEnvC I (fi I H) G H) (ij R K Q) K Q O (gr E K Q O XX N.length) w k f M L N.length XY) ?_ a ⟨_,_,0,List.replicate K.length none,SP Yc v (D.bK Ym<|X5 _ _) YI Yp YL,by simp,Yn,Ye,λ_ _=>fx,(X0.bK M _ _).aC<|X5 _ _,by rw[<-D.a.aP.aZ];simp⟩;rintro W Zg ⟨YQ,Zh,YR,Zi,l,YS,XQ,Yt,Yu,Yv,X6⟩;obtain YT:∀P,(L.heap.get? P).isSome=true->¬P=G:=λP e F=>by rw[F,Yo]at e;contradiction
  show Yt.elim (λV X7=> ?_) λYU Yr Zj Zk YV V Yw Yx=> ?_;·show XQ.done h.M l.a.aP V Yu λT x=> ?_;obtain s:=l.uM XQ x y.2 y.1;show YD f G YQ T (X7▸s.a.aP) (Yv.uM x r) (.ref (X:=(f,f)) X6) Yo (s.a.eK G<|.inl rfl) Yp s.a.gc.a
  ·show XQ.Lf h.M l.a.aP y.2 V λZl T x YW XR=> ?_;obtain s:=l.uM XQ x y.2 y.1;obtain⟨YX,Zm,Yy,YY,b⟩:=af.fW Yw;show XR.dE ?_;clear Yu;clear Yw;clear m;clear Ye;clear Yt;clear l;induction YX with|cR W=>have:=(YY W rfl).1;contradiction|ai Zn=>show SR h v Yq YN YA s YS YW Yy λYi YZ X7 Y0 Y1 X8 XS=> ?_;clear Yy;subst X7;subst Y0;have Y2:=b _ rfl;show dp X8 (YB G Yq).bw Y2 (λW F J Y=>by injection Y) λXO Zo Zp Zq Zr Y3 XT XU Y4=> ?_;show aB (KG (L:=E.dD) (K:=E.bV) (M:=notedBy (model E.dD E.cf) E.bV (compEnvC I (fi I H) G H) λF J=>u (.ref f) G (.error F) J) XT.a.aP (.ref (X:=(f,f))<|XU.sN<|XS.sN X6) Y4 Y3) λYr _ Y5=> ?_;have X9:=XR.bK (o:=(·=G)) ⟨λY6 Y7 Z b=>s.a.fT.n9 Y6 (by rw[Y7];show .inl rfl) Z b⟩ YO (XR.uL s.eB) s.a.aP XS;show dH Y5 (λ_ Zs Y8=> ?_) λ_ _ XO=>XO;obtain⟨Y9,Za,XW,_⟩:=Y8;have Yb:=X9.bK (o:=bR) pd (λY=>Y) (X9.uL X8.eB) X8.a.aP XU;show⟨YU,YV▸iW,Y9,_,YR+1,YZ,XT.bK Za<|XW _ _,Y1,Yb.bK (o:=bR) pd (λY=>Y) (Yb.uL XT.eB) XT.a.aP<|XW bR E.bS,Yx,λO F=>by clear X9;clear XR;clear Yb;clear Yx;subst F;simp only[fh.aK,Option.some.injEq]at V;have:=(eD.mp V).1;show j1 this,(((Yv.uM x r).Bv XS YT).aC XU).aC<|XW _ _,(XW bR E.bS).sN<|XU.sN<|XS.sN X6⟩
 show codeAny_compStart_list Ys<|Yn.wG h.M Ym (λj F=> ?_) Ys;obtain⟨X2,Yz⟩:=YC j F;show⟨X2,(sm (eD.mp Yz).1).trans Yz⟩
end
section
set_option tactic.hygienic true
def ru(E:PySem.Expr):Bool:=qZ E 7
def BB{K:Env}(w:ru c=false)(G:Value):foldedSetIterable c K G=pure G:=by rcases c with-|-<;>first|rfl|(show Bool.noConfusion w)
section
variable{E:bL}{J:Env}{N:List Str}{R:Scope}{G:List Str}{H:List Nat}{M:aG}{S K:ag}{L:ak}{I:Shared}{O:Value->Shared->Prop}{Q:aI aa}
inductive wH(E:bL)(J:Env)(N G:List Str)(H:List Nat)(V:au)(M:aG)(L:ak)(I:Shared)(Q:aI aa)(K:ag)(U:Value)(g:Shared):Prop|mk (P:_) (S:_) (F:_) (R:_) (w:_) (O:_):U=.ref P->E.ay J N S F L R->bp M S bR E.bS I R->R.heap.get? P=none->cN R g->fG S g.heap P w 0->(∀T,w=.ref T->∃Y,F[T]?=some (.list Y))->rk (gr E G H L V F.length) w O 0 (F++[.list []]) K->Q=.ai (.ref F.length)->wH E J N G H V M L I Q K U g
def Lv(t:E.dn)(X:c9 J N)(b:ju J N R G H){A:PySem.Expr}(k:pf p G){D:au}(f:ru c=false) (n:∀x,c9 (compEnvC R (fi R J) x J) (ij N G H)->aQ E (compEnvC R (fi R J) x J) (ij N G H) A D) (w:E.cL (eval c J) (λV o=>E.cL (pyIter V) (wH E J N G H D M L I Q K) O o) O I):E.cL (eval (.ListComp A [⟨p,c,[],0⟩] R i) J) (mG E.cf E.bH E.bS M I Q K) O I:=by show wpAny_comprehension_free (use:=none) rfl (BB f) b.Lq b.eO b.kQ<|dH w (λX5 o C=>dH C (λz X6 W=> ?_) λ_ _ P=>P) λ_ _ P=>P;clear C;clear w;obtain⟨X7,X8,r,o,X9,Yb,XN,XO,XQ,XR,XS,z,XT,XU,rfl⟩:=W;subst XN;show Lu (u:=λXW x=>compPost (model E.dD E.cf) E.bV O none (mG E.cf E.bH E.bS M I (.ai<|.ref r.length) K) XW x) t X b k n XO XR XS z XT XU ?_;intro Yc x v Yd XX XY T y m h q;obtain⟨S,U,d,j,B,g⟩:=q;show aX _ (mE S U d j B g λ_=>rfl) λu XZ=>jf.eV XQ<|(by
intro _ _ _ I x v l u e _ Z s T y m h q f;obtain⟨S,U,d,j,B,_⟩:=q;show eZ (br.n9 (x:={l with heap:=u}) Z (λa X0 S P=>(f.2 a X0).trans P) (cO S j λ_ _ Y=>by rw[B]at Y;contradiction λY=>by rw[B]at Y;contradiction) m h) λX2 X3=> ?_;have X4:∀a,(I.heap.get? a).isSome=true->a≠x:=λa w P=>by rw[P,y]at w;show Bool.noConfusion w
show⟨e,v,rfl,X2,s.uI (λa S w P=>(f.2 a<|X4 a w).trans P) rfl rfl rfl,X3 T⟩:∀{E:bL}{M:aG}{K:ag}{I:Shared}{x:Addr}{v:aG}{l:Shared}{u:Heap}{e:aa}{F:Value}(Z:br E.cf E.bH v K l.heap)(s:bp M v bR E.bS I l)(T:aE v l.heap e F)(y:I.heap.get? x=none)(m:¬eT v x)(h:E.bH.get? x=none)(q:wx l.heap x)(f:Heap.SameBut x l.heap u),mG E.cf E.bH E.bS M I (.ai e) K F {l with heap:=u}) XX XY T y m h ⟨S,U,d,j,B,g⟩ XZ
def Lw(XS:E.dn){A x:au}(F:aQ E J N c A)(XT:G.length=G.length)(V:E.ay J N M S L I)(w:cG aw E.call (.iU x G.length H A) L S=some (Q,K))(y:E.iC Q K O):E.cL (eval c J) (λX R=>E.cL (pyIter X) (wH E J N G H x M L I Q K) O R) O I:=by
 show dp V F.bw w y λX m k R h Z U n a=> ?_;obtain⟨XU,XW,W,_,b⟩:=af.fW Z;clear y;clear w;clear Z;obtain⟨rfl,rfl⟩:=dT W;obtain⟨XX,XY,f,z,B⟩:=af.fW<|b _ rfl;clear z;clear b;show aB (Ll f) ?_;clear f;rintro XZ rfl p;obtain⟨rfl,rfl⟩:=dT (B _ rfl).symm;have C:∀Y,lL X=some Y->(∀r,X≠.ref r)->E.cL (pyIter m) (wH E J N G H x M L I (.ai<|.ref h.length) K) O R:=λY d t=>by
  obtain XN:kK (gr E G H L x h.length) Y (h++[.list []])=some (.ai (),K):=by
   have:uo (gr E G H L x h.length) X=af.aN (af.dZ<|lL X) λY=>kK (gr E G H L x h.length) Y:=by rcases X with-|-<;>first|rfl|show absurd rfl<|t _
   have D:uo (gr E G H L x h.length) X (h++[.list []])=some (.ai (),K):=p;rw[this,d]at D;show D
  obtain⟨o,g⟩:=Lk (I:=Y) (G:=0) rfl XN;show Lg U.a.aP a d λq XO T v s=>⟨q,k,h,R,.E Y,o,rfl,U,n,v,T,s,λr P=>by injection P,g,rfl⟩
 by_cases j:∃r,X=.ref r
 ·obtain⟨r,rfl⟩:=j;have D:v9 (gr E G H L x h.length) r (yj r (h++[.list []])+1) 0 (h++[.list []])=some (.ai (),K):=p;obtain⟨Y,u⟩:∃Y,(h++[.list []])[r]?=some (.list Y):=by show aB (ly D) λY P _=> ?_;show⟨Y,P⟩
  have XQ:r<h.length:=by obtain⟨_,_,XR⟩:=a.gb;show U.a.aP.aZ▸(eD.mp XR).1
  rw[List.getElem?_append_left XQ]at u;obtain⟨o,g⟩:=SA D;show Lh U.a.aP a u λq XO T v s=>⟨q,k,h,R,.ref r,o,rfl,U,n,v,T,s,λX0 P=>by cases P;show⟨Y,u⟩,g,rfl⟩
 ·clear a;rcases e:lL X with _|Y
  ·exfalso;have:uo (gr E G H L x h.length) X=af.aN (af.dZ<|lL X) λY=>kK (gr E G H L x h.length) Y:=by rcases X with-|-|-<;>first|rfl|show absurd ⟨_,rfl⟩ j
   have D:uo (gr E G H L x h.length) X (h++[.list []])=some (.ai (),K):=p;rw[this,e]at D;show bQ D
  ·show C Y e λr P=>j ⟨r,P⟩
end
end
section
set_option backward.match.sparseCases true
set_option backward.eqns.nonrecursive true
set_option backward.eqns.deepRecursiveSplit true
set_option tactic.hygienic true
inductive Fz(w:Heap)(H:Addr)(O:Int):Prop|mk (Q:_) (g:_) (Y:_) (F:_) (E:_) (K:_) (U:_) (M:_):w.get? H=some Q->Q.cls=.ref fK->Q.data=.fields g->g[0]?=some M->g[1]?=some .none->Q.dict=some Y->w.get? Y=some F->F.data=.dict E K->StrKeys E->nsFind E sL=some (.int O U)->Fz w H O
inductive FC(R:World)(Q:Heap)(F:aG)(w:Shared)(I:Addr->Prop)(N:List Env)(O:Int)(J:ag)(E:Value)(G:Shared):Prop|mk (H:_) (T:_) (g:_):E=.ref H->br R Q T J g.heap->jM Q T g.heap N->bp F T I (·∈eB N) w g->cN g G->g.heap.get? H=none->Fz G.heap H O->FC R Q F w I N O J E G
def BC(R:World)(Q:Heap)(g:aG)(H:Shared)(w:Addr->Prop)(N:List Env)(L:aI e)(J:ag)(I:Value->Shared->Prop):Prop:=∀O E G,L=.cR O->FC R Q g H w N O J E G->I E G
abbrev bL.FD(M:bL)(L:aI e)(J:ag)(I:Value->Shared->Prop):Prop:=BC M.cf M.bH M.yM M.gE M.wy M.oh L J I
def BC.cg{R:World}{Q:aG}{N:List Env}{L:aI m}{I:aI e}{J M:ag}(K:BC R h Q f o N L J b)(w:∀O,I=.cR O->L=.cR O/\J=M):BC R h Q f o N I M b:=λO E G H W=>by obtain⟨g,F⟩:=w O H;show K O E G g<|F▸W
inductive ph(g:aG)(w:Heap):aV->Flow->Prop|aK:ph g w .aK .next|brk:ph g w .brk .brk|cont:ph g w .cont .cont|ret {Q:aa} {F:Value}:aE g w Q F->ph g w (.ret Q) (.ret F)
inductive qi(M:bL)(w:Env)(Z:List Str)(g:aG)(K:Shared)(L:aI<|aV×ak)(J:ag)(N:Flow)(G:Shared):Prop|mk (W:_) (R:_) (T:_):L=.ai (W,R)->M.ay w Z T J R G->bp g T (iM w) M.bS K G->ph T G.heap W N->qi M w Z g K L J N G
def kR(M:bL)(E:Env)(Z:List Str)(O:Bool)(V:PySem.Stmt)(G:bo):Prop:=∀(R:Nat)(w:aG)(g:ag)(F:ak)(K:Shared)(L:aI<|aV×ak)(J:ag)(I:Value->Shared->Prop),M.ay E Z w g F K->jr aw M.call R G F g=some (L,J)->PassesOwn (model M.dD M.cf) M.bV E I->M.iC L J I->(O=true->M.FD L J I)->M.cL (exec V E) (qi M E Z w K L J) I K
def pj(M:bL)(E:Env)(Z:List Str)(O:Bool)(V:List PySem.Stmt)(G:List bo):Prop:=∀(R:Nat)(w:aG)(g:ag)(F:ak)(K:Shared)(L:aI<|aV×ak)(J:ag)(I:Value->Shared->Prop),M.ay E Z w g F K->dw aw M.call R G F g=some (L,J)->PassesOwn (model M.dD M.cf) M.bV E I->M.iC L J I->(O=true->M.FD L J I)->M.cL (execs V E) (qi M E Z w K L J) I K
section
variable{G:bL}{E:Env}{H:List Str}{I:Bool}
def qi.eV{g S:aG}{L:aI<|aV×ak}{J:ag}{N:Flow}{F:Shared}(I:bp g S (iM E) G.bS f x)(O:qi G E H S x L J N F):qi G E H g f L J N F:=by obtain⟨K,R,T,w,V,M,W⟩:=O;show⟨K,R,T,w,V,I.aC M,W⟩
def bp.fT{g S:aG}(w:bp g S bR G.bS f x):bp g S (iM E) G.bS f x:=w.cZ (λ_ _ Y=>Y.elim) λ_ _ Y=>Y
@[elab_as_elim]theorem ph.elim{g:aG}{P:aV->Flow->Prop}{w:aV}{N:Flow}(W:ph g h w N)(H:P .aK .next)(I:P .brk .brk)(Y:P .cont .cont)(E:∀Q F,aE g h Q F->P (.ret Q) (.ret F)):P w N:=by induction W with|aK=>show H|brk=>show I|cont=>show Y|ret T=>show E _ _ T
theorem ph.afq{g:aG}{w:aV}(W:ph g h w .next):w=.aK:=by cases W;rfl
def SU:pj G E H I [] []:=λR M g F K L J N V w S Q T=>by obtain⟨O,P⟩:=cS w;show P▸xZ ⟨.aK,F,M,O,V,bp.n8 ..,.aK⟩
def SV{V:PySem.Stmt}{Z:bo}{x:List PySem.Stmt}{v:List bo}(d:kR G E H I V Z)(h:pj G E H I x v):pj G E H I (V::x)<|Z::v:=λR a g F K L J e u w r m s=>by
 obtain⟨q,M,b,f,i⟩:=af.fW w;show I4<|dH (d R a g F K q M e u b r (m.cg f) λY=>(s Y).cg f) (λN n ⟨p,t,S,P,U,o,W⟩=> ?_) λ_ _ X=>X;obtain c:=i _ P;revert c;show W.elim ?_ ?_ ?_ λQ l T=> ?_<;>intro c;·show dH (h R S M t n L J e U c r m s) (λ_ _ O=>O.eV o) λ_ _ X=>X
 ·obtain⟨j,k⟩:=cS c;show⟨_,_,S,j,k▸U,o,.brk⟩
 ·obtain⟨j,k⟩:=cS c;show⟨_,_,S,j,k▸U,o,.cont⟩
 ·obtain⟨j,k⟩:=cS c;show⟨_,_,S,j,k▸U,o,.ret T⟩
noncomputable def oq(E:PySem.Expr):Bool:=Nat.ble 8 E.ctorIdx&&Nat.ble E.ctorIdx 10
def Lx{U:Option PySem.Expr}(w:oq c=false):swapsWith c U a E=pure false:=by rcases c with-|-<;>first|rfl|(show Bool.noConfusion w)
def SW(S:E.scope.kind=.function){f:au}(d:oq c=false)(h:aQ G E H c f):kR G E H I (.Expr c i)<|.expr f:=λR N g F K L J P V w j a k=>by show wpAny_Expr_any (dp V h.bw w a λQ Z e b M O U W T=> ?_) (by unfold interactive;rw[S];rfl)<|Lx d;obtain⟨X,Y⟩:=cS O;show Y▸⟨.aK,F,e,X,U,W.fT,.aK⟩
def SX{d:au}(e:aQ G E H c d):kR G E H I (.Return (some c) i)<|.ret d:=λR N g F K L J P V w f a h=>by show wpAny_Return_some<|dp V e.bw w a λQ Z S b M O U W T=> ?_;obtain⟨X,Y⟩:=cS O;show Y▸⟨.ret Q,F,S,X,U,W.fT,.ret T⟩
def SY:kR G E H I (.Break i) .brk:=λR M g F K L J N V w S Q T=>by obtain⟨O,P⟩:=cS w;show P▸wpAny_Break ⟨.brk,F,M,O,V,bp.n8 ..,.brk⟩
def S7:kR G E H I (.Continue i) .cont:=λR M g F K L J N V w S Q T=>by obtain⟨O,P⟩:=cS w;show P▸wpAny_Continue ⟨.cont,F,M,O,V,bp.n8 ..,.cont⟩
def S8{X:au}{P Q:List PySem.Stmt}{e d:List bo}(l:aQ G E H c X)(f:pj G E H I P e)(k:pj G E H I Q d):kR G E H I (.If c P Q i)<|.b X e d:=λR T g F K L J Z V w h a j=>by show wpAny_If<|sT V l.ig w a λQ S b M Y U W=> ?_;induction Q with|true=>show dH (f R S M F b L J Z U Y h a j) (λ_ _ O=>O.eV W.fT) λ_ _ N=>N|false=>show dH (k R S M F b L J Z U Y h a j) (λ_ _ O=>O.eV W.fT) λ_ _ N=>N
noncomputable def S9(E:PySem.Expr):Option<|List PySem.Expr:=if w:E.ctorIdx=25then PySem.Expr.Tuple.elim (motive_1:=λ_=>Option<|List PySem.Expr) E w λV _ _=>some V else none
def qj(U Q:PySem.Expr):Bool:=match S9 U with|some V=> !qZ Q 25|| !V.isEmpty&&V.all λE=> !qZ E 23|none=> !qZ U 24
theorem Ly(w:qj c p=true):swappedStores [c] p E=pure none:=by
 rcases c with-|-<;>first|rfl|(show Bool.noConfusion w;done)|skip
 rename_i K N X;rcases p with-|-<;>first|rfl|skip
 obtain⟨H,F⟩:=iG.mp (w:(!K.isEmpty&&K.all λg=> !qZ g 23)=true);unfold swappedStores;dsimp only;split;·rfl
 ·split;·rfl
  ·generalize J:List.filterMap _ K=Z;clear w;obtain U:Z=[]:=J.symm.trans ((λW I=>List.filterMap_eq_nil_iff.mpr λG V=>I G<|by simpa using gB.mp F G V:∀W:PySem.Expr->Option Str,(∀G,qZ G 23=false->W G=none)->K.filterMap W=[]) _ λG V=>by rcases G with-|-<;>first|rfl|show nomatch V);clear F;subst U;rw[if_pos];induction K with|nil=>show Bool.noConfusion H|cons _ _=>rfl
def Ta{X:ft}{n:au}(l:oq c=false)(j:qj p c=true)(v:dy p=true)(t:aQ G E H c n)(O:rq G E H p X):kR G E H I (.Assign [p] c i)<|.assign X n:=λR P g F K L J Z V w x h y=>by show wpAny_Assign_stores (dp V t.bw w h λQ f S k M Y U m T=> ?_) (Lx l)<|Ly j;obtain⟨z,s,W,a,b⟩:=af.fW Y;rw[BA (n:=[p])<|by rw[List.all_cons,v];rfl];show dH (O S M F k Q f z s Z U T W<|h.cg a) (λ_ o ⟨A,r,c,q,u⟩=> ?_) λ_ _ N=>N;obtain⟨d,e⟩:=cS<|b _ c;show e▸⟨.aK,A,r,d,q,m.fT.aC u,.aK⟩
end
end
section
variable{E:bL}{G:Env}{H:List Str}{I:Bool}
def Tb(X:c9 G H)(y:∀N P,iu G N P->E.gE.heap.get? P=none){N:Str}{s:fg}{q:au}(h:H[a]?=some N)(u:aQ E G H c q):kR E G H I (.AugAssign (.Name N z) (qc s) c i)<|.L a s q:=λR d g M K L J f V w XN n XO=>by obtain⟨XQ,XR,e,_,j⟩:=af.fW w;show cC (Fs e) λXS T k l=> ?_;obtain W:=j _ k;simp only[l]at W;show aB (KN (O:=E.dD) (R:=E.bV) (Q:=f) X V.a h T) λXT p D=> ?_;show wpAny_AugAssign_Name<|D<|dp V u.bw W n λXU XW Q XX XY m t v r=> ?_;obtain⟨XZ,X0,o,_,U⟩:=af.fW m;show cC (j3 o) λY Z k l=> ?_;obtain⟨S,x⟩:=cS<|U _ k;rw[S,x,l];show dH (Kb (fU V.a.aP v p) r Z) (λX2 X3 O=> ?_) λ_ _ N=>N;show uH (o:=E.bS) X (t.aF O.1).a h O.2 λX4 C B=> ?_;show⟨.aK,_,Q,rfl,(t.aF O.1).nq C B λb i Y=>by rw[y _ b i]at Y;show Bool.noConfusion Y,(v.aC<|O.1.bK .. ).fT.aC<|B.cZ (λ_ _ i=>i.fT) λ_ _ i=>i,.aK⟩
end
section
variable{E:bL}{G:Env}{H:List Str}{I:Bool}
@[elab_as_elim]theorem Lz{T:ak->af (aV×ak)}{S:aV}{F:ak}{g J:ag}{L:aI<|aV×ak}{G:aG}{N:Flow}{P:Flow->Prop}(w:nr T (S,F) g=some (L,J))(W:ph G h S N)(O:T F g=some (L,J)->P .next)(E:T F g=some (L,J)->P .cont)(I:L=.ai (.aK,F)->J=g->P .brk)(Y:∀Q M,aE G h Q M->L=.ai (.ret Q,F)->J=g->P (.ret M)):P N:=by
 revert w;show W.elim O ?_ E ?_;·intro w;obtain⟨K,R⟩:=cS<|show af.bg (aV.aK,F) g=_ from w;show I K R
 ·intro Q M H w;obtain⟨K,R⟩:=cS<|show af.bg (aV.ret Q,F) g=_ from w;show Y Q M H K R
def afr{U:Bool}{N F:af<|aV×ak}{g:ag}{Y:aI (aV×ak)×ag}(w:(bif U then N else F) g=some Y):if U=true then N g=some Y else F g=some Y:=by induction U<;>show w
inductive Tc(E:bL)(G:Env)(H:List Str)(w:ak->af Bool)(M:ak->af (aV×ak))(L:aI<|aV×ak)(J:ag)(g:aG)(K:Shared)(O:Nat)(R:Shared):Prop|mk (S:aG) (F:ag) (N:ak) (V:E.ay G H S F N R) (P:wd w M O N F=some (L,J)) (I:bp g S (iM G) E.bS K R)
def Td{K:ak->af Bool}{M:ak->af (aV×ak)}{F:ak}{g:ag}{Y:aI (aV×ak)×ag}(w:wd K M a F g=some Y)(H:∀N,a=N+1->af.aN (K F) (λU=>bif U then af.aN (M F)<|nr<|wd K M N else af.bg (.aK,F)) g=some Y->r):r:=by
 rcases a with _|N;·show cq w
 ·show H N rfl w
theorem Te{U:Bool}{P:Prop}(H:U=true->P)(I:U=false->r):if U=true then P else r:=by
 rcases U with _|_;·show I rfl
 ·show H rfl
def Tf{X:au}{P:List PySem.Stmt}{O:List bo}(z:aQ E G H c X)(r:pj E G H I P O):kR E G H I (.While c P [] i)<|.z X O:=λR T g F K L J a V w p h q=>by
 show wpAny_While<|codeAny_whileLoop (Tc E G H (λF=>ur aw E.call X F) (λF=>dw aw E.call R O F) L J T K) ?_ R ⟨T,g,F,V,w,bp.n8 ..⟩;rintro XR XS ⟨XT,XU,x,U,Z,l⟩;show Td Z λN v Z=> ?_;show wpAny_passesOwn p<|sT U z.ig Z h λc Q m o W n S=>Te (λB=> ?_) λB=> ?_;·subst B;obtain⟨C,s,f,A,b⟩:=af.fW<|show af.aN _ _ o=_ from W;show wpAny_passesOwn p<|dH (r R Q o x m C s a n f p (h.cg A) λY=>(q Y).cg A) (λXW XX ⟨XY,D,y,M,t,u,XN⟩=> ?_) λ_ _ XO=>XO;have k:=(l.aC S.fT).aC u;show Lz (b _ M) XN (λj=>⟨N,v▸iW,y,s,D,t,j,k⟩) (λj=>⟨N,v▸iW,y,s,D,t,j,k⟩) (λd e=>⟨.aK,D,y,d,e▸t,k,.aK⟩) λXZ X0 XQ d e=>⟨_,D,y,d,e▸t,k,.ret XQ⟩
 ·subst B;obtain⟨d,e⟩:=cS<|show af.bg (aV.aK,x) o=_ from W;show xZ ⟨.aK,x,Q,d,e▸n,l.aC S.fT,.aK⟩
def sX(G:Nat)(L:ak->af (aV×ak))(w:fh):Nat->Nat->ak->af (aV×ak)|0,_,_=>af.fail|O+1,J,F=>λg=>match w.aK J g with|some<|some Q=>af.aN (L<|F.set G<|some Q) (nr<|sX G L w O<|J+1) g|some none=>af.bg (.aK,F) g|none=>none
def LA{G:ak->af (aV×ak)}{Y:List aa}:∀{L:List aa}{J:Nat},Y.drop J=L->uu a G L=sX a G (.E Y) (L.length+1) J:=by intro L;induction L with|nil=>intro J E;funext F g;change _=match fh.aK (.E Y) J g with|some<|some Q=>_|some none=>_|none=>_;simp only[fh.aK,List.getElem?_eq_none<|List.drop_eq_nil_iff.mp E];rfl|cons Q L S=>
intro J E;obtain w:Y[J]?=some Q:=by have:=List.getElem?_drop (xs:=Y) (i:=J) (j:=0);rw[E]at this;show this.symm
funext F g;change af.aN _ (nr<|uu a G L) g=match fh.aK (.E Y) J g with|some<|some Q=>_|some none=>_|none=>_;simp only[fh.aK,w,S (J:=J+1)<|by show List.tail_drop.symm.trans ?_;rw[E];rfl];rfl
def Tg{G:Nat}{L:ak->af (aV×ak)}:∀{J:Nat},yn G L a u J=sX G L (.ref a) u J:=by induction u with|zero=>intro J;rfl|succ u S=>
intro J;funext F g;change gX g[a]? _ g=match match g[a]?with|some<|.list Y=>some Y[J]?|_=>none with|some<|some Q=>_|some none=>_|none=>_;rcases g[a]?with-|(Y|_|_);·rfl
·change(match Y[J]?with|some Q=>af.aN (L<|F.set G<|some Q)<|nr<|yn G L a u<|J+1|Option.none=>af.bg (.aK,F)) g=_;rw[S];change _=match some Y[J]?with|some<|some Q=>_|some none=>_|none=>_;induction Y[J]?<;>rfl
·rfl
·rfl
def bp.LB{F Q:aG}{M:Addr->Prop}{T:Shared}(G:bp F Q o M f x)(N:rj k x T)(w:f.heap.get? k=none):bp F Q o M f T:=G.uI (λH S g E=>N.aF H (λY=>by rw[Y,w]at g;show Bool.noConfusion g) S E) N.iJ N.iX N.iK
inductive Th(E:bL)(G:Env)(H:List Str)(K:Addr)(w:fh)(J:Nat)(M:ak->af (aV×ak))(L:aI<|aV×ak)(g:ag)(Q:aG)(U:Shared)(O:Nat)(R:Shared):Prop|mk (N:aG) (I:ag) (W:ak) (Y:Nat) (V:E.ay G H N I W R) (T:fG N R.heap K w Y) (X:sX J M w O Y W I=some (L,g)) (S:∀F,w=.E F->Y<=F.length) (P:bp Q N (iM G) E.bS U R)
def Ti{M:ak->af (aV×ak)}{E:fh}{O:Nat}{F:ak}{g J:ag}{L:aI<|aV×ak}(w:sX u M E O a F g=some (L,J))(H:E.aK a g=some none->L=.ai (.aK,F)->J=g->r)(I:∀N Q,O=N+1->E.aK a g=some (some Q)->af.aN (M<|F.set u<|some Q) (nr<|sX u M E N<|a+1) g=some (L,J)->r):r:=by
 rcases O with _|N;·show cq w
 ·have w:(match E.aK a g with|some<|some Q=>af.aN (M<|F.set u<|some Q) (nr<|sX u M E N<|a+1) g|some none=>af.bg (.aK,F) g|none=>none)=some (L,J):=w;rcases V:E.aK a g with _|S;·obtain w:=V▸w;show cq w
  ·obtain w:=V▸w;induction S with|none=>show H V (cS w).1 (cS w).2|some Q=>show I N Q rfl V w
def FE(XR:E.dn)(Yd:c9 G H)(Ye:∀X XS,iu G X XS->E.gE.heap.get? XS=none){X:Str}{Z:List PySem.Stmt}{O:List bo}(Yg:H[a]?=some X){c Q:aG}{g J:ag}{P:ak}{h:Shared}{L:aI<|aV×ak}{p:fh}{XT:Nat} (Yh:pj E G H I Z O)(V:E.ay G H c g P f)(XU:bp Q c bR E.bS x f)(r:f.heap.get? k=none)(XW:cN f h)(XX:fG c h.heap k p 0) (XY:sX a (λP=>dw aw E.call u O P) p XT 0 P g=some (L,J))(XZ:PassesOwn (model E.dD E.cf) E.bV G b)(Yi:E.iC L J b)(Yj:I=true->E.FD L J b):codeAny (model E.dD E.cf) E.bV (.forLoop (.Name X i) (.ref k) Z [] G) (λYk h=>match Yk with|.ok W=>qi E G H Q x L J W h|.error M=>cameBackBy (model E.dD E.cf) E.bV G b M h) h:=by
 have z:E.gE.heap.get? k=none/\E.bH.get? k=none/\x.heap.get? k=none:=by
  obtain w:∀w:Heap,((w.get? k).isSome=true->(f.heap.get? k).isSome=true)->w.get? k=none:=λw N=>by
   rcases M:w.get? k with _|S;·rfl
   ·have:=N (by rw[M];rfl);rw[r]at this;show Bool.noConfusion this
  show⟨w _<|V.cP.ir k,w _ λY=>by obtain⟨S,M⟩:=xW.mp Y;rw[V.a.aP.cP k S M];rfl,w _<|XU.ir k⟩
 have B:¬iM G k:=λY=>by
  rcases Y with rfl|⟨l,Yl⟩;·obtain⟨S,Yt,Ym,d,_,Yu⟩:=V.a.gc.a;obtain d:=r.symm.trans d;show bQ d
  ·obtain⟨S,X0,d,_⟩:=V.a.gc.B l k Yl;rw[r]at d;show bQ d
 show codeAny_forLoop (Th E G H k p a (λP=>dw aw E.call u O P) L J Q x) ?_ XT ⟨c,g,P,0,V.aF XW,XX,XY,λ_ _=>fx,(XU.aC<|XW.bK .. ).fT⟩;rintro Ym Yv ⟨m,Yn,Yo,K,U,C,t,X2,X3⟩;show Ti t (λj e R=> ?_) λN X0 X4 j t=> ?_;·show C.done XR.M U.a.aP j X2 λX5 v=> ?_;show xZ ⟨.aK,Yo,m,e,R▸U.uM C v z.2.1 z.1,X3.LB v z.2.2,.aK⟩
 ·obtain⟨Yp,q,Yq,X6,d⟩:=af.fW t;show C.Lf XR.M U.a.aP z.2.1 j λYr X5 v XN T=> ?_;have o:=U.uM C v z.2.1 z.1;show I0<|uH (o:=E.bS) Yd o.a Yg XN λX7 Ys X8=> ?_;have XO:bp m m (iM G) E.bS X5 X7:=X8.cZ (λ_ _ Y=>Y.fT) λ_ _ Y=>Y;have s:=o.nq Ys X8 λZ Y l=>by rw[Ye _ Z Y]at l;injection l
  have X9:∀P,p=.E P->K+1<=P.length:=λP M=>by clear C;clear XY;clear X2;clear XX;clear t;clear t;subst M;show(eD.mp<|jZ j).1
  show wpAny_passesOwn XZ<|dH (Yh u m Yn _ X7 Yp q b s Yq XZ (Yi.cg X6) λl=>(Yj l).cg X6) (λYw Yx ⟨Yy,D,A,M,y,Yb,W⟩=> ?_) λ_ _ X=>X;obtain Yc:=(T.bK o.a.fT B (T.uL o.eB) o.a.aP XO).bK s.a.fT B ((T.bK o.a.fT B (T.uL o.eB) o.a.aP XO).uL s.eB) s.a.aP Yb;have n:=((X3.LB v z.2.2).aC XO).aC Yb;show Lz (d _ M) W (λXQ=>⟨N,X4▸iW,A,q,D,K+1,y,Yc,XQ,X9,n⟩) (λXQ=>⟨N,X4▸iW,A,q,D,K+1,y,Yc,XQ,X9,n⟩) (λe R=>⟨.aK,D,A,e,R▸y,n,.aK⟩) λX0 Yr XN e R=>⟨_,D,A,e,R▸y,n,.ret XN⟩
def Tj(N:E.dn)(X:c9 G H)(v:∀S Z,iu G S Z->E.gE.heap.get? Z=none){S:Str}{o:au}{b:List PySem.Stmt}{O:List bo}(f:H[a]?=some S)(e:ru c=false)(u:aQ E G H c o)(A:pj E G H I b O):kR E G H I (.For (.Name S i) c b [] z)<|.D a o O:=λR XO XQ F XR L J XS V w x K y=>by
 show wpAny_For (dp V u.bw w K λQ XT XU XW M d U n j=> ?_)<|BB e;clear w;rcases pM<|∃s,Q=.ref s with m|m
 ·show lM m λs C=> ?_;subst C;obtain⟨Y,B⟩:∃Y,M[s]?=some (.list Y):=by
   rcases R with _|R;·show cq d
   ·show aB (ly<|show gX _ _ _=_ from d) λY P _=> ?_;show⟨Y,P⟩
  show Lh U.a.aP j B λq p T D t=>FE N X v f A U n D T t ((congrFun (congrFun Tg F) M).symm.trans d) x K y
 ·have W:af.aN (af.dZ<|lL Q) (λY=>uu a (λF=>dw aw E.call R O F) Y F) M=some (L,J):=by rcases Q with⟨⟩<;>first|show d|show absurd ⟨_,rfl⟩ m
  obtain⟨XX,XY,k,_,h⟩:=af.fW W;show cC (j3 k) λY B g XN=> ?_;obtain l:=h _ g;rw[XN,LA (Y:=Y) (L:=Y) (J:=0) rfl]at l;show Lg U.a.aP j B λq p T D t=>FE N X v f A U n D T t l x K y
theorem Tn(N:E.dn)(n:c9 G H)(p:∀Q Z,iu G Q Z->E.gE.heap.get? Z=none){Q:Str}{Y C:Pos}{B:au}{b:List PySem.Stmt}{O:List bo}(f:H[a]?=some Q)(X:eP G.scope "range"=true)(k:dy c=true)(s:aQ E G H c B)(t:pj E G H I b O):kR E G H I (.For (.Name Q i) (.Call (.Name "range" Y) [c] [] C) b [] z)<|.uf a B O:=λR d g F K L XN XO V w J j q=>by show wpAny_For ?_<|BB rfl;show Call_<|qg N n V X (d:=.type "range") (by kernel_rfl) (by decide+kernel) ?_;simp only[nD (n:=[c])<|by conv=>lhs;simp[k]];show IW (sW _)<|vP<|oR<|dp V s.bw w j λXQ XR S l XS e U W h=>t7 ?_;show aB (pZ e) λu x e=> ?_;obtain⟨m,e⟩:=jt e;simp only[Bool.and_eq_true,decide_eq_true_eq,decide_eq_true_eq]at m;rw[LA (Y:=jF u) (L:=jF u) (J:=0) rfl]at e;obtain⟨o,A⟩:=(x▸h).hR;simp only[A];show call_range_1 ?_;have T:cN l {l with heap:=l.heap.push {cls:=.type "range",data:=.fields #[.int 0 l.toks,.int u o,.int 1<|l.toks+1]},toks:=l.toks+1+1}:=⟨λ_ _ P=>ki _ P,rfl,rfl,rfl⟩;show Li (J:=S) (IsRange.new l.heap 0 u 1 l.toks o<|l.toks+1) m.2 (by lia) λXT XU D y M=>FE N n p f t (U.aF T) (W.aC<|T.bK .. ) y D M e J j q
end
def LC(G:Str):G++(⟨#[]⟩:Str)=G:=by change(⟨G.cps++#[]⟩:Str)=G;rw[Array.append_empty]
def To{g:aG}:∀{F:List aa}{O:List Value}{U:Str},bh g h F O->yh F=some U->∃V:List<|Str×Tok,O=strValues V/\U=Str.join (⟨#[]⟩:Str) (V.map (·.1))/\∀J∈V.map (·.1),J.length<=U.length:=by intro F;induction F with|nil=>intro O U T E;have E:=jZ E;subst E;show cO ([]) T.qX rfl λJ h=>absurd h t5|cons Q L S=>
intro O U T E;show aB (pY E) λG c E=> ?_;show gZ T.lS λP Z b W K=> ?_;show aB (kI.mp E) λI E w=> ?_;show cC (S K E) λV N a M=> ?_;obtain⟨H,R⟩:=(c▸W).hJ;show cO ((G,H)::V) (by simp only[b,N,R];rfl) ?_ ?_
·rw[<-w,a];rcases V with _|⟨Y,d⟩;·show LC G
 ·change _=G++(⟨#[]⟩:Str)++Str.join (⟨#[]⟩:Str) ((Y::d).map (·.1));rw[LC]
·intro J X;rw[<-w,strLen_append];rcases gA.mp X with rfl|X;·show bD
 ·show aq (M J X) aR
def Tp(w:(j.length==0)=true):j=⟨#[]⟩:=by
 obtain⟨M⟩:=j;have:M.size=0:=by simpa[Str.length]using w
 show congrArg _<|Array.eq_empty_of_size_eq_zero this
section
variable{H:bL}{E:Env}{G:List Str}
theorem Tq{k q:au}(a:lU p=true)(P:(z.endLine==i.line)=true)(M:dy c=true)(J:aQ H E G p k)(t:aQ H E G c q):aQ H E G (.Call (.Attribute p "join" z) [c] [] i)<|.i .qM k [q]:=gF (λ_=>rfl) λXX XY XZ X0 X2 X3 X4 V w K=>by
 show D1 (dp V J.bw w K λQ X5 X6 X7 X8 F e h T=> ?_)<|yO a P (by rw[List.all_cons,M];rfl)<|j0 rfl;show eA λd j=> ?_;obtain⟨X9,Yb,W,_,L⟩:=af.fW F;show aB (Fb<|show ug _ _ _=_ from W) λYc y W=> ?_;obtain⟨g,R⟩:=cS W;obtain⟨Yd,v⟩:=(y▸T).hJ;have X:=L () g;rw[R,y]at X;show j ?_;rw[v];clear g R W L F w;show PySem.GM.join ?_;show Bw (n:=[c]) (by rw[List.all_cons,M];rfl) (.cons t .nil) e X K λYe f Yg Yh Yi X n r u Y=> ?_;show gZ (u.cW Y) λYj Yk g R o=> ?_;rw[g]at X;rw[R];show eA λd j=> ?_;show aB (lx<|show jc _ _ _=_ from X) λYl x X=> ?_;show aB (ly<|show gX _ _ _=_ from X) λA S X=> ?_;obtain⟨Z,X⟩:=jt X;show cC (j3 X) λYm D l s=> ?_;obtain⟨b,D⟩:=(by
  intro _ I _ _ w;induction I;·show cq w
  ·show⟨rfl,w⟩:∀{Yn:Type}{I:Bool}{c Q}(w:(bif I then c else none)=some Q),I=true/\c=some Q) D;obtain⟨i,f,O,v,_,_,C,T⟩:=n.a.aP.list S<|x▸o;show aB (D3.mp D) λU p D=> ?_;obtain⟨XN,XO⟩:=je D;show cC (To T p) λm N XQ XR=> ?_;have XS:m.length=A.length:=by rw[T.jI,N];unfold strValues;rw[List.length_map]
 have b:=j0 b;show j ?_;simp only[v,l,s,<-XO,Tp Z];show PySem.SC.join (texts:=m.map (·.1)) ⟨_,C,rfl,O,by rw[show f=(strValues m).toArray from by rw[<-N]]⟩ rfl ?_ λXT Yo=> ?_
 ·unfold JoinOk;rw[StrLaws.joinFits (B:=1000) (λXU XW=>Nat.le_trans (XR XU XW)<|Nat.le_of_ble_eq_true XN) ?_];·rfl
  ·rw[List.length_map,XS,show(⟨#[]⟩:Str).length=0from rfl];show fI (by lia) _
 ·simp only[show Txt.join (⟨#[]⟩:Str) (m.map (·.1))=U by rw[XQ];show StrLaws.glued_eq_join _ _];show((jK<|.str _ XT).fV n.a.aP).eV<|h.aC r
end
def Tr{R:World}{P:aG}{g:ag}(Z:br R h P g f.heap):∀(O:Nat){Q I:aa}{d:Value},aE P f.heap Q d->fu g O Q=some I->∃t,Reads f.heap d (sM I) t:=by intro O;induction O with|zero=>intro Q I d _ E;show bQ E|succ O V=>
have s:∀{F m:List aa}{k:List Value},bh P f.heap F k->gY (fu g O) F=some m->∃t,ReadsAll f.heap k (uz m) t:=by intro F;induction F with|nil=>intro m k T E;rw[T.qX,<-Option.some.inj E];show⟨[],.nil⟩|cons H L u=>intro m k T E;show aB (D3.mp E) λq b E=> ?_;show aB (kI.mp E) λl c E=> ?_;show gZ T.lS λd r p W K=> ?_;obtain⟨t,e⟩:=V W b;obtain⟨n,h⟩:=u K c;rw[p,<-E];show⟨t++n,.cons e h⟩
intro Q I d T E;rcases Q with-|_|J|G|F|_|J|_<;>first|(show cq E;done)|skip
·rw[<-Option.some.inj E,show d=_ from T.gb];show⟨[],.none⟩
·obtain⟨U,p⟩:=T.hR;rw[p,<-(je E).2];show⟨[],.int _ _⟩
·obtain⟨U,p⟩:=T.hJ;rw[p,<-(je E).2];show⟨[],.str _ _⟩
·show aB (kI.mp E) λm b E=> ?_;obtain⟨H,j,p,⟨S,a,w,N,i⟩,o⟩:=T.lT;obtain⟨t,e⟩:=s o b;rw[p,<-E];show⟨t,.tuple a w i e⟩
·show aB (Bd E) λF Y E=> ?_;obtain⟨X,M,N,p,_,_,a,o⟩:=Z.list Y T;show aB (kI.mp E) λm b E=> ?_;obtain⟨t,e⟩:=s o b;rw[p,<-E];show⟨X.1::t,.list a rfl rfl e⟩
def Ts{J:Int}(w:pQ J=true):J.natAbs.log2<1920:=by
 rw[Bi]at w;by_cases W:J.natAbs=0;·rw[W];decide
 ·have:=(Nat.log2_lt W).mpr w;show eI this aR
def afs:∀(Y M:Nat),Y=39\/Y=34->ui M=true->(Builtin.Str.reprChar Y M).length<=2:=by
 intro Y M _ w;unfold Builtin.Str.reprChar;dsimp only;obtain I:Unicode.isPrintable M=true:=by
  have:∀M<127,32<=M->Unicode.isPrintable M=true:=by decide+kernel
  simp only[ui,Bool.and_eq_true,decide_eq_true_eq]at w;show this M w.1.1.2 w.1.1.1
 repeat' split
 all_goals first|(simp;done)|(simp;done)
def Tt(w:ui a=true):Builtin.Str.reprChar 39 a=[a]:=by
 have K:=w;simp only[ui,Bool.and_eq_true,decide_eq_true_eq,bne_iff_ne]at K;have I:Unicode.isPrintable a=true:=by
  have:∀a<127,32<=a->Unicode.isPrintable a=true:=by decide+kernel
  show this a K.1.1.2 K.1.1.1
 unfold Builtin.Str.reprChar;rw[if_neg,if_neg,if_neg,if_neg];show if_pos I;·simp;show d7<|mz<|aq aR K.1.1.1
 ·simp;show d7<|mz<|aq aR K.1.1.1
 ·simp;show d7<|mz<|aq aR K.1.1.1
 ·simp;show And.intro K.1.2 K.2
theorem Tu(w:uj j=true):(reprText j).length<=j.length+2:=by
 obtain R:reprQuote j=39:=by
  unfold reprQuote;have:j.cps.contains 39=false:=by show afc.mpr ?_;intro g;have:=gB.mp w 39 (by simpa using g);simp[ui]at this
  rw[this];rfl
 obtain G:∀(F:List Nat)(O:Nat),F.all ui=true->F.foldl (λO M=>O+(Builtin.Str.reprChar 39 M).length) O=O+F.length:=by intro F;induction F with|nil=>intro O _;rfl|cons M L S=>intro O E;simp only[List.all_cons,Bool.and_eq_true]at E;rw[List.foldl_cons,S _ E.2,Tt E.1];simp only[List.length_cons];show gM
 rw[<-reprLen_eq,R,<-Array.foldl_toList];rw[G _ _ w];have:j.cps.toList.length=j.length:=by simp[Str.length]
 show bP<|by lia-abstractProof
theorem Tv:∀V:List Str,(listText V).length<=piled V+2
|[]=>by decide|U::L=>by
 obtain w:=textFrom_length_pos L 1 (("[":Str)++(if(0:Nat)>0then ", "else "":String)++U)<|vQ 0;obtain E:(("[":Str)++(if(0:Nat)>0then ", "else "":String)++U).length=1+U.length:=by rw[strLen_append,strLen_append];rfl
 obtain X:(listText<|U::L).length=(textFrom 0 "["<|U::L).length+1:=by change(textFrom 0 "[" (U::L)++"]").length=_;rw[strLen_append];rfl
 simp only[X,show(textFrom 0 "["<|U::L).length=(textFrom 1 (("[":Str)++(if(0:Nat)>0then ", "else "":String)++U) L).length from rfl,w,E,piled_cons];show cB<|by simp+arith
def Tw(V:List Str):(tupleText V).length<=piled V+3:=by
 unfold tupleText;rw[strLen_append,strLen_append];have R:((if V.length==1then ",)"else ")":String):Str).length<=2:=by split<;>decide
 rcases V with _|⟨U,L⟩;·have:(Str.join ", " []).length=0:=rfl;rw[this];decide
 ·have:=join_length_add (U::L) (by simp);show jb<|ip (aq (jb<|bP lQ)<|bP this) R
theorem FF{g:ag}:∀(O:Nat){Q R:aa},fu g O Q=some R->(sM R).showable=true/\(sM R).hasDict=false/\(sM R).depth<=O/\(sM R).shown.length<=aa.jq R:=by intro O;induction O with|zero=>intro Q R E;show bQ E|succ O S=>
have f:∀{F V:List aa},gY (fu g O) F=some V->PyData.showableAll (uz V)=true/\PyData.hasDictAll (uz V)=false/\PyData.depthAll (uz V)<=O/\piled (PyData.shownAll<|uz V)<=aa.pS V:=by intro F;induction F with|nil=>intro V E;obtain rfl:=bO E;show kO rfl rfl fx aH|cons H L h=>intro V E;show aB (D3.mp E) λe M E=> ?_;show pU (S M) λW X b N=> ?_;show aB (kI.mp E) λU P E=> ?_;show pU (h P) λY Z c d=> ?_;subst E;show kO (by simp only[JY,PyData.showableAll,W,Y,Bool.and_self]) (by simp only[JY,PyData.hasDictAll,X,Z,Bool.or_self]) (Nat.max_le.mpr ⟨b,c⟩) ?_;dsimp only[piled_cons,nX];show ip (fI N _) d
intro Q R E;rcases Q with-|_|J|G|F|_|J|_<;>first|(show cq E;done)|skip
·rw[<-Option.some.inj E];show kO rfl rfl fx<|by decide
·obtain⟨T,E⟩:=je E;show E▸kO (decide_eq_true<|Ts T) rfl fx ?_;change Str.length (Str.ofString<|toString J)<=uk J;unfold uk;split;·rename_i K;simp only[Bool.and_eq_true,decide_eq_true_eq,decide_eq_true_eq]at K;show toString_length_le (k:=1) K.1 (by simp)<|by lia
 ·have:=int_text_length_le10 (a:=J) (k:=19) (by decide) (by show eI (Bi.mp T) aR);rw[PySem.ofString_length];show aq this aR
·obtain⟨I,E⟩:=je E;show E▸kO rfl rfl fx (Tu I)
·show aB (kI.mp E) λV M E=> ?_;show pU (f M) λY Z c d=> ?_;show E▸kO Y Z (cB c) (aq (Tw _)<|fI d 3)
·show aB (Bd E) λF w E=> ?_;show aB (kI.mp E) λV M E=> ?_;show pU (f M) λY Z c d=> ?_;show E▸kO Y Z (cB c) (aq (Tv _)<|fI d 2)
section
variable{E:bL}{G:Env}{H:List Str}
def Tx(N:E.dn):qh E (.builtin "repr") .X:=λP g K G e L J I Z V w=>by show sF ((by
intro _ _ G _ w;rcases G with-|_|_|_|F|_|_|_<;>first|(show cq w;done)|skip
show cC (j3 w) λQ T S W=> ?_;show aB (D3.mp T) λR M T=> ?_;obtain⟨c,n⟩:=je T;show yo F R rfl M (oW.mp c) (n▸S) W:∀{g J G L}(w:dO .X [G] g=some (L,J)),∃F R,G=.tup F/\fu g 8 (.tup F)=some R/\R.jq<=ng/\L=.ai (.fq R)/\J=g) w) λF R U M c S W=> ?_;rw[U]at V;obtain⟨o,b⟩:=Tr Z 8 V M;show pU (FF 8 M) λk j X p=> ?_;obtain⟨H,d,O,f,m⟩:=V.lT;rw[O]at b⊢;rw[W];show aX _ S<|repr_of_reads' b k (λY=>by show Bool.noConfusion<|j.symm.trans Y) N.Bo (by have:=N.yN;show jB (cB<|ip bD<|aq X aR) this) (λ_ _ M=>M) (λh i l a=> ?_)<|sO<|aq p c;show cJ.Kk (G:=K) Z ⟨⟨a,rfl,rfl,rfl⟩,.fq _ _⟩
end
def LD:∀{g:List Value}{J:Nat}{O:Str},D.Nodup->D[J]?=some O->D.length=g.length->(D.zip g).lookup O=g[J]?:=by induction D with|nil=>show λ_ w _=>bQ w|cons H L S=>
intro g J O V w E;rcases g with _|⟨Q,Y⟩;·show nomatch E
·rcases J with _|J;·obtain rfl:=jZ w;simp
 ·rw[List.nodup_cons]at V;have T:(O==H)=false:=by show afa.mpr ?_;rintro rfl;show V.1<|jC w
  simp only[List.zip_cons_cons,List.lookup_cons,T];show S V.2 w<|vO E
def Tz(V:D.Nodup)(E:D.length=l.length):D.filterMap (λO=>((D.zip l).lookup O).map (O,·))=D.zip l:=by
 obtain G:∀(w:List Str)(N:Nat),D.drop N=w->w.filterMap (λO=>((D.zip l).lookup O).map (O,·))=w.zip (l.drop N):=by intro w;induction w with|nil=>intro N _;rfl|cons H L S=>
  intro N g;have W:D[N]?=some H:=by have:=List.getElem?_drop (xs:=D) (i:=N) (j:=0);rw[g]at this;simpa using this.symm
  obtain F:N<l.length:=by have:=(eD.mp W).1;show eI this<|bP E
  simp only[List.filterMap_cons,LD V W E,List.getElem?_eq_getElem F,List.drop_eq_getElem_cons F,List.zip_cons_cons];show congrArg _<|S (N+1)<|by rw[<-List.tail_drop,g];rfl
 have:=G D 0 rfl;simpa using this
noncomputable def sY(X:Arguments):Bool:=X.posonlyargs.isEmpty&&X.vararg.isNone&&X.kwonlyargs.isEmpty&&X.kwarg.isNone
theorem TA{Y:List m}(Z:Y=[]){I:e}{W:m->e->Sem (ForInStep e)}{T:e->Sem B}:forIn Y I W>>=T=T I:=by subst Z;rfl
noncomputable def uN:Heap:={objs:=#[]}
theorem TB(H:Addr):uN.get? H=none:=by rfl
def FG{Q:Heap}{g:aG}:∀{R:List Env},jM Q g h R->h.FunFrames uN R:=by intro R;induction R with|nil=>show λ_=>trivial|cons K L F=>intro W;obtain⟨N,T,H,w,I,S,U,O,J,P⟩:=W K cY;show fS N (nu T S H (TB T) J λG Y=>by replace Y:=P▸Y;contradiction)<|F λE M=>W E<|dI M
def TC{N:List Env}(w:k∈eB N):∃K∈N,K.frame=some k:=by show aB (PL.mp w) λK L E=> ?_;show aX K L E
structure BD(N:List Env)(w g:Heap)(E:Addr)(Q:Obj)(K:Addr)(V:Array Value)(T:Addr):Prop where
BE:w.get? K=none
BF:g.get? K=some {cls:=.type "traceback",dict:=none,data:=.fields V}
BG:3<V.size
aft:V[3]?=some (rawInt T)
cR:g.get? E=some (Q.mapFields (·.setIfInBounds 1<|.ref K))
aF:∀I S,I≠E->w.get? I=some S->(∃F,g.get? I=some {S with slots:=F})/\(I∉eB N->g.get? I=some S)
section
variable{I:Model}{G:Around}{H:Value->Shared->Prop}{E:Shared}
def LF{K:Env}{i:List Env}{g:Addr}{e:Obj}{r:Bool} (l:G.frames=some (K::i))(P:E.heap.FunFrames uN<|K::i)(Z:K.frame=some k) (W:E.heap.get? g=some e)(O:e.data=.fields y)(f:1<y.size) (w:∀a U b,BD (K::i) E.heap a g e U b k->t () {E with heap:=a}):wpAny I G (do let J<-frameOf K;let F<-entryPlaceOf k r;let M<-EntryCells.newEntry d J .none (rawInt k) .none F;PySem.setField (.ref g) 1 M) t H E:=by
 have T:g∉eB (K::i):=λN=>by obtain⟨_,S,L,m⟩:=P.mem N;rw[W]at L;obtain rfl:=bO L;show m y O
 show b0<|wpAny_frameOf_fun l P Z λj v=> ?_;show b0<|wpAny_entryPlaceOf λF X=> ?_;delta EntryCells.newEntry newFields;generalize n:([d,.ref k,.none,rawInt k,.none]++if F.isEmpty then List.replicate 6 Value.none else F).toArray=b;have u:3<b.size:=by subst n;simp
 obtain p:b[3]?=some (rawInt k):=by subst n;rfl
 obtain s:=Heap.get?_push_of_some (h:=j) {cls:=.type "traceback",dict:=none,data:=.fields b}<|(v.2.1 g T).trans W;show b0<|wpAny_newObj_type ?_<|n▸X.sizeOk5 _ _ _ _ _;show wpAny_setField s O f<|w _ j.objs.size b ?_;show⟨?_, ?_,u,p,t6 _ s<|PR<|vR O (·.setIfInBounds 1<|Value.ref j.objs.size),λM S Q L=> ?_⟩;·show v.1▸nC _
 ·show(lk _ _<|Ne.symm<|d7<|kj<|(v.2.1 g T).trans W).trans<|my _ rfl
 ·obtain⟨c,q⟩:=v.2.2 M S L;have o:∀R,j.get? M=some R->((j.push {cls:=.type "traceback",dict:=none,data:=.fields b}).update g<|Obj.mapFields (·.setIfInBounds 1<|Value.ref j.objs.size)).get? M=some R:=λR Y=>by show(lk _ _<|Ne.symm Q).trans<|ki _ Y
  show⟨⟨c,o _ q⟩,λV=>o _<|(v.2.1 M V).trans L⟩
def LG{K:Env}{c:List Env}{T f:Addr}{a e:Obj}{i:Array Value} (R:G.frames=some (K::c))(M:E.heap.FunFrames uN<|K::c)(U:K.frame=some T) (L:E.heap.get? k=some a)(O:a.data=.fields y)(J:y[1]?=some (.ref f))(l:f≠k)(b:E.heap.get? f=some e)(j:e.data=.fields i)(W:i[3]?=some .none) (w:∀d Z P V,(∀g,g≠f->d.get? g=E.heap.get? g)->(d.get? f).isSome=true->BD (K::c) d Z k a P V T->t () {E with heap:=Z}):wpAny I G (noteFrame (.ref k) K) t H E:=by unfold noteFrame;show U▸b0 (Az L O J ?_);show b0<|Az b j W ?_;show b0<|wpAny_setField b j (ya.mp W).1 ?_;show LF R ((by intro _ _ _ _ V b j N _ M;show M.of_keeps λg S Q h=>aX S ((N g λY=>by rw[Y,b]at Q;obtain rfl:=bO Q;show h V j).trans Q) rfl:∀{w Z:Heap}{P:Addr}{e:Obj}{V:Array Value}(b:w.get? P=some e)(j:e.data=.fields V)(N:∀g,g≠P->Z.get? g=w.get? g){F:List Env}(M:w.FunFrames uN F),Z.FunFrames uN F) b j (λg Q=>lk _ _<|Ne.symm Q) M) U (((λg Q=>lk _ _<|Ne.symm Q) k<|Ne.symm l).trans L) O (ya.mp J).1 λZ P V X=>w _ Z P V (λg Q=>lk _ _<|Ne.symm Q) ?_ X;rw[Heap.get?_update_self _ b<|Obj.isFreed_of_fields<|Obj.data_mapFields j _];rfl
theorem BH{g:Addr}{Q:Obj}{V:Array Value}{Y:Obj}(L:E.heap.get? g=some Q)(O:Q.data=.fields y)(F:y[1]?=some (.ref k))(T:E.heap.get? k=some Y)(J:Y.data=.fields V)(S:3<V.size) (w:t () {E with heap:=E.heap.update k<|Obj.mapFields (·.setIfInBounds 3 .none)}):wpAny I G (setFlight (.ref g) none) t H E:=wpAny_setFlight_none L O F T J S w
end
theorem TF(S:Obj)(W:Array Value->Array Value):(S.mapFields W).dict=S.dict:=by obtain⟨M,Y,E,w⟩:=S;induction E<;>rfl
section
variable{I:World}{G:Heap}{E J:aG}{H:ag}{K:Shared}
def br.TG{w:Heap}(Z:br I G E H w)(N:∀a S,w.get? a=some S->h.get? a=some S\/G.get? a=none/\¬eT E a/\(∀q O,S.data≠.seq q O)/\S.data≠.plain):br I G E H h:=by
 have u:∀a S,w.get? a=some S->(∃q O,S.data=.seq q O)->h.get? a=some S:=λa S c ⟨q,O,Y⟩=>by
  rcases N a S c with K|⟨_,_,j,_⟩;·show K
  ·show absurd Y<|j q O
 have r:∀{Q:aa}{d:Value},aE E w Q d->aE E h Q d:=by intro Q d T;show aE.rec (motive_1:=λQ d _=>aE E h Q d) (motive_2:=λF m _=>bh E h F m) .none .bool .int .str (λn _ b=>.tup (let⟨S,c,k,O,Y⟩:=n;⟨S,u _ S c ⟨_,O,Y⟩,k,O,Y⟩) b) (λn f _ b=>.cM (let⟨S,c,k,O,Y⟩:=n;⟨S,u _ S c ⟨_,O,Y⟩,k,O,Y⟩) f b) .ref .fq .nil (λ_ _ P a=>.cons P a) T
 show⟨λP S i=> ?_,Z.aZ,λJ X U e s=> ?_,Z.j4,Z.qb⟩
 ·rcases N P S<|Z.cP P S i with K|⟨j,_⟩;·show K
  ·show bQ<|j.symm.trans i
 ·have L:=Z.cI J X U e s;have W:=jC e;show aB L.Bg λo R _=> ?_;show aB L.wm λp g Y=> ?_;have l:h.get? X.2=some o:=by
   rcases N X.2 o R with K|⟨_,j,_⟩;·show K
   ·show absurd ⟨X,W,rfl⟩ j
  have V:h.get? X.1=some p:=by
   rcases N X.1 p g with K|⟨_,j,t,M⟩;·show K
   ·rcases Y with Y|Y;·show absurd (aX X W Y) j
    ·contradiction
  show L.iL r (V.trans g.symm)<|l.trans R.symm
end
section
variable{K:World}{E:Heap}{I:aG}{G:Shared}{J:ag}{H:Int}{O:Model}{L:Around}{N:Value->Shared->Prop}{M:Unit->Shared->Prop}
def FH{T:aG}{b:Env}{r:List Env}{X9 c:Addr}{j:Heap}{q o:Obj}{XU:Array Value}{Y:Addr}{U:Array DictEntry}{XW:Tok} (Z:br K E T J f.heap)(i:bp I T bR (·∈eB (b::r)) G f)(XX:jM E T f.heap<|b::r)(XY:E.get? k=none)(XZ:G.heap.get? k=none) (d:f.heap.get? k=some q)(Yb:q.cls=.ref fK)(s:q.data=.fields XU)(Yc:1<XU.size)(O:q.dict=some Y)(v:f.heap.get? Y=some o)(C:o.data=.dict U a)(Yd:StrKeys U)(Ye:nsFind U sL=some (.int H XW)) (g:∀N S,f.heap.get? N=some S->h.get? N=some S\/(E.get? N=none/\G.heap.get? N=none/\(h.get? N).isSome=true/\∃Q,S.data=.fields Q))(Yg:h.get? k=some q)(D:x.gens=f.gens/\x.drawn=f.drawn/\x.os=f.os) (X:BD (b::r) h j k q c y X9)(X0:x.heap=j.update c (Obj.mapFields (·.setIfInBounds 3 .none))):iN K E I G bR (b::r) H J (.ref k) x:=by
 obtain X2:∀{N:Addr}{S:Obj}{Q:Array Value},f.heap.get? N=some S->S.data=.fields Q->¬eT T N:=λL O XN=>by show aB (qW Z XN) λX3 t P=> ?_;rw[L]at t;obtain rfl:=bO t;rcases P with⟨_,_,e,_⟩|⟨_,_,e,_⟩<;>(obtain e:=O.symm.trans e;contradiction)
 have XO:k≠c:=λP=>by have:=X.BE;rw[<-P,Yg]at this;show nomatch this
 have XQ:∀N S,f.heap.get? N=some S->(h.get? N).isSome=true:=λN S L=>by
  rcases g N S L with F|⟨_,_,F,_⟩;·rw[F];rfl
  ·show F
 have W:∀N S,f.heap.get? N=some S->N≠c:=λN S L P=>by have:=XQ N S L;rw[P,X.BE]at this;contradiction
 have z:∀N,N≠c->x.heap.get? N=j.get? N:=λN E=>by rw[X0];show lk _ _<|Ne.symm E
 have X4:({cls:=.type "traceback",dict:=none,data:=.fields y}:Obj).data=.fields y:=rfl;obtain Yh:x.heap.get? c=some (({cls:=.type "traceback",dict:=none,data:=.fields y}:Obj).mapFields (·.setIfInBounds 3 .none)):=by show X0▸t6 _ X.BF (PR<|vR X4 _)
 have X5:∀N S,f.heap.get? N=some S->N≠k->(∀Q,S.data≠.fields Q)->(∃m,x.heap.get? N=some {S with slots:=m})/\(N∉eB (b::r)->x.heap.get? N=some S):=λN S L A Yi=>by
  rcases g N S L with F|⟨_,_,_,Q,F⟩;·rw[z N<|W N S L];show X.aF N S A F
  ·show absurd F<|Yi Q
 obtain Yj:∀N S,f.heap.get? N=some S->x.heap.get? N=some S\/E.get? N=none/\¬eT T N/\(∀p H,S.data≠.seq p H)/\S.data≠.plain:=λN S L=>by
  by_cases A:N=k;·subst A;replace L:=d.symm.trans L;obtain rfl:=bO L;show .inr ⟨XY,X2 d s,λp H P=>by rw[s]at P;injection P,λP=>by rw[s]at P;injection P⟩
  ·rcases g N S L with F|⟨Yk,_,_,Q,F⟩
   ·by_cases B:N∈eB (b::r);·show aB (TC B) λXR Yl Ym=> ?_;obtain⟨_,u,M,XS,XT,X6,X7,X8,l,n⟩:=XX XR Yl;replace M:=Ym.symm.trans M;obtain rfl:=bO M;replace l:=L.symm.trans l;obtain rfl:=bO l;show .inr ⟨XS,XT,λp H P=>by rw[n]at P;injection P,λP=>by rw[n]at P;injection P⟩
    ·show .inl<|(z N<|W N S L).trans<|(X.aF N S A F).2 B
   ·show .inr ⟨Yk,X2 L F,λp H P=>by rw[F]at P;injection P,λP=>by rw[F]at P;injection P⟩
 obtain Yn:∀N,h.get? N=none->G.heap.get? N=none:=λN V=>by
  rcases F:G.heap.get? N with _|S;·rfl
  ·obtain⟨X3,t⟩:=xW.mp<|i.ir N (by rw[F];rfl);have:=XQ N X3 t;rw[V]at this;contradiction
 obtain Yo:E.get? c=none:=by
  rcases F:E.get? c with _|S;·rfl
  ·have:=XQ c S<|Z.cP c S F;rw[X.BE]at this;contradiction
 obtain Yp:Y≠k:=λP=>by rw[P,d]at v;obtain rfl:=bO v;rw[s]at C;contradiction
 obtain⟨⟨Yx,Yq⟩,_⟩:=X5 Y o v Yp λQ P=>by rw[C]at P;injection P
 show⟨k,c,T,rfl,Z.TG Yj,⟨i.fc,λN S L XN Yr=> ?_,λN V=> ?_,D.1.trans i.iJ,D.2.1.trans i.iX,D.2.2.trans i.iK⟩,λXR Ys=> ?_, ?_,XY,Yo,XZ,Yn c X.BE⟩
 ·obtain⟨⟨m,w⟩,Yt⟩:=i.aF N S L XN Yr;obtain A:N≠k:=λP=>by rw[P,XZ]at L;show bQ L
  rcases g N _ w with F|⟨_,e,_⟩;·obtain⟨⟨Yu,R⟩,Yv⟩:=X.aF N _ A F;show⟨⟨Yu,(z N<|W N _ w).trans R⟩,λB=> ?_⟩;rw[z N<|W N _ w];have:=Yt B;rw[w]at this;show(Yv B).trans this
  ·rw[e]at L;show bQ L
 ·obtain⟨S,L⟩:=xW.mp<|i.ir N V;by_cases A:N=k;·rw[A,z k XO,X.cR];rfl
  ·rcases g N S L with F|⟨_,e,_⟩;·obtain⟨⟨m,R⟩,_⟩:=X.aF N S A F;rw[z N<|W N S L,R];rfl
   ·rw[e]at V;contradiction
 ·obtain⟨Yw,u,M,XS,XT,X6,X7,X8,l,n⟩:=XX XR Ys;have A:u≠k:=λP=>by rw[P,d]at l;obtain rfl:=bO l;replace n:=s.symm.trans n;injection n
  obtain⟨⟨m,R⟩,_⟩:=X5 u X6 l A λQ P=>by rw[n]at P;injection P
  show⟨Yw,u,M,XS,XT,_,X7,X8,R,n⟩
 ·show⟨_,_,Y,_,U,a,XW,_,_,by show(z k XO).trans ?_;show X.cR,(Obj.cls_mapFields _ _).trans Yb,vR s (·.setIfInBounds 1<|Value.ref c),by simp[Yc],(TF _ _).trans O,Yq,C,Yd,Ye,Ne.symm XO,Yh,vR X4 _,by simp[X.BG]⟩
def iN.LH{O:Env}{L:List Env}(S:O.frame=some k)(U:G.heap.get? k=none)(w:iN K E I G bR (O::L) H J d f):iN K E I G bR L H J d f:=by
 obtain⟨F,P,T,rfl,Z,Q,M,g,V,W,a,R⟩:=w;show⟨F,P,T,rfl,Z,Q.cZ (λ_ _ Y=>Y) λN E Y=> ?_,λb X=>M b<|dI X,g,V,W,a,R⟩;unfold eB at Y⊢;simp only[List.filterMap_cons,S]at Y;rcases gA.mp Y with Y|Y;·rw[Y,U]at E;show Bool.noConfusion E
 ·show Y
def TH{Q:Env}{u:List Env}(v:L.frames=some (Q::u))(h:Q.frame=some k)(j:G.heap.get? k=none)(w:iN K E I G bR (Q::u) H J d f) (P:∀t,iN K E I G bR u H J d t->M () t):wpAny O L (leaving Q d) M N f:=by
 obtain⟨g,x,XN,rfl,Z,e,b,⟨XO,XQ,XR,XS,XT,XU,XW,XX,XY,n,W,m,l,i,o,q,r,U,y,z,A,B⟩,Y,p,s,R⟩:=w;show b0<|LG v (FG b) h n m l y z A B λXZ X0 c X2 C D X=> ?_;have S:=(ya.mp l).1;show BH (k:=c) X.cR (vR m (·.setIfInBounds 1<|Value.ref c)) (by simp[S]) X.BF rfl X.BG<|P _ ?_;show iN.LH h j<|FH Z e b Y s n W m S i o q r U (λF X3 a=> ?_) ((C g<|Ne.symm y).trans n) (fS rfl rfl rfl) X rfl;by_cases V:F=x;·subst V;rw[z]at a;obtain rfl:=bO a;show .inr ⟨p,R,D,_,A⟩
 ·show .inl<|(C F V).trans a
def TJ{c:Env}{B:List Env}(C:L.frames=some (c::B))(n:c.frame=some k)(s:G.heap.get? k=none)(w:FC K E I G bR (c::B) H J d f) (U:∀A,iN K E I G bR B H J d A->M () A):wpAny O L (leaving c d) M N f:=by
 obtain⟨g,p,R,rfl,Z,h,m,a,V,Q,Y,Yb,Yc,Yd,Ye,Yg,Yh,v,W,u,Yi,t,r,x,XN,XO,XQ⟩:=w;have D:jM E p f.heap<|c::B:=λXR XS=>by show eA λYj XT=> ?_;obtain⟨XU,XW,XX,XY,XZ,X0,X2,X3,X4,X5⟩:=h XR XS;show XT ?_;show⟨XU,XW,XX,XY,XZ,X0,X2,X3,a.aF _ _ X4,X5⟩
 have X6:∀F,R.heap.get? F=none->E.get? F=none/\G.heap.get? F=none:=λF z=>by
  show⟨?_, ?_⟩
  ·rcases d:E.get? F with _|S;·rfl
   ·have:=Z.cP F S d;rw[z]at this;show bQ this
  ·rcases d:G.heap.get? F with _|S;·rfl
   ·have:=m.ir F (by rw[d];rfl);rw[z]at this;show Bool.noConfusion this
 obtain⟨X7,X8⟩:=X6 g V;show b0<|(by intro _ _ _ _ _ _ _ _ _ _ _ C e n j l b w;unfold noteFrame;show n▸b0 (Az j l b ?_);show LF C e n j l (ya.mp b).1 w:∀{O:Model}{L:Around}{N:Value->Shared->Prop}{P:Shared}{c B k d Q Y M}(C:L.frames=some (c::B))(e:P.heap.FunFrames uN<|c::B)(n:c.frame=some k)(j:P.heap.get? d=some Q)(l:Q.data=.fields Y)(b:Y[1]?=some .none)(w:∀o i q,BD (c::B) P.heap o d Q i q k->M () {P with heap:=o}),wpAny O L (noteFrame (.ref d) c) M N P) C (FG D) n v u t λo i q X=> ?_;have y:=(ya.mp t).1;show BH (k:=i) X.cR (vR u (·.setIfInBounds 1<|Value.ref i)) (by simp[y]) X.BF rfl X.BG<|U _ ?_;show iN.LH n s<|FH (Z.aF a) (m.aC<|a.bK .. ) D X7 X8 v W u y r x XN XO XQ (λF S X9=>.inl X9) v (fS rfl rfl rfl) X rfl
end
structure BI(Q:Heap)(H:Addr)(N:FuncData)(L:List PySem.Stmt):Prop where
a:∃S,Q.get? H=some S/\S.data=.func N
BJ:Q.CodeRec N.code N.qualname
qN:N.body=.stmts L
BK:N.closure=[]
bE:N.globals=mainGlobals
sR:N.builtins=builtinsNs
yR:sY N.params=true
BL:N.defaults=.none
noncomputable def BM(Z:Scope)(G:Str):Bool:=G !=("__debug__":Str)&&G !=("__classdict__":Str)&&(Z.names.lookup G==some .local||Z.names.lookup G==some .cell)
structure uO(g:Scope)(E:List Str)(Z:List Str)(W:bG):Prop where
eO:g.kind=.function
FI:g.isGenerator=false
n:g.isCoroutine=false
kQ:∀G∈Z,BM g G=true
j4:Z.Nodup
TK:(g.names.map (·.1)).Nodup
yS:Z.take W.H=E
H:E.length=W.H
pP:Z.length=W.pP
def TL:∀(Z:List<|Str×NameKind)(O:Nat)(J:List<|Str×Addr)(G:Str),(G,NameKind.cell)∈Z\/G∈J.map (·.1)->G∈(cellsFrom O Z J).map (·.1):=by intro Z;induction Z with|nil=>show λ_ _ _ w=>w.elim (λw=>(t5 w).elim) id|cons E L S=>
intro O J G w;obtain⟨U,N⟩:=E;change G∈(if N==.cell then cellsFrom (O+1) L<|(U,O)::J else cellsFrom O L J).map (·.1);rcases pM<|(N==.cell)=true with g|g
·rw[if_pos g];show S _ _ G ?_;rcases w with w|w
 ·rcases gA.mp w with w|w;·show .inr<|(vN w).1▸by show cY
  ·show .inl w
 ·show .inr<|by rw[List.map_cons,List.mem_cons];show .inr w
·rw[if_neg g];show S _ _ G ?_;rcases w with w|w
 ·rcases gA.mp w with w|w;·show absurd ((vN w).2▸rfl:(N==NameKind.cell)=true) g
  ·show .inl w
 ·show .inr w
def TM:∀(Z:List<|Str×NameKind)(O:Nat)(J:List<|Str×Addr),(J.map (·.1)++Z.map (·.1)).Nodup->((cellsFrom O Z J).map (·.1)).Nodup:=by intro Z;induction Z with|nil=>intro _ J w;rw[List.map_nil,List.append_nil]at w;show w|cons g L S=>
intro O J w;unfold cellsFrom;split;·show S _ _ ?_;show(List.perm_middle.nodup_iff).mp w
·show S _ _ ?_;have:=(List.perm_middle.nodup_iff).mp w;show(I5.mp this).2
theorem LI:∀{F:List<|Str×e}{G:Str}{H:e},(F.map (·.1)).Nodup->(G,H)∈F->F.lookup G=some H:=by intro F;induction F with|nil=>intros;contradiction|cons O L S=>
obtain⟨U,I⟩:=O;intro G H V w;rw[List.map_cons,List.nodup_cons]at V;rcases gA.mp w with w|W;·obtain⟨rfl,rfl⟩:=vN w;simp
·have:(G==U)=false:=by rw[beq_eq_false_iff_ne];clear w;rintro rfl;show V.1<|nU.mpr<|aX (G,H) W rfl
 simp only[List.lookup_cons,this];show S V.2 W
def TN{F:Str->Option NameKind}:∀{J:List<|Str×Value}{N:Str->Option Value},F j=some .local->bindL F J N j=(J.reverse.lookup j).or (N j):=by intro J;induction J with|nil=>intro N _;simp[bindL]|cons w L S=>
obtain⟨O,Q⟩:=w;intro N g;unfold bindL;rw[S g];simp only[List.reverse_cons,List.lookup_append,Option.or_assoc];congr 1;by_cases E:j=O;·subst E;simp[g]
·have:(j==O)=false:=by simpa using E
 split<;>simp[List.lookup_cons,this,E]
def TO{F:Str->Option NameKind}:∀{J:List<|Str×Value}{N:Str->Option Value},F j≠some .local->bindC F J N j=(J.reverse.lookup j).or (N j):=by intro J;induction J with|nil=>intro N _;simp[bindC]|cons w L S=>
obtain⟨O,Q⟩:=w;intro N g;unfold bindC;rw[S g];simp only[List.reverse_cons,List.lookup_append,Option.or_assoc];congr 1;by_cases E:j=O;·subst E;simp[g]
·have:(j==O)=false:=by simpa using E
 split<;>simp[List.lookup_cons,this,E]
def TQ(V:D.Nodup)(w:D[a]?=some j)(E:D.length=l.length):(D.zip l).reverse.lookup j=l[a]?:=by
 have T:a<l.length:=E▸(eD.mp w).1;rw[List.getElem?_eq_getElem T];show LI ?_ ?_
 ·rw[List.map_reverse,(List.reverse_perm _).nodup_iff];have:(D.zip l).map (·.1)=D:=by rw[List.map_fst_zip];show bP E
  rw[this];show V
 ·rw[List.mem_reverse];have:(D.zip l)[a]?=some (j,l[a]):=by show afd.mpr ⟨w,tZ T⟩
  show jC this
section
variable{H:Program}{G:World}{E:Heap}{J:Frag}{I:Nat->Addr}
def TS(H:Program)(G:World)(E:Heap)(J:Frag)(I:Nat->Addr)(F:Scope)(Z:List Str)(L:List PySem.Stmt)(O:List bo):Prop:=∀(M:bL)(K:Env),M.dD=H->M.cf=G->M.bH=E->M.iY=J->M.uK=I->M.dn->c9 K Z->K.scope=F->(∀g w,iu K g w->M.gE.heap.get? w=none)->(∃N,M.oh=K::N/\K.frame=some K.locals)->pj M K Z true L O
section
variable{K:FuncData}{M:Addr}{L Q:Shared}{N:List Str}{S:bG}{X:List PySem.Stmt}{O R:Str->Option Value}{Y:List aa}{Z:List Value}{V:aG}{U:ag}{T:List Env}
theorem FJ(H:uO K.scope (K.params.args.map (·.arg)) N S)(V:j∈N):K.scope.names.lookup j=some .local\/(K.scope.names.lookup j=some .cell/\∀O,((cellsFrom O K.scope.names []).lookup j).isSome=true):=by
 have:=H.kQ j V;unfold BM at this;rw[Bool.and_eq_true,Bool.or_eq_true,beq_iff_eq,beq_iff_eq]at this;rcases this.2with E|E;·show .inl E
 ·show .inr ⟨E,λO=>(by intro _;intro F;induction F with|nil=>intros;contradiction|cons G L g=>obtain⟨U,I⟩:=G;intro j w;simp only[List.lookup_cons];induction E:j==U with|true=>rfl|false=>
 rcases gA.mp w with w|w;·rw[w]at E;simp at E
 ·show g w:∀{X},∀{F:List<|Str×X}{j:Str},j∈F.map (·.1)->(F.lookup j).isSome=true)<|TL _ _ _ _<|.inl<|oQ E⟩
def LJ(g:InCallC L (callEnvC K L.heap.objs.size M).locals O (callEnvC K L.heap.objs.size M).cells R Q)(w:iM (callEnvC K L.heap.objs.size M) k):L.heap.get? k=none:=by induction E:L.heap.get? k with|none=>rfl|some S=>show absurd (kj E)<|Aw.mpr<|w.elim (λw=>bP w.symm) λw=>w.elim λG V=>lJ<|g.above G k V
end
def TU{s:FuncData}{L:List PySem.Stmt}{W:bG}(Yi:Bn H G E J I)(B:BI E k s L)(z:uO s.scope (s.params.args.map (·.arg)) D W)(Yw:TS H G E J I s.scope D L W.qN) (Yx:Fn H G E I (nZ aw u a) a){h:List aa}{g X8:ag}{XX:aI aa}(w:AV aw (nZ aw u a) u W h g=some (XX,X8)){m:Around}{d:aG}{q:List Env}{Z:Result->Shared->Prop} (v:br G E d g f.heap)(T:bh d f.heap h l)(XY:jM E d f.heap q)(Yy:m.handled=none)(Yz:m.frames=some q)(X9:m.guards=some [])(o:m.depth+2*(a+1)+3<recursionLimit)(YA:m.units+8*(a+1)+56<cLine) (YB:∀Q F n,XX=.ai Q->mG G E (·∈eB q) d f XX X8 F n->Z (.ok<|.ret F) n)(Yj:∀O P n,XX=.cR O->iN G E d f bR q O X8 P n->Z (.error P) n):codeAny (model H G) m (.call (.ref k) ⟨l,[]⟩) Z f:=by
 show eZ (jt<|show af.d4 _ _ _=_ from w) λr w=> ?_;obtain⟨YC,Yk,XZ,X0,YD⟩:=af.fW w;show aB B.a λS XN YE=> ?_;obtain YF:=(by
  intro s x Yb o X2 e;obtain⟨Y8,Y9,⟨Za,A,Zb,Zc,Zd,Ze,Zf⟩,L,Zg,Zh,Zi,Zj,Zk,Zl,Zm,Zn,Zo,Zp,Zq⟩:=s;simp only[sY,Bool.and_eq_true,List.isEmpty_iff,Option.isNone_iff_eq_none]at Yb;obtain⟨⟨⟨YG,rfl⟩,rfl⟩,rfl⟩:=Yb;rw[YG];dsimp only at o X2 e⊢;subst o;obtain YH:((A.map (·.arg)).filter λO=>(((A.map (·.arg)).zip x).lookup O).isNone)=[]:=by show List.filter_eq_nil_iff.mpr ?_;intro O N;obtain⟨c,j,rfl⟩:=List.getElem_of_mem N;rw[LD X2 (List.getElem?_eq_getElem j) e,List.getElem?_eq_getElem<|Nat.lt_of_lt_of_le j<|Nat.le_of_eq e];simp
  obtain X9:¬(decide (x.length>(A.map (·.arg)).length)&&true)=true:=by rw[Bool.and_true,decide_eq_true_eq];show Aw.mpr<|bP e.symm
  obtain YI:(A.map (·.arg)).length-(List.drop (0-(A.map (·.arg)).length) ([]:List Value)).length=(A.map (·.arg)).length:=by rw[List.drop_nil];rfl
  obtain YJ:¬(!((List.take ((A.map (·.arg)).length-(List.drop (0-(A.map (·.arg)).length) ([]:List Value)).length)<|A.map (·.arg)).filter λO=>(((A.map (·.arg)).zip x).lookup O).isNone).isEmpty)=true:=by rw[YI,List.take_length,YH];show PS
  show(if_neg X9).trans ?_;show(if_neg YJ).trans ?_;have YK:(List.drop ((A.map (·.arg)).length-(List.drop (0-(A.map (·.arg)).length) ([]:List Value)).length)<|A.map (·.arg)).zip (List.drop (0-(A.map (·.arg)).length) ([]:List Value))=[]:=by rw[List.drop_nil];show List.zip_nil_right
  show(TA YK).trans ?_;show congrArg (pure:List (Str×Value)->Sem _) ((congrArg (List.filterMap _)<|List.append_nil _).trans<|Tz X2 e):∀{s x}(Yb:sY s.params=true)(o:s.defaults=.none)(X2:(s.params.args.map (·.arg)).Nodup)(e:(s.params.args.map (·.arg)).length=x.length),bindArgs s ⟨x,[]⟩=pure ((s.params.args.map (·.arg)).zip x)) (x:=l) B.yR B.BL (by show z.yS▸z.j4.sublist (List.take_sublist _ _)) (by rw[z.H,<-beq_iff_eq.mp r];show T.jI);show codeAny_call_cells (jB (gU bD) o) (v.cP _ _ XN) YE (Yi.KV.keeps v.cP) (AZ B.BJ λM YL YM YN YO YQ YR=>A3 M YL YM YN YO (v.cP _ _ YQ) YR) B.qN YF B.BK (λU V=> ?_) (λR C=> ?_) z.n z.FI z.eO;·obtain N:U.1∈s.params.args.map (·.arg):=(List.of_mem_zip (a:=U.1) (b:=U.2) V).1;rw[<-z.yS]at N;show(FJ z<|List.mem_of_mem_take N).imp id λw=>⟨w.1,w.2 _⟩
 ·obtain Yl:=(by
   intro _ E s k f R D W _ h l d _ _ _ z v T XY r C;have X3:cN f R:=C.toInCall.same.elim λ_ w=>w.elim λ_ P=>⟨C.toInCall.keep,by rw[P],by rw[P],by rw[P]⟩;have y:=λ{X:Addr}(w:iM (callEnvC s f.heap.objs.size k) X)=>LJ C w;have Ym:∀X,iM (callEnvC s f.heap.objs.size k) X->E.get? X=none:=λX w=>by induction P:E.get? X with|none=>rfl|some S=>show bQ<|(y w).symm.trans<|v.cP X S P
   have Yn:∀X,iM (callEnvC s f.heap.objs.size k) X->¬eT d X:=λX w N=>(qW v N).elim λS XN=>bQ<|(y w).symm.trans XN.1;have Yo:wx R.heap (callEnvC s f.heap.objs.size k).locals:=lP C.toInCall.ns λXO XQ XR XS XT X4 _=>⟨XO,XQ,XR,XS,XT,X4⟩;show⟨⟨v.aF X3,⟨Yo,λU M V=> ?_⟩,Ym,Yn,λc U Q V e=>(by
    intro z T r C c U _ V e;obtain YS:(s.params.args.map (·.arg)).length=l.length:=by rw[z.H,<-r];show T.jI
    have j:c<h.length:=by
     by_cases j:c<h.length;·show j
     ·rw[List.getElem?_append_right<|by simpa using j,List.length_map,List.getElem?_replicate]at e;split at e<;>show nomatch e
    have YT:(s.params.args.map (·.arg))[c]?=some U:=by rw[<-z.yS,List.getElem?_take,if_pos<|Nat.lt_of_lt_of_le j<|Nat.le_of_eq r];show V
    rw[List.getElem?_append_left<|by simpa using j,List.getElem?_map,List.getElem?_eq_getElem j]at e;obtain rfl:=bO<|bO e;show aB (T.gW<|tZ j) λF YU p=> ?_;obtain Yp:=(TQ (by show z.yS▸z.j4.sublist (List.take_sublist _ _)) YT YS).trans YU;show aX F ?_ p;rcases FJ z<|jC V with P|⟨P,Yc⟩;·show lP C.toInCall.ns λXO XQ XR XS XT X4 YV=> ?_;show .sS P XO XQ XR XS XT X4 ?_;rw[YV,TN P,Yp];rfl
    ·obtain⟨Yq,Yr⟩:=xW.mp<|Yc<|f.heap.objs.size+1;show aB (C.cell U Yq Yr) λS XN o=> ?_;rw[TO<|show s.scope.names.lookup U≠some .local by rw[P];decide,Yp]at o;show .inr (.inl P) Yq S Yr XN o:∀(z:uO s.scope (s.params.args.map (·.arg)) D W)(T:bh d R.heap h l)(r:h.length=W.H)(C:InCallC f (callEnvC s f.heap.objs.size k).locals (bindL (callEnvC s f.heap.objs.size k).kindOf ((s.params.args.map (·.arg)).zip l) λ_=>none) (callEnvC s f.heap.objs.size k).cells (bindC (callEnvC s f.heap.objs.size k).kindOf ((s.params.args.map (·.arg)).zip l) λ_=>none) R){c U Q}(V:D[c]?=some U)(e:(h.map some++List.replicate (W.pP-W.H) none)[c]?=some (some Q)),∃F,yJ R.heap (callEnvC s f.heap.objs.size k) U F/\aE d R.heap Q F) z (Fm v (X3.bK d bR n7) T) r C V e, ?_⟩,λYW Yd=> ?_,X3.bK ..⟩;·show(C.cell U M<|LI (TM _ _ _<|by simpa using z.TK) V).elim λS w=>⟨S,_,w.1,w.2⟩
   ·obtain XZ:=congrArg List.length z.yS;rw[List.length_take,z.H,z.pP]at XZ;simp only[List.length_append,List.length_map,List.length_replicate,z.pP,r];show I6<|aq (bP XZ.symm)<|xU _ _
   ·rcases gA.mp Yd with rfl|Yd;·obtain⟨XO,XQ,XR,XS,XT,X4⟩:=Yo;show⟨by change s.scope.kind≠.module;rw[z.eO];decide,_,rfl,Ym _<|.inl rfl,Yn _<|.inl rfl,XO,XQ,XR,XS,XT⟩
    ·show XY.bK (X3.bK d bR n7) YW Yd:∀{G:World}{E:Heap}{s:FuncData}{k:Addr}{f R:Shared}{D:List Str}{W:bG}{L:List PySem.Stmt}{h:List aa}{l:List Value}{d:aG}{g:ag}{q:List Env}(B:BI E k s L)(z:uO s.scope (s.params.args.map (·.arg)) D W)(v:br G E d g f.heap)(T:bh d f.heap h l)(XY:jM E d f.heap q)(r:h.length=W.H)(C:InCallC f (callEnvC s f.heap.objs.size k).locals (bindL (callEnvC s f.heap.objs.size k).kindOf ((s.params.args.map (·.arg)).zip l) λ_=>none) (callEnvC s f.heap.objs.size k).cells (bindC (callEnvC s f.heap.objs.size k).kindOf ((s.params.args.map (·.arg)).zip l) λ_=>none) R),Mine.Internal.ay G E d f bR (callEnvC s f.heap.objs.size k::q) (callEnvC s f.heap.objs.size k) D d g (h.map some++List.replicate (W.pP-W.H) none) R) B z v T XY (Av.mp r) C;have y:=λ{X:Addr}(w:iM (callEnvC s f.heap.objs.size k) X)=>LJ C w;obtain Ys:=(by
   intro _ s _ f _ _ _ _ _ _ B z C;show⟨z.eO,B.bE,B.sR,λU V=> ?_,z.j4,C.apart,λU M V Y=>tY _<|Y▸C.above U M V⟩;obtain Ye:=z.kQ U V;unfold BM at Ye;rw[Bool.and_eq_true]at Ye;unfold wu;rw[Ye.1];change(s.scope.names.lookup U==some .local||(s.scope.names.lookup U==some .cell||s.scope.names.lookup U==some .free)&&((cellsFrom (f.heap.objs.size+1) s.scope.names []).lookup U).isSome)=true;rcases FJ z V with P|⟨P,Yc⟩;·rw[P];rfl
   ·rw[P,Yc _];rfl:∀{E:Heap}{s:FuncData}{k:Addr}{f R:Shared}{D:List Str}{W:bG}{L:List PySem.Stmt}{YX YY:Str->Option Value}(B:BI E k s L)(z:uO s.scope (s.params.args.map (·.arg)) D W)(C:InCallC f (callEnvC s f.heap.objs.size k).locals YX (callEnvC s f.heap.objs.size k).cells YY R),c9 (callEnvC s f.heap.objs.size k) D) B z C;generalize Yt:callEnvC s f.heap.objs.size k=K at Yl y Ys⊢;obtain YZ:K.scope=s.scope:=by rw[<-Yt];rfl
  have X5:K.frame=some K.locals:=by rw[<-Yt];rfl
  have Y0:∀{X6:aG}{n:Shared},bp d X6 bR (·∈eB (K::q)) f n->bp d X6 bR (·∈eB q) f n:=λY1=>Y1.cZ (λ_ _ Y=>Y) λX Yu Y=>by
   unfold eB at Y⊢;simp only[List.filterMap_cons,X5]at Y;rcases gA.mp Y with Y|Y;·rw[Y,y<|.inl rfl]at Yu;show Bool.noConfusion Yu
   ·show Y
  let M:bL:={dD:=H,cf:=G,bH:=E,iY:=J,uK:=I,call:=nZ aw u a,qe:=a,yM:=d,gE:=f,wy:=bR,oh:=K::q,bV:=m.deeper K};have Yg:M.dn:=⟨Yi,Yx,Yy,by change m.frames.map (K::·)=_;rw[Yz];rfl,X9,by show jB (fI (bP gM) _) o,by change m.units+3+8*a+60<cLine;show jB (jb<|fI (bP gM) _) YA⟩;show dH (Yw M K rfl rfl rfl rfl rfl Yg Ys YZ (λU k Y=>y Y.fT) (aX q rfl X5) u d g _ R YC Yk (λP n=>wpAny (model H G) (m.deeper K) (leaving K P) (λ_ t=>Z (.error P) t) (λY2 t=>Z (.error Y2) t) n) Yl XZ PassesOwn.leaving (λO P n Y XU=>TH (u:=q) Yg.wz X5 (y<|.inl rfl) XU λt Yh=>Yj O P t (X0 O Y).1<|(X0 O Y).2▸Yh) λ_ O P n Y XU=>TJ (B:=q) Yg.wz X5 (y<|.inl rfl) XU λt Yh=>Yj O P t (X0 O Y).1<|(X0 O Y).2▸Yh) (λX7 n Y3=> ?_) λ_ _ U=>U;obtain⟨Zr,Y4,X6,Y5,Yv,_,XW⟩:=Y3;show aB ((by intro _ w _ _ _ _ XW;induction XW with|ret p=>show aX _ rfl λi w _ _ _=>(w _).symm▸p|aK=>show aX _ rfl λi _ w _ _=>w.symm▸.none|brk=>show aX _ rfl λi _ _ w _=>w.symm▸.none|cont=>show aX _ rfl λi _ _ _ w=>w.symm▸.none:∀{d w W X7 Y6 g}(XW:ph d w W X7),∃Q,fR (W,Y6) g=some (.ai Q,g)/\∀i:Flow->Value,(∀Q,i (.ret Q)=Q)->i .next=.none->i .brk=.none->i .cont=.none->aE d w Q (i X7)) (Y6:=Y4) (g:=Yk) XW) λQ Y7 p=> ?_;obtain P:=dT<|Y7.symm.trans<|YD _ Y5;show YB Q _ n P.1.symm ⟨Q,X6,P.1.symm,P.2▸Yv.a.aP,Y0 Yv.cP,by have:=p (λXU=>match XU with|.ret Q=>Q|_=>.none) (λ_=>rfl) rfl rfl rfl;clear XW;clear p;induction X7<;>show this⟩
end
section
set_option tactic.hygienic true
noncomputable def BN(L Z:Scope):Scope:={L with names:=L.names.map λ(O,N)=>if N==.free&&Z.kind==.function&&Z.names.lookup O==some .cell then(O,.cell)else(O,N)}
theorem FK{L Z:Scope}{K:Env}(w:K.scope=Z):relabel L K=BN L Z:=by subst w;rfl
noncomputable def yT(g:Scope)(Z:List Str)(L:Scope)(w:List Str)(O:List Nat):Bool:=L.kind==.function&&L.names.all (λU=>U.2 !=.cell)&&L.names.all (λU=>U.2 !=.local||L.names.lookup U.1==some .local)&&w.all (λG=>L.names.lookup G==some .local&& !(G==("__debug__":Str))&& !(G==("__classdict__":Str)))&&decide ((L.names.filter (·.2==.free)).length<=1)&&L.names.all (λX=>X.2 !=.free||L.names.lookup X.1==some .free&&g.names.lookup X.1==some .cell&&Z.contains X.1)&&O.all (λJ=>Option.casesOn (motive:=λ_=>Bool) Z[J]? false λG=>L.names.contains (G,NameKind.free)&& !(G==("__debug__":Str))&& !(G==("__classdict__":Str)))&&decide (w++O.map λJ=>Z.getD J "").Nodup
def FL{K:Env}{Z c:Scope}{b:List Str}{O:List Nat}(a:c9 K D)(e:K.scope=Z)(w:yT Z D c b O=true):ju K D c b O:=by
 unfold yT at w;simp only[Bool.and_eq_true]at w;obtain⟨⟨⟨⟨⟨⟨⟨H,W⟩,M⟩,N⟩,Q⟩,L⟩,d⟩,T⟩:=w;show⟨by simpa using H,λU R=> ?_,λU R F=> ?_,λG V=> ?_,DX Q,λX I P=> ?_,λJ S=> ?_,DX T⟩;·have:=gB.mp W U R;simpa using this
 ·have:=gB.mp M U R;rw[Bool.or_eq_true]at this;rcases this with E|E;·rw[F]at E;injection E
  ·simpa using E
 ·have:=gB.mp N G V;simp only[Bool.and_eq_true,beq_iff_eq,Bool.not_eq_true']at this;show fS this.1.1 this.1.2 this.2
 ·have:=gB.mp L X I;rw[Bool.or_eq_true]at this;rcases this with E|E;·rw[P]at E;injection E
  ·simp only[Bool.and_eq_true,beq_iff_eq]at E;have g:K.kindOf X.1=some .cell:=by unfold Env.kindOf;show e▸E.1.2
   show fS E.1.1 g ?_;show iI (Bl<|a.kQ X.1<|by simpa using E.2) λ_ _ Y=> ?_;rcases Y with Y|⟨_,Y⟩;·obtain Y:=g.symm.trans Y;show nomatch Y
   ·show Y
 ·have:=gB.mp d J S;rcases E:D[J]?with _|G;·rw[E]at this;show Bool.noConfusion this
  ·rw[E]at this;simp only[Bool.and_eq_true,Bool.not_eq_true']at this;show kP G rfl (by simpa using this.1.1) this.1.2 this.2
abbrev ah(P:Prop):={I:Bool//I=true->P}
def az{X:e->Prop}(H:e):ah<|X H:=⟨false,nofun⟩
namespace ah
variable{P E:Prop}
noncomputable def dq:ah P:=⟨false,nofun⟩
noncomputable def sZ(w:P):ah P:=⟨true,λ_=>w⟩
noncomputable def du(I:Bool):ah<|I=true:=⟨I,id⟩
noncomputable def aA [BEq e] [LawfulBEq e](H I:e):ah<|H=I:=⟨H==I,eq_of_beq⟩
noncomputable def and(H:ah P)(I:ah E):ah<|gV P E:=⟨H.1&&I.1,λw=>⟨H.2 (iG.mp w).1,I.2 (iG.mp w).2⟩⟩
noncomputable def or(H I:ah P):ah P:=⟨H.1||I.1,λw=>(afe.mp w).elim H.2 I.2⟩
noncomputable def bW(H:ah P)(W:P->E):ah E:=⟨H.1,λw=>W<|H.2 w⟩
section
variable{G:Type}
@[elab_as_elim]noncomputable def nE(Y:∀E,q E)(E:PySem.Expr)(W:∀M N X,q<|.Constant M N X):q E:=if w:E.ctorIdx=19then PySem.Expr.Constant.elim (motive_1:=q) E w W else Y E
@[elab_as_elim]noncomputable def gd(Y:∀E,q E)(E:PySem.Expr)(W:∀G X,q<|.Name G X):q E:=if w:E.ctorIdx=23then PySem.Expr.Name.elim (motive_1:=q) E w W else Y E
@[elab_as_elim]noncomputable def wI(Y:∀E,q E)(E:PySem.Expr)(W:∀U N X,q<|.Tuple U N X):q E:=if w:E.ctorIdx=25then PySem.Expr.Tuple.elim (motive_1:=q) E w W else Y E
@[elab_as_elim]noncomputable def TV(Y:∀E,q E)(E:PySem.Expr)(W:∀U X,q<|.List U X):q E:=if w:E.ctorIdx=24then PySem.Expr.List.elim (motive_1:=q) E w W else Y E
@[elab_as_elim]noncomputable def TX(Y:∀E,q E)(E:PySem.Expr)(W:∀g U X,q<|.Dict g U X):q E:=if w:E.ctorIdx=6then PySem.Expr.Dict.elim (motive_1:=q) E w W else Y E
@[elab_as_elim]noncomputable def TY(Y:∀E,q E)(E:PySem.Expr)(W:∀H S I X,q<|.BinOp H S I X):q E:=if w:E.ctorIdx=2then PySem.Expr.BinOp.elim (motive_1:=q) E w W else Y E
@[elab_as_elim]noncomputable def FN(Y:∀E,q E)(E:PySem.Expr)(W:∀S H X,q<|.UnaryOp S H X):q E:=if w:E.ctorIdx=3then PySem.Expr.UnaryOp.elim (motive_1:=q) E w W else Y E
@[elab_as_elim]noncomputable def iU(Y:∀E,q E)(E:PySem.Expr)(W:∀H Z N X,q<|.Compare H Z N X):q E:=if w:E.ctorIdx=15then PySem.Expr.Compare.elim (motive_1:=q) E w W else Y E
@[elab_as_elim]noncomputable def LK(Y:∀E,q E)(E:PySem.Expr)(W:∀S U X,q<|.BoolOp S U X):q E:=if w:E.ctorIdx=0then PySem.Expr.BoolOp.elim (motive_1:=q) E w W else Y E
@[elab_as_elim]noncomputable def T1(Y:∀E,q E)(E:PySem.Expr)(W:∀U H I X,q<|.IfExp U H I X):q E:=if w:E.ctorIdx=5then PySem.Expr.IfExp.elim (motive_1:=q) E w W else Y E
@[elab_as_elim]noncomputable def ot(Y:∀E,q E)(E:PySem.Expr)(W:∀E G X,q<|.Attribute E G X):q E:=if w:E.ctorIdx=20then PySem.Expr.Attribute.elim (motive_1:=q) E w W else Y E
@[elab_as_elim]noncomputable def cg(Y:∀E,q E)(E:PySem.Expr)(W:∀E J X,q<|.Subscript E J X):q E:=if w:E.ctorIdx=21then PySem.Expr.Subscript.elim (motive_1:=q) E w W else Y E
@[elab_as_elim]noncomputable def BP(Y:∀E,q E)(E:PySem.Expr)(W:∀H I M X,q<|.Slice H I M X):q E:=if w:E.ctorIdx=26then PySem.Expr.Slice.elim (motive_1:=q) E w W else Y E
@[elab_as_elim]noncomputable def mI(Y:∀E,q E)(E:PySem.Expr)(W:∀W U g X,q<|.Call W U g X):q E:=if w:E.ctorIdx=16then PySem.Expr.Call.elim (motive_1:=q) E w W else Y E
@[elab_as_elim]noncomputable def FP(Y:∀E,q E)(E:PySem.Expr)(W:∀E g Z X,q<|.ListComp E g Z X):q E:=if w:E.ctorIdx=8then PySem.Expr.ListComp.elim (motive_1:=q) E w W else Y E
@[elab_as_elim]noncomputable def FQ{Q:PySem.Const->Type}(Y:∀M,Q M)(M:PySem.Const)(W:Q .none):Q M:=if w:M.ctorIdx=0then PySem.Const.none.elim (motive:=Q) M w W else Y M
@[elab_as_elim]noncomputable def T2{Q:PySem.Const->Type}(Y:∀M,Q M)(M:PySem.Const)(W:∀I,Q<|.bool I):Q M:=if w:M.ctorIdx=1then PySem.Const.bool.elim (motive:=Q) M w W else Y M
@[elab_as_elim]noncomputable def yU{Q:PySem.Const->Type}(Y:∀M,Q M)(M:PySem.Const)(W:∀J,Q<|.int J):Q M:=if w:M.ctorIdx=2then PySem.Const.int.elim (motive:=Q) M w W else Y M
@[elab_as_elim]noncomputable def BQ{Q:PySem.Const->Type}(Y:∀M,Q M)(M:PySem.Const)(W:∀K,Q<|.str K):Q M:=if w:M.ctorIdx=5then PySem.Const.str.elim (motive:=Q) M w W else Y M
@[elab_as_elim]def gG{Q:List G->Type}(Y:∀F,Q F)(F:List G)(W:Q []):Q F:=F.rec W λg L _=>Y<|g::L
@[elab_as_elim]def ou{Q:List G->Type}(Y:∀F,Q F)(F:List G)(W:∀g L,Q<|g::L):Q F:=F.rec (Y []) λg L _=>W g L
@[elab_as_elim]def gf{Q:List G->Type}(Y:∀F,Q F)(F:List G)(W:∀g,Q [g]):Q F:=ou Y F λg L=>gG (Q:=λL=>Q<|g::L) (λL=>Y<|g::L) L<|W g
@[elab_as_elim]def mJ{Q:List G->Type}(Y:∀F,Q F)(F:List G)(W:∀g U,Q [g,U]):Q F:=ou Y F λg L=>gf (Q:=λL=>Q<|g::L) (λL=>Y<|g::L) L<|W g
@[elab_as_elim]def uP{Q:Option G->Type}(Y:∀S,Q S)(S:Option G)(W:Q none):Q S:=S.rec W λg=>Y<|some g
@[elab_as_elim]def iv{Q:Option G->Type}(Y:∀S,Q S)(S:Option G)(W:∀g,Q<|some g):Q S:=S.rec (Y none) W
end
end ah
def LL(U:PySem.Expr):Option {X:List Str//pf U X}:=ah.gd (q:=λU=>Option {X:List Str//pf U X}) (λU=>ah.wI (q:=λU=>Option {X:List Str//pf U X}) (λ_=>none) U λw _ _=>ah.mJ (λ_=>none) w λH I=>ah.gd (λ_=>none) H λG _=>ah.gd (λ_=>none) I λg _=>some ⟨[G,g],.rd ..⟩) U λG _=>some ⟨[G],.cW ..⟩
def T3(F:List<|Option PySem.Expr):Option {U:List Str//sV F U}:=List.rec (motive:=λF=>Option {U:List Str//sV F U}) (some ⟨[],.nil⟩) (λN L S=>ah.iv (λ_=>none) N λE=>ah.nE (λ_=>none) E λM H I=>ah.BQ (λ_=>none) M λG=>S.map λX=>⟨G::X.1,.cons G H I X.2⟩) F
structure s6(M:bL)(K:Env)(g:Scope)(Z:List Str):Prop where
ai:M.dn
v:c9 K Z
rv:K.scope=g
def eW(g:Scope)(Z:List Str)(E:PySem.Expr)(G:au):Prop:=∀(M:bL)(K:Env),s6 M K g Z->aQ M K Z E G
def FR(g:Scope)(Z:List Str)(U:List PySem.Expr)(w:List au):Prop:=∀(M:bL)(K:Env),s6 M K g Z->hU (aQ M K Z) U w
def s6.hV{M:bL}{K:Env}{Z:Scope}(U:s6 M K Z D)(w:eP Z j=true):eP K.scope j=true:=by show U.rv▸w
noncomputable def LM:eE->Option Str|.aZ=>some "len"|.t9=>some "ord"|.ua=>some "chr"|.ub=>some "abs"|.X=>some "repr"|.int=>some "int"|.list=>some "list"|.dict=>some "dict"|_=>none
noncomputable def LN:eE->Option Str|.Q=>some "str"|.W=>some "int"|.O=>some "tuple"|_=>none
section
variable{H:bL}{J:Env}{E:Scope}{L:List Str}{Q:PySem.Expr}{K:au}{I G O:Pos}{R:eE}{M N:Str}
end
noncomputable def s7:eE->Nat|.R N=>N|_=>0
noncomputable def FT(M O:Nat):eE:=[.aZ,.Q,.W,.O,.R M,.int,.t9,.ua,.ub,.vW,.list,.dict,.X,.dj,.G,.qL,.Y,.nf,.gW,.qM].getD O .aZ
theorem T4(I:eE):FT (s7 I) I.ctorIdx=I:=by induction I<;>rfl
def rx(I:eE)(O:Nat)(X:eE)(w:FT (s7 I) O=X):ah<|I=X:=(ah.aA I.ctorIdx O).bW λE=>(T4 I).symm.trans<|(congrArg (FT<|s7 I) E).trans w
def uQ(G Z:Str)(E:PySem.Expr)(w X:Pos):ah<|gV (G=Z)<|gV (lU E=true)<|(w.endLine==X.line)=true:=(ah.aA G Z).and<|(ah.du _).and<|ah.du _
def wJ(Z:Scope)(G g:Str)(E:PySem.Expr):ah<|gV (G=g)<|gV (eP Z g=true)<|dy E=true:=(ah.aA G g).and<|(ah.du _).and<|ah.du _
abbrev ef(N:au):=∀g Z E,ah<|eW g Z E N
abbrev nF(w:List au):=∀g Z U,ah<|FR g Z U w
def T5(G:List au)(F:nF G)(w:Scope)(Z:List Str)(E:PySem.Expr):ah<|eW w Z E<|.tup G:=ah.wI az E λg _ _=>((ah.du<|g.all dy).and<|(ah.du<|Nat.ble g.length 1000).and<|F w Z g).bW λW M K U=>RC W.1 (j0 W.2.1)<|W.2.2 M K U
def T6(G:List au)(F:nF G)(w:Scope)(Z:List Str)(E:PySem.Expr):ah<|eW w Z E<|.list G:=ah.TV az E λg _=>((ah.du<|g.all dy).and<|(ah.du<|Nat.ble g.length 1000).and<|F w Z g).bW λW M K U=>RD W.1 (j0 W.2.1)<|W.2.2 M K U
def T7(I:List Str)(H:List au)(F:nF H)(G:Scope)(Z:List Str)(E:PySem.Expr):ah<|eW G Z E<|.dict I H:=ah.TX az E λQ w _=>match T3 Q with|some ⟨S,g⟩=>((ah.aA S I).and<|(ah.aA I.length w.length).and<|(ah.du<|decide I.Nodup).and<|(ah.aA Q.isEmpty false).and<|(ah.du<|Nat.ble Q.length 15).and<|F G Z w).bW λW M K U=>R0 (W.1▸g) W.2.1 (DX W.2.2.1) (λE=>Bool.noConfusion<|(congrArg List.isEmpty E).symm.trans W.2.2.2.1) (j0 W.2.2.2.2.1)<|W.2.2.2.2.2 M K U|none=>.dq
def T8(J:fg)(g:au)(O:au)(F:ef g)(G:ef O)(w:Scope)(Z:List Str)(E:PySem.Expr):ah<|eW w Z E<|.bin J g O:=ah.TY az E λH S I _=>((ah.aA S<|qc J).and<|(F w Z H).and<|G w Z I).bW λW M K U=>W.1▸RE (W.2.1 M K U) (W.2.2 M K U)
def T9(g:au)(F:ef g)(w:Scope)(Z:List Str)(E:PySem.Expr):ah<|eW w Z E<|.vX g:=ah.FN az E λS H _=>((ah.aA S .USub).and<|F w Z H).bW λW M K U=>W.1▸RF (W.2 M K U)
def Ua(g:au)(F:ef g)(w:Scope)(Z:List Str)(E:PySem.Expr):ah<|eW w Z E<|.not g:=ah.FN az E λS H _=>((ah.aA S .Not).and<|F w Z H).bW λW M K U=>W.1▸RG (W.2 M K U)
def Ub(J:fF)(g:au)(O:au)(G:ef g)(L:ef O)(w:Scope)(Z:List Str)(E:PySem.Expr):ah<|eW w Z E<|.d J g O:=ah.iU az E λH F N _=>ah.gf az F λS=>ah.gf az N λI=>((ah.aA S<|nB J).and<|(ah.aA (behindInMarks (nB J) I) false).and<|(G w Z H).and<|L w Z I).bW λW M K U=>W.1▸RH U.ai W.2.1 (W.2.2.1 M K U) (W.2.2.2 M K U)
def Uc(R:fF)(Q:fF)(g:au)(O:au)(a:au)(V:ef g)(X:ef O)(b:ef a)(L:Scope)(Z:List Str)(E:PySem.Expr):ah<|eW L Z E<|.uc R Q g O a:=ah.iU az E λH P S _=>ah.mJ az P λT G=>ah.mJ az S λI Y=>((ah.aA T<|nB R).and<|(ah.aA G<|nB Q).and<|(ah.aA (lastMarks [nB R,nB Q] [I,Y]) false).and<|(V L Z H).and<|(X L Z I).and<|b L Z Y).bW λW M K U=>by obtain⟨rfl,rfl,N,J,w,F⟩:=W;show RL U.ai N (J M K U) (w M K U)<|F M K U
def Ud(g:au)(J:ef g)(w:Scope)(Z:List Str)(E:PySem.Expr):ah<|eW w Z E<|.r g:=ah.iU az E λH F G _=>ah.gf az F λS=>ah.gf az G λI=>ah.nE az I λN _ _=>ah.FQ az N<|((ah.aA S .Is).and<|J w Z H).bW λW M K U=>W.1▸RI (W.2 M K U)
def Ue(g:au)(J:ef g)(w:Scope)(Z:List Str)(E:PySem.Expr):ah<|eW w Z E<|.o g:=ah.iU az E λH F G _=>ah.gf az F λS=>ah.gf az G λI=>ah.nE az I λN _ _=>ah.FQ az N<|((ah.aA S .IsNot).and<|J w Z H).bW λW M K U=>W.1▸RJ (W.2 M K U)
def Ug(o:List au)(s:nF o)(m:Scope)(Z:List Str)(E:PySem.Expr):ah<|eW m Z E<|.and o:=ah.LK az E λS e _=>((ah.aA S .And).and<|s m Z e).bW λi M a P=>i.1▸(by intro M a Z X e o r;show⟨(by intro _ _ _ r;induction r with|nil=>intro N g F K L J I V w f;show cq w|cons Y p b=>intro N g F K L J I V w f;induction p with|nil=>show BoolOp_one<|Y.bw N g F K L J I V w f|cons u t=>show BoolOp_and<|dp V Y.bw w f λQ d l h j H k n T=> ?_;show aB (Fp H) λU E W=> ?_;obtain q:=(E▸T).rb;clear E;clear T;subst q;show xX ?_;induction U with|false=>obtain⟨c,R⟩:=cS W;rw[c,R];show((eU<|.bool false).fV k.a.aP).eV n|true=>show dH (b l j F h L J I k W f) (λ_ _ O=>jf.eV n O) λ_ _ G=>G:∀{X e o}(r:hU (aQ M a Z) e o),∀(N:aG)(g:ag)(F:ak)(K:Shared)(L:aI aa)(J:ag)(I:Value->Shared->Prop),M.ay a Z N g F K->yl aw M.call o F g=some (L,J)->M.iC L J I->M.cL (eval (.BoolOp .And e X) a) (mG M.cf M.bH M.bS N K L J) I K) r,RM r⟩:∀{M:bL}{a:Env}{Z:List Str}{X e o}(r:hU (aQ M a Z) e o),aQ M a Z (.BoolOp .And e X)<|.and o) (i.2 M a P)
def Uh(o:List au)(s:nF o)(m:Scope)(Z:List Str)(E:PySem.Expr):ah<|eW m Z E<|.or o:=ah.LK az E λS e _=>((ah.aA S .Or).and<|s m Z e).bW λi M a P=>i.1▸(by intro M a Z X e o r;show⟨(by intro _ _ _ r;induction r with|nil=>intro N g F K L J I V w f;show cq w|cons Y p b=>intro N g F K L J I V w f;induction p with|nil=>show BoolOp_one<|Y.bw N g F K L J I V w f|cons u t=>show BoolOp_or<|dp V Y.bw w f λQ d l h j H k n T=> ?_;show aB (Fp H) λU E W=> ?_;obtain q:=(E▸T).rb;clear T;clear E;subst q;show xX ?_;induction U with|true=>obtain⟨c,R⟩:=cS W;rw[c,R];show((eU<|.bool true).fV k.a.aP).eV n|false=>show dH (b l j F h L J I k W f) (λ_ _ O=>jf.eV n O) λ_ _ G=>G:∀{X e o}(r:hU (aQ M a Z) e o),∀(N:aG)(g:ag)(F:ak)(K:Shared)(L:aI aa)(J:ag)(I:Value->Shared->Prop),M.ay a Z N g F K->ym aw M.call o F g=some (L,J)->M.iC L J I->M.cL (eval (.BoolOp .Or e X) a) (mG M.cf M.bH M.bS N K L J) I K) r,RN r⟩:∀{M:bL}{a:Env}{Z:List Str}{X e o}(r:hU (aQ M a Z) e o),aQ M a Z (.BoolOp .Or e X)<|.or o) (i.2 M a P)
def Ui(X:au)(g:au)(O:au)(L:ef X)(G:ef g)(J:ef O)(F:Scope)(Z:List Str)(E:PySem.Expr):ah<|eW F Z E<|.b X g O:=ah.T1 az E λU H I _=>((L F Z U).and<|(G F Z H).and<|J F Z I).bW λW M K w=>RO (W.1 M K w) (W.2.1 M K w)<|W.2.2 M K w
def Uj(F:au)(W:Nat)(H:ef F)(w:Scope)(Z:List Str)(E:PySem.Expr):ah<|eW w Z E<|.attr F W:=ah.ot az E λE G _=>((ah.aA o6[W]?<|some G).and<|(ah.du<|lU E).and<|H w Z E).bW λg M K U=>RP U.ai g.1 g.2.1<|g.2.2 M K U
def Uk(G:au)(F:au)(w:ef G)(Q:ef F)(g:Scope)(Z:List Str)(E:PySem.Expr):ah<|eW g Z E<|.c G F:=ah.cg az E λE J _=>((ah.aA (KY J) false).and<|(w g Z E).and<|Q g Z J).bW λW M K U=>RQ W.1 (W.2.1 M K U)<|W.2.2 M K U
def Ul(G:au)(g:au)(F:ef G)(L:ef g)(w:Scope)(Z:List Str)(E:PySem.Expr):ah<|eW w Z E<|.yd G g:=ah.cg az E λE J _=>ah.BP az J λH I M _=>ah.iv az H λH=>ah.uP az I<|ah.uP az M<|((F w Z E).and<|L w Z H).bW λW M K U=>RS (W.1 M K U)<|W.2 M K U
def Um(G:au)(O:au)(w:ef G)(F:ef O)(g:Scope)(Z:List Str)(E:PySem.Expr):ah<|eW g Z E<|.S G O:=ah.cg az E λE J _=>ah.BP az J λH I M _=>ah.uP az H<|ah.iv az I λI=>ah.uP az M<|((w g Z E).and<|F g Z I).bW λW M K U=>RT (W.1 M K U)<|W.2 M K U
def Un(G:au)(g:au)(O:au)(F:ef G)(L:ef g)(N:ef O)(w:Scope)(Z:List Str)(E:PySem.Expr):ah<|eW w Z E<|.sA G g O:=ah.cg az E λE J _=>ah.BP az J λH I M _=>ah.iv az H λH=>ah.iv az I λI=>ah.uP az M<|((F w Z E).and<|(L w Z H).and<|N w Z I).bW λW M K U=>RU (W.1 M K U) (W.2.1 M K U)<|W.2.2 M K U
def Uo(G:au)(F:ef G)(g:Scope)(Z:List Str)(E:PySem.Expr):ah<|eW g Z E<|.ud G:=ah.cg az E λE J _=>ah.BP az J λH I M _=>ah.uP az H<|ah.iv az I λI=>ah.nE az I λY _ _=>ah.yU az Y λY=>ah.iv az M λM=>ah.FN az M λw M _=>ah.nE az M λS _ _=>ah.yU az S λS=>((ah.aA w .USub).and<|(ah.aA Y 0).and<|(ah.aA S 1).and<|F g Z E).bW λW M K U=>by obtain⟨rfl,rfl,rfl,J⟩:=W;show RV<|J M K U
def Up(W:Nat)(I:List au)(L:nF I)(H:Scope)(Z:List Str)(E:PySem.Expr):ah<|eW H Z E<|.call W I:=ah.mI az E λF g J _=>ah.gd az F λG _=>ah.gG az J<|((ah.du<|eP H G).and<|(ah.aA og[W]?<|some G).and<|(ah.aA (G.cps.toList.contains 46) false).and<|(ah.du<|g.all dy).and<|L H Z g).bW λw M K U=>R8 U.ai U.v (U.hV w.1) w.2.1 w.2.2.1 w.2.2.2.1<|w.2.2.2.2 M K U
def Uq(N:Nat)(H:List au)(J:nF H)(w:Scope)(Z:List Str)(E:PySem.Expr):ah<|eW w Z E<|.mk N H:=ah.mI az E λF g I _=>ah.gd az F λG _=>ah.gG az I<|((ah.du<|eP w G).and<|(ah.aA q0[N]?<|some G).and<|(ah.du<|gN N).and<|(ah.du<|g.all dy).and<|J w Z g).bW λW M K U=>Se U.ai U.v (U.hV W.1) W.2.1 W.2.2.1 W.2.2.2.1<|W.2.2.2.2 M K U
def Ur(J:au)(N:Nat)(I:List au)(O:ef J)(P:nF I)(H:Scope)(Z:List Str)(E:PySem.Expr):ah<|eW H Z E<|.h J N I:=ah.mI az E λF g L X=>ah.ot az F λE G w=>ah.gG az L<|((ah.aA KR[N]?<|some G).and<|(ah.du<|lU E).and<|(ah.du<|w.endLine==X.line).and<|(ah.du<|g.all dy).and<|(ah.du<|Nat.ble (g.length+1) 30).and<|(O H Z E).and<|P H Z g).bW λW M K U=>Sd U.ai W.1 W.2.1 W.2.2.1 W.2.2.2.1 (j0 W.2.2.2.2.1) (W.2.2.2.2.2.1 M K U)<|W.2.2.2.2.2.2 M K U
def Us(n:au)(l:Nat)(h:List Nat)(u:au)(Q:ef n)(x:ef u)(e:Scope)(Z:List Str)(E:PySem.Expr):ah<|eW e Z E<|.iU n l h u:=ah.FP az E λk r j _=>ah.gf az r λY=>match Y with|⟨p,o,v,O⟩=>ah.gG az v<|match LL p with|some ⟨i,b⟩=>((ah.aA O 0).and<|(ah.aA i.length l).and<|(ah.du<|yT e Z j i h).and<|(ah.aA (ru o) false).and<|(Q (BN j e) (ij Z i h) k).and<|x e Z o).bW λd M S U=>by obtain⟨rfl,rfl,W,a,J,T⟩:=d;show(by intro _ _ _ _ _ _ f X N _ _ _ b _ _ _ R c s;show gF (λ_=>rfl) λH g F K L P I V w t=>Lv f X N b R c (Lw f s rfl V w t):∀{M:bL}{S:Env}{Z:List Str}{j:Scope}{i:List Str}{h:List Nat}(f:M.dn)(X:c9 S Z)(N:ju S Z j i h){p k o}(b:pf p i){m n u}(R:ru o=false)(c:∀G,c9 (compEnvC j (fi j S) G S) (ij Z i h)->aQ M (compEnvC j (fi j S) G S) (ij Z i h) k n)(s:aQ M S Z o u),aQ M S Z (.ListComp k [⟨p,o,[],0⟩] j m)<|.iU n i.length h u) U.ai U.v (FL U.v U.rv W) b a (λG q=>J M _ ⟨U.ai,q,FK U.rv⟩)<|T M S U|none=>.dq
def Ut(x:au)(m:List Nat)(B:au)(Q:ef x)(D:ef B)(h:Scope)(Z:List Str)(E:PySem.Expr):ah<|eW h Z E<|.ue x m B:=ah.FP az E λs z q _=>ah.gf az z λb=>match b with|⟨y,XN,XO,N⟩=>ah.gG az XO<|ah.gd az y λG _=>ah.mI az XN λXQ XR XS _=>ah.gd az XQ λXT _=>ah.gf az XR λO=>ah.gG az XS<|((ah.aA N 0).and<|(ah.du<|yT h Z q [G] m).and<|(wJ h XT "range" O).and<|(Q (BN q h) (ij Z [G] m) s).and<|D h Z O).bW λXU M a U=>by obtain⟨rfl,H,⟨rfl,XW,XX⟩,XY,XZ⟩:=XU;show(by intro M a Z q m j n G N _ O _ C X Y x B k c d t;show gF (λ_=>rfl) λP g F K L J I V w A=>Lv j n N (.cW G C) rfl d ((by
intro M _ _ p m P _ J F _ _ _ j n _ _ O _ x k c H t V w A;show Call_<|qg j n V k (d:=.type "range") (by kernel_rfl) (by decide+kernel) ?_;rw[nD (n:=[O])<|by conv=>lhs;simp[c]];show IW (sW _)<|vP<|oR<|dp V t.bw w A λG Yn S R e W X0 X2 X3=>t7 ?_;show aB (pZ W) λu X4 W=> ?_;obtain⟨f,W⟩:=jt W;simp only[Bool.and_eq_true,decide_eq_true_eq,decide_eq_true_eq]at f;obtain⟨Yo,Yp,X5,_,X6⟩:=af.fW<|show af.aN _ _ (e++[.list []])=_ from W;show aB (Ll X5) λYq X7 X8=> ?_;obtain⟨X9,Yb⟩:=cS<|X6 _ X7;obtain⟨r,Yc⟩:=(X4▸X3).hR;obtain Yd:kK (gr M p m F x e.length) (jF u) (e++[.list []])=some (.ai (),J):=by unfold gr;rw[H,Yb];show X8
obtain⟨Ye,Yg⟩:=Lk (I:=jF u) (G:=0) rfl Yd;subst Yc;obtain T:cN R {R with heap:=R.heap.push {cls:=.type "range",data:=.fields #[.int 0 R.toks,.int u r,.int 1<|R.toks+1]},toks:=R.toks+1+1}:=⟨λ_ _ E=>ki _ E,rfl,rfl,rfl⟩;show call_range_1 ?_;show Li (J:=S) (IsRange.new R.heap 0 u 1 R.toks r<|R.toks+1) f.2 (by lia) λYh Yr Yi Yj Yk=> ?_;show⟨Yh,S,e,_,.E<|jF u,Ye,rfl,X0.aF T,X2.aC<|T.bK .. ,Yj,Yi,Yk,nofun,Yg,X9⟩:∀{M:bL}{a:Env}{Z p:List Str}{m:List Nat}{P:aG}{g J:ag}{F:ak}{K:Shared}{I:Value->Shared->Prop}{L:aI aa}(j:M.dn)(n:c9 a Z){X Y O B x}(k:eP a.scope "range"=true)(c:dy O=true)(H:p.length=1)(t:aQ M a Z O B)(V:M.ay a Z P g F K)(w:cG aw M.call (.ue x m B) F g=some (L,J))(A:M.iC L J I),M.cL (eval (.Call (.Name "range" Y) [O] [] X) a) (λG R=>M.cL (pyIter G) (wH M a Z p m x P F K L J) I R) I K) j n k c rfl t V w A):∀{M:bL}{a:Env}{Z:List Str}{q:Scope}{m:List Nat}(j:M.dn)(n:c9 a Z){G}(N:ju a Z q [G] m){s O Yl C X Y x B}(k:eP a.scope "range"=true)(c:dy O=true)(d:∀o,c9 (compEnvC q (fi q a) o a) (ij Z [G] m)->aQ M (compEnvC q (fi q a) o a) (ij Z [G] m) s x)(t:aQ M a Z O B),aQ M a Z (.ListComp s [⟨.Name G C,.Call (.Name "range" Y) [O] [] X,[],0⟩] q Yl)<|.ue x m B) U.ai U.v (FL U.v U.rv H) (U.hV XW) XX (λo Ym=>XY M _ ⟨U.ai,Ym,FK U.rv⟩)<|XZ M a U
def Uu(I:eE)(e:au)(D:ef e)(l:Scope)(b:List Str)(F:PySem.Expr):ah<|eW l b F<|.g I [e]:=ah.mI az F λXS h XT _=>ah.gd az XS λG _=>ah.gG az XT<|ah.or (ah.gf az h λH=>((ah.aA (LM I)<|some G).and<|(ah.du<|eP l G).and<|(ah.du<|dy H).and<|D l b H).bW λW M a U=>(by
intro M a _ _ _ _ _ _ I _ v d o T s;obtain o:=v.hV o;obtain s:=s M a v;obtain⟨m,r,-⟩:=v;induction I<;>first|show bQ d|obtain rfl:=bO d
· show yP m r (r:="len") o (by kernel_rfl) (by decide+kernel) Sf T s
· show Fw m r (r:="int") o (by kernel_rfl) (by decide+kernel) Sg T s
· show yP m r (r:="ord") o (by kernel_rfl) (by decide+kernel) Sh T s
· show yP m r (r:="chr") o (by kernel_rfl) (by decide+kernel) Si T s
· show yP m r (r:="abs") o (by kernel_rfl) (by decide+kernel) Sj T s
· show Fw m r (r:="list") o (by kernel_rfl) (by decide+kernel) Sk T s
· show Fw m r (r:="dict") o (by kernel_rfl) (by decide+kernel) (Sl m) T s
· show yP m r (r:="repr") o (by kernel_rfl) (by decide+kernel) (Tx m) T s:∀{M:bL}{a:Env}{l:Scope}{b:List Str}{F:PySem.Expr}{p:au}{X Y:Pos}{I:eE}{G:Str}(v:s6 M a l b)(d:LM I=some G)(o:eP l G=true)(T:dy F=true)(s:eW l b F p),aQ M a b (.Call (.Name G Y) [F] [] X)<|.g I [p]) U W.1 W.2.1 W.2.2.1 W.2.2.2)<|ah.mJ az h λH k=>ah.gd az k λk _=>ah.or (((ah.aA G "isinstance").and<|(ah.aA (LN I)<|some k).and<|(ah.du<|eP l G).and<|(ah.du<|eP l k).and<|(ah.du<|dy H).and<|D l b H).bW λW M a U=>(by intro M a _ _ _ _ _ _ _ I _ _ v V d o y T s;subst V;induction I<;>first|show bQ d|(obtain rfl:=bO d)<;>first|show Sm v.ai v.v (v.hV o) (v.hV y) T<|s M a v|show Sn v.ai v.v (v.hV o) (v.hV y) T<|s M a v|show So v.ai v.v (v.hV o) (v.hV y) T (s M a v):∀{M:bL}{a:Env}{l:Scope}{b:List Str}{F:PySem.Expr}{p:au}{X Y q:Pos}{I:eE}{G U:Str}(v:s6 M a l b)(V:G="isinstance")(d:LN I=some U)(o:eP l G=true)(y:eP l U=true)(T:dy F=true)(s:eW l b F p),aQ M a b (.Call (.Name G Y) [F,.Name U q] [] X)<|.g I [p]) U W.1 W.2.1 W.2.2.1 W.2.2.2.1 W.2.2.2.2.1 W.2.2.2.2.2)
<|((wJ l G "isinstance" H).and<|(ah.du<|eP l k).and<|(ah.aA q0[s7 I]?<|some k).and<|(rx I 4 (.R<|s7 I) rfl).and<|(ah.du<|s7 I==2||s7 I==3||s7 I==4).and<|D l b H).bW λW M a U=>by obtain⟨⟨rfl,XU,XW⟩,XX,XY,d,XZ,J⟩:=W;rw[d];show(by intro M _ _ m r _ _ _ F _ G N o y V j T s;show Bx (d:=.ref<|dP N) m r o T rfl s (λX0 w=>Lc m r X0 y V w) λO g K G n L S c Z V w=>by show cC ((by
intro _ _ _ _ _ _ _ _ _ x z Z G u _ _ _ C V w;have i:=x.keeps Z.cP;rcases G with-|_|G|G|X6|_|J|_<;>first|(show cq w;done)|skip
· obtain⟨f,R⟩:=cS w;obtain⟨X2,F⟩:=V.hR;show⟨_,f,R,F▸isn_call (P:=λ_=>True) i (λXN=>Looks.of_pure rfl) (z.KA "int" u (.inr rfl) C) nofun trivial int_cls (jK<|.bool _)⟩
· obtain⟨f,R⟩:=cS w;obtain⟨X2,F⟩:=V.hJ;show⟨_,f,R,F▸isn_call (P:=λ_=>True) i (λXN=>Looks.of_pure rfl) (z.KA "str" u (.inl rfl) C) nofun trivial str_cls (jK<|.bool _)⟩
· show js (yB<|show uh _ _ _=_ from w) λM X7 X3 w=> ?_;show eZ (cS w) λf R=> ?_;show wg (KC Z V X3) λG X8 X9 F XO B=> ?_;show cO _ f R ?_;clear V;subst F;rcases pM<|M=u with F|F;· rw[<-F,beq_self_eq_true];show isi_call (t:=.ref<|dP M) i (λXN=>XO.type) ?_ nofun (eU<|.bool _);unfold isIn;simp
  · rw[beq_eq_false_iff_ne.mpr F];show kin_callC i XO (z.yH M u B C F) (z.Kv M B) (z.jG M B) (z.Kw M B) z.Ky z.Kz (z.Kx M B) (jK<|.bool _):∀{X4:Program}{XQ:World}{d:Heap}{XR:Frag}{X5:Around}{c:Value->Shared->Prop}{O:aG}{g:ag}{K:Shared}(x:XR.In d)(z:uF XR)(Z:br XQ d O g K.heap){G u n L S}(C:u=2\/u=3\/u=4)(V:aE O K.heap G n)(w:Jy u G g=some (L,S)),∃Q,L=.ai Q/\S=g/\wpAny (model X4 XQ) X5 (call (.builtin "isinstance") [n,.ref<|dP u]) (cJ O K Q) c K) (X4:=M.dD) (X5:=M.bV) (c:=c) m.bH.V m.bH.mH Z j V w) λQ H F N=> ?_;show aX Q H (F▸rh Z N):∀{M:bL}{a:Env}{b:List Str}(m:M.dn)(r:c9 a b){X Y q F p G N}(o:eP a.scope "isinstance"=true)(y:eP a.scope G=true)(V:q0[N]?=some G)(j:N=2\/N=3\/N=4)(T:dy F=true)(s:aQ M a b F p),aQ M a b (.Call (.Name "isinstance" Y) [F,.Name G q] [] X)<|.g (.R N) [p]) U.ai U.v (U.hV XU) (U.hV XX) XY (by simpa[or_assoc]using XZ) XW<|J M a U
def Uv(I:eE)(V:au)(N:ef V)(w:au)(c:ef w)(X:Scope)(Z:List Str)(E:PySem.Expr):ah<|eW X Z E<|.g I [V,w]:=ah.mI az E λF R b _=>ah.gd az F λG _=>ah.gG az b<|ah.gf az R λg=>ah.mI az g λO R b _=>ah.gd az O λS _=>ah.mJ az R λH Y=>ah.gG az b<|((rx I 9 .vW rfl).and<|(wJ X G "list" H).and<|(wJ X S "range" Y).and<|(N X Z H).and<|c X Z Y).bW λT M K U=>by obtain⟨rfl,⟨rfl,W,Q⟩,⟨rfl,a,L⟩,J,P⟩:=T;show Sp U.ai U.v (U.hV W) (U.hV a) Q L (J M K U)<|P M K U
def Uw(I:eE)(L:au)(P:ef L)(N:au)(Q:ef N)(J:Scope)(Z:List Str)(E:PySem.Expr):ah<|eW J Z E<|.i I L [N]:=ah.mI az E λF g O X=>ah.ot az F λE G w=>ah.gG az O<|ah.gf az g λH=>ah.or (ah.or (((rx I 13 .dj rfl).and<|(uQ G "append" E w X).and<|(ah.du<|dy H).and<|(P J Z E).and<|Q J Z H).bW λW M K U=>W.1▸W.2.1.1▸Sx W.2.1.2.1 W.2.1.2.2 W.2.2.1 (W.2.2.2.1 M K U) (W.2.2.2.2 M K U))<|((rx I 16 .Y rfl).and<|(uQ G "extend" E w X).and<|(ah.du<|dy H).and<|(P J Z E).and<|Q J Z H).bW λW M K U=>W.1▸W.2.1.1▸Sy W.2.1.2.1 W.2.1.2.2 W.2.2.1 (W.2.2.2.1 M K U) (W.2.2.2.2 M K U))<|((rx I 19 .qM rfl).and<|(uQ G "join" E w X).and<|(ah.du<|dy H).and<|(P J Z E).and<|Q J Z H).bW λW M K U=>W.1▸W.2.1.1▸Tq W.2.1.2.1 W.2.1.2.2 W.2.2.1 (W.2.2.2.1 M K U) (W.2.2.2.2 M K U)
def Ux(I:eE)(x:au)(C:ef x)(r:Scope)(d:List Str)(O:PySem.Expr):ah<|eW r d O<|.i I x []:=ah.mI az O λXR m XS S=>ah.ot az XR λO G B=>ah.gG az XS<|ah.or (ah.gG az m<|ah.or (((rx I 14 .G rfl).and<|(uQ G "pop" O B S).and<|C r d O).bW λq M c U=>q.1▸q.2.1.1▸(by intro M _ _ _ S O _ o f y;show By (r:="list.pop") ⟨PySem.F.slot_list_pop,PySem.F.type_list_pop,λ_=>rfl⟩ o f rfl (by decide) y .nil λa g K G u XT XU L b e Z V T f w=>by induction T using bh.casesOn with|cons _ _=>contradiction|nil=>show(by
intro _ _ _ _ _ a _ _ Z _ _ _ _ V w;show aB (lx<|show jc _ _ _=_ from w) λJ O w=> ?_;show aB (ly<|show gX _ _ _=_ from w) λP f w=> ?_;obtain⟨XW,w⟩:=jt w;rcases v:P.getLast? with _|Q;·obtain w:=v▸w;show cq w
·rw[v]at w;obtain⟨i,j⟩:=sJ w;obtain⟨S,M,XX,O,o,XY,h,T⟩:=Z.list f<|O▸V;show cC (T.Rh v) λl H W k=> ?_;obtain z:=(eD.mp H).1;simp only[Array.length_toList]at H z;obtain⟨XZ,XN⟩:=wq Z o f XY h (λX0=>X0.eraseIdxIfInBounds<|M.size-1) (R:=P.dropLast) (by rw[Array.eraseIdxIfInBounds,dif_pos z,Array.toList_eraseIdx,List.eraseIdx_eq_dropLast<|by show Array.length_toList▸Nat.sub_add_cancel (Nat.succ_le_of_lt<|Nat.lt_of_le_of_lt fx z)];show k);rw[O,j];show aX _ i (DZ F.slot_list_pop h.isList.typeIs F.entry_list_pop (F.args_list_pop_1 _) (MeetsSeq.list_pop_last S.1 M XX l (by show DY.symm.trans H)<|wt (a:=0) XW T) ⟨h,a,XZ,XN,pb Z (H:=λ_=>False) ⟨λ_ X2=>X2.elim⟩ (XN _ n7) W⟩):∀{X3:Program}{R:World}{XO:Heap}{X4:Around}{e:Value->Shared->Prop}{a:aG}{g:ag}{K:Shared}(Z:br R XO a g K.heap){G u L b}(V:aE a K.heap G u)(w:qQ .G G g=some (L,b)),∃Q,L=.ai Q/\wpAny (model X3 R) X4 (call (.builtin "list.pop") [u]) (jJ R XO a b K Q) e K) (X3:=M.dD) (X4:=M.bV) (e:=e) Z V w:∀{M:bL}{c:Env}{d:List Str}{B S O x}(o:lU O=true)(f:(B.endLine==S.line)=true)(y:aQ M c d O x),aQ M c d (.Call (.Attribute O "pop" B) [] [] S)<|.i .G x []) q.2.1.2.1 q.2.1.2.2 (q.2.2 M c U))<|((rx I 17 .nf rfl).and<|(uQ G "reverse" O B S).and<|C r d O).bW λq M c U=>q.1▸q.2.1.1▸(by intro M _ _ _ _ _ _ o f y;show By (r:="list.reverse") ⟨PySem.F.slot_list_reverse,PySem.F.type_list_reverse,λ_=>rfl⟩ o f rfl (by decide) y .nil λa g K G u XT XU L b e Z V T f w=>by cases T with|cons _ _=>show nomatch f|nil=>show Rj (L:=M.dD) (K:=M.bV) (M:=e) Z V w:∀{M:bL}{c:Env}{d:List Str}{B S O x}(o:lU O=true)(f:(B.endLine==S.line)=true)(y:aQ M c d O x),aQ M c d (.Call (.Attribute O "reverse" B) [] [] S)<|.i .nf x []) q.2.1.2.1 q.2.1.2.2 (q.2.2 M c U))<|ah.gf az m λY=>ah.nE az Y λY _ _=>ah.yU az Y λY=>((rx I 15 .qL rfl).and<|(uQ G "pop" O B S).and<|(ah.aA Y 0).and<|C r d O).bW λq M c U=>by obtain⟨rfl,⟨rfl,W,k⟩,rfl,J⟩:=q;show(by intro M _ _ _ _ D N _ _ o f y;show gF (λ_=>rfl) λa g P K L b e X5 w X6=>by show D1 (dp X5 y.bw w X6 λQ l X7 p Yg H XQ X8 T=> ?_)<|yO o f rfl<|j0 rfl;obtain⟨Yh,Yi,W,_,h⟩:=af.fW H;show lO (Le W) λJ Yj X9 Yb i j=> ?_;show Ld XQ.a.aP (X9▸T) Yb PySem.F.slot_list_pop PySem.F.type_list_pop ?_;rw[nD (n:=[.Constant (.int 0) N D]) rfl];show aB (Ri (L:=M.dD) (K:=M.bV) (M:=e) (G:={p with toks:=p.toks+1}) (U:=p.toks) XQ.a.aP T<|j▸h () i) λQ Yc Yd=> ?_;show callWith_builtin (sW _)<|vP<|oR<|PM<|t7 ?_;show Yc▸dH Yd (λ_ _ Ye=>((Ye.fV).eV<|bp.lR X7 bR M.bS p _).eV X8) λ_ _ G=>G:∀{M:bL}{c:Env}{d:List Str}{B S D N O x}(o:lU O=true)(f:(B.endLine==S.line)=true)(y:aQ M c d O x),aQ M c d (.Call (.Attribute O "pop" B) [.Constant (.int 0) N D] [] S)<|.i .qL x []) W k<|J M c U
def Uy(I:eE)(r:au)(X2:ef r)(V:au)(X3:ef V)(x:au)(X4:ef x)(p:Scope)(d:List Str)(P:PySem.Expr):ah<|eW p d P<|.i I r [V,x]:=ah.mI az P λX5 X6 X7 X=>ah.ot az X5 λP G y=>ah.gG az X7<|ah.mJ az X6 λH Y=>((rx I 18 .gW rfl).and<|(uQ G "get" P y X).and<|(ah.du<|dy H).and<|(ah.du<|dy Y).and<|(X2 p d P).and<|(X3 p d H).and<|X4 p d Y).bW λn M c U=>n.1▸n.2.1.1▸(by intro M _ _ q _ X P H I _ _ _ m f b B t v O;show gF (λ_=>rfl) λa g Yy K L J e X8 w l=>by show D1 (dp X8 t.bw w l λQ j Yz YA YB X9 o Yb T=> ?_)<|yO m f (by simp only[List.all_cons,List.all_cons,b,B];rfl)<|j0 rfl;obtain⟨YC,YD,Yc,_,Yd⟩:=af.fW X9;show lO (Sr Yc) λYe YE Yg Yh h i=> ?_;obtain W:=Yd () h;obtain W:=i▸W;show Sq o.a.aP (Yg▸T) Yh PySem.F.slot_dict_get PySem.F.type_dict_get ?_;show Bw (n:=[H,I]) (by simp only[List.all_cons,List.all_cons,b,B];rfl) (.cons v<|.cons O .nil) o W l λYF Yi YG YH YI W s u Yj Yk=> ?_;show A4 (Yj.rd Yk) λQ j YJ YK Yl Ym Yn Yo=> ?_;show Ym▸cC ((by
 intro S R _ _ _ _ _ _ D Z _ _ _ _ _ z _ _ XN XO XQ w;show aB (lx w) λYe P w=> ?_;show aB (Fb w) λN C w=> ?_;show aB (yA (w:qO _ _ _=_)) λYp f w=> ?_;show eA λYL Yq=> ?_;obtain⟨h,i⟩:=cS w;obtain⟨X,Yi,P,m,Yr,XR,Ys,T⟩:=Z.dict f<|P▸XN;obtain⟨Yt,C⟩:=(C▸XO).hJ;show Yq ?_;show cO _ h i ?_;rw[P,C];obtain XS:=Ko (j:=N) Ys T;show call_meetsIn F.slot_dict_get XR.typeIs F.entry_dict_get (F.args_dict_get_3 _ _ _) (meets_dict_get_default (PySem.strKind S R) X.1 (strKind_is S R N Yt) (by show Yr▸KH D Z (jC m)) z)<|aX _ XR.mapOf ?_;rcases XT:nj N Yp with _|Q;·rw[XS.2 XT];show jK XQ
 ·show aB (XS.1 Q XT) λj h Yu=> ?_;show h▸jK Yu:∀{S:Program}{R:World}{XU:Heap}{Yv:Around}{e:Value->Shared->Prop}{a:aG}{g:ag}{K:Shared}(D:(XU.get? sysModules).isSome=true)(Z:br R XU a g K.heap){G U XW XX XY z L J}(XN:aE a K.heap G XX)(XO:aE a K.heap U XY)(XQ:aE a K.heap XW z)(w:JK .gW G U XW g=some (L,J)),∃Q,L=.ai Q/\J=g/\wpAny (model S R) Yv (call (.builtin "dict.get") [XX,XY,z]) (cJ a K Q) e K) (S:=M.dD) (Yv:=M.bV) (e:=e) q.bH.KU s.a.aP (fU o.a.aP u T) Yn Yo<|Yl▸W) λQ Yw Yx N=> ?_;simp only[Yw,Yx];show sU (Yb.aC u) s.a.aP N:∀{M:bL}{c:Env}{d:List Str}(q:M.dn){y X P H I r XZ X0}(m:lU P=true)(f:(y.endLine==X.line)=true)(b:dy H=true)(B:dy I=true)(t:aQ M c d P r)(v:aQ M c d H XZ)(O:aQ M c d I X0),aQ M c d (.Call (.Attribute P "get" y) [H,I] [] X)<|.i .gW r [XZ,X0]) U.ai n.2.1.2.1 n.2.1.2.2 n.2.2.1 n.2.2.2.1 (n.2.2.2.2.1 M c U) (n.2.2.2.2.2.1 M c U) (n.2.2.2.2.2.2 M c U)
def s8(Z:List au):Type:=Z.rec PUnit λN _ U=>ef N×U
def Uz(I:eE)(g:Scope)(Z:List Str)(E:PySem.Expr)(F:List au):s8 F->ah (eW g Z E<|.g I F):=ah.mJ (Q:=λF=>s8 F->ah (eW g Z E<|.g I F)) (λF=>ah.gf (Q:=λF=>s8 F->ah (eW g Z E<|.g I F)) (λ_ _=>.dq) F λN H=>Uu I N H.1 g Z E) F λV w H=>Uv I V H.1 w H.2.1 g Z E
def UA(I:eE)(G:au)(J:ef G)(g:Scope)(Z:List Str)(E:PySem.Expr)(F:List au):s8 F->ah (eW g Z E<|.i I G F):=ah.mJ (Q:=λF=>s8 F->ah (eW g Z E<|.i I G F)) (λF=>ah.gf (Q:=λF=>s8 F->ah (eW g Z E<|.i I G F)) (λF=>ah.gG (Q:=λF=>s8 F->ah (eW g Z E<|.i I G F)) (λ_ _=>.dq) F λ_=>Ux I G J g Z E) F λN H=>Uw I G J N H.1 g Z E) F λV w H=>Uy I G J V H.1 w H.2.1 g Z E
def LO:nF []:=λg Z U=>ah.gG (Q:=λU=>ah<|FR g Z U []) az U<|.sZ λ_ _ _=>.nil
def LP(N:au)(G:List au)(L:ef N)(H:nF G):nF<|N::G:=λF Z w=>ah.ou (Q:=λw=>ah<|FR F Z w<|N::G) az w λE w=>((L F Z E).and<|H F Z w).bW λW g K U=>.cons (W.1 g K U)<|W.2 g K U
def jv(f:au):ef f:=au.rec (motive_1:=ef) (motive_2:=λe=>nF e×s8 e) (λd Z E=>ah.nE az E λM _ _=>ah.FQ az M<|.sZ λ_ _ _=>Rv) (λI d Z E=>ah.nE az E λM _ _=>ah.T2 az M λy=>(ah.aA y I).bW λw _ _ _=>w▸Rw) (λJ d Z E=>ah.nE az E λM _ _=>ah.yU az M λs=>(ah.aA s J).bW λw _ _ _=>w▸Rx) (λG d Z E=>ah.nE az E λM _ _=>ah.BQ az M λt=>(ah.aA t G).bW λw _ _ _=>w▸Ry) (λJ d Z E=>ah.gd az E λG _=>(ah.aA Z[J]?<|some G).bW λw _ _ U=>(by intro _ _ _ j G _ _ a;show gF (λ_=>rfl) λH g F K L P S V w c=>by clear c;show cC (Fs w) ?_;clear w;rintro Q T rfl rfl;show dH (KO j V.a a T) (λ_ _ O=>cJ.fV V.a.aP O) λ_ _ G=>G:∀{M:bL}{R:Env}{Z:List Str}(j:c9 R Z){G J X}(a:Z[J]?=some G),aQ M R Z (.Name G X)<|.ae J) U.v w) (λO d Z E=>ah.gd az E λG _=>((ah.du<|eP d G).and<|ah.aA Bm[O]?<|some G).bW λw _ _ U=>RB U.ai U.v (U.hV w.1) w.2) (λe z=>T5 e z.1) (λe z=>T6 e z.1) (λm e z=>T7 m e z.1) (λh l k z B=>T8 h l k z B) (λl z=>T9 l z) (λl z=>Ua l z) (λh l k z B=>Ub h l k z B) (λo n l k A z B C=>Uc o n l k A z B C) (λl z=>Ud l z) (λl z=>Ue l z) (λe z=>Ug e z.1) (λe z=>Uh e z.1) (λq l k z B C=>Ui q l k z B C) (λf W z=>Uj f W z) (λf u z B=>Uk f u z B) (λf l z B=>Ul f l z B) (λf k z B=>Um f k z B) (λf l k z B C=>Un f l k z B C) (λf z=>Uo f z) (λW e z=>Up W e z.1) (λN e z=>Uq N e z.1) (λf Y e z B=>Ur f Y e z B.1) (λI e J d Z E=>Uz I d Z E e J.2) (λI f e b J d Z E=>UA I f b d Z E e J.2) (λr p i x z B=>Us r p i x z B) (λr i v z B=>Ut r i v z B) (LO,PUnit.unit) (λY e J b=>(LP Y e J b.1,J,b.2)) f
def afu(Z:List au):nF Z:=Z.rec LO λN Z J=>LP N Z (jv N) J
end
noncomputable def pk:Str:="SnobolError"
def FU(M:bL):Prop:=∀(K:Env)(Z:List Str)(w L g W:Pos)(V:Nat)(O:Int)(E:PySem.Expr)(G:au),c9 K Z->eP K.scope pk=true->dy E=true->aQ M K Z E G->kR M K Z true (.Raise (some<|.Call (.Name pk w) [.Constant (.int O) V W,E] [] L) none g) (.raise O G)
noncomputable def bL.cP(M:bL)(g:aG)(K:Shared):bL:={M with yM:=g,gE:=K,wy:=bR}
def bL.dn.cP{M:bL}(N:M.dn)(g:aG)(K:Shared):(M.cP g K).dn:=⟨N.bH,N.call,N.M,N.wz,N.Bo,N.jG,N.yN⟩
def LQ(M:bL)(K:Env):Prop:=(∀G H,iu K G H->M.gE.heap.get? H=none)/\∃L,M.oh=K::L/\K.frame=some K.locals
def UB(H G V Z:Str)(J S I W E L U F w:Pos)(g Y:Nat):ExceptHandler:=.ExceptHandler (some<|.Name pk J) (some H) [.Return (some<|.Tuple [.Constant (.str G) g W,.Attribute (.Name H E) "number" L,.Attribute (.Name V F) Z w] Y U) S] I
def FV(M:bL):Prop:=∀(E:Env)(Z:List Str)(O:Bool)(U F R:PySem.Expr)(X e w:au)(J P N W:Nat)(T o H G V c:Str)(n S I h f i j l m Q b d L p k:Pos)(a Y:Nat),c9 E Z->LQ M E->eP E.scope pk=true->E.kindOf H=some .local->H∉Z->(H==("__debug__":Str))=false->(H==sL)=false->Z[J]?=some T->Z[P]?=some o->Z[N]?=some V->o6[W]?=some c->oq F=false->oq R=false->qj (.Name T Q) F=true->qj (.Name o d) R=true->(∀g K,aQ (M.cP g K) E Z U X/\aQ (M.cP g K) E Z F e/\aQ (M.cP g K) E Z R w)->kR M E Z O (.Try [.If U [.Assign [.Name T Q] F b] [.Assign [.Name o d] R L] p] [UB H G V c n S I h f i j l m a Y] [] [] k) (.vY [.b X [.assign (.ae J) e] [.assign (.ae P) w]] G<|.attr (.ae N) W)
structure s9(M:bL)(K:Env)(g:Scope)(Z:List Str):Prop extends s6 M K g Z where
uR:LQ M K
UC:FU M
UD:FV M
def UE(g:Scope)(Z:List Str)(U:PySem.Expr)(X:ft):Prop:=∀(M:bL)(K:Env),s9 M K g Z->rq M K Z U X
def UG(g:Scope)(Z:List Str)(V:List PySem.Expr)(w:List ft):Prop:=∀(M:bL)(K:Env),s9 M K g Z->hU (rq M K Z) V w
def BR(g:Scope)(Z:List Str)(O:Bool)(V:PySem.Stmt)(w:bo):Prop:=∀(M:bL)(K:Env),s9 M K g Z->kR M K Z O V w
def LR(g:Scope)(Z:List Str)(O:Bool)(V:List PySem.Stmt)(w:List bo):Prop:=∀(M:bL)(K:Env),s9 M K g Z->pj M K Z O V w
def s9.BS{M:bL}{K:Env}{Z:Scope}(U:s9 M K Z D){N:Option NameKind}(w:Z.names.lookup j=N):K.kindOf j=N:=by unfold Env.kindOf;show U.rv▸w
def s9.fX{M:bL}{w:Env}{Z:Scope}(U:s9 M w Z D)(g:aG)(K:Shared):s6 (M.cP g K) w Z D:=⟨U.ai.cP g K,U.v,U.rv⟩
namespace ah
@[elab_as_elim]noncomputable def LS(Y:∀E,A E)(E:PySem.Stmt)(W:∀E X,A<|.Expr E X):A E:=if w:E.ctorIdx=24then PySem.Stmt.Expr.elim (motive_2:=A) E w W else Y E
@[elab_as_elim]noncomputable def wK(Y:∀E,A E)(E:PySem.Stmt)(W:∀E X,A<|.Return E X):A E:=if w:E.ctorIdx=3then PySem.Stmt.Return.elim (motive_2:=A) E w W else Y E
@[elab_as_elim]noncomputable def yV(Y:∀E,A E)(E:PySem.Stmt)(W:∀V E X,A<|.Assign V E X):A E:=if w:E.ctorIdx=5then PySem.Stmt.Assign.elim (motive_2:=A) E w W else Y E
@[elab_as_elim]noncomputable def LU(Y:∀E,A E)(E:PySem.Stmt)(W:∀U S E X,A<|.AugAssign U S E X):A E:=if w:E.ctorIdx=7then PySem.Stmt.AugAssign.elim (motive_2:=A) E w W else Y E
@[elab_as_elim]noncomputable def LV(Y:∀E,A E)(E:PySem.Stmt)(W:∀U H I X,A<|.If U H I X):A E:=if w:E.ctorIdx=12then PySem.Stmt.If.elim (motive_2:=A) E w W else Y E
@[elab_as_elim]noncomputable def UH(Y:∀E,A E)(E:PySem.Stmt)(W:∀U H I X,A<|.While U H I X):A E:=if w:E.ctorIdx=11then PySem.Stmt.While.elim (motive_2:=A) E w W else Y E
@[elab_as_elim]noncomputable def LW(Y:∀E,A E)(E:PySem.Stmt)(W:∀U J H I X,A<|.For U J H I X):A E:=if w:E.ctorIdx=9then PySem.Stmt.For.elim (motive_2:=A) E w W else Y E
@[elab_as_elim]noncomputable def UI(Y:∀E,A E)(E:PySem.Stmt)(W:∀H I X,A<|.Raise H I X):A E:=if w:E.ctorIdx=16then PySem.Stmt.Raise.elim (motive_2:=A) E w W else Y E
@[elab_as_elim]noncomputable def UJ(Y:∀E,A E)(E:PySem.Stmt)(W:∀I w S W X,A<|.Try I w S W X):A E:=if w:E.ctorIdx=17then PySem.Stmt.Try.elim (motive_2:=A) E w W else Y E
@[elab_as_elim]noncomputable def UK(Y:∀E,A E)(E:PySem.Stmt)(W:∀X,A<|.Break X):A E:=if w:E.ctorIdx=26then PySem.Stmt.Break.elim (motive_2:=A) E w W else Y E
@[elab_as_elim]noncomputable def UL(Y:∀E,A E)(E:PySem.Stmt)(W:∀X,A<|.Continue X):A E:=if w:E.ctorIdx=27then PySem.Stmt.Continue.elim (motive_2:=A) E w W else Y E
@[elab_as_elim]noncomputable def UM{Q:au->Type}(Y:∀E,Q E)(E:au)(W:∀J,Q<|.ae J):Q E:=au.casesOn E (Y _) (λ_=>Y _) (λ_=>Y _) (λ_=>Y _) W (λ_=>Y _) (λ_=>Y _) (λ_=>Y _) (λ_ _=>Y _) (λ_ _ _=>Y _) (λ_=>Y _) (λ_=>Y _) (λ_ _ _=>Y _) (λ_ _ _ _ _=>Y _) (λ_=>Y _) (λ_=>Y _) (λ_=>Y _) (λ_=>Y _) (λ_ _ _=>Y _) (λ_ _=>Y _) (λ_ _=>Y _) (λ_ _=>Y _) (λ_ _=>Y _) (λ_ _ _=>Y _) (λ_=>Y _) (λ_ _=>Y _) (λ_ _=>Y _) (λ_ _ _=>Y _) (λ_ _=>Y _) (λ_ _ _=>Y _) (λ_ _ _ _=>Y _) λ_ _ _=>Y _
@[elab_as_elim]noncomputable def UN{Q:au->Type}(Y:∀E,Q E)(E:au)(W:∀E W,Q<|.attr E W):Q E:=au.casesOn E (Y _) (λ_=>Y _) (λ_=>Y _) (λ_=>Y _) (λ_=>Y _) (λ_=>Y _) (λ_=>Y _) (λ_=>Y _) (λ_ _=>Y _) (λ_ _ _=>Y _) (λ_=>Y _) (λ_=>Y _) (λ_ _ _=>Y _) (λ_ _ _ _ _=>Y _) (λ_=>Y _) (λ_=>Y _) (λ_=>Y _) (λ_=>Y _) (λ_ _ _=>Y _) W (λ_ _=>Y _) (λ_ _=>Y _) (λ_ _=>Y _) (λ_ _ _=>Y _) (λ_=>Y _) (λ_ _=>Y _) (λ_ _=>Y _) (λ_ _ _=>Y _) (λ_ _=>Y _) (λ_ _ _=>Y _) (λ_ _ _ _=>Y _) λ_ _ _=>Y _
@[elab_as_elim]noncomputable def UO{Q:au->Type}(Y:∀E,Q E)(E:au)(W:∀H I M E,Q<|.iU H I M E):Q E:=au.casesOn E (Y _) (λ_=>Y _) (λ_=>Y _) (λ_=>Y _) (λ_=>Y _) (λ_=>Y _) (λ_=>Y _) (λ_=>Y _) (λ_ _=>Y _) (λ_ _ _=>Y _) (λ_=>Y _) (λ_=>Y _) (λ_ _ _=>Y _) (λ_ _ _ _ _=>Y _) (λ_=>Y _) (λ_=>Y _) (λ_=>Y _) (λ_=>Y _) (λ_ _ _=>Y _) (λ_ _=>Y _) (λ_ _=>Y _) (λ_ _=>Y _) (λ_ _=>Y _) (λ_ _ _=>Y _) (λ_=>Y _) (λ_ _=>Y _) (λ_ _=>Y _) (λ_ _ _=>Y _) (λ_ _=>Y _) (λ_ _ _=>Y _) W λ_ _ _=>Y _
@[elab_as_elim]noncomputable def yW{Q:ft->Type}(Y:∀E,Q E)(E:ft)(W:∀J,Q<|.ae J):Q E:=ft.casesOn E W (λ_ _=>Y _) (λ_ _=>Y _) λ_=>Y _
@[elab_as_elim]noncomputable def UP{Q:ft->Type}(Y:∀E,Q E)(E:ft)(W:∀V,Q<|.tup V):Q E:=ft.casesOn E (λ_=>Y _) (λ_ _=>Y _) (λ_ _=>Y _) W
@[elab_as_elim]noncomputable def LX{Q:bo->Type}(Y:∀E,Q E)(E:bo)(W:∀U E,Q<|.assign U E):Q E:=bo.casesOn E (λ_=>Y _) (λ_=>Y _) W (λ_ _ _=>Y _) (λ_ _ _ _=>Y _) (λ_ _ _=>Y _) (λ_ _=>Y _) (λ_ _ _=>Y _) (λ_ _ _=>Y _) (λ_ _=>Y _) (λ_ _ _=>Y _) (Y _)<|Y _
@[elab_as_elim]noncomputable def UQ{Q:bo->Type}(Y:∀E,Q E)(E:bo)(W:∀U H I,Q<|.b U H I):Q E:=bo.casesOn E (λ_=>Y _) (λ_=>Y _) (λ_ _=>Y _) (λ_ _ _=>Y _) (λ_ _ _ _=>Y _) W (λ_ _=>Y _) (λ_ _ _=>Y _) (λ_ _ _=>Y _) (λ_ _=>Y _) (λ_ _ _=>Y _) (Y _)<|Y _
end ah
abbrev LY(N:ft):=∀g Z U,ah<|UE g Z U N
abbrev UR(w:List ft):=∀g Z V,ah<|UG g Z V w
def US(X:ft):LY X:=ft.rec (motive_1:=LY) (motive_2:=UR) (λJ H Z U=>ah.gd az U λG _=>(ah.aA Z[J]?<|some G).bW λw _ _ F=>Lm F.v F.uR.1 w) (λL W H Z U=>ah.ot az U λE G _=>((ah.aA o6[W]?<|some G).and<|jv L H Z E).bW λw M K F=>SH F.ai w.1<|w.2 M K F.tos6) (λL O H Z U=>ah.cg az U λE J _=>((jv L H Z E).and<|jv O H Z J).bW λw M K F=>SI (w.1 M K F.tos6)<|w.2 M K F.tos6) (λI P H Z U=>ah.wI az U λV _ _=>((ah.du<|V.all dy).and<|P H Z V).bW λw M K F=>SK F.ai w.1<|w.2 M K F) (λ_ _ V=>ah.gG az V<|.sZ λ_ _ _=>.nil) (λN I T g H Z V=>ah.ou az V λU V=>((T H Z U).and<|g H Z V).bW λw M K F=>.cons (w.1 M K F)<|w.2 M K F) X
def UT(q:Scope)(Z:List Str)(O:Bool)(U E:PySem.Expr)(X:Pos)(B:ft)(t:au):ah<|BR q Z O (.Assign [U] E X)<|.assign B t:=ah.UP az B λXZ=>ah.mJ az XZ λX0 X2=>ah.yW az X0 λJ=>ah.yW az X2 λk=>ah.wI az U λX3 _ _=>ah.mJ az X3 λX4 X5=>ah.gd az X4 λG X=>ah.gd az X5 λe Y=>ah.wI az E λl N L=>((ah.aA Z[J]?<|some G).and<|(ah.aA Z[k]?<|some e).and<|(ah.du<|J !=k).and<|(ah.aA (q.names.lookup G)<|some .local).and<|(ah.aA (q.names.lookup e)<|some .local).and<|(ah.du<|Y.line==X.line).and<|(ah.aA (G==e) false).and<|(ah.aA l.length 2).and<|(ah.du<|l.all dy).and<|(ah.aA (l.all<|foldedForSure 8) false).and<|(ah.aA (l.all<|constantsAlone 8) false).and<|jv t q Z<|.Tuple l N L).bW λo M K e=>(by
intro M K _ _ XN v z G e X Y _ y _ N r J k l _ V u XO XQ XR h A i d b c XS;show λYF YG g P YH L a X6 X7 w YI X8 YJ=>by
 show b0<|Ax ?_;show b0<|eM ?_;show b0<|dp X7 XS.bw w X8 λQ YK S m YL X9 p Yb XT=> ?_;rw[(by
 intro G e X Y _ _ _ _ l XU V u h A i d b c;obtain f:K.blockKind=.function:=by unfold Env.blockKind;rw[XU];rfl
 obtain Yc:(e==G)=false:=by rw[beq_eq_false_iff_ne]at A⊢;show λE=>A E.symm
 unfold swappedStores;dsimp only;rw[i,f];generalize Yd:List.filterMap _ [PySem.Expr.Name G X,.Name e Y]=Ye;obtain Yg:Ye=[G,e]:=Yd.symm.trans<|(λW b c=>by simp only[List.filterMap_cons,List.filterMap_nil,b,c]:∀W:PySem.Expr->Option Str,W (.Name G X)=some G->W (.Name e Y)=some e->[.Name G X,.Name e Y].filterMap W=[G,e]) _ (if_pos<|by rw[V];show beq_self_eq_true X.line)<|if_pos (by rw[u];show h);subst Yg;generalize Yh:l.any _=Yi;obtain Yj:Yi=false:=Yh.symm.trans (List.any_eq_false.mpr λE XW=>by have:=gB.mp d E XW;clear XW;rcases E with-|-<;>first|show PS|show absurd this PS);subst Yj;obtain E:([G,e]:List Str).eraseDups=[G,e]:=by simp[List.eraseDups_cons,Yc]
 rw[b,c];rw[E];rfl:∀{G e X Y L y N r l}(XU:K.scope.kind=.function)(V:K.kindOf G=some .local)(u:K.kindOf e=some .local)(h:(Y.line==X.line)=true)(A:(G==e)=false)(i:l.length=2)(d:l.all dy=true)(b:l.all (foldedForSure 8)=false)(c:l.all (constantsAlone 8)=false),swappedStores [.Tuple [.Name G X,.Name e Y] N L] (.Tuple l r y) K=pure (some [G,e])) v.eO XQ XR h A i d b c];show b0<|eM ?_;show eA λYk s=> ?_;obtain⟨YM,YN,Yl,_,Ym⟩:=af.fW X9;show gZ ((by
 intro _ _ Q _ _ _ _ w;rcases Q with-|_|_|_|Yn|_|_|_<;>first|(show cq w;done)|skip
 rcases Yn with-|⟨H,-|⟨I,-|⟨_,_⟩⟩⟩<;>first|(show cq w;done)|skip
 obtain⟨j,R⟩:=cS w;show we H I rfl j R:∀{J k Q P g a L}(w:nq aw M.call (.tup [.ae J,.ae k]) Q P g=some (L,a)),∃H I,Q=.tup [H,I]/\L=.ai ((P.set J<|some H).set k<|some I)/\a=g) Yl) λH I Yo Yp Yq=> ?_;obtain⟨j,R⟩:=cS<|Ym _ Yp;rw[Yq]at R;show s ?_;rw[j,R];rw[Yo]at XT;show eA λYk s=> ?_;obtain⟨Yr,Ys,Yt,Yu,C⟩:=XT.lT;show gZ C.lS λYO YQ j Yv C=> ?_;show gZ C.lS λYR YS R f C=> ?_;rw[C.qX]at R;replace j:=R▸j;have Yw:Ys.size=2:=by rw[<-Array.length_toList,j];rfl
 show s ?_;show Yt▸b0 (wpAny_rule<|b0 ?_);change M.cL (unpackItems (.ref Yr) 2 none) _ X6 m;show Yw▸unpackItems_tuple XN.M Yu λYx Yy=> ?_;have T:cN m {m with heap:=Yx}:=⟨λI Yz E=>Yy I Yz (gL<|kj E) E,rfl,rfl,rfl⟩;have D:=p.aF T;show j▸b0 ?_;show I1<|wpAny_bindName<|uH (o:=M.bS) v D.a u ((λw=>fU p.a.aP (T.bK S bR M.bS) w) f) λYT YA x=> ?_;have XX:=D.nq YA x λI Y n=>by rw[z _ I Y]at n;show Bool.noConfusion n
 show I1<|wpAny_bindName<|uH (o:=M.bS) v XX.a V (pb D.a.aP D.a.fT (x.cZ (λ_ _ Y=>Y.fT) λ_ _ Y=>Y)<|(λw=>fU p.a.aP (T.bK S bR M.bS) w) Yv) λYU YB XY=> ?_;have YC:=XX.nq YB XY λI Y n=>by rw[z _ I Y]at n;show Bool.noConfusion n
 show assignInOrder_nil<|eM ⟨.aK,_,S,rfl, ?_, ?_,.aK⟩;·rw[List.set_comm _ _ XO];show YC
 ·show((Yb.fT.aC<|T.bK .. ).aC<|x.cZ (λ_ _ Y=>Y.fT) λ_ _ Y=>Y).aC (XY.cZ (λ_ _ Y=>Y.fT) λ_ _ Y=>Y):∀{M:bL}{K:Env}{Z:List Str}{O:Bool}(XN:M.dn)(v:c9 K Z)(z:∀G H,iu K G H->M.gE.heap.get? H=none){G e X Y YD y YE N r J k l t}(V:Z[J]?=some G)(u:Z[k]?=some e)(XO:J≠k)(XQ:K.kindOf G=some .local)(XR:K.kindOf e=some .local)(h:(Y.line==X.line)=true)(A:(G==e)=false)(i:l.length=2)(d:l.all dy=true)(b:l.all (foldedForSure 8)=false)(c:l.all (constantsAlone 8)=false)(XS:aQ M K Z (.Tuple l r y) t),kR M K Z O (.Assign [.Tuple [.Name G X,.Name e Y] N YD] (.Tuple l r y) YE)<|.assign (.tup [.ae J,.ae k]) t) e.ai e.v e.uR.1 o.1 o.2.1 (by simpa using o.2.2.1) (e.BS o.2.2.2.1) (e.BS o.2.2.2.2.1) o.2.2.2.2.2.1 o.2.2.2.2.2.2.1 o.2.2.2.2.2.2.2.1 o.2.2.2.2.2.2.2.2.1 o.2.2.2.2.2.2.2.2.2.1 o.2.2.2.2.2.2.2.2.2.2.1<|o.2.2.2.2.2.2.2.2.2.2.2 M K e.tos6
def UU(j:Scope)(Z:List Str)(XS:Bool)(X9 E:PySem.Expr)(Yq:Pos)(Yb:ft)(Yc:au):ah<|BR j Z XS (.Assign [X9] E Yq)<|.assign Yb Yc:=ah.yW az Yb λJ=>ah.UO az Yc λy Yr n XQ=>ah.gd az X9 λU C=>ah.FP az E λt Ys s x=>ah.gf az Ys λYt=>match Yt with|⟨A,z,Yu,O⟩=>ah.gG az Yu<|match LL A with|some ⟨r,d⟩=>((ah.aA O 0).and<|(ah.aA Z[J]?<|some U).and<|(ah.du<|j.names.lookup U==some .local&&C.line==x.line&& !(s.names.any λG=>G.1==U&&(G.2==.local||G.2==.cell))).and<|(ah.aA r.length Yr).and<|(ah.du<|yT j Z s r n).and<|(ah.aA (ru z) false).and<|(jv y (BN s j) (ij Z r n) t).and<|jv XQ j Z z).bW λYv M b h=>by obtain⟨rfl,R,W,rfl,XT,XU,Yw,Yx⟩:=Yv;show(by
intro M b Z _ k X v s r n N A t z d x D C U J y _ a l B f Yd;show λY9 XW Za XX K XY XZ I Yy w Zb Yz YA=>by
    obtain⟨Zc,YB,R,Ye,L⟩:=af.fW w;show(by
     intro M b _ _ _ _ _ _ _ K I _ k X N _ _ _ d _ _ C U _ _ a l v B f w XN Yg;rw[exec_Assign_Name_used _ _ _ _ B];show b0<|Ax<|b0 ?_;show b0<|dH (wpAny_comprehension_free (use:=some<|assign (.Name U C) b) (Q:=λ_ e=>XN .next e) rfl (BB a) N.Lq N.eO N.kQ<|dH w (λZd X0 YC=>dH YC (λYh Ze YD=> ?_) λ_ _ E=>E) λ_ _ E=>E) (λ_ e YE=>eM<|eM YE) λ_ _ E=>E;obtain⟨Zf,Zg,YB,X0,Zh,Zi,X2,i,Yi,YF,YG,Yh,YH,X3,rfl⟩:=YD;subst X2;show Lu (u:=λYI p=>compPost (model M.dD M.cf) M.bV I (some<|assign (.Name U C) b) (λ_ e=>XN .next e) YI p) k X N d f i YF YG Yh YH X3 ?_;intro Zj p T Zk Yj XO YJ g Yk X4 YK;obtain⟨S,c,O,L,X5,YL⟩:=YK;show I0<|uH (o:=M.bS) X (i.bK Yj XO).a l YJ λYM H X6=> ?_;have YN:¬iu b U p:=λY=>by
      rcases Y.fT with rfl|⟨h,X7⟩;·obtain⟨S,c,O,L,_,q⟩:=i.a.gc.a;rw[g]at L;show bQ L
      ·obtain⟨S,P,L,_⟩:=i.a.gc.B h p X7;rw[g]at L;show bQ L
     have V:=(i.bK Yj XO).nq H X6 λYO Y h=>by rw[v YO Y]at h;show Bool.noConfusion h
     have Yl:=(X6.aF p S L Yk YN).2<|i.eB.Fl g;show aX _ (mE S c O Yl X5 YL λ_=>rfl) λYQ u=>Yg _ _ T rfl ?_ ?_;rotate_left
     ·have YR:∀H,(K.heap.get? H).isSome=true->H≠p:=λH w E=>by have:=Yi.ir H w;rw[E,g]at this;contradiction
      show(((Yi.aC XO).cZ (λ_ _ Y=>Y.elim) λ_ _ Y=>Y).aC X6).uI (λH S w E=>(u.2 H<|YR H w).trans E) rfl rfl rfl
     have XR:∀H,iM b H->H≠p:=λH X8 E=>by
      cases E;rcases X8 with rfl|⟨h,X7⟩;·obtain⟨S,c,O,L,_,q⟩:=i.a.gc.a;rw[g]at L;show bQ L
      ·obtain⟨S,P,L,_⟩:=i.a.gc.B h _ X7;cases g.symm.trans L
     show eZ (br.n9 (x:={YM with heap:=YQ}) V.a.aP (λH X8 S E=>(u.2 H X8).trans E) (cO S Yl (λ_ _ Y=>by rw[X5]at Y;injection Y) λY=>by rw[X5]at Y;injection Y) Yk X4) λYS YT=> ?_;show⟨⟨YS,⟨?_,λG YU Ym=> ?_⟩,V.a.qY,V.a.eK,λYV G P R W=> ?_,V.a.aZ⟩, ?_, ?_⟩;·obtain⟨S,c,O,o,m,q⟩:=V.a.gc.a;show⟨S,c,O,(u.2 _<|XR _<|.inl rfl).trans o,m,q⟩
     ·obtain⟨S,P,o,m⟩:=V.a.gc.B G YU Ym;show⟨S,P,(u.2 _<|XR _<|.inr ⟨G,Ym⟩).trans o,m⟩
     ·show aB (V.a.ae YV G P R W) λYW YX X3=> ?_;show aX YW ?_<|YT X3;rcases YX with⟨N,S,c,O,o,m,q,YY⟩|⟨N,YZ,S,o,m,q⟩;·show .sS N S c O ((u.2 _<|XR _<|.inl rfl).trans o) m q YY
      ·show .inr N YZ S o ((u.2 _<|XR _<|.inr ⟨G,oQ o⟩).trans m) q
     ·intro E Yn;obtain⟨H,Yo,R,W,Y0,Y1,Y2,Y3,XT,XU⟩:=V.eB E Yn;obtain⟨_,Zl,Y4,_,_,Zm,Zn,Zo,Yp,_⟩:=i.eB E Yn;obtain rfl:=bO<|R.symm.trans Y4;have Y5:Yo≠p:=λE=>by rw[E,g]at Yp;show bQ Yp
      show⟨H,Yo,R,W,Y0,Y1,Y2,Y3,(u.2 _ Y5).trans XT,XU⟩
     ·obtain Y6:∀H,(M.gE.heap.get? H).isSome=true->H≠p:=λH w E=>by have:=i.cP.ir H w;rw[E,g]at this;contradiction
      show V.cP.uI (λH S w E=>(u.2 H<|Y6 H w).trans E) rfl rfl rfl:∀{M:bL}{b:Env}{Z:List Str}{s:Scope}{r:List Str}{n:List Nat}{XW:aG}{XZ:ag}{XX:ak}{K:Shared}{I:Value->Shared->Prop}{XY:aI aa}(k:M.dn)(X:c9 b Z)(N:ju b Z s r n){A t z}(d:pf A r){x D C U J y}(a:ru z=false)(l:Z[J]?=some U)(v:∀H,iu b U H->M.gE.heap.get? H=none)(B:swapsWith (.ListComp t [⟨A,z,[],0⟩] s x) (some<|.Name U C) D.line b=pure true)(f:∀p,c9 (compEnvC s (fi s b) p b) (ij Z r n)->aQ M (compEnvC s (fi s b) p b) (ij Z r n) t y)(w:M.cL (eval z b) (λG X0=>M.cL (pyIter G) (wH M b Z r n y XW XX K XY XZ) I X0) I K){XN}(Yg:∀P e T,XY=.ai P->M.ay b Z T XZ (XX.set J<|some P) e->bp XW T (iu b U) M.bS K e->XN .next e),M.cL (exec (.Assign [.Name U C] (.ListComp t [⟨A,z,[],0⟩] s x) D) b) XN I K) k X N d a l (v U) ?_ f (Lw k Yd rfl Yy R<|Yz.cg Ye) λP e T E Y7 XO=> ?_
    ·have X4:b.blockKind=.function:=by unfold Env.blockKind;rw[X.eO];rfl
     have:swapsWith (.ListComp t [⟨A,z,[],0⟩] s x) (some<|.Name U C) D.line b=pure (b.blockKind==.function&&b.kindOf U==some .local&&C.line==x.line&& !(s.names.any λ(O,N)=>O==U&&(N==.local||N==.cell))):=rfl;show this.trans ?_;rw[X4];show congrArg pure B
    ·clear YA;clear Ye;clear w;obtain⟨X2,rfl⟩:=dT<|L P E;show X2▸⟨.aK,_,T,rfl,Y7,XO.cZ (λ_ _ Y=>Y.fT) λ_ _ Y=>Y,.aK⟩:∀{M:bL}{b:Env}{Z:List Str}{XS:Bool}(k:M.dn)(X:c9 b Z)(v:∀G H,iu b G H->M.gE.heap.get? H=none){s r n}(N:ju b Z s r n){A t z}(d:pf A r){x D C U J y XQ}(a:ru z=false)(l:Z[J]?=some U)(B:(b.kindOf U==some .local&&C.line==x.line&& !(s.names.any λ(O,N)=>O==U&&(N==.local||N==.cell)))=true)(f:∀p,c9 (compEnvC s (fi s b) p b) (ij Z r n)->aQ M (compEnvC s (fi s b) p b) (ij Z r n) t y)(Yd:aQ M b Z z XQ),kR M b Z XS (.Assign [.Name U C] (.ListComp t [⟨A,z,[],0⟩] s x) D)<|.assign (.ae J)<|.iU y r.length n XQ) h.ai h.v h.uR.1 (FL h.v h.rv XT) d XU R (by rw[h.BS rfl];show W) (λp Y8=>Yw M _ ⟨h.ai,Y8,FK h.rv⟩)<|Yx M b h.tos6|none=>.dq
def UW(f:Scope)(Z:List Str)(l:Bool)(V:PySem.Stmt)(O:List bo)(G:Str)(h:au):ah<|BR f Z l V<|.vY O G h:=ah.gf az O λB=>ah.UQ az B λX k z=>ah.gf az k λk=>ah.LX az k λk p=>ah.yW az k λJ=>ah.gf az z λz=>ah.LX az z λz o=>ah.yW az z λa=>ah.UN az h λy W=>ah.UM az y λN=>ah.UJ az V λI w q A _=>ah.gG az q<|ah.gG az A<|ah.gf az I λI=>ah.LV az I λU r s _=>ah.gf az r λr=>ah.yV az r λx S _=>ah.gf az x λx=>ah.gd az x λT i=>ah.gf az s λs=>ah.yV az s λu R _=>ah.gf az u λu=>ah.gd az u λv j=>ah.gf az w λg=>match g with|.ExceptHandler D C m XR=>ah.iv az D λD=>ah.gd az D λF XS=>ah.iv az C λc=>ah.gf az m λL=>ah.wK az L λQ XT=>ah.iv az Q λQ=>ah.wI az Q λb XU XW=>ah.ou az b λH b=>ah.mJ az b λI Y=>ah.nE az H λM XX XY=>ah.BQ az M λt=>ah.ot az I λI d XZ=>ah.gd az I λn X0=>ah.ot az Y λY XN X2=>ah.gd az Y λXO X3=>(((ah.aA F pk).and<|(ah.aA t G).and<|(ah.aA n c).and<|ah.aA d "number").and<|(ah.du<|eP f pk).and<|(ah.aA (f.names.lookup c)<|some .local).and<|(ah.du<|!Z.contains c).and<|(ah.aA (c==("__debug__":Str)) false).and<|(ah.aA (c==sL) false).and<|(ah.aA Z[J]?<|some T).and<|(ah.aA Z[a]?<|some v).and<|(ah.aA Z[N]?<|some XO).and<|(ah.aA o6[W]?<|some XN).and<|(ah.aA (oq S) false).and<|(ah.aA (oq R) false).and<|(ah.du<|qj (.Name T i) S).and<|(ah.du<|qj (.Name v j) R).and<|(jv X f Z U).and<|(jv p f Z S).and<|jv o f Z R).bW λXQ M P F=>by obtain⟨⟨rfl,rfl,rfl,rfl⟩,e⟩:=XQ;show F.UD P Z l _ _ _ X p o J a N W _ _ _ _ _ _ _ _ _ _ _ _ _ _ _ _ _ _ _ _ _ _ _ F.v F.uR (F.hV e.1) (F.BS e.2.1) (by simpa using e.2.2.1) e.2.2.2.1 e.2.2.2.2.1 e.2.2.2.2.2.1 e.2.2.2.2.2.2.1 e.2.2.2.2.2.2.2.1 e.2.2.2.2.2.2.2.2.1 e.2.2.2.2.2.2.2.2.2.1 e.2.2.2.2.2.2.2.2.2.2.1 e.2.2.2.2.2.2.2.2.2.2.2.1 e.2.2.2.2.2.2.2.2.2.2.2.2.1 λE K=>⟨e.2.2.2.2.2.2.2.2.2.2.2.2.2.1 _ P<|F.fX E K,e.2.2.2.2.2.2.2.2.2.2.2.2.2.2.1 _ P<|F.fX E K,e.2.2.2.2.2.2.2.2.2.2.2.2.2.2.2 _ P<|F.fX E K⟩
abbrev FW(N:bo):=∀g Z O V,ah<|BR g Z O V N
abbrev yX(w:List bo):=∀g Z O V,ah<|LR g Z O V w
def LZ:yX []:=λ_ _ _ V=>ah.gG az V<|.sZ λ_ _ _=>SU
def L0(N:bo)(G:List bo)(T:FW N)(g:yX G):yX<|N::G:=λF Z O V=>ah.ou az V λK X=>((T F Z O K).and<|g F Z O X).bW λw M E U=>SV (w.1 M E U)<|w.2 M E U
def UX(l:bo):FW l:=bo.rec (motive_1:=FW) (motive_2:=yX) (λm j Z s V=>ah.LS az V λF _=>((ah.aA (oq F) false).and<|jv m j Z F).bW λw M K P=>SW P.v.eO w.1<|w.2 M K P.tos6) (λm j Z s V=>ah.wK az V λF _=>ah.iv az F λF=>(jv m j Z F).bW λw M K P=>SX<|w M K P.tos6) (λu m j Z s V=>ah.yV az V λXN F X=>ah.gf az XN λU=>.or (((ah.aA (oq F) false).and<|(ah.du<|qj U F).and<|(ah.du<|dy U).and<|(jv m j Z F).and<|US u j Z U).bW λh M K P=>Ta h.1 h.2.1 h.2.2.1 (h.2.2.2.1 M K P.tos6)<|h.2.2.2.2 M K P)<|(UT j Z s U F X u m).or<|UU j Z s U F X u m) (λJ n m j Z s V=>ah.LU az V λU S F _=>ah.gd az U λG _=>((ah.aA Z[J]?<|some G).and<|(ah.aA S<|qc n).and<|jv m j Z F).bW λh M K P=>h.2.1▸Tb P.v P.uR.1 h.1 (h.2.2 M K P.tos6)) (λm W n C j Z s V=>ah.LU az V λU S R _=>ah.ot az U λF G _=>((ah.aA o6[W]?<|some G).and<|(ah.aA S<|qc n).and<|(jv m j Z F).and<|jv C j Z R).bW λh M K P=>h.2.1▸(by
intro M _ _ _ N G W _ _ R _ _ _ _ T r D;show λYj Yk Yl XO Ym Yn Yo XQ V w Yp d Yq=>by
 have k:W<19:=(eD.mp T).1;have XR:dm W=G:=by unfold dm;rw[List.getD_eq_getElem?_getD,T];rfl
 show wpAny_AugAssign_AttributeAny<|dp V r.bw w d λS Yr XS Ys Yt XT i XU A=> ?_;obtain⟨Yu,Yv,XW,_,XX⟩:=af.fW XT;show yp (Ft XW) λJ Yw Yx Yy XY XZ X0 g R=> ?_;obtain b:=XX _ g;simp only[R]at b;show XR▸dH (Fg N.bH.q9 N.bH.V i.a.aP k (XY▸A) XZ X0) (λYz YA a=> ?_) λ_ _ G=>G;have p:=i.aF a.1;show dp p D.bw b d λP YB X2 YC YD e v x X3=> ?_;obtain⟨YE,YF,X4,_,X5⟩:=af.fW e;show cC (j3 X4) λf X6 g R=> ?_;obtain L:=X5 _ g;obtain L:=R▸L;show dH (Kb (fU p.a.aP x a.2) X3 X6) (λYG YH o=> ?_) λ_ _ G=>G;obtain⟨YI,YJ,X7,_,X8⟩:=af.fW L;obtain⟨g,X9⟩:=Ln (b:=XQ) N k (v.aF o.1).a.aP (fU v.a.aP (o.1.bK X2 bR M.bS)<|fU p.a.aP x<|fU i.a.aP (a.1.bK XS bR M.bS) A) o.2 X7;show dH X9 (λ_ YK ⟨Yb,Yc,z⟩=> ?_) λ_ _ G=>G;obtain⟨R,Yd⟩:=cS<|X8 _ g;show Yd▸⟨.aK,XO,Yb,R,(v.aF o.1).bK Yc<|z _ _,((((XU.aC<|a.1.bK .. ).aC x).aC<|o.1.bK .. ).aC<|z _ _).fT,.aK⟩:∀{M:bL}{K:Env}{Z:List Str}{s:Bool}(N:M.dn){G W n F R m C X Y}(T:o6[W]?=some G)(r:aQ M K Z F m)(D:aQ M K Z R C),kR M K Z s (.AugAssign (.Attribute F G X) (qc n) R Y)<|.Z m W n C) P.ai h.1 (h.2.2.1 M K P.tos6) (h.2.2.2 M K P.tos6)) (λu YL q Ye B j Z s V=>ah.LV az V λU H I _=>((jv u j Z U).and<|(Ye j Z s H).and<|B j Z s I).bW λh M K P=>S8 (h.1 M K P.tos6) (h.2.1 M K P)<|h.2.2 M K P) (λu q B j Z s V=>ah.UH az V λU I Q _=>ah.gG az Q<|((jv u j Z U).and<|B j Z s I).bW λw M K P=>Tf (w.1 M K P.tos6)<|w.2 M K P) (λJ m q B j Z s V=>ah.LW az V λU y I Q _=>ah.gd az U λG _=>ah.gG az Q<|((ah.aA Z[J]?<|some G).and<|(ah.aA (ru y) false).and<|(jv m j Z y).and<|B j Z s I).bW λh M K P=>Tj P.ai P.v P.uR.1 h.1 h.2.1 (h.2.2.1 M K P.tos6)<|h.2.2.2 M K P) (λJ Yg q B j Z s V=>ah.LW az V λU Yh I Q _=>ah.gd az U λG _=>ah.mI az Yh λa c t _=>ah.gd az a λf _=>ah.gf az c λO=>ah.gG az t<|ah.gG az Q<|((ah.aA Z[J]?<|some G).and<|(wJ j f "range" O).and<|(jv Yg j Z O).and<|B j Z s I).bW λh M K P=>h.2.1.1▸Tn P.ai P.v P.uR.1 h.1 (P.hV h.2.1.2.1) h.2.1.2.2 (h.2.2.1 M K P.tos6) (h.2.2.2 M K P)) (λO m j Z s V=>ah.UI az V λH I _=>ah.iv az H λH=>ah.uP az I<|ah.mI az H λa c t _=>ah.gd az a λG _=>ah.mJ az c λY F=>ah.gG az t<|ah.nE az Y λY _ _=>ah.yU az Y λYi=>((ah.du s).and<|(wJ j G pk F).and<|(ah.aA Yi O).and<|jv m j Z F).bW λh M K P=>by obtain⟨rfl,⟨rfl,b,e⟩,rfl,L⟩:=h;show P.UC K Z _ _ _ _ _ _ _ m P.v (P.hV b) e<|L M K P.tos6) (λq G m B j Z s V=>UW j Z s V q G m) (λ_ _ _ V=>ah.UK az V λ_=>.sZ λ_ _ _=>SY) (λ_ _ _ V=>ah.UL az V λ_=>.sZ λ_ _ _=>S7) LZ L0 l
def UY(Z:List bo):yX Z:=Z.rec LZ λN Z J=>L0 N Z (UX N) J
def FX(g:Scope)(E Z:List Str)(W:bG):Bool:=g.kind==.function&& !g.isGenerator&& !g.isCoroutine&&Z.all (BM g)&&decide Z.Nodup&&decide (g.names.map (·.1)).Nodup&&decide (Z.take W.H=E)&&decide (E.length=W.H)&&decide (Z.length=W.pP)
def UZ{F:Scope}{Z:List Str}{J:bG}(w:FX F D Z J=true):uO F D Z J:=by unfold FX at w;simp only[Bool.and_eq_true,decide_eq_true_eq,Bool.not_eq_true']at w;obtain⟨⟨⟨⟨⟨⟨⟨⟨H,W⟩,g⟩,E⟩,I⟩,L⟩,U⟩,T⟩,Y⟩:=w;show⟨by simpa using H,W,g,λG V=>gB.mp E G V,I,L,U,T,Y⟩
def FY(J:Nat)(F:List Obj):Frag:=List.rec (motive:=λ_=>Nat->Frag) (λ_=>[]) (λS _ g J=>(J,S)::g (J+1)) F J
def jN(w:Heap):Frag:=FY 0 w.objs.toList
def U0:∀{F:List Obj}{J:Nat}{H:Nat}{S:Obj},(FY J F).lookup H=some S->J<=H/\F[H-J]?=some S:=by intro F;induction F with|nil=>intro _ _ _ w;show bQ w|cons G L I=>
intro J H S w;replace w:((J,G)::FY (J+1) L).lookup H=some S:=w;simp only[List.lookup_cons]at w;rcases E:H==J with _|_;·rw[E]at w;obtain⟨g,W⟩:=I (J:=J+1) w;have:H-J=H-(J+1)+1:=yq<|mz g;show⟨ie g, ?_⟩;rw[this];simpa using W
·simp only[E]at w;obtain rfl:=bO w;have:=Av.mp E;subst this;show⟨aH,by simp⟩
noncomputable def FZ(T:Frag):Bool:=T.all λX=>X.2.alive
def U1 [BEq e] [LawfulBEq e]{H:e}{S:m}(F:List<|e×m)(w:F.lookup H=some S):(H,S)∈F:=by induction F with|nil=>simp only[List.lookup_nil]at w;show absurd w<|by trivial|cons X L g=>
rw[List.lookup_cons]at w;rcases E:H==X.1with _|_;·rw[E]at w;show dI<|g w
·rw[E]at w;simp only[eq_of_beq E,<-Option.some.inj w];show cY
def F0(g:FZ (jN h)=true):(jN h).In h:=λH S E=>by obtain⟨_,W⟩:=U0 E;rw[Heap.get?_eq_some];show⟨?_,gB.mp g (H,S)<|U1 _ E⟩;simp only[Nat.sub_zero,Array.getElem?_toList]at W;show W
noncomputable def U2:(G:Option Obj)->Option {S:Obj//G=some S}|some S=>some ⟨S,rfl⟩|none=>none
def tc(T:Frag)(H:Addr):Option {S:Obj//T.lookup H=some S}:=U2<|T.lookup H
namespace ah
@[elab_as_elim]noncomputable def U3{Q:Data->Type}(Y:∀E,Q E)(E:Data)(W:∀M,Q<|.cls M):Q E:=if w:E.ctorIdx=8then Data.cls.elim (motive:=Q) E w W else Y E
@[elab_as_elim]noncomputable def L1{Q:Data->Type}(Y:∀E,Q E)(E:Data)(W:∀M O,Q<|.seq M O):Q E:=if w:E.ctorIdx=2then Data.seq.elim (motive:=Q) E w W else Y E
@[elab_as_elim]noncomputable def L2{Q:Data->Type}(Y:∀E,Q E)(E:Data)(W:∀M,Q<|.func M):Q E:=if w:E.ctorIdx=7then Data.func.elim (motive:=Q) E w W else Y E
@[elab_as_elim]noncomputable def L3{Q:Data->Type}(Y:∀E,Q E)(E:Data)(W:∀M,Q<|.fields M):Q E:=if w:E.ctorIdx=9then Data.fields.elim (motive:=Q) E w W else Y E
@[elab_as_elim]noncomputable def U4{Q:Data->Type}(Y:∀E,Q E)(E:Data)(W:∀M,Q<|.cell M):Q E:=if w:E.ctorIdx=6then Data.cell.elim (motive:=Q) E w W else Y E
@[elab_as_elim]noncomputable def F1{Q:Value->Type}(Y:∀E,Q E)(E:Value)(W:∀M,Q<|.type M):Q E:=if w:E.ctorIdx=8then Value.type.elim (motive:=Q) E w W else Y E
@[elab_as_elim]noncomputable def U5{Q:Value->Type}(Y:∀E,Q E)(E:Value)(W:∀M,Q<|.builtin M):Q E:=if w:E.ctorIdx=9then Value.builtin.elim (motive:=Q) E w W else Y E
@[elab_as_elim]noncomputable def F2{Q:Value->Type}(Y:∀E,Q E)(E:Value)(W:∀M,Q<|.ref M):Q E:=if w:E.ctorIdx=10then Value.ref.elim (motive:=Q) E w W else Y E
@[elab_as_elim]noncomputable def F4{Q:Value->Type}(Y:∀E,Q E)(E:Value)(W:∀M U,Q<|.str M U):Q E:=if w:E.ctorIdx=6then Value.str.elim (motive:=Q) E w W else Y E
@[elab_as_elim]noncomputable def U6{Q:Value->Type}(Y:∀E,Q E)(E:Value)(W:Q .none):Q E:=if w:E.ctorIdx=0then Value.none.elim (motive:=Q) E w W else Y E
@[elab_as_elim]noncomputable def U7{Q:Value->Type}(Y:∀E,Q E)(E:Value)(W:∀I,Q<|.bool I):Q E:=if w:E.ctorIdx=3then Value.bool.elim (motive:=Q) E w W else Y E
@[elab_as_elim]noncomputable def U8{Q:Value->Type}(Y:∀E,Q E)(E:Value)(W:∀J U,Q<|.int J U):Q E:=if w:E.ctorIdx=4then Value.int.elim (motive:=Q) E w W else Y E
end ah
def U9(T:Frag)(g:Addr)(Y:Str)(S:Obj):T.lookup g=some S->ah (∀w:Heap,T.In w->w.CodeRec (.ref g) Y):=Obj.rec (motive:=λS=>T.lookup g=some S->ah (∀w:Heap,T.In w->w.CodeRec (.ref g) Y)) (λH W I Z=>ah.L3 (Q:=λI=>T.lookup g=some ⟨H,W,I,Z⟩->ah (∀w:Heap,T.In w->w.CodeRec (.ref g) Y)) (λ_ _=>.dq) I λF L=>ah.iv (Q:=λS=>F[1]?=S->ah (∀w:Heap,T.In w->w.CodeRec (.ref g) Y)) (λ_ _=>.dq) F[1]? (λQ=>ah.F4 (Q:=λQ=>F[1]?=some Q->ah (∀w:Heap,T.In w->w.CodeRec (.ref g) Y)) (λ_ _=>.dq) Q λG U E=>(ah.aA G Y).bW λN w X=>⟨g,_,F,U,rfl,X _ _ L,rfl,N▸E⟩) rfl) S
def L4(T:Frag)(g:Value)(Y:Str):ah<|∀w:Heap,T.In w->w.CodeRec g Y:=ah.F2 az g λM=>ah.iv az (tc T M) λX=>U9 T M Y X.1 X.2
def BU(T:Frag)(H:Addr)(Z:List Str)(W:bG):Prop:=∀w:Heap,T.In w->∃N L,BI w H N L/\uO N.scope (N.params.args.map (·.arg)) Z W/\LR N.scope Z true L W.qN
noncomputable def L5:(I:FuncBody)->Option {F:List PySem.Stmt//I=.stmts F}|.stmts F=>some ⟨F,rfl⟩|_=>none
def Va(T:Frag)(H:Addr)(Z:List Str)(F:bG)(S:Obj):T.lookup H=some S->ah (BU T H Z F):=Obj.rec (motive:=λS=>T.lookup H=some S->ah (BU T H Z F)) (λG g I E=>ah.L2 (Q:=λI=>T.lookup H=some ⟨G,g,I,E⟩->ah (BU T H Z F)) (λ_ _=>.dq) I λN L=>ah.iv az (L5 N.body) λY=>((L4 T N.code N.qualname).and<|(ah.du N.closure.isEmpty).and<|(ah.aA N.globals mainGlobals).and<|(ah.aA N.builtins builtinsNs).and<|(ah.du<|sY N.params).and<|(ah.aA N.defaults .none).and<|(ah.du<|FX N.scope (N.params.args.map (·.arg)) Z F).and<|UY F.qN N.scope Z true Y.1).bW λW w X=>⟨N,Y.1,⟨⟨_,X _ _ L,rfl⟩,W.1 w X,Y.2,by simpa using W.2.1,W.2.2.1,W.2.2.2.1,W.2.2.2.2.1,W.2.2.2.2.2.1⟩,UZ W.2.2.2.2.2.2.1,W.2.2.2.2.2.2.2⟩) S
def yY(T:Frag)(H:Addr)(Z:List Str)(W:bG):ah<|BU T H Z W:=ah.iv az (tc T H) λX=>Va T H Z W X.1 X.2
def L6(T:Frag)(J:Nat->Addr)(Y:Nat->List Str):Prop:=∀(W:Nat)(g:bG),aw.T[W]?=some g->(yY T (J W) (Y W) g).1=true
def yZ(S:Program)(R:World)(Q:Heap)(T:Frag)(J:Nat->Addr):Prop:=∀M:bL,M.dD=S->M.cf=R->M.bH=Q->M.iY=T->M.uK=J->M.dn->FU M/\FV M
def Vb{j:Program}{R:World}{T:Frag}{o:Nat->Addr}{A:Nat->List Str}(u:Bn j R h T o)(B:L6 T o A)(H:yZ j R h T o)(G:Nat):∀Y,Fn j R h o (nZ aw G Y) Y:=by intro Y;induction Y with|zero=>show λW c g L J w=>bQ w|succ Y S=>
show λW c g L J w Z F K i m XN s Q d e r X O U N z=> ?_;replace w:JP aw G (nZ aw G Y) c aw.T[W]? g=some (L,J):=w;rcases E:aw.T[W]?with _|n;·obtain w:=E▸w;show bQ w
·obtain w:=E▸w;show gZ ((yY T (o W) (A W) n).2 (B W n E) h u.V) λXO XQ y v x=> ?_;show TU u y v (λM P a b k V q f l I p t=> ?_) S w s Q d e r X O U N z;obtain⟨C,D⟩:=H M a b k V q f;show x M P ⟨⟨f,l,I⟩,⟨p,t⟩,C,D⟩
section
set_option tactic.hygienic true
noncomputable section
noncomputable def Vc:List Addr:=[23,30,37,51,58,65,72,79,93,100,151,172,193,207,214,221,228,235,242,249,259,266,273,280,287,294,301,308,315,322,329,336,343,350,357,364,371,378,385,392,399,406,413,420,427,434,448,455,476,483,490,497,504,511,518,525,532,546,553,560,574,581,588,595,609,616,623,630,637,644,651,658,665,670,677,684,691,696,701]
def kS(W:Nat):Addr:=Vc.getD W 0
def BV(W:Nat):List Str:=Qq.getD W []
noncomputable def BW:List Nat:=[0,2,3,4,5,6,7,8]
noncomputable def nG(H:Option<|Option Value)(Q:Value):Bool:=H==some (some Q)
def y0(T:Frag):Bool:=BW.all (λM=>let G:=dP M
nG (findIn T (.ref G) "__getattribute__") (.builtin "object.__getattribute__")&&findIn T (.ref G) "__getattr__"==some none&&nG (findIn T (.ref G) "__setattr__") (.builtin "object.__setattr__")&&plainOver T G&&hasDictIn T G&&(List.range 19).all (λW=>findIn T (.ref G) (dm W)==some none)&&makesIn T G)&&aw.Ec.all (λX=>gN X.1.1&&nG (findIn T (.ref<|dP X.1.1)<|sP X.1.2) (.ref<|kS X.2)&&typeIn T (.ref<|kS X.2)==some (.type "function"))&&aw.Ed.all (λX=>gN X.1&&nG (findIn T (.ref<|dP X.1) "__init__") (.ref<|kS X.2)&&typeIn T (.ref<|kS X.2)==some (.type "function"))&&nG (findIn T (.ref<|dP 2) "__init__") (.builtin "object.__init__")
def L7(w:gN a=true):a∈BW:=by
 have:∀a<9,gN a=true->a∈BW:=by decide
 show this a ?_ w;unfold gN at w;rw[Bool.and_eq_true,decide_eq_true_eq]at w;show w.1
theorem ow{H:Option<|Option Value}(w:nG H d=true):H=some (some d):=by show Av.mp w
def Vd{T:Frag}(w:y0 T=true):yG T kS:=by
 unfold y0 at w;simp only[Bool.and_eq_true]at w;obtain⟨⟨⟨H,g⟩,F⟩,E⟩:=w;obtain O:∀M,gN M=true->_:=λM J=>gB.mp H M<|L7 J;simp only[Bool.and_eq_true]at O;show⟨λM J=>ow (O M J).1.1.1.1.1.1,λM J=>by simpa using(O M J).1.1.1.1.1.2,λM J=>ow (O M J).1.1.1.1.2,λM J=>(O M J).1.1.1.2,λM J=>(O M J).1.1.2,λM W J K=> ?_,λM J=>(O M J).2,λM N W G=> ?_,λM W G=> ?_,ow E⟩;·have:=gB.mp (O M J).1.2 W<|su.mpr K;simpa using this
 ·unfold bu.iV at G;show aB (kI.mp G) ?_;rintro X I rfl;have:=gB.mp g X<|IX I;rw[(by simpa using List.find?_some I:X.1=(M,N))]at this;simp only[Bool.and_eq_true]at this;show⟨this.1.1,ow this.1.2,by simpa using this.2⟩
 ·unfold bu.um at G;show aB (kI.mp G) ?_;rintro X I rfl;have:=gB.mp F X<|IX I;rw[(by simpa using List.find?_some I:X.1=M)]at this;simp only[Bool.and_eq_true]at this;show⟨this.1.1,ow this.1.2,by simpa using this.2⟩
def y8(T:Frag):Bool:=BW.all (λM=>[2,3,4].all (λg=>M==g||kin_not T (dP M) (dP g))&&["str","int","tuple"].all (λK=>kin_notT T (dP M) K)&&plainGet T (dP M) "__class__"&&hasDictIn T (dP M)&&nG (findIn T (.ref<|dP M) "__class__") (.builtin "object.__class__")&&mroIn T (dP M) (.type "object")==some true)&&nG (specialIn T (.builtin "object.__class__") "__get__") (.builtin "getset_descriptor.__get__")&&takesIn T (.builtin "object.__class__")==some true&&["str","int"].all λK=>[2,3,4].all λg=>isNotIn T K<|dP g
def Ve{T:Frag}(w:y8 T=true):uF T:=by
 unfold y8 at w;simp only[Bool.and_eq_true]at w;obtain⟨⟨⟨H,W⟩,F⟩,I⟩:=w;have O:∀M,gN M=true->_:=λM J=>gB.mp H M<|L7 J;simp only[Bool.and_eq_true]at O;show⟨λM g J G L=> ?_,λM K J N=> ?_,λM J=>(O M J).1.1.1.2,λM J=>(O M J).1.1.2,λM J=>ow (O M J).1.2,λM J=>by simpa using(O M J).2,ow W,by simpa using F,λK g N G=> ?_⟩
 ·have:=gB.mp (O M J).1.1.1.1.1 g (by rcases G with rfl|rfl|rfl<;>simp);rw[Bool.or_eq_true]at this;rcases this with E|E;·show absurd (by simpa using E) L
  ·show E
 ·show gB.mp (O M J).1.1.1.1.2 K<|by rcases N with rfl|rfl|rfl<;>simp
 ·have:=gB.mp I K (by rcases N with rfl|rfl<;>simp);show gB.mp this g<|by rcases G with rfl|rfl|rfl<;>simp
abbrev pq(T:Frag)(Q:aa)(F:Value):Type:=ah<|∀w:Heap,T.In w->aE [] w Q F
abbrev L8(T:Frag)(F:List aa)(L:List Value):Type:=ah<|∀w:Heap,T.In w->bh [] w F L
def Vf(T:Frag)(F:List aa)(G:∀L,L8 T F L)(H:Addr)(S:Obj):T.lookup H=some S->pq T (.tup F) (.ref H):=Obj.rec (motive:=λS=>T.lookup H=some S->pq T (.tup F) (.ref H)) (λE W J Z=>ah.F1 (Q:=λE=>T.lookup H=some ⟨E,W,J,Z⟩->pq T (.tup F) (.ref H)) (λ_ _=>.dq) E λU=>ah.L1 (Q:=λJ=>T.lookup H=some ⟨.type U,W,J,Z⟩->pq T (.tup F) (.ref H)) (λ_ _=>.dq) J λg O I=>((ah.aA U "tuple").and<|G g.toList).bW λN w X=>.tup ⟨_,X _ _ I,congrArg Value.type N.1,O,rfl⟩<|N.2 w X) S
def L9(T:Frag)(Q:aa):∀O,pq T Q O:=aa.rec (motive_1:=λQ=>∀O,pq T Q O) (motive_2:=λF=>∀L,L8 T F L) (λQ=>ah.U6 (Q:=pq T .none) az Q<|.sZ λ_ _=>.none) (λI Q=>ah.U7 (Q:=pq T<|.bool I) az Q λW=>(ah.aA W I).bW λE _ _=>E▸.bool W) (λJ Q=>ah.U8 (Q:=pq T<|.int J) az Q λK _=>(ah.aA K J).bW λE _ _=>E▸.int _ _) (λG Q=>ah.F4 (Q:=pq T<|.str G) az Q λU _=>(ah.aA U G).bW λE _ _=>E▸.str _ _) (λF S Q=>ah.F2 (Q:=pq T<|.tup F) az Q λH=>ah.iv az (tc T H) λX=>Vf T F S H X.1 X.2) (λ_ _ _=>.dq) (λ_ _=>.dq) (λ_ _ _=>.dq) (λL=>ah.gG az L<|.sZ λ_ _=>.nil) (λQ F N R L=>ah.ou az L λg L=>((N g).and<|R L).bW λN w P=>.cons (N.1 w P)<|N.2 w P) Q
noncomputable def j5(T:Frag)(H:Addr):Bool:=(T.lookup H).elim false λS=>S.data.ctorIdx==3&&(if w:S.data.ctorIdx=3then Data.dict.elim (motive:=λ_=>List DictEntry) S.data w λU _=>U.toList else []).all λE=>E.key.ctorIdx==6
def wL{T:Frag}(X:T.In h)(N:j5 T k=true):∃F,h.Ns k F/\∀G Q,nsIn T k G=some Q->F G=Q:=by
 rcases L:T.lookup k with _|S;·rw[j5,L]at N;show Bool.noConfusion N
 ·obtain⟨M,Y,P,w⟩:=S;rw[j5,L]at N;obtain⟨V,K⟩:=iG.mp<|show(_&&_)=true from N;clear N;show pV (show∃H O,P=.dict H O from Data.dict.elim (motive:=λY=>∃H O,Y=.dict H O) P (eq_of_beq V) λH O=>⟨H,O,rfl⟩) ?_;clear V;rintro H O rfl;show aX (nsFind H) (mE _ H O (X _ _ L) rfl (λE I=>Value.str.elim (motive:=λQ=>∃G U,Q=.str G U) E.key (eq_of_beq<|gB.mp K E<|Au.mpr I) λG U=>qR G U rfl) λ_=>rfl) λG Q E=> ?_;unfold nsIn at E;rw[L]at E;dsimp only at E;obtain J:nsFind H G=(H.toList.find? (·.key.isStr G)).map (·.val):=by show congrArg _ ae9.symm
  show J.trans ?_;induction g:H.toList.find? (·.key.isStr G)with|some R=>rw[g]at E;obtain rfl:=bO E;rfl|none=>
  rw[g]at E;dsimp only at E;split at E;·show bQ E
  ·obtain rfl:=bO E;rfl
def y9(T:Frag):Bool:=j5 T mainGlobals&&j5 T builtinsNs&&j5 T cStatics&&nsIn T cStatics "sys.recursionlimit"==some none&&(T.lookup sysModules).isSome&&(Bm.zip aw.p).all (λX=>(nsIn T mainGlobals X.1).elim false λQ=>Q.elim false λF=>(L9 T X.2 F).1)&&(List.range og.length).all (λW=>(og[W]?).elim true λG=>(G.cps.toList.contains 46||nG (nsIn T mainGlobals G) (.ref<|kS W))&&keepIn T (.ref<|kS W))&&(List.range 9).all (λM=>(q0[M]?).elim true λG=>nG (nsIn T mainGlobals G) (.ref<|dP M)&&keepIn T (.ref<|dP M))&&yL.all λG=>nsIn T mainGlobals G==some none&&nsIn T builtinsNs G==some (bootBuiltins G)
def F5{d:Program}{R:World}{T:Frag}(X:T.In h)(H:y0 T=true)(P:y8 T=true)(Z:y9 T=true):Bn d R h T kS:=by
 unfold y9 at Z;simp only[Bool.and_eq_true]at Z;obtain⟨⟨⟨⟨⟨⟨⟨⟨k,l⟩,K⟩,n⟩,o⟩,q⟩,r⟩,s⟩,U⟩:=Z;show aB (wL X k) λm j c=> ?_;show aB (wL X l) λf i e=> ?_;show aB (wL X K) λJ p I=> ?_;show⟨Vd H,Ve P,X, ?_,⟨J,p,I _ _<|by simpa using n⟩,Qk m f j i (λO G Q V Y=> ?_) (λW G b a=> ?_) (λM G w=> ?_) λG Q h N=> ?_,λW G b=> ?_,λM G w=> ?_⟩;·obtain⟨S,L⟩:=xW.mp o;rw[X _ _ L];rfl
 ·have:=gB.mp q _<|jC (by show afd.mpr ⟨V,Y⟩:(Bm.zip aw.p)[O]?=some (G,Q));generalize E:nsIn T mainGlobals G=S at this;rcases S with-|-|F;·show Bool.noConfusion this
  ·show Bool.noConfusion this
  ·show⟨F,c _ _ E,(L9 T Q F).2 this h X⟩
 ·have:=gB.mp r W<|su.mpr (eD.mp b).1;rw[b]at this;obtain this:=iG.mp<|show(_&&_)=true from this;rcases afe.mp this.1with E|E;·rw[a]at E;show Bool.noConfusion E
  ·show c _ _<|ow E
 ·have:=gB.mp s M<|su.mpr (eD.mp w).1;rw[w]at this;show c _ _<|ow (iG.mp<|show(_&&_)=true from this).1
 ·have:=gB.mp U G N;simp only[Bool.and_eq_true,beq_iff_eq]at this;show⟨c _ _ this.1,(e _ _ this.2).trans h⟩
 ·have:=gB.mp r W<|su.mpr (eD.mp b).1;rw[b]at this;show(iG.mp<|show(_&&_)=true from this).2
 ·have:=gB.mp s M<|su.mpr (eD.mp w).1;rw[w]at this;show(iG.mp<|show(_&&_)=true from this).2
def F6(T:Frag):Bool:=(List.range aw.T.length).all λW=>(aw.T[W]?).elim true λg=>(yY T (kS W) (BV W) g).1
def Vg{T:Frag}(w:F6 T=true):L6 T kS BV:=λW g E=>by have:=gB.mp w W<|su.mpr (eD.mp E).1;obtain this:=E▸this;show this
end
end
noncomputable section
noncomputable def mK:Addr:=119
noncomputable def nH:Addr:=117
noncomputable def td:Addr:=116
noncomputable def uS:Addr:=104
noncomputable def kU:List Value:=[.type "Exception",.type "BaseException",.type "object"]
noncomputable def ry:Str:="/claim/cut.py"
noncomputable def F7:List Str:=["self","number","told"]
def Vh(S:Obj):ah<|∃H Y N P M Q L Z K V I F E,S=excClassObj H Y fK mK N kU true P M Q L Z K V I F E "Exception.__new__":=Obj.rec (λU Z R w=>ah.F1 az U λU=>ah.U3 az R λG=>ClassData.rec (λH N a T Y g P M Q L X=>Array.rec (λw=>ah.ou az w λK w=>ah.ou az w λV w=>ah.ou az w λI w=>ah.ou az w λF w=>ah.mJ az w λJ E=>ah.iv az J λJ=>ah.U5 az J λO=>((ah.aA U "type").and<|(ah.aA O "Exception.__new__").and<|(ah.aA a<|.ref fK::kU).and<|(ah.du g).and<|(ah.aA X false).and<|ah.aA T mK).bW λW=>⟨H,Y,N,P,M,Q,L,Z,K,V,I,F,E,by rw[W.1,W.2.1,W.2.2.1,W.2.2.2.1,W.2.2.2.2.1,W.2.2.2.2.2]⟩) w) G) S
def Ma(T:Frag):ah<|∀w:Heap,T.In w->∃H Y N M K O L Z J V g F I,w.get? fK=some (excClassObj H Y fK mK N kU true M K O L Z J V g F I "Exception.__new__"):=ah.iv az (tc T fK) λG=>(Vh G.1).bW λY w X=>by obtain⟨H,Q,N,M,K,O,L,Z,J,V,g,F,I,E⟩:=Y;show⟨H,Q,N,M,K,O,L,Z,J,V,g,F,I,E▸X _ _ G.2⟩
noncomputable def Mb(O:Nat->Str)(W G E U F w:Pos)(V:Nat)(Q H N L Z R I g:Pos):List PySem.Stmt:=[.Expr (.Call (.Attribute (.Call (.Name (O 0) W) [] [] G) (O 1) E) [.Constant (.str<|O 2) V U] [] F) w,.Assign [.Attribute (.Name (O 3) Q) (O 4) H] (.Name (O 5) N) L,.Assign [.Attribute (.Name (O 6) Z) (O 7) R] (.Name (O 8) I) g]
noncomputable def Vi(O:Nat):Str:=(["super","__init__","error","self","number","number","self","told","told"]:List Str).getD O ""
def Mc(I:List PySem.Stmt):Prop:=∃W G E U F w V Q H N L Z R O g,(E.endLine==F.line)=true/\I=Mb Vi W G E U F w V Q H N L Z R O g
def Vj(I:List PySem.Stmt):ah<|Mc I:=ah.ou az I λJ I=>ah.mJ az I λd o=>ah.LS az J λE i=>ah.mI az E λW U S h=>ah.gf az U λH=>ah.gG az S<|ah.ot az W λK p e=>ah.mI az K λK l q b=>ah.gG az l<|ah.gG az q<|ah.gd az K λr c=>ah.nE az H λM V f=>ah.BQ az M λG=>ah.yV az d λk X L=>ah.gf az k λk=>ah.ot az k λk a P=>ah.gd az k λJ Q=>ah.gd az X λT N=>ah.yV az o λY n m=>ah.gf az Y λY=>ah.ot az Y λY g R=>ah.gd az Y λd Z=>ah.gd az n λX j=>((ah.du<|e.endLine==h.line).and<|ah.aA [r,p,G,J,a,T,d,g,X] ["super","__init__","error","self","number","number","self","told","told"]).bW λw=>⟨c,b,e,f,h,i,V,Q,P,N,L,Z,R,j,m,w.1,congrArg (λF:List Str=>Mb (λO=>F.getD O "") c b e f h i V Q P N L Z R j m) w.2⟩
noncomputable def F8(Z:Scope):Bool:=Z.kind==.function&& !Z.isGenerator&& !Z.isCoroutine&&Z.names.all (λG=>G.2 !=.cell)&&Z.names.lookup ("self":Str)==some .local&&Z.names.lookup ("number":Str)==some .local&&Z.names.lookup ("told":Str)==some .local&&Z.names.lookup ("super":Str)==some .globalImplicit&&Z.names.lookup ("__class__":Str)==some .free
structure Md(Z:Scope):Prop where
eO:Z.kind=.function
FI:Z.isGenerator=false
n:Z.isCoroutine=false
B:∀G∈Z.names,G.2≠.cell
wG:Z.names.lookup ("self":Str)=some .local
Me:Z.names.lookup ("number":Str)=some .local
Mf:Z.names.lookup ("told":Str)=some .local
Mg:Z.names.lookup ("super":Str)=some .globalImplicit
oo:Z.names.lookup ("__class__":Str)=some .free
def Vk{Z:Scope}(N:F8 Z=true):Md Z:=by unfold F8 at N;simp only[Bool.and_eq_true,beq_iff_eq,Bool.not_eq_true']at N;obtain⟨⟨⟨⟨⟨⟨⟨⟨H,W⟩,g⟩,E⟩,w⟩,L⟩,U⟩,T⟩,Y⟩:=N;show⟨H,W,g,λG V=>by simpa using gB.mp E G V,w,L,U,T,Y⟩
structure wM(w:Heap)(N:FuncData)(L:List PySem.Stmt):Prop where
a:∃Y g,w.get? nH=some ⟨.type "function",Y,.func N,g⟩
BJ:N.code=.ref td
Mh:w.CodeRec N.code N.qualname
BK:N.closure=[(("__class__":Str),uS)]
bE:N.globals=mainGlobals
sR:N.builtins=builtinsNs
yR:sY N.params=true
F9:N.params.args.map (·.arg)=F7
BL:∃K S E O,N.defaults=.ref K/\w.get? K=some S/\S.data=.seq E O/\E.size=1
t:Md N.scope
Mi:N.body=.stmts L
Mj:Mc L
def Vl(T:Frag)(Q:Value):ah<|∀w:Heap,T.In w->∃K S N O,Q=.ref K/\w.get? K=some S/\S.data=.seq N O/\N.size=1:=ah.F2 az Q λK=>ah.iv az (tc T K) λ⟨S,L⟩=>Obj.rec (motive:=λS=>T.lookup K=some S->ah (∀w:Heap,T.In w->∃F S N O,Value.ref K=.ref F/\w.get? F=some S/\S.data=.seq N O/\N.size=1)) (λ_ _ g _=>ah.L1 (λ_ _=>.dq) g λN O L=>(ah.aA N.size 1).bW λE w X=>⟨K,_,N,O,rfl,X _ _ L,rfl,E⟩) S L
def Mk(T:Frag):ah<|∀w:Heap,T.In w->∃N E,wM w N E:=ah.iv az (tc T nH) λ⟨S,L⟩=>Obj.rec (motive:=λS=>T.lookup nH=some S->ah (∀w:Heap,T.In w->∃N E,wM w N E)) (λU Y F g=>ah.F1 (λ_ _=>.dq) U λU=>ah.L2 (λ_ _=>.dq) F λN L=>ah.iv az (L5 N.body) λ⟨E,Q⟩=>((ah.aA U "function").and<|(ah.aA N.code<|.ref td).and<|(L4 T N.code N.qualname).and<|(ah.aA N.closure [(("__class__":Str),uS)]).and<|(ah.aA N.globals mainGlobals).and<|(ah.aA N.builtins builtinsNs).and<|(ah.du<|sY N.params).and<|(ah.aA (N.params.args.map (·.arg)) F7).and<|(Vl T N.defaults).and<|(ah.du<|F8 N.scope).and<|Vj E).bW λW w X=>⟨N,E,⟨Y,g,W.1▸X _ _ L⟩,W.2.1,W.2.2.1 w X,W.2.2.2.1,W.2.2.2.2.1,W.2.2.2.2.2.1,W.2.2.2.2.2.2.1,W.2.2.2.2.2.2.2.1,W.2.2.2.2.2.2.2.2.1 w X,Vk W.2.2.2.2.2.2.2.2.2.1,Q,W.2.2.2.2.2.2.2.2.2.2⟩) S L
def Ml(T:Frag):ah<|∀w:Heap,T.In w->∃F Y U,w.get? td=some F/\F.data=.fields Y/\Y[2]?=some (.str ry U):=ah.iv az (tc T td) λ⟨S,L⟩=>Obj.rec (motive:=λS=>T.lookup td=some S->ah (∀w:Heap,T.In w->∃F Y U,w.get? td=some F/\F.data=.fields Y/\Y[2]?=some (.str ry U))) (λ_ _ g _=>ah.L3 (λ_ _=>.dq) g λY L=>ah.iv (Q:=λR=>Y[2]?=R->ah _) (λ_ _=>.dq) (Y[2]?:Option Value) (λQ=>ah.F4 (Q:=λQ=>Y[2]?=some Q->ah _) (λ_ _=>.dq) Q λG U E=>(ah.aA G ry).bW λN w X=>⟨_,Y,U,X _ _ L,rfl,N▸E⟩) rfl) S L
def Mm(T:Frag):ah<|∀w:Heap,T.In w->w.IsCell uS (some<|.ref fK):=ah.iv az (tc T uS) λ⟨S,L⟩=>Obj.rec (motive:=λS=>T.lookup uS=some S->ah (∀w:Heap,T.In w->w.IsCell uS (some<|.ref fK))) (λ_ _ g _=>ah.U4 (λ_ _=>.dq) g λQ=>ah.iv (λ_ _=>.dq) Q λQ L=>(ah.aA Q<|.ref fK).bW λN w X=>N▸⟨_,X _ _ L,rfl⟩) S L
def rA(T:Frag):Bool:=(Ma T).1&&(Mk T).1&&(Ml T).1&&(Mm T).1&&j5 T mK&&nG (nsIn T mK "__init__") (.ref nH)&&nsIn T mK "__setattr__"==some none&&nsIn T mK "number"==some none&&nsIn T mK "told"==some none&&nsIn T mK "__getattribute__"==some none&&nsIn T mK "__getattr__"==some none&&mroIn T fK (.ref fK)==some true&&nsIn T cStatics "thirdparty.any"==some none&&nsIn T mainGlobals "super"==some none&&nG (nsIn T builtinsNs "super") (.type "super")&&nsIn T mainGlobals pk==some (some<|.ref fK)&&nG (alongIn T "__init__" kU) (.builtin "Exception.__init__")
end
noncomputable def qk(G:Addr):Obj:={cls:=.type "method-wrapper",data:=.fields #[.builtin "Exception.__init__",.ref G]}
def Ga:Slot "wrapper_descriptor" "__get__" "wrapper_descriptor.__get__":=.of (owner:="wrapper_descriptor") (n:="__get__") (by kernel_rfl) (by decide+kernel) (by decide+kernel) (by decide+kernel) (by first|show .inl<|by decide+kernel|show .inr<|by decide+kernel)<|by kernel_rfl
def Mn:entryFor table "wrapper_descriptor.__get__"=some Builtin.«wrapper_descriptor.__get__»:=entryFor_of_tree<|by kernel_rfl
theorem Mo(H I M:Value):argsOk "wrapper_descriptor.__get__" ⟨[H,I,M],[]⟩:=by kernel_rfl
theorem Vm:typeOf (.builtin "Exception.__init__")=pure (.type "wrapper_descriptor"):=by kernel_rfl
section
variable{T:Program}{WM:World}{WU:Model}{X:Around}{WT:Value->Shared->Prop}{G:Heap}{J:Array GenState}{K:Drawn}{L:Nat}{I:OsState}
variable{N WS:Str}{E V H:Addr}{U:List Value}{M:Bool}{Y:List Str}{O:List Value}{WQ:Bool}{R:Option Bool}{WR:Option Addr}{S WO Z WN Q:Option Value}{WL:String}
def Mp{F:Obj}{P:Fin->Shared->Prop}(g:G.get? E=some (excClassObj N WS E V U kU M Y O WQ R WR S WO Z WN Q WL))(w:G.get? H=some F)(W:F.cls=.ref E) (T:P (.done<|.ret<|.ref G.objs.size) ⟨G.push<|qk H,J,K,L,I⟩):wpAny WU X (Builtin.«wrapper_descriptor.__get__» ⟨[.builtin "Exception.__init__",.ref H,.ref E],[]⟩) P WT ⟨G,J,K,L,I⟩:=by
 show b0<|wpAny_of_eq (a:=(.builtin "Exception.__init__",some<|.ref H,some<|.ref E)) (by first|rfl|kernel_rfl) ?_;repeat(first|(with_reducible show pN w ?_;simp only[W])|with_reducible show pN g ?_|(with_reducible show wpAny_isSubtype_exc g ?_)|wp_step)
 all_goals show T
noncomputable abbrev Mq(H E:Addr):Obj:={cls:=.type "super",dict:=none,data:=.fields #[.ref E,.ref H,.ref E],slots:=#[]}
set_option maxHeartbeats 400000in theorem Vn {F:Obj} {w:Frag} {e:Tok} {b:Fin->Shared->Prop} (m:G.get? k=some (Mq H E)) (l:Looks (model T WM) G (opaqueClassAbove<|.ref E) none) (g:G.get? E=some (excClassObj N WS E V U kU M Y O WQ R WR S WO Z WN Q WL)) (P:G.get? H=some F) (j:F.cls=.ref E) (a:w.In G) (c:alongIn w "__init__" kU=some (some<|.builtin "Exception.__init__")) (i:H≠E) (d:b (.done<|.ret<|.ref G.objs.size) ⟨G.push<|qk H,J,K,L,I⟩):wpAny (model T WM) X (Builtin.«super.__getattribute__» ⟨[.ref k,.str "__init__" e],[]⟩) b WT ⟨G,J,K,L,I⟩:=by
 have f:(Value.ref H==Value.ref E)=false:=by simp[i]
 obtain h:(⟨G,J,K,L,I⟩:Shared).TypeIs (.builtin "Exception.__init__") "wrapper_descriptor":=Vm;obtain W:((Value.ref E::kU).dropWhile (· !=.ref E)).drop 1=kU:=by rw[List.dropWhile_cons_of_neg<|by simp];rfl
 unfold Builtin.«super.__getattribute__»;iterate 22 (first|(with_reducible show Az m rfl (rfl:(#[.ref E,.ref H,.ref E]:Array Value)[0]?=some (.ref E)) ?_)|(with_reducible show Az m rfl (rfl:(#[.ref E,.ref H,.ref E]:Array Value)[1]?=some (.ref H)) ?_)|(with_reducible show Az m rfl (rfl:(#[.ref E,.ref H,.ref E]:Array Value)[2]?=some (.ref E)) ?_)|(with_reducible show ks_wpAny_notOpaque l ?_)|(with_reducible show wpAny_mroOf_exc g ?_;rw[W])|(show ks_forIn_along a (λ_ _=>rfl) rfl ?_ c)|(with_reducible show wpAny_typeOf h ?_)|(with_reducible show IZ Ga h Mn ?_<|Mo _ _ _)|(show Mp g P j ?_)|(with_reducible show fS _ rfl ?_)|(simp only[f])|wp_step|dsimp only)
 show b0 ?_;show ks_forIn_along (v:=.builtin "Exception.__init__") a (k:= ?k) (λ_ _=>rfl) ?h1 ?h2 c;case h1=>rfl
 case h2=>show b0<|wpAny_typeOf h ?_;show b0<|wpAny_of_eq Ga.lookup ?_;show b0<|qJ<|IZ Ga h Mn (Mp g P j<|aX _ rfl ?_)<|Mo _ _ _;show b0<|eM<|eM ?_;show eM d
def Vo{l:Obj}{P:Frag}{F:Sem Bool}{e:Value×List Value->Shared->Prop}(q:G.get? k=some (Mq H E))(p:Looks (model T WM) G (opaqueClassAbove<|.ref E) none) (g:G.get? E=some (excClassObj N WS E V U kU M Y O WQ R WR S WO Z WN Q WL))(W:G.get? H=some l)(n:l.cls=.ref E)(b:P.In G) (f:alongIn P "__init__" kU=some (some<|.builtin "Exception.__init__"))(m:H≠E) (h:e (.ref G.objs.size,[]) ⟨G.push<|qk H,J,K,L+1,I⟩):wpAny (model T WM) X (getMethod (.ref k) "__init__" F) e WT ⟨G,J,K,L,I⟩:=by have o:=PySem.F.ks_slot_super_ga.lookup;obtain i:∀j,(⟨G,J,K,j,I⟩:Shared).TypeIs (.ref k) "super":=λ_=>aX _ q rfl;show b0<|wpAny_specialOf (i _) o ?_;show b0<|b0<|wpAny_mkText<|qJ<|b0<|wpAny_typeOf (i _)<|b0<|wpAny_of_eq o ?_;show b0<|wpAny_of_eq (show(if onTheHeap<|.type "super"then typeLookup (.type "super") "__getattr__"else pure none)=pure none from rfl) ?_;show b0<|wpAny_attempt<|qJ ?_;show wpAny_mono (Q:=λw c=>w=.ref G.objs.size/\c=⟨G.push<|qk H,J,K,L+1,I⟩) (E:=λ_ _=>False) (IZ PySem.F.ks_slot_super_ga (i _) PySem.F.ks_entry_super_ga (Vn q p g W n b f m<|cO _ rfl rfl rfl)<|PySem.F.ks_gaArgs_super _ _) (λw c a=> ?_) λ_ _ d=>d.elim;obtain⟨rfl,rfl⟩:=a;show eM<|eM h
def Vp{F:Obj}(g:G.get? E=some (excClassObj N WS E V U kU M Y O WQ R WR S WO Z WN Q WL))(w:G.get? H=some F)(T:F.cls=.ref E)(P:t () ⟨G,J,K,L,I⟩):wpAny WU X (checkBoundCall "Exception.__init__" ⟨[.ref H,d],[]⟩) t WT ⟨G,J,K,L,I⟩:=by
 unfold checkBoundCall;show KFB.if_so rfl ?_;repeat(first|(with_reducible show pN w ?_;rw[T])|with_reducible show pN g ?_|wp_step)
 show P
noncomputable abbrev wN(E Y:Addr):Obj:={cls:=.ref E,data:=.fields #[.ref Y,.none,.none,.none,.bool false,.none]}
def Vq{P:Addr}(g:G.get? E=some (excClassObj N WS E V U kU M Y O WQ R WR S WO Z WN Q WL))(a:G.get? P=some (qk H))(c:G.get? H=some (wN E k)) (h:∀f F,f.get? H=some (wN E F)->(∀P W,P≠H->G.get? P=some W->f.get? P=some W)->b .none ⟨f,J,K,L,I⟩):wpAny (model T WM) X (call (.ref P) [d]) b WT ⟨G,J,K,L,I⟩:=by show wpAny_call<|codeAny_of_tree ?_;have w:(G.push {cls:=.type "tuple",data:=.seq #[d]}).get? H=some (wN E k):=ki _ c;show b0<|wpAny_load a ?_;show b0<|Vp g c rfl ?_;show b0<|eM<|eM ?_;show⟨Code.quiet_builtin _<|by decide+kernel,codeAny_builtin PySem.F.excCall_Exception.initEntry ?_⟩;change wpAny _ _ (Builtin.«BaseException.__init__» ⟨[.ref H,d],[]⟩) _ _ _;wp_walk;show h _ G.objs.size (t6 _ w rfl) λP W i e=> ?_;show(lk _ _<|Ne.symm i).trans<|ki _ e
end
section
variable{J:Program}{N:World}{K:Model}{M:Around}{L:Value->Shared->Prop}{G:Shared}{E:FuncData}{H:List PySem.Stmt}{I:Frag}
def Mr{F:List Arg}(w:F.map (·.arg)=F7):∃H I M,F=[H,I,M]/\H.arg="self"/\I.arg="number"/\M.arg="told":=by
 rcases F with-|⟨H,-|⟨I,-|⟨M,-|⟨Y,F⟩⟩⟩⟩;·show nomatch w
 ·show nomatch(m7 w).2
 ·show nomatch(m7 (m7 w).2).2
 ·obtain W:=(m7 w).2;show mE H I M rfl (m7 w).1 (m7 W).1 (m7 (m7 W).2).1
 ·show nomatch(m7 (m7 (m7 w).2).2).2
def Vr(X:wM G.heap E H)(P U Y:Value):BindsTo G E ⟨[P,U,Y],[]⟩ [("self",P),("number",U),("told",Y)]:=by obtain⟨Z,z,⟨k,q,T,W,l,s,F⟩,D,f,y,m,x,p,J,t,e,r,v,u⟩:=E;show A4 X.BL λK S N O c L w j=> ?_;show lP (Mr X.F9) λV I M b g R d=> ?_;obtain a:=X.yR;clear X;obtain⟨B,A,C⟩:=V;obtain⟨Q,XN,XO⟩:=I;obtain⟨XQ,XR,XS⟩:=M;obtain⟨N⟩:=N;show lM (afb.mp j) ?_;rintro i rfl;simp only[sY,Bool.and_eq_true,List.isEmpty_iff,Option.isNone_iff_eq_none]at a;obtain⟨⟨⟨h,rfl⟩,rfl⟩,rfl⟩:=a;rw[h];dsimp only at c b g R d j;subst b g R d;show BindsTo.of_defaults (o:=S) (items:=#[i]) (n:=O) c L w rfl rfl
end
section
open Builtin Builtin.ObjectAttr
variable{WL:Program}{WS:World}{WN:Around}{W0:Value->Shared->Prop}{G:Heap}{O:Array GenState}{Q:Drawn}{WW:Nat}{N:OsState}
variable{U WZ:Str}{J M H:Addr}{WM:List Value}{WO:List Str}{V:List Value}{WV:Bool}{X:Option Bool}{WY:Option Addr}{Z WU WQ WT Y:Option Value}{WR:String} {K:Str->Option Value}{I:Str}{L:Value}{E:Obj}{S T WX:String}{R:List Value}
theorem Vs{tk:Tok}{W7:Fin->Shared->Prop}(SF:StoreFacts S R T WX)(hC:G.get? J=some (excClassObj U WZ J M WM R true WO V WV X WY Z WU WQ WT Y WR))(hn:G.Ns M K)(hna:K I=none)(hB:typeLookup (.type S) I=pure none) (hx:G.get? H=some E)(hc:E.cls=.ref J)(hnc:∀c,E.data≠.cls c)(hdn:E.dict=none) (hq:∀h' tk',h'.get? H=some {cls:=E.cls,dict:=some G.objs.size,data:=E.data,slots:=E.slots}->h'.Ns1 G.objs.size (λy=>if y=I then some L else none)->(∀b ob,b≠H->G.get? b=some ob->h'.get? b=some ob)->W7 (.done<|.ret .none) ⟨h',O,Q,tk',N⟩):wpAny (model WL WS) WN (Builtin.«object.__setattr__» ⟨[.ref H,.str I tk,L],[]⟩) W7 W0 ⟨G,O,Q,WW,N⟩:=by
 repeat(first|rw[refuse_eq]|(rw[refuseLoop_ref,SF.passes<|.ref H])|(with_reducible show pN hx ?_;rw[hc])|with_reducible show wpAny_mroOf_exc hC ?_|(with_reducible show D4 hC hn SF.mro hB ?_;rw[hna])|wp_step)
 rw[hdn,if_neg<|by simp[typeHasDict]];split;·rename_i hcd;show bQ hcd
 split;·rename_i c hcd;show absurd hcd<|hnc c
 ·have hx₁:(G.push {cls:=.type "dict",data:=.dict #[]}).get? H=some E:=ki _ hx;show b0<|wpAny_alloc' ?_;show b0<|wpAny_update' hx₁ ?_;show eM ?_;obtain hgd:((G.push {cls:=.type "dict",data:=.dict #[]}).update H λE=>{cls:=E.cls,dict:=some G.objs.size,data:=E.data,slots:=E.slots}).get? G.objs.size=some {cls:=.type "dict",data:=.dict #[]}:=(Heap.get?_update_ne _ _ _ _ (gL<|kj hx).symm).trans<|Heap.get?_push_at rfl rfl;obtain hnd:((G.push {cls:=.type "dict",data:=.dict #[]}).update H λE=>{cls:=E.cls,dict:=some G.objs.size,data:=E.data,slots:=E.slots}).Ns G.objs.size λ_=>none:=mE _ (#[]) _ hgd rfl λe he=>absurd he<|by simp λ_=>rfl;show b0<|eM<|b0<|wpAny_nsSet1 (Heap.Ns1.of_empty hnd) λh' hn' hs=> ?_;show wg (hn'.count<|Within.cons I L Within.nil) λoD esD epD hoD hdD hcD=> ?_;show b0<|wpAny_lookBehind hoD (hdD▸pastItsLine_dict (aq hcD aR)) ?_;wp_walk;show hq h' _ ?_ hn' λb ob hbx hb=>(hs.2 b<|gL<|kj hb).trans<|(Heap.get?_update_ne _ _ _ _ hbx).trans<|ki _ hb;show(hs.2 H<|gL<|kj hx).trans<|t6 _ hx₁ ?_;obtain⟨oc,od,odt,osl⟩:=E;clear hc;clear hdn;clear hnc;clear hq;clear hx₁;induction odt<;>first|rfl|show(Heap.get?_some_iff.mp hx).2
def Vt(q:StoreFacts S R T WX)(g:G.get? J=some (excClassObj U WZ J M WM R true WO V WV X WY Z WU WQ WT Y WR))(c:G.Ns M K)(n:K "__setattr__"=none)(p:K I=none)(k:typeLookup (.type S) I=pure none) (b:G.get? H=some E)(w:E.cls=.ref J)(r:∀P,E.data≠.cls P)(o:E.dict=none) (e:∀d s,d.get? H=some {cls:=E.cls,dict:=some G.objs.size,data:=E.data,slots:=E.slots}->d.Ns1 G.objs.size (λa=>if a=I then some L else none)->(∀F l,F≠H->G.get? F=some l->d.get? F=some l)->t () ⟨d,O,Q,s,N⟩):wpAny (model WL WS) WN (setAttr (.ref H) I L) t W0 ⟨G,O,Q,WW,N⟩:=by
 obtain m:=q.slot.bind<|.ref H;repeat(any_goals(first|assumption|(with_reducible show pN b ?_;rw[w])|(with_reducible show D4 g c q.mro q.slot.lookup ?_;rw[n])|wp_step))
 show(by intro _ _ _ _ _ _ _ _ _ _ _ _ _ _ _ _ _ _ _ _ _ _ _ _ _ _ _ _ _ _ _ _ _ _ _ q g c p k b w r o e;show PQ q.slot.plain q.entry (wpAny_check_sa q g b w<|Vs q g c p k b w r o e):∀{WL:Program}{WS:World}{WN:Around}{G:Heap}{O:Array GenState}{Q:Drawn}{WW:Nat}{N:OsState}{U WZ:Str}{J M H:Addr}{WM:List Value}{WO:List Str}{V:List Value}{WV:Bool}{X:Option Bool}{WY:Option Addr}{Z WU WQ WT Y:Option Value}{WR:String}{K:Str->Option Value}{I:Str}{L:Value}{E:Obj}{S T WX:String}{R:List Value}{f:Tok}{W:Result->Shared->Prop}(q:StoreFacts S R T WX)(g:G.get? J=some (excClassObj U WZ J M WM R true WO V WV X WY Z WU WQ WT Y WR))(c:G.Ns M K)(p:K I=none)(k:typeLookup (.type S) I=pure none)(b:G.get? H=some E)(w:E.cls=.ref J)(r:∀P,E.data≠.cls P)(o:E.dict=none)(e:∀d s,d.get? H=some {cls:=E.cls,dict:=some G.objs.size,data:=E.data,slots:=E.slots}->d.Ns1 G.objs.size (λa=>if a=I then some L else none)->(∀F l,F≠H->G.get? F=some l->d.get? F=some l)->W (.ok<|.ret .none) ⟨d,O,Q,s,N⟩),codeAny (model WL WS) WN (.call (.builtin T) ⟨[.ref H,.str I f,L],[]⟩) W ⟨G,O,Q,WW,N⟩) q g c p k b w r o λd s h i j=> ?_;repeat(any_goals(first|assumption|wp_step))
 show e d s h i j
end
inductive Vu(w:Heap):Prop|mk {H Y N K J M L Z I V g F G} (E:w.get? fK=some (excClassObj H Y fK mK N kU true K J M L Z I V g F G "Exception.__new__"))
inductive Vv(w:Heap):Prop|mk (K:Str->Option Value) (H:w.Ns mK K) (I:K "__init__"=some (.ref nH)) (M:K "__setattr__"=none) (Y:K "number"=none) (E:K "told"=none) (W:K "__getattribute__"=none) (O:K "__getattr__"=none)
inductive Vw(w:Heap):Prop|mk (F O:Str->Option Value) (H:w.Ns mainGlobals F) (I:w.Ns builtinsNs O) (M:F "super"=none) (Y:O "super"=some (.type "super")) (E:F pk=some (.ref fK))
structure Ms(T:Frag)(w:Heap):Prop where
X:T.In w
oo:Vu w
qf:Vv w
Mt:∃N L,wM w N L
Vx:∃g Y U,w.get? td=some g/\g.data=.fields Y/\Y[2]?=some (.str ry U)
B:w.IsCell uS<|some<|.ref fK
cg:mroIn T fK (.ref fK)=some true
Vy:nsIn T cStatics "thirdparty.any"=some none
Vz:alongIn T "__init__" kU=some (some<|.builtin "Exception.__init__")
Gb:Vw w
def rB{T:Frag}(X:T.In h)(I:j5 T mainGlobals=true)(g:j5 T builtinsNs=true)(N:rA T=true):Ms T h:=by unfold rA at N;show aB (wL X I) λF M S=> ?_;simp only[Bool.and_eq_true,beq_iff_eq]at N;obtain⟨⟨⟨⟨⟨⟨⟨⟨⟨⟨⟨⟨⟨⟨⟨⟨E,J⟩,K⟩,Q⟩,V⟩,W⟩,a⟩,b⟩,U⟩,G⟩,j⟩,c⟩,d⟩,e⟩,f⟩,w⟩,i⟩:=N;show aB (wL X V) λP Y H=> ?_;show aB (wL X g) λO L R=> ?_;obtain⟨_,_,_,_,_,_,_,_,_,_,_,_,_,Z⟩:=(Ma T).2 E h X;show⟨X,⟨Z⟩,⟨P,Y,H _ _<|ow W,H _ _ a,H _ _ b,H _ _ U,H _ _ G,H _ _ j⟩,(Mk T).2 J h X,(Ml T).2 K h X,(Mm T).2 Q h X,c,d,ow i,⟨F,O,M,L,S _ _ e,R _ _<|ow f,S _ _ w⟩⟩
theorem Mu:typeLookup (.type "Exception") "number"=pure none:=by kernel_rfl
theorem VA:typeLookup (.type "Exception") "told"=pure none:=by kernel_rfl
section
variable{H:Program}{K:World}{J:Model}{I:Around}{L:Value->Shared->Prop}{E:Shared}{G:Frag}
def VB{K:Env}{E:Str}{Y:Pos}(g:(z.endLine==i.line)=true):eval (.Call (.Attribute c j z) [.Constant (.str E) a Y] [] i) K=(do let w<-attributeBase c j K<|eval c K;standAt z.atName let(W,M)<-holding [w]<|getMethod w j (do return(<-importBound c K).getD true);callWith i W M (backTo i<|starEach [.Constant (.str E) a Y] K) []):=by rw[arm_eval_Call];unfold methodCall;delta calleeOf methodCallPos;rw[g];rfl
def VC{r:FuncData}{q:List PySem.Stmt}{T y:Addr}{t s u v:Pos}{l:Flow->Shared->Prop}(e:(i.endLine==u.line)=true)(R:Ms G E.heap)(M:wM E.heap r q)(B:H.main.file=ry)(X:(H.main.scope.names.lookup ("super":Str)).isSome=false) (x:E.heap.Ns T C)(h:C "self"=some (.ref k))(V:E.heap.get? k=some (wN fK y))(A:k≠fK) (n:∀m p b,m.get? k=some (wN fK b)->(∀c S,c≠k->E.heap.get? c=some S->m.get? c=some S)->l .next {E with heap:=m,toks:=p}):_root_.PySem.wpAt (model H K) I (.func q<|callEnv r T nH) (exec (.Expr (.Call (.Attribute (.Call (.Name "super" t) [] [] s) "__init__" i) [.Constant (.str "error") a z] [] u) v)<|callEnv r T nH) l L E:=by
 obtain⟨W,X7,X8,X9,Yb⟩:=E;obtain⟨o⟩:=R.oo;show wg R.Vx λYc XN XO XQ XR XS=> ?_;obtain⟨F,O,XT,XU,XW,XX,Yd⟩:=R.Gb;show pV M.a λYe Yg XY=> ?_;show lP (Mr M.F9) λb c XZ X0 g Yh Yi=> ?_;obtain X2:r.params.posonlyargs=[]:=by have:=M.yR;unfold sY at this;simp only[Bool.and_eq_true,List.isEmpty_iff]at this;show this.1.1.1
 show ks_wpAt_Expr_any (ks_wpAt_MethodCall ?_<|VB e) (by unfold interactive;rw[show(callEnv r T nH).scope.kind=.function from M.t.eO];rfl) rfl;show ks_wpAt_super_base (env:=callEnv r T nH) (f:=nH) (cc:=td) (fd:=r) (ar:=b) (vs:=XN) (file:=ry) (tf:=XO) M.t.Mg M.t.oo (by decide) rfl XY rfl (by rw[X2,X0];rfl) M.BJ XQ XR XS (by rw[B];simp) X ?_;show ks_loadName_global M.t.eO M.t.Mg<|loadGlobal_builtin (env:=callEnv r T nH) (mg:=F) (mb:=O) (by change W.Ns r.globals F;rw[M.bE];show XT) XW (by change W.Ns r.builtins O;rw[M.sR];show XU) XX ⟨rfl, ?_⟩;show wpAny_loadName_free M.t.eO M.t.oo (by change r.closure.lookup _=_;rw[M.BK];rfl) R.B ?_;show g▸PK M.t.eO M.t.wG x h ?_;show ks_wpAny_isType_cls o rfl ⟨rfl, ?_⟩;show ks_wpAny_call_super (C:=fK) o rfl V rfl (λXZ Z=>by injection Z) (looks_mroIn R.X R.cg) λd g j=> ?_;have D:=R.X.keeps j;show Vo (P:=G) g (looks_opaque D R.Vy) (j _ _ o) (j _ _ V) rfl D R.Vz A ?_;have Q:(d.push<|qk k).get? d.objs.size=some (qk k):=Heap.get?_push_at rfl rfl;have Y:∀U S,W.get? U=some S->(d.push<|qk k).get? U=some S:=λU S Z=>ki _<|j U S Z;show callWith_of (P:=λw=>w.get? d.objs.size=some (qk k)) rfl (λw Q=>(by intro _ _ _ _ Q;show⟨.machine,.inr<|.inl rfl,(Looks.ld (part:=none) Q).andThen ?_⟩;show .now:∀{J:Model}{c k}(w:Heap)(Q:w.get? c=some (qk k)),∃N,(N=Keeper.frame\/N=Keeper.machine\/N=Keeper.boundFrame)/\Looks J w (keeperOf<|.ref c) N) w Q)<|vP<|oR<|Constant_str (k:=a) (pos:=z)<|t7 ⟨Q, ?_⟩;show Vq (Y _ _ o) Q (Y _ _ V) λm X3 X4 X5=> ?_;show n m _ X3 X4 λU S X6 Z=>X5 U S X6<|Y U S Z
def Mv{K:Heap}{G:Addr}{Y:Option Addr}{w:Array<|Option Value}(F:h.Ns k C)(V:h.get? G=some ⟨d,Y,.fields y,w⟩)(N:∀I S,I≠G->h.get? I=some S->K.get? I=some S):K.Ns k C:=by show wg F λS U H E O L=> ?_;show JS S U H (N _ _ (λg=> ?_) E) O L;rw[g,V]at E;obtain rfl:=bO E;contradiction
def BX{K:Heap}(X:G.In h)(g:G.lookup k=none)(N:∀I S,I≠k->h.get? I=some S->K.get? I=some S):G.In K:=λH S E=>N H S (λY=>by rw[Y,g]at E;show bQ E)<|X H S E
abbrev BY(H R:Addr):Obj:={cls:=.ref fK,dict:=some R,data:=.fields #[.ref H,.none,.none,.none,.bool false,.none]}
def VD{XZ:Addr}{a:Value}{Z:Result->Shared->Prop}(N:rA G=true)(i:j5 G mainGlobals=true)(g:j5 G builtinsNs=true)(X:G.In E.heap)(f:G.lookup k=none)(X0:H.main.file=ry)(X2:(H.main.scope.names.lookup ("super":Str)).isSome=false) (X3:E.heap.NoLimit)(X4:I.depth<recursionLimit)(V:E.heap.get? k=some (wN fK XZ)) (X5:∀e X6 O l F,e.get? k=some (BY O l)->e.Ns1 l F->F "number"=some d->(∀P S,P≠k->E.heap.get? P=some S->e.get? P=some S)->Z (.ok<|.ret .none) {E with heap:=e,toks:=X6}):codeAny (model H K) I (.call (.ref nH) ⟨[.ref k,d,a],[]⟩) Z E:=by
 obtain R:=rB X i g N;show pV R.Mt λj L U=> ?_;obtain⟨Yz,YA,YB,YC,YD,YE,YF,YG,YH,YI,YJ,YK,YL,YM,YN,X7,Q⟩:=U.Mj;show pV U.a λX8 X9 r=> ?_;have p:k≠fK:=by obtain⟨Yb⟩:=R.oo;intro Y;rw[Y,Yb]at V;simp at V
 show ks_codeAny_call_defAt (fd:=j) (body:=L) X4 r rfl X3 U.Mh U.Mi (Vr U _ _ _) U.t.B (λP Q=> ?_) (λC m t=> ?_) U.t.n U.t.FI U.t.eO
 ·simp only[List.mem_cons,List.not_mem_nil,or_false]at Q;rcases Q with rfl|rfl|rfl;·show U.t.wG
  ·show U.t.Me
  ·show U.t.Mf
 generalize E.heap.objs.size=Yc at m⊢;have n:(λD=>List.lookup D<|[(("self":Str),Value.ref k),("number",d),("told",a)].reverse) "self"=some (.ref k):=rfl;obtain o:(λD=>List.lookup D<|[(("self":Str),Value.ref k),("number",d),("told",a)].reverse) "number"=some d:=rfl;have A:(λD=>List.lookup D<|[(("self":Str),Value.ref k),("number",d),("told",a)].reverse) "told"=some a:=rfl;generalize(λD=>List.lookup D<|[(("self":Str),Value.ref k),("number",d),("told",a)].reverse)=YO at m n o A;have z:=rB (X.keeps t) i g N;generalize w:Code.func L (callEnv j Yc nH)=YQ;rw[Q];show PT ?_;rw[<-w];show VC (E:={E with heap:=C,toks:=_}) X7 z (⟨qR X8 X9<|t _ _ r,U.BJ,U.Mh.keeps t,U.BK,U.bE,U.sR,U.yR,U.F9,by show AZ U.BL λYd S Ye Yg O P M=> ?_;show A3 Yd S Ye Yg O (t _ _ P) M,U.t,U.Mi,U.Mj⟩:wM C j L) X0 X2 m n (t _ _ V) p λYh YR Yi h b=> ?_;dsimp only[w];obtain⟨Yj⟩:=(rB (BX z.X f b) i g N).oo;obtain⟨Yk,u,Yl,v,T,x,_⟩:=(rB (BX z.X f b) i g N).qf;have B:=Mv m (t _ _ V) b;show PT<|ks_wpAt_Assign_Attr<|wpAt_of_wpAny<|ldc U.t.eO U.t.Me B o<|ldc U.t.eO U.t.wG B n ?_;show Vt PySem.F.store_Exception Yj u v T Mu h rfl (λM J=>by injection J) rfl λYS YT W Ym c=> ?_;obtain XN:=rB (BX (BX z.X f b) f c) i g N;obtain⟨Yn⟩:=XN.oo;obtain⟨Yk,u,Yl,v,T,x,_⟩:=XN.qf;have XO:=Mv B h c;show PT<|ks_wpAt_Assign_Attr<|wpAt_of_wpAny<|ldc U.t.eO U.t.Mf XO A<|ldc U.t.eO U.t.wG XO n ?_;show store_attr PySem.F.store_Exception Yn u v x VA p (kP _ W rfl (λM J=>by injection J)<|.inr<|cO Yh.objs.size rfl (λY=>tY _<|Y▸kj h) Ym) (λYo YU Yp Yq Yr=> ?_) (Within.cons "number" d Within.nil) (by size_fits);show wpAt_of_wpAny<|xZ ?_;show AY Yp λYs XQ Yt Yu y=> ?_;show Qj (Yr _ W) λXR XS XT XU XW Yv=> ?_;clear Yu;clear Yt;obtain rfl:XR=Ys:=jZ<|XS.symm.trans XQ;clear XQ;obtain XX:=Yv _ rfl;obtain⟨YV,YW,YX,YY⟩:=XR;dsimp only at XT XU XW XX;subst XT XU XW XX;rcases y with⟨y,_⟩|⟨l,y,YZ,Yw⟩;·injection y
 ·obtain rfl:=bO y;show X5 Yo _ Yi _ _ XS Yw rfl λP S q Yx=> ?_;have XY:=b _ _ q<|t _ _ Yx;show Yq _ _ q (λY0 l C Yy=> ?_)<|c _ _ q XY;obtain rfl:=bO<|W.symm.trans C;obtain rfl:=bO Yy;show gL<|kj XY
end
section
variable{I:Model}{H:Around}{G:Value->Shared->Prop}{E:Env}
end
theorem VE(G:Addr)(M:List Value):(Code.builtin "type.__call__" ⟨.ref G::M,[]⟩).weight<=3:=by show j0 rfl
section
variable{E:bL}{G:Env}{H:List Str}
def VF(g:rA E.iY=true)(u:j5 E.iY mainGlobals=true)(r:j5 E.iY builtinsNs=true)(XR:keepIn E.iY (.ref fK)=true)(XS:E.dD.main.file=ry)(XT:(E.dD.main.scope.names.lookup ("super":Str)).isSome=false)(l:E.dn):FU E:=by
 intro G H XU XW XX z m O J YE X XY XZ X0 YF YG YH YI K YJ YK e V w YL i X2;obtain⟨X3,YM,X4,YN,YO,YQ,X5⟩:=(rB (V.wF l) u r g).Gb;show eZ (wB XY) λX6 X7=> ?_;change E.cL (raiseStmt G (some do let b<-eval (.Call (.Name pk XU) [.Constant (.int O) m z,J] [] XW) G;standAt XX;pure b) none) _ e K;show(by
  intro _ _ _ _ _ T _ W w;show b0<|dH w (λb R X8=> ?_) λ_ _ T=>T;show eA λYR X9=> ?_;obtain⟨J,a,A,h,c,p,x,v,y,L,t,s,m,n,F,q,Yb,o,Yc,Yd⟩:=X8;subst Yb;show X9 ?_;repeat(first|with_reducible show pN Yc ?_|with_reducible show pN o ?_|(with_reducible show wpAny_isSubtype_exc o ?_)|wp_step)
  show wpAny_raiseNew_none W Yd:∀{j:Model}{Z:Around}{e:Value->Shared->Prop}{G:Env}{K T Ye}(W:Z.handled=none)(w:wpAny j Z T (λb R=>∃J a A h c p x v y L t s m n F q,b=.ref J/\R.heap.get? fK=some (excClassObj h c fK mK p kU true x v y L t s m n F q "Exception.__new__")/\R.heap.get? J=some (BY a A)/\e (.ref J) R) e K),wpAny j Z (raiseStmt G (some T) none) Ye e K) l.M<|b0<|wpAny_mono (Q:=λb R=>∃J a A h c p x v y L t s m n F q,b=.ref J/\R.heap.get? fK=some (excClassObj h c fK mK p kU true x v y L t s m n F q "Exception.__new__")/\R.heap.get? J=some (BY a A)/\e (.ref J) R) (E:=e) ?_ (λb YS Yg=>b0<|Ax<|eM Yg) λ_ _ T=>T;show wpAny_Call_ofName<|Ay X.eO X6 (loadGlobal_global (mg:=X3) (X.bE▸X4) X5 ?_) X7;have Yh:[PySem.Expr.Constant (.int O) m z,J].all dy=true:=by simp[XZ];rfl
 rw[nD Yh];show callWith_of (P:=E.iY.In) (by rfl) (λw=>keeps_K XR w)<|vP<|oR<|PM<|oR<|dp (V.lR _) X0.bw w i λb Yi Yj R YT d k Yk Yl=>t7 ⟨k.wF l, ?_⟩;clear i;clear Yk;clear Yl;clear w;show eZ (dT d) ?_;clear d;rintro rfl rfl;have D:=k.wF l;have M:=rB D u r g;obtain⟨o⟩:=M.oo;obtain⟨YU,Ym,Yn,YV,YW,YX,_⟩:=M.qf;obtain⟨W,Yo,Y,Yp,Yq⟩:=R;show pV M.Mt λYY YZ Yr=> ?_;show pV Yr.a λY0 Y1 Ys=> ?_;show wpAny_call_exc_init PySem.F.excBase_Exception o Ym Yn Ys rfl (λY2 T N=> ?_) (by size_fits);have Yt:E.iY.lookup T=none:=by
  rcases J:E.iY.lookup T with _|S;·rfl
  ·have:=D _ _ J;replace this:=N.new.symm.trans this;show bQ this
 show cC N.there λY3 Yu Y4 Y5=> ?_;show wpAny_call<|VD g u r (D.keeps N.keeps) Yt XS XT ((l.bH.KV.keeps k.a.aP.cP).keeps N.keeps) ?_ Yu λY6 Y7 a A B C Yv Yw XN=> ?_;·have:=VE fK<|[]++(⟨[.int O K.toks,Yi],[]⟩:Args).pos;have:=l.jG;show yb (xV<|ip bD ‹_›) this
 ·show⟨rfl,T,a,A,_,_,_,_,_,_,_,_,_,_,_,_,_,rfl,XN _ _ ?_<|N.keeps _ _ o,C, ?_⟩;·intro c;have:=N.new;rw[<-c]at this;replace this:=o.symm.trans this;contradiction
  ·show X2 rfl O (.ref T) _ rfl ⟨T,Yj,⟨W,Yo,Y,Yp,Yq⟩,rfl,k.a.aP,k.eB,k.cP,⟨λI S f=>XN I S (λc=> ?_)<|N.keeps I S f,rfl,rfl,rfl⟩,N.new,(by intro _ _ Y _ _ U I XO XQ N;show Ql XQ λYx Yy Yz YA YB YC _ YD=> ?_;show⟨_,_,Y,Yx,Yy,Yz,U,.ref I,XO,rfl,rfl,rfl,rfl,rfl,YA,YB,YC,(YD _).trans N⟩:∀{w a Y B O U I}(XO:w.get? a=some (BY I Y))(XQ:w.Ns1 Y B)(N:B "number"=some (.int O U)),Fz w a O) C Yv Yw⟩;rw[c]at f;have:=N.new;replace this:=f.symm.trans this;contradiction
end
section
set_option tactic.hygienic true
section
variable{WN:Program}{WU:World}{WQ:Around}{W2:Value->Shared->Prop}{E:Heap}{S:Array GenState}{T:Drawn}{R:Nat}{Q:OsState}{L N:Addr}{H:Obj}{W0:Array Value} {X WZ:Str}{K O:Addr}{WO U:List Value}{WR:List Str}{Y:List Value}{WX:Bool}{WL:Option Bool}{WY:Option Addr}{WM WV WS WW Z:Option Value}{V WT:String}{I M:Str->Option Value}{G:Str}{J:Value}
theorem VG{f:Tok}{c:Fin->Shared->Prop}(l:ExcAttrBase V U)(g:E.get? K=some (excClassObj X WZ K O WO U true WR Y WX WL WY WM WV WS WW Z WT))(e:E.Ns O I)(k:I G=none)(h:typeLookup (.type V) G=pure none) (P:E.get? L=some H)(w:H.cls=.ref K)(b:H.data=.fields W0)(W:H.dict=some N)(i:E.Ns N M)(a:M G=some J)(d:c (.done<|.ret J) ⟨E,S,T,R,Q⟩):wpAny (model WN WU) WQ (Builtin.«object.__getattribute__» ⟨[.ref L,.str G f],[]⟩) c W2 ⟨E,S,T,R,Q⟩:=by
 repeat(first|(with_reducible show pN P ?_;rw[w])|(with_reducible show D4 g e l.mro h ?_;rw[k])|wp_step)
 split;·rename_i F j;rw[b]at j;contradiction
 repeat(first|(with_reducible show pN P ?_;rw[w])|with_reducible show pN g ?_|wp_step)
 rw[W];repeat(first|(with_reducible show wpAny_nsGet i ?_;rw[a])|wp_step)
 all_goals show d
def VH{n:Bool}(l:ExcAttrBase V U)(g:E.get? K=some (excClassObj X WZ K O WO U true WR Y WX WL WY WM WV WS WW Z WT))(e:E.Ns O I)(p:I "__getattribute__"=none)(q:I "__getattr__"=none)(k:I G=none)(h:typeLookup (.type V) G=pure none) (P:E.get? L=some H)(w:H.cls=.ref K)(c:H.data=.fields W0)(m:H.dict=some N)(j:E.Ns N M)(a:M G=some J)(W:handedOut J=pure J)(d:b J ⟨E,S,T,R+1,Q⟩):wpAny (model WN WU) WQ (getAttr (.ref L) G n) b W2 ⟨E,S,T,R,Q⟩:=by show b0<|wpAny_mkText<|(by
intro WN WU WQ _ E S T R Q L N H W0 X WZ K O WO U WR Y WX WL WY WM WV WS WW Z V WT I M G J f _ n _ l g e p _ k h P w c m j a _ d;obtain i:=l.ga.bind<|.ref L;obtain r:(n&&onTheHeap (Value.builtin "BaseException.__getattribute__"))=false:=by induction n<;>rfl
repeat(any_goals(first|assumption|(with_reducible show pN P ?_;rw[w])|(with_reducible show D4 g e l.mro l.ga.lookup ?_;rw[p])|(with_reducible show D4 g e l.mro l.noGetattr ?_)|wp_step))
show(by intro _ _ l g e k h P w c m j a d;show PQ l.ga.plain PySem.F.entry_bexc_ga (wpAny_check_ga_own l g .base P w<|VG l g e k h P w c m j a d):∀{f F}(l:ExcAttrBase V U)(g:E.get? K=some (excClassObj X WZ K O WO U true WR Y WX WL WY WM WV WS WW Z WT))(e:E.Ns O I)(k:I G=none)(h:typeLookup (.type V) G=pure none)(P:E.get? L=some H)(w:H.cls=.ref K)(c:H.data=.fields W0)(m:H.dict=some N)(j:E.Ns N M)(a:M G=some J)(d:F (.ok<|.ret J) ⟨E,S,T,R,Q⟩),codeAny (model WN WU) WQ (.call (.builtin "BaseException.__getattribute__") ⟨[.ref L,.str G f],[]⟩) F ⟨E,S,T,R,Q⟩) l g e k h P w c m j a ?_;repeat(any_goals(first|assumption|wp_step)):∀{WN:Program}{WU:World}{WQ:Around}{W2:Value->Shared->Prop}{E:Heap}{S:Array GenState}{T:Drawn}{R:Nat}{Q:OsState}{L N:Addr}{H:Obj}{W0:Array Value}{X WZ:Str}{K O:Addr}{WO U:List Value}{WR:List Str}{Y:List Value}{WX:Bool}{WL:Option Bool}{WY:Option Addr}{WM WV WS WW Z:Option Value}{V WT:String}{I M:Str->Option Value}{G:Str}{J:Value}{f:Tok}{o n:Bool}{b:Value->Shared->Prop}(l:ExcAttrBase V U)(g:E.get? K=some (excClassObj X WZ K O WO U true WR Y WX WL WY WM WV WS WW Z WT))(e:E.Ns O I)(p:I "__getattribute__"=none)(q:I "__getattr__"=none)(k:I G=none)(h:typeLookup (.type V) G=pure none)(P:E.get? L=some H)(w:H.cls=.ref K)(c:H.data=.fields W0)(m:H.dict=some N)(j:E.Ns N M)(a:M G=some J)(W:handedOut J=pure J)(d:b J ⟨E,S,T,R,Q⟩),wpAny (model WN WU) WQ (getAttrBy (.ref L) (.str G f) o n) b W2 ⟨E,S,T,R,Q⟩) l g e p q k h P w c m j a W d
end
end
section
variable{E:bL}{G:Env}{H:List Str}
def Mw(m:c9 G H)(q:∀I O,iu G I O->E.gE.heap.get? O=none){N:au}{P S:aG}{D g J:ag}{F:ak}{L:aI<|aV×ak} (Y:H[a]?=some j)(e:oq c=false)(Z:qj (.Name j i) c=true)(s:aQ (E.cP P f) G H c N)(V:E.ay G H P D F f)(U:(E.cP P f).ay G H S g F x)(h:bp P S bR E.bS f x) (w:dw aw E.call u [.assign (.ae a) N] F g=some (L,J))(K:(E.cP P f).iC L J b):E.cL (execs [.Assign [.Name j i] c z] G) (qi E G H P f L J) b x:=by obtain⟨B,r,W,M,A⟩:=af.fW w;show I4<|wpAny_Assign_stores (dp (E:=E.cP P f) U s.bw W (K.cg M) λQ R o k C d n p T=> ?_) (by clear s;rcases c with-|-<;>first|rfl|(show Bool.noConfusion e))<|Ly Z;clear K;clear W;clear w;clear M;show eZ (dT d) ?_;clear d;rintro rfl rfl;show eZ (dT<|A _ rfl) ?_;clear A;rintro rfl rfl;show dH (Lm m q Y o _ F k Q R (.ai<|F.set a<|some Q) _ b (V.bK n.a.aP<|h.aC p) T rfl λXN c XO XQ=>by contradiction) (λ_ XR X=> ?_) λ_ _ I=>I;obtain⟨XS,y,l,t,v⟩:=X;cases l;show xZ ⟨.aK,_,y,rfl,t,(h.aC p).fT.aC v,.aK⟩
def VI(X:c9 G H)(m:∀I P,iu G I P->E.gE.heap.get? P=none){U:PySem.Expr}{r q o:au}{Z:Str}{l n Q:Pos}{R:Nat}{T:aG}{g J:ag}{F:ak}{L:aI<|aV×ak} (B:H[a]?=some j)(C:H[u]?=some Z)(N:oq c=false)(v:oq p=false)(A:qj (.Name j i) c=true)(y:qj (.Name Z z) p=true) (D:aQ (E.cP T f) G H U r)(x:aQ (E.cP T f) G H c q)(s:aQ (E.cP T f) G H p o)(V:E.ay G H T g F f) (w:dw aw E.call R [.b r [.assign (.ae a) q] [.assign (.ae u) o]] F g=some (L,J))(K:yK E.cf E.bH T f bR E.oh L J b):E.cL (execs [.If U [.Assign [.Name j i] c l] [.Assign [.Name Z z] p n] Q] G) (qi E G H T f L J) b f:=by
 obtain⟨O,M,Y,d,e⟩:=af.fW w;have t:E.cL (exec (.If U [.Assign [.Name j i] c l] [.Assign [.Name Z z] p n] Q) G) (qi E G H T f O M) b f:=by show wpAny_If<|sT (E:=E.cP T f) (⟨V.a,V.eB,bp.n8 ..⟩) D.ig Y (K.cg d) λXN S XO XU W h k=> ?_;induction XN with|true=>show Mw X m B N A x V h k (by simpa using W)<|K.cg d|false=>show Mw X m C v y s V h k (by simpa using W)<|K.cg d
 show I4<|dH t (λXW XO XQ=> ?_) λ_ _ I=>I;clear K;clear Y;clear w;clear t;clear d;obtain⟨XX,XR,S,rfl,h,k,XS⟩:=XQ;obtain W:=e _ rfl;clear e;induction XS with|aK=>obtain⟨rfl,rfl⟩:=dT W;show xZ ⟨.aK,XR,S,rfl,h,k,.aK⟩|brk=>obtain⟨rfl,rfl⟩:=dT W;show⟨_,_,S,rfl,h,k,.brk⟩|cont=>obtain⟨rfl,rfl⟩:=dT W;show⟨_,_,S,rfl,h,k,.cont⟩|ret XT=>obtain⟨rfl,rfl⟩:=dT W;show⟨_,_,S,rfl,h,k,.ret XT⟩
end
section
variable{I:bL}{E:Env}{J:List Str}{H:aG}{K:ag}{L:ak}{G:Shared}
def Mx(X:c9 E J)(t:∀Z b,iu E Z b->I.gE.heap.get? b=none)(k:E.kindOf j=some .local)(n:j∉J)(V:I.ay E J H K L G){x:Str->Option Value} (i:G.heap.Ns E.locals C)(y:h.Ns E.locals x)(f:∀Z,Z≠j->x Z=C Z)(w:Heap.SameBut E.locals G.heap h):I.ay E J H K L {G with heap:=h,toks:=a}/\bp H H (iM E) I.bS G {G with heap:=h,toks:=a}/\∀{Q:aa}{F:Value},aE H G.heap Q F->aE H h Q F:=by
 show lP y λD u B M m q s=> ?_;show lP i λA U XU c W XW XN=> ?_;have z:∀b S,b≠E.locals->G.heap.get? b=some S->h.get? b=some S:=λb S l P=>(w.2 b l).trans P;show eZ (br.n9 (x:={G with heap:=h,toks:=a}) V.a.aP (λb l S P=>z b S l P) (cO A c λ_ _ Y=>by rw[W]at Y;contradiction λY=>by rw[W]at Y;contradiction) (V.a.eK _<|.inl rfl)<|V.a.qY _<|.inl rfl) λXO v=> ?_;obtain XQ:bp H H (iM E) I.bS G {G with heap:=h,toks:=a}:=by
  show⟨⟨[],by simp,by simp⟩,λb S e _ d=> ?_,λb l=> ?_,rfl,rfl,rfl⟩;·have P:=z b S (λY=>d<|.inl Y) e;show⟨⟨S.slots,P⟩,λ_=>P⟩
  ·by_cases Y:b=E.locals;·rw[Y];rw[M];rfl
   ·obtain⟨S,e⟩:=xW.mp l;rw[z b S Y e];rfl
 show fS ⟨⟨XO,⟨⟨D,u,B,M,m,q⟩,λZ b d=> ?_⟩,V.a.qY,V.a.eK,λXR Z Q r o=> ?_,V.a.aZ⟩,V.eB.cA λT S U O g R _=> ?_, ?_⟩ XQ v;·obtain⟨S,Q,r,o⟩:=V.a.gc.B Z b d;show⟨S,Q,z b S (X.uG Z b d) r,o⟩
 ·show aB (V.a.ae XR Z Q r o) λF i XS=> ?_;show aX F ?_<|v XS;rcases i with⟨N,S,XX,O,g,R,p,XT⟩|⟨N,b,S,g,R,p⟩;·show .sS N D u B M m q ?_;rw[c]at g;obtain rfl:=bO g;replace R:=W.symm.trans R;cases R;rw[s,f Z λY=>n<|Y▸List.mem_of_getElem? r,<-XN];show XT
  ·show .inr N b S g (z b S (X.uG Z b<|oQ g) R) p
 ·by_cases Y:T=E.locals;·show qS D u B (by show Y▸M) m
  ·show qS S U O (z T S Y g) R
 ·show V.cP.uI (λb S l P=>z b S (λY=> ?_) P) rfl rfl rfl;rw[Y,t j _<|.inl ⟨k,rfl⟩]at l;show Bool.noConfusion l
end
section
variable{L:World}{H:Heap}{I:aG}{J:Shared}{K:ag}{G:Int}{U:Model}{O:Around}{T:Value->Shared->Prop}{Q:Unit->Shared->Prop}{R:Addr->Prop}{M:List Env}{E:Value}{S N:Shared}
def iN.aF(W:iN L H I J R M G K E S)(T:cN S N):iN L H I J R M G K E N:=by obtain⟨g,b,h,rfl,Z,d,X,⟨q,P,Y,m,a,p,U,y,V,o,k,n,l,j,O,t,u,z,A,B,C,D⟩,r,s,v,x⟩:=W;show⟨g,b,h,rfl,Z.aF T,d.aC<|T.bK .. ,λF c=> ?_,⟨q,P,Y,m,a,p,U,y,V,T.aF _ _ o,k,n,l,j,T.aF _ _ O,t,u,z,A,T.aF _ _ B,C,D⟩,r,s,v,x⟩;show eA λXS Q=> ?_;obtain⟨w,i,e,f,XN,XO,a,G,XQ,XR⟩:=X F c;show Q ?_;show⟨w,i,e,f,XN,XO,a,G,T.aF _ _ XQ,XR⟩
def VJ{b:Env}{u:List Env}(v:O.frames=some (b::u))(f:b.frame=some k)(w:iN L H I J bR (b::u) G K E N) (a:∀t,iN L H I J bR (b::u) G K E t->Q () t):wpAny U O (noteFrame E b) (λ_ g=>wpAny U O (setFlight E none) (λh m=>Q h m) T g) T N:=by
 obtain⟨F,y,XO,rfl,Z,e,M,⟨XQ,XR,XS,XT,XU,XW,XX,XY,XZ,n,W,l,j,i,o,q,r,x,z,A,B,C⟩,Y,p,s,R⟩:=w;show LG v (FG M) f n l j z A B C λX0 X2 d X3 D XN X=> ?_;have S:=(ya.mp j).1;show BH (k:=d) X.cR (vR l (·.setIfInBounds 1<|Value.ref d)) (by simp[S]) X.BF rfl X.BG<|a _ ?_;show FH Z e M Y s n W l S i o q r x (λP X4 c=> ?_) ((D F<|Ne.symm z).trans n) (fS rfl rfl rfl) X rfl;by_cases V:P=y;·subst V;rw[A]at c;obtain rfl:=bO c;show .inr ⟨p,R,XN,_,B⟩
 ·show .inl<|(D P V).trans c
def VK(W:iN L H I J R M G K E S)(N:∀v,iN L H I J R M G K E v->Q () v):wpAny U O (setFlight E none) Q T S:=by
 have C:=W;obtain⟨g,f,i,r,Z,h,d,⟨s,c,Y,m,e,q,F,x,V,o,k,n,l,j,p,u,XN,XO,XQ,y,z,A⟩,XR,XS,XT,XU⟩:=W;rw[r];have t:=(ya.mp A).1;show BH o n l y z t<|N _<|C.aF ⟨λw XW a=> ?_,rfl,rfl,rfl⟩;by_cases P:w=f
 ·subst P;obtain⟨X,D,XX,B⟩:=x;rw[y]at a;obtain rfl:=bO a;show(t6 (Obj.mapFields (·.setIfInBounds 3 .none)) y<|PR<|vR z _).trans ?_;congr 1;clear y;subst z;have:V.setIfInBounds 3 .none=V:=by
   apply Array.ext_getElem?;intro b;rw[Array.getElem?_setIfInBounds];by_cases P:3=b;·subst P;rw[if_pos rfl,if_pos t,A]
   ·show if_neg P
  change(⟨X,D,.fields<|V.setIfInBounds 3 .none,B⟩:Obj)=_;rw[this]
 ·show(lk _ _<|Ne.symm P).trans a
end
section
variable{E:bL}{G:Env}{H:List Str}
theorem My(X:c9 G H):(G.scope.kind==.class||G.scope.kind==.module&&G.locals !=G.globals)=false:=by rw[X.eO];rfl
def VL(m:rA E.iY=true)(I:j5 E.iY mainGlobals=true)(XN:j5 E.iY builtinsNs=true)(N:E.dn)(X:c9 G H){XO:Around}{c l Z:Str}{o XQ:Nat}{XR XS XT XU XW:Pos}{K:aG}{g J:ag}{F:ak}{L:aI<|aV×ak}{O:Int}{Y:Addr}{x:Obj}{v:Tok}{A:Str->Option Value}{p:Flow->Shared->Prop} (XX:G.kindOf c=some .local)(XY:(c==("__debug__":Str))=false)(XZ:H[u]?=some l)(q:o6[a]?=some Z)(V:E.ay G H K g F f)(X0:f.heap.Ns G.locals C)(X2:C c=some (.ref k)) (X3:f.heap.get? k=some x)(X4:x.cls=.ref fK)(X5:x.data=.fields y)(X6:x.dict=some Y)(X7:f.heap.Ns Y A)(X8:A "number"=some (.int O v)) (w:af.aN (cG aw E.call (.attr (.ae u) a) F) (λQ=>af.bg (.ret<|.tup [.str j,.int O,Q],F)) g=some (L,J)) (X9:∀Q e h,L=.ai (.ret Q,F)->J=g->cN f h->aE K h.heap Q e->p (.ret e) h):wpAny (model E.dD E.cf) XO (execs [.Return (some<|.Tuple [.Constant (.str j) o i,.Attribute (.Name c z) "number" XR,.Attribute (.Name l XT) Z XU] XQ XS) XW] G) p b f:=by
 show eA λYp Yb=> ?_;obtain⟨Yq,Yr,P,_,S⟩:=af.fW w;obtain⟨Ys,Yt,W,_,T⟩:=af.fW P;clear w;clear P;show cC (Fs W) ?_;clear W;rintro Q Yc rfl rfl;show yp (Ft<|T _ rfl) ?_;clear T;rintro Yu Yv Yw Yd rfl Ye Yg rfl rfl;show eZ (dT<|S _ rfl) ?_;clear S;rintro rfl rfl;obtain Yh:dm a=Z:=by unfold dm;rw[List.getD_eq_getElem?_getD,q];rfl
 have R:=rB (V.wF N) I XN m;obtain⟨Yi⟩:=R.oo;obtain⟨Yx,Yj,Yy,Yz,Yk,YA,Yl,Ym⟩:=R.qf;obtain⟨n,d,B,U,t⟩:=f;show Yb ?_;show I4<|wpAny_Return_some<|wpAny_Tuple ?_;rw[nD rfl];show oR<|Constant_str (k:=o) (pos:=i)<|oR<|Attribute_any_<|wpAny_Name (PK X.eO XX X0 X2 ?_) XY;show VH PySem.F.attrBase_Exception Yi Yj Yl Ym Yk Mu X3 X4 X5 X6 X7 X8 rfl ?_;show oR<|Attribute_any_<|dH (KO X (V.aF<|cN.lR ⟨n,d,B,U,t⟩<|U+1+1).a XZ Yc) (λe YB M=> ?_) λ_ _ j=>j;obtain s:=(V.aF<|cN.lR ⟨n,d,B,U,t⟩<|U+1+1).aF M.1;show Yh▸dH (Fg N.bH.q9 N.bH.V s.a.aP ((eD.mp q).1) M.2 Ye Yg) (λYn Yo r=> ?_) λ_ _ j=>j;obtain D:=K4 (s.aF r.1).a.aP (.cons (.str j _) (.cons (.int O _)<|.cons r.2 .nil):bh K Yo.heap [.str j,.int O,Yd] [.str j U,.int O v,Yn]);show t7 ⟨Bt<|by change 3<=1000;decide,X9 _ _ _ rfl rfl (((cN.lR ⟨n,d,B,U,t⟩<|U+1+1).aC M.1).aC<|r.1.aC D.1) D.2⟩
def VM{F:Str->Option Value}(G:h.Ns k C)(U:h.Ns k F)(Y:Str):C Y=F Y:=by show lP G λS w O H W g E=> ?_;show lP U λK L J M N I R=> ?_;rw[H]at M;obtain rfl:=bO M;replace N:=W▸N;cases N;rw[<-E,<-R]
noncomputable def VN(N:Int->af (aV×ak))(M:ag)(L:aI<|aV×ak):Option<|aI (aV×ak)×ag:=match L with|.cR O=>N O M|.ai H=>some (.ai H,M)
def VO{F:af<|aV×ak}{N:Int->af (aV×ak)}{g:ag}{Y:aI (aV×ak)×ag}(w:pT F N g=some Y):∃G M,F g=some (G,M)/\VN N M G=some Y:=by
 unfold pT at w;rcases E:F g with-|⟨H|O,M⟩<;>obtain w:=E▸w;·show cq w
 ·show lN _ _ rfl w
 ·show lN _ _ rfl w
def VP(XQ:rA E.iY=true)(XR:j5 E.iY mainGlobals=true)(XS:j5 E.iY builtinsNs=true)(XT:E.dn)(X:c9 G H)(XU:∀(I:Str)(N:Addr),iu G I N->E.gE.heap.get? N=none){Z:Around}{I R c:Str}{XW XX:Nat}{XY XZ X0 X2 X3:Pos}{g:aG}{X4 M J:ag}{F:ak}{L:aI<|aV×ak}{O:Int}{N:Addr}{U:Flow->Shared->Prop} (r:G.kindOf j=some .local)(X5:j∉H)(X6:(j==("__debug__":Str))=false)(y:(j==sL)=false)(X7:H[a]?=some R)(X8:o6[u]?=some c)(V:E.ay G H g X4 F x)(X9:iN E.cf E.bH g x bR E.oh O M (.ref N) f) (w:af.aN (cG aw E.call (.attr (.ae a) u) F) (λQ=>af.bg (.ret<|.tup [.str I,.int O,Q],F)) M=some (L,J)) (Y:∀Q P e o,L=.ai (.ret Q,F)->E.ay G H e J F o->bp g e (iM G) E.bS x o->aE e o.heap Q P->U (.ret P) o):wpAny (model E.dD E.cf) Z (storeName G j<|.ref N) (λ_ Yb=>wpAny (model E.dD E.cf) Z (execs [.Return (some<|.Tuple [.Constant (.str I) XW i,.Attribute (.Name j z) "number" XY,.Attribute (.Name R X0) c X2] XX XZ) X3] G) U b Yb) s f:=by
 show eA λYc W=> ?_;obtain⟨YG,YH,e,Yd,t,K,Ye,⟨YI,YJ,p,Yg,A,Yh,Yi,YK,YL,m,Yj,n,YM,Yk,Yl,Ym,Yn,D,YN,YO,YQ,YR⟩,_⟩:=X9;cases Yd;have d:E.ay G H e M F f:=⟨V.a.bK t K,Ye,V.cP.aC<|K.cZ (λ_ _ Y=>Y.elim) λ_ _ Y=>Y⟩;obtain⟨Yo,S,Yp,l,h,Yq⟩:=d.a.gc.a;have B:f.heap.Ns G.locals<|nsFind S:=mE Yo S Yp l h Yq λ_=>rfl;show W ?_;have Yr:N≠G.locals:=λY=>by rw[Y,l]at m;obtain rfl:=bO m;replace n:=h.symm.trans n;injection n
 show wpAny_storeName_local r B (λT v C=> ?_)<|My X;show eA λYc W=> ?_;show iI (Mx (a:=f.toks+1) X XU r X5 d B v (λYS c=>if_neg c) C) λq Ys _=> ?_;obtain Yt:∃k,T.Ns p k/\k "number"=some (.int O Yi):=by
  have XN:f.heap.Ns p<|nsFind A:=mE Yg A Yh Yl Ym Yn λ_=>rfl;by_cases Y:p=G.locals
  ·show⟨_,Y▸v, ?_⟩;obtain Yu:("number":Str)≠j:=λYv=>by rw[<-Yv]at y;show absurd y<|by decide
   rw[if_neg Yu,VM B<|Y▸XN];show D
  ·show sG XN λYw Yx Yy Yz YA=> ?_;show aX (nsFind A) ⟨Yw,Yx,Yy,(C.2 p Y).trans Yz,YA⟩ D
 obtain⟨k,YB,YC⟩:=Yt;show W<|VL (f:={f with heap:=T,toks:=f.toks+1}) XQ XR XS XT X r X6 X7 X8 q v (if_pos rfl) ((C.2 N Yr).trans m) Yj n Yk YB YC w λQ P o YD YE XO YF=> ?_;clear t;clear w;subst YE;show Y Q P e o YD (q.aF XO) ((K.fT.aC Ys).aC<|XO.bK .. ) YF
def VQ(Y:rA E.iY=true)(I:j5 E.iY mainGlobals=true)(e:j5 E.iY builtinsNs=true)(N:E.dn):FV E:=by
 intro G H Yq Yr Ys Yt Yu Yv Yw Yx Yy Yz YA YB YC YD M YE Z YF YG YH YI YJ YK YL YM YN YO YQ YR YS YT YU YV YW b j X p t O u v x q a l k D o Q YX g YY F K L J YZ V w h P i;obtain⟨f,Y0,s,d⟩:=j;show iI (Q g K) λy XN XO=> ?_;show js (VO w) ?_;clear w h P i Q;intro Y1 XQ XR w;show wpAny_Try_except<|dH (VI b f v x l k D o y XN XO V XR ?_) (λc XS XT=> ?_) λ_ _ M=>M;rotate_left;·obtain⟨XU,m,S,rfl,U,W,XW⟩:=XT;cases(w:some (aI.ai (XU,m),XQ)=some (L,J));induction XW with|aK=>show xZ ⟨.aK,m,S,rfl,U,W,.aK⟩|brk=>show⟨_,_,S,rfl,U,W,.brk⟩|cont=>show⟨_,_,S,rfl,U,W,.cont⟩|ret T=>show⟨_,_,S,rfl,U,W,.ret T⟩
 intro Y2 Y3 XS XX c;subst XX;rw[s]at c;obtain⟨XY,XZ⟩:=wB X;show VJ (by rw[N.wz,s]) d c λY4 B=> ?_;have X0:=B;clear c;obtain⟨Y5,Y6,Y7,rfl,X2,Y8,Y9,⟨Za,Zb,Zc,Zd,Ze,Zf,Zg,Zh,Zi,X3,X4,Zj,Zk,Zl,Zm,Zn,Zo,Zp,Zq,Zr,Zs,Zt⟩,Zu,Zv,Zw,Zx⟩:=B;have R:=rB (N.bH.V.keeps X2.cP) I e Y;obtain⟨X5⟩:=R.oo;obtain⟨X6,Zy,X7,Zz,ZA,ZC,X8⟩:=R.Gb;show wpAny_handleBy_cons (codeAny_handlers_test<|Ay b.eO XY (loadGlobal_global (mg:=X6) (b.bE▸X7) X8 ?_) XZ) (by intro ZD;contradiction);show wpAny_excMatches_sub_self X5 X3 X4 (by decide) ?_;show codeAny_handlers_suite_as<|VK X0 λZE r=> ?_;rw[<-s]at r;show VP Y I e N b f p t O u q a V r w λX9 ZF Yb n Yc z Yd T=> ?_;clear w;subst Yc;show eA λZG Ye=> ?_;obtain⟨Yg,A,Yh,Yi,Yj,Yk⟩:=z.a.gc.a;have C:n.heap.Ns G.locals<|nsFind A:=mE Yg A Yh Yi Yj Yk λ_=>rfl;show Ye ?_;show wpAny_nameGoes_keeps p C (My b) λZH ZI Yl Ym=> ?_;show iI (Mx (a:=n.toks+1) b f p t z C Yl (λZJ Z=>if_neg Z) Ym) λYn Yo Yp=> ?_;show⟨.ret X9,F,Yb,rfl,Yn,Yd.aC Yo,.ret<|Yp T⟩
end
def VR(w:PySem.Challenge.rw_np0311_01.row.wellSaid=true->PySem.Challenge.rw_np0311_01.row.Holds):PySem.Challenge.rw_np0311_01.Holds:=holds_law (by decide+kernel) w
def ql(T:Frag):Bool:=FZ T&&(y0 T&&(y8 T&&(y9 T&&(F6 T&&rA T))))
def za(K:Shared):Bool:=ql<|jN K.heap
noncomputable def kW:Program:={PySem.Challenge.pw_np0311_01 with main:={PySem.Challenge.pw_np0311_01.main with body:=PySem.Challenge.pw_np0311_01.main.body.drop 99}}
noncomputable def te:List Str:=(["ONE","WAYS","SPLIT","JUMP","MARK","NAME","SET","GAIN","PLACE","ASK","FENCE","FAIL","ABORT","SUCCEED","DONE","SINGLE","ALONE","row_of","is_plain_text","with_texts_joined","PatternCode","straightened","compile_pattern","SnobolError","Failure","Pattern","Delayed","NameRef","is_fail","fits","whole_of_text","text_of_whole","to_whole","to_text","need_text","COUNTED","SIGNED","NULL_NODE","WIDTH_OF_COUNT","is_null_node","plain_count","plain_signs","joined","either","pattern_of","is_delayed","settled","OPENING","CLOSING","chars_end","len_end","pos_end","rpos_end","tab_end","rtab_end","rem_end","any_at","notany_at","run_end","span_end","break_end","arb_ends","bal_end","bal_ends","one_end","plain_end","ends_of","MET","FAILED","OVER","Way","Match","named_rows","match_orders","match_compiled","PlainHost","LOST","match_plain","match_at","tried","advanced","led_in","led_out","steered","taken","_law_take","_law_box","_law_text","_law_told","_law_node","_law_heard"]:List String).map Str.ofString
noncomputable def zb(g:SharedT->Thread->Option (SharedT×Thread))(N:Thread->Bool):Nat->SharedT->Thread->Option SharedT:=λO=> @Nat.rec (λ_=>SharedT->Thread->Option SharedT) (λ_ _=>none) (λ_ S K U=>match through U with|true=>some K|false=>match N U with|false=>none|true=>match g K U with|some L=>S L.1 L.2|none=>none) O
def VS{J:String->Option Builtin}{X:Program}{R:World}{V:Option Value}:∀{O:Nat}{K G:SharedT}{U:Thread},zb (stepT (denote J) X R) (stepOk a V) O K U=some G->topRun J X R a V O K.abs U=some G.abs:=by intro O;induction O with|zero=>intro _ _ _ w;show bQ w|succ O S=>
intro K G U w;have H:(match through U with|true=>some K|false=>match stepOk a V U with|false=>none|true=>match stepT (denote J) X R K U with|some L=>zb (stepT (denote J) X R) (stepOk a V) O L.1 L.2|none=>none)=some G:=w;unfold topRun;clear w;rcases F:through U with _|_
· rw[F]at H;rcases g:stepOk a V U with _|_;· rw[g]at H;show bQ H
  · replace H:=g▸H;induction E:stepT (denote J) X R K U with|none=>rw[E]at H;show bQ H| some L => obtain I:=L.1;obtain Z:=L.2;rw[E]at H;rw[stepT_spec E];show S H
· rw[F]at H;obtain rfl:=bO H;rfl
noncomputable def Mz:List Obj->Nat->BT->BT|[],_,U=>U|S::L,J,U=>Mz L (J+1)<|U.ins J S
def VT{X H:Program}{Q:Shared->Bool}{j:Shared->e}{i:World->e}{F:Params->Heap}{G:Params->BT}{m:Life}{k:Drawn}{l:Nat}{n:Nat}{h:Option Value} (o:∀R:World,(fencedOpening treeTable X R a).map (λK=>(K.heap,K.gens,K.drawn,K.toks))=some (F R.params,Array.mk [],k,l)) (T:∀P,absHeap (G P) u m=F P) (p:∀R:World,((F R.params).isNs mainGlobals,(F R.params).objs.size,(F R.params).nsMap mainGlobals "__annotations__")=(true,n,h)) (f:∀(R:World)(Z:OsState),(zb (stepT (denote treeTable) X R) (stepOk n h) a ⟨G R.params,u,m,Array.mk [],k,l,Z⟩<|topStub X).map (λK=>(staticsOk (importedModules X.main.body) (F R.params) K.abs.heap&&namesBound X K.abs.heap&&gensDone K.abs&&laidKept (F R.params) K.abs.heap,openSeen H D (importedModules X.main.body) Q true K.abs,j K.abs))=some (true,openGood H D,i R)):LeftO X H D Q j i a true:=λR=>by
 obtain⟨g,J,M⟩:_/\_/\_:=by simpa only[Prod.mk.injEq]using p R
 show aB (kI.mp<|o R) ?_;rintro⟨w,c,Y,N,Z⟩ E W;clear o;obtain⟨rfl,rfl,rfl,rfl⟩:w=F R.params/\c=Array.mk []/\Y=k/\N=l:=by simpa using W
 show aB (kI.mp<|f R Z) λK O I=> ?_;obtain⟨S,b,d⟩:_/\_/\_:=by simpa only[Prod.mk.injEq]using I
 obtain L:=VS O;obtain V:(⟨G R.params,u,m,Array.mk [],Y,N,Z⟩:SharedT).abs=⟨F R.params,Array.mk [],Y,N,Z⟩:=by change Shared.mk _ _ _ _ _=_;rw[T]
 rw[V]at L;have U:topFrom treeTable X R a ⟨F R.params,Array.mk [],Y,N,Z⟩=some K.abs:=by unfold topFrom;rw[g,J,M,L];change(match staticsOk (importedModules X.main.body) (F R.params) K.abs.heap&&namesBound X K.abs.heap&&gensDone K.abs&&laidKept (F R.params) K.abs.heap with|true=>_|false=>_)=_;rw[S]
 unfold openEnds;rw[E];change(topFrom treeTable X R a _).map _=_;rw[U];show congrArg some<|Prod.ext b d
def Gd(P:Params):BT:=Mz (boot_heap P).objs.toList 0 .nil
noncomputable def Ge:Life:={}
theorem VU(P:Params):absHeap (Gd P) 11 Ge=boot_heap P:=by kernel_rfl
theorem VV(R:World):((boot_heap R.params).isNs mainGlobals,(boot_heap R.params).objs.size,(boot_heap R.params).nsMap mainGlobals "__annotations__")=(true,11,some<|.ref 6):=by kernel_rfl
noncomputable abbrev jg:=PySem.Challenge.pw_np0311_01
def VW:∀R:World,(fencedOpening treeTable jg R 9446).map (λK=>(K.heap,K.gens,K.drawn,K.toks))=some (boot_heap R.params,Array.mk [],boot_drawn,boot_toks):=boot_open (by kernel_rfl) (by decide) λK=>by kernel_rfl
def uT(T:Frag)(H O:Nat):Bool:=(List.range O).all λJ=>(aw.T[H+J]?).elim true λW=>(yY T (kS<|H+J) (BV<|H+J) W).1
def zc(R:World)(Z:OsState):Option SharedT:=zb (stepT (denote treeTable) jg R) (stepOk 11<|some<|.ref 6) 9446 ⟨Gd R.params,11,Ge,Array.mk [],boot_drawn,boot_toks,Z⟩<|topStub jg
theorem VX(R:World)(Z:OsState):(zc R Z).map (λK=>(staticsOk (importedModules jg.main.body) (boot_heap R.params) K.abs.heap&&namesBound jg K.abs.heap&&gensDone K.abs&&laidKept (boot_heap R.params) K.abs.heap,openSeen kW te (importedModules jg.main.body) (λK=>xlAt kW [] K&&recOk [] K) true K.abs,rA<|jN K.abs.heap))=some (true,openGood kW te,true):=by kernel_rfl
theorem VY(R:World)(Z:OsState):(zc R Z).map (λK=>FZ (jN K.abs.heap)&&(y0 (jN K.abs.heap)&&(y8 (jN K.abs.heap)&&uT (jN K.abs.heap) 0 20)))=some true:=by kernel_rfl
theorem VZ(R:World)(Z:OsState):(zc R Z).map (λK=>y9 (jN K.abs.heap)&&uT (jN K.abs.heap) 20 22)=some true:=by kernel_rfl
theorem V0(R:World)(Z:OsState):(zc R Z).map (λK=>uT (jN K.abs.heap) 42<|aw.T.length-42)=some true:=by kernel_rfl
theorem V1{T:Frag}(g:uT T 0 20=true)(F:uT T 20 22=true)(I:uT T 42 (aw.T.length-42)=true):F6 T=true:=by
 show gB.mpr λW E=> ?_;obtain E:=su.mp E;have G {H O:Nat} (w:uT T H O=true) (V:H<=W) (J:W<H+O):(aw.T[W]?).elim true (λK=>(yY T (kS W) (BV W) K).1)=true:=by have:=gB.mp w (W-H)<|su.mpr (by omega);rwa[Nat.add_sub_cancel' V]at this
 rcases sy W 20with M|M;·show G g (Nat.zero_le _)<|by omega
 ·rcases sy W 42with Y|Y;·show G F M<|by omega
  ·show G I Y<|by omega
def V2(R:World)(Z:OsState):(zb (stepT (denote treeTable) jg R) (stepOk 11<|some<|.ref 6) 9446 ⟨Gd R.params,11,Ge,Array.mk [],boot_drawn,boot_toks,Z⟩<|topStub jg).map (λK=>(staticsOk (importedModules jg.main.body) (boot_heap R.params) K.abs.heap&&namesBound jg K.abs.heap&&gensDone K.abs&&laidKept (boot_heap R.params) K.abs.heap,openSeen kW te (importedModules jg.main.body) (λK=>xlAt kW [] K&&recOk [] K) true K.abs,za K.abs))=some (true,openGood kW te,true):=by
 obtain⟨K,E,H⟩:=kI.mp<|VX R Z;have W:=VY R Z;have g:=VZ R Z;have w:=V0 R Z;rw[E]at W g w;obtain⟨F,H⟩:=vN H;obtain⟨G,L⟩:=vN H;obtain⟨Y,W⟩:=iG.mp<|jZ W;obtain⟨I,W⟩:=iG.mp W;obtain⟨J,N⟩:=iG.mp W;obtain⟨M,S⟩:=iG.mp<|jZ g;have O:za K.abs=true:=by unfold za ql;rw[Y,I,J,M,V1 N S<|Option.some.inj w,L];rfl
 change(zc R Z).map _=_;rw[E];show congrArg some<|Prod.ext F<|Prod.ext G O
def Gf(J:World)(w:Heap):Prop:=∃Q:Heap,ql (jN Q)=true/\∀I S,Q.get? I=some S->w.get? I=some S
theorem V3:LeftO jg kW te (λK=>xlAt kW [] K&&recOk [] K) za (λ_=>true) 9446 true:=VT VW VU VV V2
def V4(M:PySem.Challenge.rw_np0311_01.row.wellSaid=true)(F:∀(Y:DefRec)(Z:List<|Str×PySem.Expr),defOf kW (Str.ofString "law")=some (Y,Z)->WalkO kW te (XL kW []) Gf PySem.Challenge.rw_np0311_01.row.toRowW Y Z λW H=>PySem.call W H):PySem.Challenge.rw_np0311_01.row.Holds:=by show holds_open (q:=kW) (loose:=te) (Xt:=λK=>xlAt kW [] K&&recOk [] K) (XP:=XL kW []) (Yf:=za) (Ya:=λ_=>true) (YP:=Gf) (N:=9446) V3 (λR K E=>aX K.heap E λ_ _ w=>w) (λR w J ⟨Q,E,g⟩ L=>⟨Q,E,λI S G=>L I S<|g I S G⟩) (λK E=>xl_of K (iG.mp E).1) XL.keeps rfl rfl rfl (λK E=>recFacts_of (iG.mp E).2) rfl M (by decide+kernel) (Qi rfl rfl rfl rfl rfl<|by decide+kernel) ?hw<|F _ _ rfl;case hw=>w_witness2
section
set_option tactic.hygienic true
noncomputable def uU:Nat:=78
def Gg:kS uU=701/\og[uU]?=some (Str.ofString "law")/\(Str.ofString "law").cps.toList.contains 46=false:=by decide+kernel
def V5{R:World}{r:List Int}{Z:Result->Shared->Prop}(e:ql (jN h)=true)(u:∀I S,h.get? I=some S->f.heap.get? I=some S)(P:f.heap.IsList k l.toArray)(W:IntsAre l r)(H:yZ jg R h (jN h) kS) {M:ag}(b:nZ aw a 40 uU [.cM<|r.map .int] []=some (.ai<|.bool true,M)) (N:∀c,(∀I S,f.heap.get? I=some S->c.heap.get? I=some S)->c.gens=f.gens->c.os=f.os->Z (.ok<|.ret<|.bool true) c):codeAny (model jg R) callerA (.call (.ref 701) ⟨[.ref k],[]⟩) Z f:=by unfold ql at e;simp only[Bool.and_eq_true]at e;show Eg e λo V i m p n=> ?_;have:=Vb (F5 (d:=jg) (R:=R) (F0 o) V i m) (Vg p) H a 40 uU [.cM<|r.map .int] [] _ M b callerA [] f [.ref k] [] Z ⟨u,rfl,λJ X S K=>by simp at K,by simp,λX K=>by simp at K⟩ (.cons (.cM (G:=l.toArray) P (by rintro⟨X,b,_⟩;show(t5 b).elim)<|by simpa using(by intro _ _ _ _ G;induction G with|nil=>show .nil|cons _ _ _ N=>show .cons (.int _ _) N:∀{K:Heap}{g:aG}{l:List Value}{r:List Int}(G:IntsAre l r),bh g K (r.map aa.int) l) W) .nil) (λE d=>by show nomatch d) rfl rfl rfl (by decide) (by decide) (λQ F c E X=>by obtain⟨t,j,q,U,s,T⟩:=X;obtain rfl:=aI.ai.inj q;obtain rfl:=T.gb;show N c (λI S L=> ?_) s.iJ s.iK;show(s.aF I S L (by rintro⟨X,b,_⟩;show(t5 b).elim) λY=>Y).2 λY=>by cases Y) (λO E c Y=>by injection Y);show this
def V6{F:Str->Option Value}(G:h.Ns k C)(U:h.Ns k F):∀Y,C Y=F Y:=by show lP G λS w O H W g E=> ?_;show lP U λK L J M N I R=> ?_;rw[H]at M;obtain rfl:=bO M;replace N:=W▸N;cases N;intro Y;rw[<-E,<-R]
theorem V7(G:List WData):PySem.Challenge.rw_np0311_01.row.toRowW.claim.post G (.bool true) G=true:=by first|rfl|(simp[RowW.claim];rfl)|kernel_rfl
theorem V8(I:∀G:List Int,G.length<=63->∃P J,nZ aw P 40 uU [.cM<|G.map .int] []=some (.ai<|.bool true,J))(L:∀R Q,ql (jN Q)=true->yZ jg R Q (jN Q) kS) (Y:DefRec)(Z:List<|Str×PySem.Expr)(v:defOf kW (Str.ofString "law")=some (Y,Z)):WalkO kW te (XL kW []) Gf PySem.Challenge.rw_np0311_01.row.toRowW Y Z λW a=>PySem.call W a:=by
 intro R h b o XN T n H S XO XQ XR XS XT XU XW XX XY q X XZ X0 X2 A z B C s;show Ground.open T ?_;intro K _ _ _ _;show aB n λQ g u=> ?_;have c:H=701:=by
  have r:=g;unfold ql at r;simp only[Bool.and_eq_true]at r;show Eg r λj V e F X3 X4=> ?_;show sF ((F5 (d:=jg) (R:=R) (F0 j) V e F).kQ) λM X5 k _ _ f _=> ?_;have D:b.heap.Ns mainGlobals M:=by show sG k λS U O l m=> ?_;show qS S U O (u _ _ l) m
  have E:=f uU _ Gg.2.1 Gg.2.2;simp only[<-V6 K.g D,<-(defOf_name v:Y.name=Str.ofString "law"),q,Gg.1]at E;cases E;rfl
 subst c;wrow_args A z B C s;rename_i G _ _ _ _ _ _ _ X6 a _ i _ _ _ p _ X7 _;show enter_call ?_;show pV (I G<|by lia) λP J d=> ?_;show V5 g u i p (L R Q g) d λX8 t y x=> ?_;show GoodW.toG<|kO (.inl<|Qm (.bool true) (.bool true) ([]) rfl (λ_=>rfl) ?_ ?_ λ_=>⟨List.nodup_nil,λH N=>(t5 N).elim⟩) t x<|y.trans X;·show .bool true
 ·show V7 _
def V9(I:∀G:List Int,G.length<=63->∃g J,nZ aw g 40 uU [.cM<|G.map .int] []=some (.ai<|.bool true,J))(L:∀R Q,ql (jN Q)=true->yZ jg R Q (jN Q) kS):PySem.Challenge.rw_np0311_01.Holds:=VR λE=>V4 E<|V8 I L
end
theorem Wa:jg.main.file=ry:=by first|rfl|kernel_rfl
theorem Wb:(jg.main.scope.names.lookup ("super":Str)).isSome=false:=by first|decide+kernel|kernel_rfl
def Wc:q0[1]?=some pk:=by decide+kernel
def Wd(R:World)(Q:Heap)(G:ql (jN Q)=true):yZ jg R Q (jN Q) kS:=by unfold ql at G;simp only[Bool.and_eq_true]at G;show Eg G λO V Y F P E=> ?_;obtain T:=F5 (d:=jg) (R:=R) (F0 O) V Y F;unfold y9 at F;simp only[Bool.and_eq_true]at F;obtain⟨⟨⟨⟨⟨⟨⟨⟨I,L⟩,_⟩,_⟩,_⟩,_⟩,_⟩,_⟩,_⟩:=F;intro M g H S K J N;show⟨VF (by show K▸E) (by show K▸I) (by show K▸L) (by show K▸T.KX 1 _ Wc) (by show g▸Wa) (by show g▸Wb) N,VQ (by show K▸E) (by show K▸I) (by show K▸L) N⟩
end
variable{a e r:Nat}{b u:ag}{c A:Type}{d v:aa}{f:aW}{h C:List Nat}{i:List aa}{j:ak}{k x:au}{l:bu}{m:Str}{n:Bool}{o:List au}{p:Int}{q:List bo}{s:aM}{t:List<|Nat×Nat}{y D:Option aa}{z:Nat->Nat}{B:fg}
namespace P
section
set_option genCtorIdx false
mutual inductive bT|bV|B|C inductive dM|N|S|bV|P|iD|fX inductive bX|aZ|uV|uW|uX|uY|wO|wQ|wR|brk end
set_option genCtorIdx true
noncomputable def bT.ctorIdx(U:bT):Nat:=U.casesOn 0 1 2
noncomputable def dM.ctorIdx(U:dM):Nat:=U.casesOn 0 1 2 3 4 5
noncomputable def bX.ctorIdx(U:bX):Nat:=U.casesOn 0 1 2 3 4 5 6 7 8
noncomputable def bT.zd(O:Nat):bT:=([.bV,.B,.C][O]?).getD .bV
theorem bT.tg(U:bT):zd U.ctorIdx=U:=U.casesOn rfl rfl rfl
instance:DecidableEq bT:=λH I=>if w:H.ctorIdx=I.ctorIdx then isTrue<|(H.tg.symm.trans<|congrArg _ w).trans I.tg else isFalse λE=>w<|E▸rfl
noncomputable def dM.zd(O:Nat):dM:=([.N,.S,.bV,.P,.iD,.fX][O]?).getD .N
theorem dM.tg(U:dM):zd U.ctorIdx=U:=U.casesOn rfl rfl rfl rfl rfl rfl
instance:DecidableEq dM:=λH I=>if w:H.ctorIdx=I.ctorIdx then isTrue<|(H.tg.symm.trans<|congrArg _ w).trans I.tg else isFalse λE=>w<|E▸rfl
noncomputable def bX.zd(O:Nat):bX:=([.aZ,.uV,.uW,.uX,.uY,.wO,.wQ,.wR,.brk][O]?).getD .aZ
theorem bX.tg(U:bX):zd U.ctorIdx=U:=U.casesOn rfl rfl rfl rfl rfl rfl rfl rfl rfl
instance:DecidableEq bX:=λH I=>if w:H.ctorIdx=I.ctorIdx then isTrue<|(H.tg.symm.trans<|congrArg _ w).trans I.tg else isFalse λE=>w<|E▸rfl
noncomputable def bX.rC:bX->Bool|.aZ|.uV|.uW|.uX|.uY=>true|_=>false
set_option genCtorIdx false in inductive jO|gu (O:Nat)|fL (K:Str)
noncomputable def jO.ctorIdx(U:jO):Nat:=U.casesOn (λ_=>0) λ_=>1
set_option genCtorIdx false in inductive aj|bc (K:Str)|d5 (N:bX) (U:jO)|gg (N:bX) (U:dM)|fz|eG|fj|fA|fail|fH|iO (L:bT)|fM (U:dM)|de (H:aj)|bZ (F:Bool) (H:aj) (L:bT)|bF (H I:aj)|bU (H I:aj)
noncomputable def aj.ctorIdx(U:aj):Nat:=U.casesOn (λ_=>0) (λ_ _=>1) (λ_ _=>2) 3 4 5 6 7 8 (λ_=>9) (λ_=>10) (λ_=>11) (λ_ _ _=>12) (λ_ _=>13) λ_ _=>14
structure aS where
f:Str
wU:Nat
wV:Str
l:aj
uZ:Bool
structure ay where
iZ:aa
fX:aa
jw:aa
bx:List<|bT×aa
abbrev dF:=List<|bT×Str
set_option genCtorIdx false in inductive d6|fail|lV (J:Nat) (H:dF)|lW|dG (O:Int)
noncomputable def d6.ctorIdx(U:d6):Nat:=U.casesOn 0 (λ_ _=>1) 2 λ_=>3
abbrev eg:=d6×ay×Nat
abbrev bA:=Nat->dF->ay->eg
noncomputable def aS.aJ(E:aS):Nat:=E.f.length
def jh(K:Str)(J:Nat)(U:Str):Option Nat:=if cF K J (J+U.length)=U then some<|J+U.length else none
noncomputable def lX(K:Str)(J:Nat)(U:Str):Bool:=match K.cps[J]?with|some M=>U.cps.toList.contains M|none=>false
def kX(K U:Str)(I:Bool)(O:Nat):Nat->Nat:=Nat.rec (motive:=λ_=>Nat->Nat) (λJ=>J) (λ_ S J=>if lX K J U==I then S<|J+1 else J) O
theorem MA{U:Str}:kX m U n 0 a=a:=rfl
theorem MB{U:Str}:kX m U n (e+1) a=if lX m a U==n then kX m U n e<|a+1 else a:=rfl
noncomputable def We(K:Str)(J O:Nat)(N:bX):Option Nat:=N.casesOn (if J+O<=K.length then some<|J+O else none) (if J=O then some J else none) (if J+O=K.length then some J else none) (if J<=O/\O<=K.length then some O else none) (if J+O<=K.length then some<|K.length-O else none) none none none none
def Wf(K:Str)(J:Nat)(U:Str)(N:bX):Option Nat:=N.casesOn none none none none none (if J<K.length/\lX K J U=true then some<|J+1 else none) (if J<K.length/\lX K J U=false then some<|J+1 else none) (if J<kX K U true (K.length-J) J then some<|kX K U true (K.length-J) J else none)<|if kX K U false (K.length-J) J<K.length then some<|kX K U false (K.length-J) J else none
def gO(K:Str)(J:Nat)(N:bX)(U:jO):Option Nat:=U.casesOn (λO=>We K J O N) λU=>Wf K J U N
section
variable{G I:Str}{E H:Nat}
theorem Wg:gO G E .aZ (.gu H)=if E+H<=G.length then some<|E+H else none:=rfl
theorem Wh:gO G E .uV (.gu H)=if E=H then some E else none:=rfl
theorem Wi:gO G E .uW (.gu H)=if E+H=G.length then some E else none:=rfl
theorem Wj:gO G E .uX (.gu H)=if E<=H/\H<=G.length then some H else none:=rfl
theorem Wk:gO G E .uY (.gu H)=if E+H<=G.length then some<|G.length-H else none:=rfl
theorem Wl:gO G E .wO (.fL I)=if E<G.length/\lX G E I=true then some<|E+1 else none:=rfl
theorem Wm:gO G E .wQ (.fL I)=if E<G.length/\lX G E I=false then some<|E+1 else none:=rfl
theorem Wn:gO G E .wR (.fL I)=if E<kX G I true (G.length-E) E then some<|kX G I true (G.length-E) E else none:=rfl
theorem Wo:gO G E .brk (.fL I)=if kX G I false (G.length-E) E<G.length then some<|kX G I false (G.length-E) E else none:=rfl
end
noncomputable def rD(K:Str)(J:Nat)(H:Int):Int:=if K.cps[J]?=some 40then H+1 else if K.cps[J]?=some 41then H-1 else H
def nI(K:Str)(O:Nat):Nat->Int->Option Nat:=Nat.rec (motive:=λ_=>Nat->Int->Option Nat) (λ_ _=>none) (λ_ S J H=>if rD K J H<0then none else if rD K J H=0then some<|J+1 else S (J+1)<|rD K J H) O
theorem MC:nI m (e+1) a p=if rD m a p<0then none else if rD m a p=0then some<|a+1 else nI m e (a+1)<|rD m a p:=rfl
def ji(K:Str)(O:Nat):Nat->List Nat:=Nat.rec (motive:=λ_=>Nat->List Nat) (λ_=>[]) (λ_ S J=>(nI K (K.length-J) J 0).elim [] λE=>E::S E) O
theorem BZ:ji m (e+1) a=(nI m (m.length-a) a 0).elim [] λE=>E::ji m e E:=rfl
noncomputable def wW(O:Nat):Str:=⟨#[48+O]⟩
set_option genCtorIdx false in inductive wX|iD|Gh|v (Q:aa)
noncomputable def wX.ctorIdx(U:wX):Nat:=U.casesOn 0 1 λ_=>2
noncomputable def fY(E:aS)(V:ay):dM->wX|.N=>.v<|.int E.wU|.S=>.v<|.str E.wV|.bV=>.v V.iZ|.P=>.Gh|.iD=>.iD|.fX=>.v<|.str cn
set_option genCtorIdx false in set_option genInjectivity true in inductive rE|iD|dG (O:Int)|ai (U:jO)
noncomputable def rE.ctorIdx(U:rE):Nat:=U.casesOn 0 (λ_=>1) λ_=>2
noncomputable def nJ:aa->rE|.int J=>.ai<|.gu J.toNat|.str K=>if K=⟨#[]⟩then .ai<|.gu 0 else if K=a0 then .ai<|.gu 1 else .dG 1|_=>.dG 1
def oy:aa->rE|.int J=>.ai<|.fL<|wW J.toNat|.str K=>if K=⟨#[]⟩then .dG 4 else .ai<|.fL K|_=>.dG 1
def mL(E:aS)(V:ay)(N:bX)(U:dM):rE:=match fY E V U with|.iD=>.iD|.Gh=>.dG 1|.v Q=>if N.rC then nJ Q else oy Q
def j6:aa->Str|.int J=>wW J.toNat|.str K=>K|_=>⟨#[]⟩
set_option genCtorIdx false in set_option genInjectivity true in inductive ix|dq|dG (O:Int)|at(J:Nat)
noncomputable def ix.ctorIdx(U:ix):Nat:=U.casesOn 0 (λ_=>1) λ_=>2
noncomputable def ix.cA:Option Nat->ix|some J=>.at J|none=>.dq
def B0(E:aS)(J:Nat)(N:bX)(Y:rE):ix:=Y.casesOn (motive:=λ_=>ix) .dq (λO=>.dG O) λU=>.cA<|gO E.f J N U
def hW(E:aS)(V:ay)(J:Nat)(w:aj):ix:=w.casesOn (motive:=λ_=>ix) (λK=>.cA<|jh E.f J K) (λN U=>.cA<|gO E.f J N U) (λN U=>B0 E J N<|mL E V N U) (.at E.aJ) .dq .dq .dq .dq .dq (λ_=>.dq) (λ_=>.dq) (λ_=>.dq) (λ_ _ _=>.dq) (λ_ _=>.dq) λ_ _=>.dq
theorem ze{E:aS}{V:ay}:hW E V a (.bc m)=.cA (jh E.f a m):=rfl
theorem MD{E:aS}{V:ay}{N:bX}{U:dM}:hW E V a (.gg N U)=B0 E a N (mL E V N U):=rfl
noncomputable def aj.Gi:aj->Bool|.bc _|.d5 _ _|.gg _ _|.fz=>true|_=>false
noncomputable def ay.u0(V:ay)(L:bT)(Q:aa):ay:=match L with|.bV=>{V with iZ:=Q}|.B=>{V with fX:=Q}|.C=>{V with jw:=Q}
def hZ(E:aS)(L:bT)(Q:aa)(V:ay):Option ay:=if E.uZ&&L==bT.C then none else some {V.u0 L Q with bx:=V.bx++[(L,Q)]}
def ME{E:aS}{L:bT}{V I:ay}(Y:hZ E L d V=some I):I={V.u0 L d with bx:=V.bx++[(L,d)]}:=by
 unfold hZ at Y;split at Y;·show nomatch Y
 ·show(jZ Y).symm
noncomputable def bk(O:Nat)(L:eg):eg:=(L.1,L.2.1,L.2.2+O)
def fk(L:eg)(W:ay->eg):eg:=L.1.casesOn (bk L.2.2<|W L.2.1) (λ_ _=>L) L λ_=>L
def i3(R:Nat)(S:ix)(T:Nat->eg)(V:ay):eg:=S.casesOn (.fail,V,R) (λO=>(.dG O,V,R)) λJ=>bk R<|T J
def eQ(R:Nat)(T:bA)(H:dF)(F:List Nat):ay->eg:=List.rec (motive:=λ_=>ay->eg) (λV=>(.fail,V,R)) (λJ _ S V=>bk R<|fk (T J H V) S) F
theorem Wq{T:bA}{H:dF}{V:ay}:eQ a T H [] V=(.fail,V,a):=rfl
theorem MF{T:bA}{H:dF}{V:ay}:eQ a T H (e::h) V=bk a (fk (T e H V)<|eQ a T H h):=rfl
def fq(R:Nat)(X:bA->bA)(T:bA)(O:Nat):bA:=Nat.rec (motive:=λ_=>bA) (λ_ _ V=>(.fail,V,R)) (λ_ S J H V=>bk R<|fk (T J H V) λV=>X (λM g I=>if M<=J then(.fail,I,R)else bk R<|S M g I) J H V) O
theorem Wr{X:bA->bA}{T:bA}{H:dF}{V:ay}:fq a X T (r+1) e H V=bk a (fk (T e H V) λV=>X (λM g I=>if M<=e then(.fail,I,a)else bk a<|fq a X T r M g I) e H V):=rfl
def lz(R F:Nat)(E:aS)(L:bT)(Q:aa)(T:ay->eg)(V:ay):eg:=(hZ E L Q V).casesOn (.fail,V,R) λI=>bk (R+F)<|T I
def zf(R w:Nat)(E:aS)(F:Bool)(L:bT)(J:Nat)(T:bA):bA:=λg H I=>F.casesOn (lz R w E L (.str<|cF E.f J g) (T g H) I)<|bk R<|T g (H++[(L,cF E.f J g)]) I
def rF(R:Nat)(L:eg):eg:=L.1.casesOn (.lW,L.2.1,L.2.2+R) (λ_ _=>bk R L) (bk R L) λ_=>bk R L
def jP(E:aS)(J:Nat):List Nat:=(List.range<|E.aJ+1-J).map (J+·)
def Ws(E:aS)(R:Nat)(X:bA->bA)(U:dM)(T:bA)(J:Nat)(H:dF)(V:ay):eg:=(fY E V U).casesOn (.fail,V,R) (bk R<|X (λJ H V=>bk R<|T J H V) J H V) λQ=>bk R<|i3 R (hW E V J<|.bc<|j6 Q) (λg=>bk R<|T g H V) V
def bI(E:aS)(R P Q:Nat)(X:bA->bA)(w:aj):bA->bA:=w.rec (λK T J O V=>i3 R (hW E V J<|.bc K) (λM=>T M O V) V) (λN U T J O V=>i3 R (hW E V J<|.d5 N U) (λM=>T M O V) V) (λN U T J O V=>i3 R (hW E V J<|.gg N U) (λM=>T M O V) V) (λT J O V=>i3 R (hW E V J .fz) (λM=>T M O V) V) (λT J O V=>eQ R T O (jP E J) V) (λT J O V=>eQ R T O (ji E.f (E.aJ+1-J) J) V) (λT J O V=>rF R<|T J O V) (λT J O V=>(.fail,V,R)) (λT J O V=>(.lW,V,R)) (λL T J O V=>lz R P E L (.int J) (T J O) V) (λU T J O V=>Ws E R X U T J O V) (λH G T J O V=>fq R G T (E.aJ+1-J) J O V) (λF H L G T J O V=>bk R<|G (zf R P E F L J T) J O V) (λH I G g T J O V=>bk Q<|G (g T) J O V) λH I G g T J O V=>bk R<|fk (G T J O V) λV=>g T J O V
section
variable{I:aS}{G L M:Nat}{N:bA->bA}{K:bA}{H:Nat}{J:dF}{E:ay}
theorem th:bI I G L M N (.bc m) K H J E=i3 G (hW I E H<|.bc m) (λg=>K g J E) E:=rfl
theorem Gj{g:bX}{U:jO}:bI I G L M N (.d5 g U) K H J E=i3 G (hW I E H<|.d5 g U) (λw=>K w J E) E:=rfl
theorem Gk{g:bX}{U:dM}:bI I G L M N (.gg g U) K H J E=i3 G (hW I E H<|.gg g U) (λw=>K w J E) E:=rfl
theorem Gl:bI I G L M N .fz K H J E=i3 G (hW I E H .fz) (λg=>K g J E) E:=rfl
theorem Gm:bI I G L M N .eG K H J E=eQ G K J (jP I H) E:=rfl
theorem B1:bI I G L M N .fj K H J E=eQ G K J (ji I.f (I.aJ+1-H) H) E:=rfl
theorem u9:bI I G L M N .fA K H J E=rF G (K H J E):=rfl
theorem zg:bI I G L M N .fail K H J E=(.fail,E,G):=rfl
theorem zh:bI I G L M N .fH K H J E=(.lW,E,G):=rfl
theorem Gn{g:bT}:bI I G L M N (.iO g) K H J E=lz G L I g (.int H) (K H J) E:=rfl
theorem tj{U:dM}:bI I G L M N (.fM U) K H J E=(fY I E U).casesOn (motive:=λ_=>eg) (.fail,E,G) (bk G<|N (λH J E=>bk G<|K H J E) H J E) λQ=>bk G<|i3 G (hW I E H<|.bc<|j6 Q) (λg=>bk G<|K g J E) E:=rfl
theorem B2{g:aj}:bI I G L M N (.de g) K H J E=fq G (bI I G L M N g) K (I.aJ+1-H) H J E:=rfl
theorem zi{g:aj}{w:bT}:bI I G L M N (.bZ n g w) K H J E=bk G (bI I G L M N g (zf G L I n w H K) H J E):=rfl
theorem B4{g:aj}{w:aj}:bI I G L M N (.bF g w) K H J E=bk M (bI I G L M N g (bI I G L M N w K) H J E):=rfl
theorem B5{g:aj}{w:aj}:bI I G L M N (.bU g w) K H J E=bk G (fk (bI I G L M N g K H J E) λE=>bI I G L M N w K H J E):=rfl
end
set_option genCtorIdx false in inductive dU|bl (H:aj)|lA (H:aj) (J:Nat)|kr (F:Bool) (L:bT) (J:Nat)
noncomputable def dU.ctorIdx(U:dU):Nat:=U.casesOn (λ_=>0) (λ_ _=>1) λ_ _ _=>2
abbrev cX:=List dU×Nat×dF
set_option genCtorIdx false in inductive oz|dE (R:cX) (g:List<|Option cX) (V:ay)|w (g:List<|Option cX) (V:ay)|F (S:d6) (V:ay)
noncomputable def oz.ctorIdx(U:oz):Nat:=U.casesOn (λ_ _ _=>0) (λ_ _=>1) λ_ _=>2
noncomputable def tl(S:ix)(M:List dU)(H:dF)(g:List<|Option cX)(V:ay):oz:=S.casesOn (.w g V) (λO=>.F (.dG O) V) λJ=>.dE (M,J,H) g V
def qm(E:aS)(L:bT)(Q:aa)(R:cX)(g:List<|Option cX)(V:ay):oz:=(hZ E L Q V).casesOn (.w g V) λI=>.dE R g I
def kY(E:aS)(w:aj)(M:List dU)(J:Nat)(G:dF)(O:List<|Option cX)(V:ay):oz:=w.casesOn (λK=>tl (hW E V J<|.bc K) M G O V) (λN U=>tl (hW E V J<|.d5 N U) M G O V) (λN U=>tl (hW E V J<|.gg N U) M G O V) (tl (hW E V J .fz) M G O V) (.dE (M,J,G) (if J<E.aJ then some (.bl .eG::M,J+1,G)::O else O) V) ((ji E.f (E.aJ+1-J) J).casesOn (.w O V) λg L=>.dE (M,g,G) (L.map (λN=>some (M,N,G))++O) V) (.dE (M,J,G) (none::O) V) (.w O V) (.F .lW V) (λL=>qm E L (.int J) (M,J,G) O V) (λU=>(fY E V U).casesOn (.w O V) (.dE (.bl E.l::M,J,G) O V) λQ=>.dE (.bl (.bc<|j6 Q)::M,J,G) O V) (λH=>.dE (M,J,G) (some (.bl H::.lA H J::M,J,G)::O) V) (λF H L=>.dE (.bl H::.kr F L J::M,J,G) O V) (λH I=>.dE (.bl H::.bl I::M,J,G) O V) λH I=>.dE (.bl H::M,J,G) (some (.bl I::M,J,G)::O) V
def dz(E:aS)(K:dU)(M:List dU)(J:Nat)(g:dF)(G:List<|Option cX)(V:ay):oz:=K.casesOn (λw=>kY E w M J g G V) (λH I=>if J=I then .w G V else .dE (.bl (.de H)::M,J,g) G V) λF L I=>F.casesOn (qm E L (.str<|cF E.f I J) (M,J,g) G V)<|.dE (M,J,g++[(L,cF E.f I J)]) G V
noncomputable def qn(M:cX->List (Option cX)->ay->Option (d6×ay))(F:List<|Option cX)(V:ay):Option<|d6×ay:=F.casesOn (some (.fail,V)) λS g=>S.casesOn (some (.lW,V)) λR=>M R g V
def wY(N:cX->List (Option cX)->ay->Option (d6×ay))(L:oz):Option<|d6×ay:=L.casesOn (λR g V=>N R g V) (λg V=>qn N g V) λS V=>some (S,V)
def gH(E:aS)(O:Nat):cX->List (Option cX)->ay->Option (d6×ay):=O.rec (λR _ V=>R.1.casesOn (some (.lV R.2.1 R.2.2,V)) λ_ _=>none) λ_ S R g V=>R.1.casesOn (some (.lV R.2.1 R.2.2,V)) λw M=>wY S<|dz E w M R.2.1 R.2.2 g V
theorem vc{E:aS}{w:dU}{M:List dU}{H:dF}{g:List<|Option cX}{V:ay}:gH E (a+1) (w::M,e,H) g V=wY (gH E a) (dz E w M e H g V):=rfl
set_option genCtorIdx false in set_option genInjectivity true in inductive aU|cW (F:aj)|eG|fj|split (O:Nat)|dg (O:Nat)|gI|bZ (F:Bool) (L:bT)|iP|rG (L:bT)|nK (U:dM)|fA|fail|fH|done
noncomputable def aU.ctorIdx(U:aU):Nat:=U.casesOn (λ_=>0) 1 2 (λ_=>3) (λ_=>4) 5 (λ_ _=>6) 7 (λ_=>8) (λ_=>9) 10 11 12 13
structure bN where
fo:List aU
bf:Nat
bY:Nat
lB:dF
cK:List Nat
dA:List<|List aU×Nat
set_option genCtorIdx false in inductive lC|vd (J:Nat) (Y:dF)|Gp|uE|dG (O:Int)
noncomputable def lC.ctorIdx(U:lC):Nat:=U.casesOn (λ_ _=>0) 1 2 λ_=>3
set_option genCtorIdx false in inductive lD|dE (R:bN) (g:List<|Option bN) (V:ay)|w (g:List<|Option bN) (V:ay)|F (S:lC) (V:ay)|qo
noncomputable def lD.ctorIdx(U:lD):Nat:=U.casesOn (λ_ _ _=>0) (λ_ _=>1) (λ_ _=>2) 3
noncomputable def zj(S:ix)(R:bN)(w:List<|Option bN)(V:ay):lD:=S.casesOn (.w w V) (λO=>.F (.dG O) V) λJ=>.dE {R with bY:=J,bf:=R.bf+1} w V
def ps(E:aS)(L:bT)(Q:aa)(R:bN)(w:List<|Option bN)(V:ay):lD:=(hZ E L Q V).casesOn (.w w V) λI=>.dE {R with bf:=R.bf+1} w I
noncomputable def ve(X:List Nat)(R:bN)(w:List<|Option bN)(V:ay):lD:=X.casesOn (.w w V) λJ L=>.dE {R with bY:=J,bf:=R.bf+1} (L.map (λN=>some {R with bY:=N,bf:=R.bf+1})++w) V
def wZ(E:aS)(F:aj->List aU)(R:bN)(w:List<|Option bN)(V:ay)(Q:wX):lD:=Q.casesOn (.w w V) (.dE {R with fo:=F E.l,bf:=0,dA:=(R.fo,R.bf+1)::R.dA} w V) λQ=>.dE {R with fo:=F<|.bc<|j6 Q,bf:=0,dA:=(R.fo,R.bf+1)::R.dA} w V
def B6(E:aS)(F:Bool)(L:bT)(R:bN)(w:List<|Option bN)(V:ay)(Z:List Nat):lD:=Z.casesOn .qo λI Z=>F.casesOn (ps E L (.str<|cF E.f I R.bY) {R with cK:=Z} w V)<|.dE {R with cK:=Z,lB:=(L,cF E.f I R.bY)::R.lB,bf:=R.bf+1} w V
noncomputable def B7(R:bN)(w:List<|Option bN)(V:ay)(Z:List Nat):lD:=Z.casesOn .qo λI Z=>if I<R.bY then .dE {R with cK:=Z,bf:=R.bf+1} w V else .w w V
noncomputable def B8(R:bN)(w:List<|Option bN)(V:ay)(G:List<|List aU×Nat):lD:=G.casesOn (.F (.vd R.bY R.lB) V) λM G=>.dE {R with fo:=M.1,bf:=M.2,dA:=G} w V
def MG(E:aS)(g:aj->List aU)(S:aU)(R:bN)(w:List<|Option bN)(V:ay):lD:=S.casesOn (λF=>zj (hW E V R.bY F) R w V) (ve (jP E R.bY) R w V) (ve (ji E.f (E.aJ+1-R.bY) R.bY) R w V) (λO=>.dE {R with bf:=R.bf+1} (some {R with bf:=O}::w) V) (λO=>.dE {R with bf:=O} w V) (.dE {R with cK:=R.bY::R.cK,bf:=R.bf+1} w V) (λF L=>B6 E F L R w V R.cK) (B7 R w V R.cK) (λL=>ps E L (.int R.bY) R w V) (λU=>wZ E g R w V<|fY E V U) (.dE {R with bf:=R.bf+1} (none::w) V) (.w w V) (.F .uE V)<|B8 R w V R.dA
def iy(E:aS)(F:aj->List aU)(R:bN)(w:List<|Option bN)(V:ay):lD:=R.fo[R.bf]?.casesOn .qo λS=>MG E F S R w V
def fe{E:aS}{F:aj->List aU}{R:bN}{w:List<|Option bN}{V:ay}{S:aU}(Y:R.fo[R.bf]?=some S):iy E F R w V=MG E F S R w V:=by unfold iy;show congrArg _ Y
noncomputable def vf(M:bN->List (Option bN)->ay->Option (lC×ay))(F:List<|Option bN)(V:ay):Option<|lC×ay:=F.casesOn (some (.Gp,V)) λS w=>S.casesOn (some (.uE,V)) λR=>M R w V
def vg(N:bN->List (Option bN)->ay->Option (lC×ay))(L:lD):Option<|lC×ay:=L.casesOn (λR w V=>N R w V) (λw V=>vf N w V) (λS V=>some (S,V)) none
def jQ(E:aS)(F:aj->List aU)(O:Nat):bN->List (Option bN)->ay->Option (lC×ay):=Nat.rec (motive:=λ_=>bN->List (Option bN)->ay->Option (lC×ay)) (λ_ _ _=>none) (λ_ S R w V=>vg S<|iy E F R w V) O
theorem B9{E:aS}{F:aj->List aU}{R:bN}{w:List<|Option bN}{V:ay}:jQ E F (a+1) R w V=vg (jQ E F a) (iy E F R w V):=rfl
end
inductive qp{X:Type}(w F:X->Prop):Prop|mk (H:X) (g:w H) (W:F H)
inductive zk{X:Type}(E F G:X->Prop):Prop|mk (H:X) (g:E H) (W:F H) (w:G H)
inductive Wt{X:Type}(G F I S:X->Prop):Prop|mk (H:X) (g:G H) (W:F H) (w:I H) (E:S H)
inductive Gq{X O:Type}(w F:X->O->Prop):Prop|mk (H:X) (I:O) (g:w H I) (W:F H I)
inductive tm{X O:Type}(E F G:X->O->Prop):Prop|mk (H:X) (I:O) (g:E H I) (W:F H I) (w:G H I)
inductive qq{X O:Type}(G F J S:X->O->Prop):Prop|mk (H:X) (I:O) (g:G H I) (W:F H I) (w:J H I) (E:S H I)
inductive rH{X O:Type}(G F K S L:X->O->Prop):Prop|mk (H:X) (I:O) (g:G H I) (W:F H I) (w:K H I) (E:S H I) (J:L H I)
inductive MH{X O:Type}(G F K S M Y:X->O->Prop):Prop|mk (H:X) (I:O) (g:G H I) (W:F H I) (w:K H I) (E:S H I) (J:M H I) (L:Y H I)
inductive Ca{X O Y:Type}(E F G:X->O->Y->Prop):Prop|mk (H:X) (I:O) (M:Y) (g:E H I M) (W:F H I M) (w:G H I M)
inductive Gr{X O Y:Type}(G F J S:X->O->Y->Prop):Prop|mk (H:X) (I:O) (M:Y) (g:G H I M) (W:F H I M) (w:J H I M) (E:S H I M)
inductive Wu{X O Y:Type}(J F N S P Q g:X->O->Y->Prop):Prop|mk (H:X) (I:O) (M:Y) (w:J H I M) (W:F H I M) (G:N H I M) (E:S H I M) (K:P H I M) (L:Q H I M) (U:g H I M)
inductive MI{X O E G:Type}(w F:X->O->E->G->Prop):Prop|mk (H:X) (I:O) (M:E) (Y:G) (g:w H I M Y) (W:F H I M Y)
inductive Wv{X O P R:Type}(J F N S Q T g:X->O->P->R->Prop):Prop|mk (H:X) (I:O) (M:P) (Y:R) (w:J H I M Y) (W:F H I M Y) (G:N H I M Y) (E:S H I M Y) (K:Q H I M Y) (L:T H I M Y) (U:g H I M Y)
def eX(w:aj):Bool:=w.rec (λ_=>true) (λ_ _=>true) (λ_ _=>true) true true true true true true (λ_=>true) (λU=>U.casesOn true true true false true true) (λ_ G=>G) (λ_ _ _ G=>G) (λ_ _ G g=>G&&g) λ_ _ G g=>G&&g
theorem mM{H I:aj}:eX (.bF H I)=(eX H&&eX I):=rfl
theorem pv{H I:aj}:eX (.bU H I)=(eX H&&eX I):=rfl
theorem Ww{K U J g}(S:J<=K.length)(w:jh K J U=some g):gV (J<=g)<|g<=K.length:=by
 unfold jh at w;split at w
 ·rename_i L;obtain rfl:=bO w;show⟨bD, ?_⟩;obtain H:(cF K J<|J+U.length).cps.size=U.cps.size:=by rw[L]
  unfold cF at H;rw[Array.size_extract]at H;have:K.length=K.cps.size:=rfl;have:U.length=U.cps.size:=rfl;lia
 ·show bQ w
def Wx{K U I}:∀O J,J<=kX K U I O J/\kX K U I O J<=J+O:=by intro O;induction O with
|zero=>show λJ=>⟨Nat.le_refl J,Nat.le_refl J⟩
| succ O S => intro J;simp only[MB];split;· have:=S<|J+1;show And.intro (ie this.1)<|aq this.2<|bP gM
              · show And.intro aH bD
def rI{M:Prop} [Decidable M](w:(if M then some a else none)=some e):gV M<|a=e:=by
 by_cases Y:M;·rw[if_pos Y]at w;show⟨Y,jZ w⟩
 ·rw[if_neg Y]at w;show bQ w
def MJ{K N U J g}(S:J<=K.length)(w:gO K J N U=some g):gV (J<=g)<|g<=K.length:=by
 obtain E:=λU I=> @Wx K U I (K.length-J) J;have G {O:Nat} (Y:O<=J+(K.length-J)):O<=K.length:=aq Y<|bP<|Nat.add_sub_cancel' S;rcases U with O|U;·induction N using bX.casesOn with|aZ=>obtain⟨Y,rfl⟩:=rI w;show⟨bD,Y⟩|uV=>obtain⟨Y,rfl⟩:=rI w;show⟨aH,S⟩|uW=>obtain⟨Y,rfl⟩:=rI w;show⟨aH,S⟩|uX=>obtain⟨Y,rfl⟩:=rI w;show⟨Y.1,Y.2⟩|uY=>obtain⟨Y,rfl⟩:=rI w;show⟨oS Y,kn⟩|_=>show nomatch show none=some g from w
 ·induction N using bX.casesOn with|wO=>obtain⟨Y,rfl⟩:=rI w;show⟨m8 _,Y.1⟩|wQ=>obtain⟨Y,rfl⟩:=rI w;show⟨m8 _,Y.1⟩|wR=>obtain⟨Y,rfl⟩:=rI w;show⟨lJ Y,G (E U true).2⟩|brk=>obtain⟨Y,rfl⟩:=rI w;show⟨(E U false).1,lJ Y⟩|_=>show nomatch show none=some g from w
def kZ{E V J g F}(G:J<=E.aJ)(w:hW E V J F=.at g):gV (J<=g)<|g<=E.aJ:=by
 have Z:∀S,ix.cA S=ix.at g->S=some g:=by intro S L;induction S<;>simp[ix.cA]at L;simp[L]
 induction F with|bc=>show Ww G<|Z _ w|d5=>show MJ G<|Z _ w|gg N U=>
 obtain w:B0 E J N (mL E V N U)=.at g:=w;rcases Y:mL E V N U with _|O|I;·rw[Y]at w;show nomatch show ix.dq=.at g from w
 ·rw[Y]at w;show nomatch w
 ·rw[Y]at w;show MJ G<|Z _ w|fz=>clear Z;cases w;show⟨G,aH⟩|_=>show nomatch show ix.dq=.at g from w
def Gs{K}:∀O J E g,nI K O J E=some g->J<g/\g<=J+O:=by intro O;induction O with|zero=>show λJ E g w=>bQ w|succ O S=>
intro J E g w;simp only[MC]at w;generalize rD K J E=F at w;by_cases H:F<0;·rw[if_pos H]at w;show bQ w
·rw[if_neg H]at w;by_cases W:F=0;·rw[if_pos W]at w;obtain rfl:=bO w;show And.intro iW<|cB bD
 ·rw[if_neg W]at w;have:=S _ _ _ w;show And.intro (mz<|lJ this.1)<|aq this.2<|bP gM
theorem w5{K}:∀O J,J<=K.length->∀g∈ji K O J,J<=g/\g<=K.length:=by intro O;induction O with|zero=>show λJ F g w=>(t5 w).elim|succ O S=>
intro J F g w;simp only[BZ]at w;rcases Q:nI K (K.length-J) J 0with _|E;·rw[Q]at w;simp at w
·replace w:=Q▸w;have:=Gs _ _ _ _ Q;rcases gA.mp w with rfl|w;·show And.intro (lJ this.1)<|aq this.2<|bP<|I6 F
 ·have:=S E (by omega) g w;lia
theorem Gu{E:aS}(S:a<=E.aJ):∀J∈jP E a,a<=J/\J<=E.aJ:=by intro J w;unfold jP at w;rw[List.mem_map]at w;obtain⟨N,g,rfl⟩:=w;rw[List.mem_range]at g;show And.intro bD<|by lia-abstractProof
def d6.w6(S:d6)(H I:c):c:=S.rec H (λ_ _=>I) I λ_=>I
def gP(E:aS)(w:List dU)(J:Nat)(H:dF)(V:ay)(L:eg):Prop:=∀g,∃N,N<=L.2.2/\∀O,gH E (O+N) (w,J,H) g V=L.1.w6 (qn (gH E O) g L.2.1) (some (L.1,L.2.1))
def Cb(E:aS)(L:List dU)(T:bA)(J:Nat):Prop:=∀H V,gP E L J H V<|T J H V
def Gv{E F M J H V R g G I N}(w:dz E F M J H g V=.dE R G I)(O:Nat):gH E (O+(N+1)) (F::M,J,H) g V=gH E (O+N) R G I:=by change gH E (O+N+1) _ _ _=_;simp only[vc,wY,w]
def gP.bK{E P K J H V R I L}(M:Nat)(F:1<=M)(w:∀G,dz E P K J H G V=.dE R G I)(X:gP E R.1 R.2.1 R.2.2 I L):gP E (P::K) J H V<|bk M L:=λG=>aB (X G) λN g W=>aX (N+1) (ip g F) λO=>(Gv (w G) O).trans<|W O
def gP.pw{E K G J H V I}(M:Nat)(g:1<=M)(w:∀F,dz E K G J H F V=.w F I):gP E (K::G) J H V (.fail,I,M):=λF=>⟨1,g,λO=>by change gH E (O+1) _ _ _=qn _ _ _;simp only[vc,wY,w]⟩
def gP.w9{E K G J H V I}(S:d6)(L:∀w:S=.fail,False)(M:Nat)(g:1<=M)(w:∀F,dz E K G J H F V=.F S I):gP E (K::G) J H V (S,I,M):=λF=>⟨1,g,λO=>by simp only[(by simp only[vc,wY,w]:gH E (O+1) (K::G,J,H) F V=some (S,I))];clear w;induction S with|fail=>show(L rfl).elim|_=>rfl⟩
def gP.gq{E Z T J H V R c I L W}(M:Nat)(K:1<=M)(w:∀Q,dz E Z T J H Q V=.dE R (some c::Q) I) (X:gP E R.1 R.2.1 R.2.2 I L)(P:∀U,gP E c.1 c.2.1 c.2.2 U<|W U):gP E (Z::T) J H V<|bk M<|fk L W:=by intro Q;obtain⟨S,b,a⟩:=L;show aB (X<|some c::Q) λN g F=> ?_;clear X;induction S with|fail=>show aB (P b Q) λY d G=>⟨Y+(N+1),aq (ip d<|ip g K)<|bP n6.symm,λO=>by rw[<-Nat.add_assoc];show(Gv (w Q) _).trans<|(F _).trans<|G O⟩|_=>show aX (N+1) (ip g K) λO=>(Gv (w Q) O).trans<|F O
def gP.Gw{E F J H V L}(M:Nat)(X:gP E F J H V L):gP E F J H V<|bk M L:=λw=>aB (X w) λN g W=>aX N (gU g) W
def gP.cW{E I M J H V T}(S:ix)(g:∀G,dz E I M J H G V=tl S M H G V) (K:∀F,S=.at F->gP E M F H V (T F)):gP E (I::M) J H V<|i3 1 S T V:=by induction S with|dq=>show .pw 1 aH g|dG O=>show .w9 _ (by intro g;contradiction) 1 aH g|«at» F=>show .bK (R:=(M,F,H)) 1 aH g<|K F rfl
def gP.xa{E N M J H V T F}(L:bT)(Q:aa)(g:∀K,dz E N M J H K V=qm E L Q (M,J,H) K V) (O:∀I,gP E M J H I<|T I):gP E (N::M) J H V<|lz 1 F E L Q T V:=by
 unfold qm at g;unfold lz;rcases G:hZ E L Q V with _|I;·obtain g:=G▸g;show .pw 1 aH g
 ·obtain g:=G▸g;show .bK (R:=(M,J,H)) (1+F) bD g<|O I
def gP.Wy{E g J H V L Q}(w:L=Q)(X:gP E g J H V L):gP E g J H V Q:=w▸X
def Wz{E M T H}:∀(X:List Nat),(∀J∈X,∀V,gP E M J H V<|T J H V)->∀V K,qp (λN=>N+1<=(eQ 1 T H X V).2.2) λN=>∀O,qn (gH E<|O+N) (X.map (λJ=>some (M,J,H))++K) V=(eQ 1 T H X V).1.w6 (qn (gH E O) K (eQ 1 T H X V).2.1) (some ((eQ 1 T H X V).1,(eQ 1 T H X V).2.1)):=by intro X;induction X with|nil=>intro _ V K;show⟨0,aH,λO=>rfl⟩|cons J L F=>intro w V K;show aB (w J cY V<|L.map (λJ=>some (M,J,H))++K) λN g W=> ?_;change qp (λN=>_<=(bk 1<|fk (T J H V)<|eQ 1 T H L).2.2) λN=>∀O,_=(bk 1<|fk (T J H V)<|eQ 1 T H L).1.w6 (qn _ _ (bk 1<|fk (T J H V)<|eQ 1 T H L).2.1) (some ((bk 1<|fk (T J H V)<|eQ 1 T H L).1,(bk 1<|fk (T J H V)<|eQ 1 T H L).2.1));generalize T J H V=Y at g W⊢;obtain⟨S,R,P⟩:=Y;induction S with|fail=>obtain⟨I,Q,G⟩:=(F λJ U=>w J<|dI U) R K;show⟨I+N,cB<|ip (ie Q) g,λO=> ?_⟩;rw[<-Nat.add_assoc];show(W _).trans<|G O|_=>show⟨N,cB g,W⟩
theorem WA{E M T O}:∀N J,E.aJ+1-J=N->J<=E.aJ->(∀L,J<=L->L<=E.aJ->∀V,gP E M L O V<|T L O V)->∀V,gP E (.bl .eG::M) J O V<|eQ 1 T O (jP E J) V:=by intro N;induction N with|zero=>intro J Q P;omega|succ N I=>
intro J Q P F V;obtain g:jP E J=J::jP E (J+1):=by unfold jP;have:E.aJ+1-(J+1)=N:=A5 Q;rw[Q,List.range_succ_eq_map];rw[this];simp[Function.comp_def];intro H _;show Eq.symm gM
rw[g];simp only[MF];by_cases K:J<E.aJ
· show .gq (R:=(M,J,O)) (c:=(.bl .eG::M,J+1,O)) 1 aH ?_ (F J aH P V) ?_;· intro W;simp only[dz,kY,K,if_true]
  · show λX=>I (J+1) (A5 Q) (j1 K) (λL U a=>F L (ie U) a) X
· have : jP E (J + 1) = [] := by unfold jP;have:E.aJ+1-(J+1)=0:=PD<|cB<|sq K;rw[this];rfl
  show this▸ ?_;obtain G:=gP.bK (P:=.bl .eG) (K:=M) (R:=(M,J,O)) (J:=J) (H:=O) (V:=V) 1 aH (by intro W;simp only[dz,kY,K,if_false])<|F J aH P V;generalize T J O V=Y at G⊢;obtain⟨S,R,Z⟩:=Y;induction S<;>simp only[fk,Wq]<;>first|show G|show .Wy (by simp only[bk];congr 2;show lQ)<|.Gw 1 G
def tu(E:aS)(X:bA->bA)(H:aj):Prop:=∀M T J,J<=E.aJ->(∀g,J<=g->g<=E.aJ->Cb E M T g)->Cb E (.bl H::M) (X T) J
theorem WB{E H X}(g:tu E X H){M T}:∀N J,E.aJ-J<N->J<=E.aJ->(∀K,J<=K->K<=E.aJ->Cb E M T K)->Cb E (.bl (.de H)::M) (fq 1 X T N) J:=by intro N;induction N with|zero=>intro J F;lia|succ N S=>
intro J Q P a L V;show .gq (R:=(M,J,L)) (c:=(.bl H::.lA H J::M,J,L)) 1 aH (λ_=>rfl) (a J aH P L V) ?_;intro Z;show g (.lA H J::M) _ J P ?_ L Z;intro K U c b I;rcases pM<|K<=J with R|R;·have:K=J:=i7 R U;clear Q;subst this;simp only[Nat.le_refl];show .pw 1 aH<|by intro Y;simp only[dz,if_true]
·simp only[R];show .bK (R:=(.bl (.de H)::M,K,b)) 1 aH (by intro Y;show if_neg<|d7<|m6 R)<|S K (Nat.sub_lt_right_of_lt_add c<|m6<|by lia) c (λO G W=>a O (aq U G) W) b I
theorem MK(E:aS)(l:Nat)(X:bA->bA):∀h,eX h=true\/tu E X E.l->tu E (bI E 1 l 1 X h) h:=by
 intro h;induction h with|bc P=>intro _ M T J i r d V;show .cW _ (λ_=>rfl) λc p=>r c (kZ i p).1 (kZ i p).2 d V|d5 N U=>intro _ M T J i r d V;show .cW _ (λ_=>rfl) λc p=>r c (kZ i p).1 (kZ i p).2 d V|gg N U=>intro _ M T J i r d V;show .cW _ (λ_=>rfl) λc p=>r c (kZ i p).1 (kZ i p).2 d V|fz=>intro _ M T J i r d V;show .cW _ (λ_=>rfl) λc p=>r c (kZ i p).1 (kZ i p).2 d V|eG=>intro _ M T J i r d V;show WA _ J rfl i (λc Z W V=>r c Z W d V) V|fj=>
 intro _ M T J i r d V;simp only[B1];intro o;obtain⟨N,k,W⟩:=Wz (E:=E) (M:=M) (T:=T) (H:=d) (ji E.f (E.aJ+1-J) J) (λc p V=>r c ((w5 (K:=E.f) (E.aJ+1-J) J i) c p).1 ((w5 (K:=E.f) (E.aJ+1-J) J i) c p).2 d V) V o;have g:∀O,gH E (O+(N+1)) (.bl .fj::M,J,d) o V=qn (gH E<|O+N) ((ji E.f (E.aJ+1-J) J).map (λc=>some (M,c,d))++o) V:=by intro O;change gH E (O+N+1) _ _ _=_;simp only[vc,dz,kY];induction ji E.f (E.aJ+1-J) J<;>rfl
 generalize eQ 1 T d (ji E.f (E.aJ+1-J) J) V=Y at k W⊢;obtain⟨S,R,v⟩:=Y;show aX (N+1) k ?_;induction S<;>(intro O;rw[g];show W O)|fA=>
 intro _ M T J i r d V o;show aB (r J aH i d V<|none::o) λN k W=> ?_;have g:∀O,gH E (O+(N+1)) (.bl .fA::M,J,d) o V=gH E (O+N) (M,J,d) (none::o) V:=by intro O;change gH E (O+N+1) _ _ _=_;dsimp only[vc,wY,dz,kY]
 simp only[u9];generalize T J d V=Y at k W⊢;obtain⟨S,R,v⟩:=Y;show aX (N+1) ?_ ?_;· induction S<;>(simp only[rF,bk]at*;lia)
 · induction S<;>(intro O;show W O)|fail=>intro _ M T J i r d V;show .pw 1 aH λ_=>rfl|fH=>intro _ M T J i r d V;show .w9 _ (by intro G;contradiction) 1 aH λ_=>rfl|iO L=>intro _ M T J i r d V;show .xa L _ (λ_=>rfl) λm=>r J aH i d m|fM U=>
 intro y M T J i r d V;simp only[tj];rcases b:fY E V U with _|_|Q;· show .pw 1 aH<|by intro o;simp only[dz,kY,b]
 · obtain n:U=.P:=by induction U using dM.casesOn<;>simp[fY]at b;rfl
   have A : tu E X E.l := by subst n;rcases y with G|G;· show Bool.noConfusion G
                             · show G
   show .bK (R:=(.bl E.l::M,J,d)) (I:=V) 1 aH (by intro o;simp only[dz,kY,b]) ?_;show A M _ J i (λc Z W d V=>.Gw 1<|r c Z W d V) d V
 · show .bK (R:=(.bl (.bc<|j6 Q)::M,J,d)) (I:=V) 1 aH (by intro o;simp only[dz,kY,b]) ?_;show .cW _ (λ_=>rfl) λc p=>.Gw 1<|r c (kZ i p).1 (kZ i p).2 d V|de H a=>intro y M T J i r;show WB (a y) _ J (Nat.sub_lt_sub_right i iW) i r|bZ F H L a=>
 intro y M T J i r d V;show .bK (R:=(.bl H::.kr F L J::M,J,d)) 1 aH (λ_=>rfl) ?_;show a y _ _ J i ?_ d V;intro c Z W x m;rcases F with _|_;· show .xa L _ (λ_=>rfl) λq=>r c Z W x q
 · show .bK (R:=(M,c,x++[(L,cF E.f J c)])) 1 aH (λ_=>rfl)<|r c Z W _ m|bF H I t u=>
 intro y M T J i r d V;show .bK (R:=(.bl H::.bl I::M,J,d)) 1 aH (λ_=>rfl) ?_;have B:eX H=true\/tu E X E.l:=by simp only[mM,Bool.and_eq_true]at y;show y.imp (·.1) id
 have C:eX I=true\/tu E X E.l:=by simp only[mM,Bool.and_eq_true]at y;show y.imp (·.2) id
 show t B _ _ J i (λc Z W=>u C M T c W λz f j=>r z (aq Z f) j) d V|bU H I t u=>
 intro y M T J i r d V;have B:eX H=true\/tu E X E.l:=by simp only[pv,Bool.and_eq_true]at y;show y.imp (·.1) id
 have C:eX I=true\/tu E X E.l:=by simp only[pv,Bool.and_eq_true]at y;show y.imp (·.2) id
 show .gq (R:=(.bl H::M,J,d)) (c:=(.bl I::M,J,d)) 1 aH (λ_=>rfl) (t B M T J i r d V) λq=>u C M T J i r d q
noncomputable def aU.rJ:aU->Bool|.dg _=>true|_=>false
def qr(R:List aU)(X G:Nat):Prop:=∃S,R[G]?=some S/\S.rJ=false/\(X=G\/R[X]?=some (.dg G))
def j7(R:List aU)(W:Nat->Nat->Prop):aj->Nat->Nat->Prop|.bc K,X,Y=>R[X]?=some (.cW<|.bc K)/\Y=X+1\/K=⟨#[]⟩/\Y=X|.d5 N U,X,Y=>R[X]?=some (.cW<|.d5 N U)/\Y=X+1|.gg N U,X,Y=>R[X]?=some (.cW<|.gg N U)/\Y=X+1|.fz,X,Y=>R[X]?=some (.cW .fz)/\Y=X+1|.eG,X,Y=>R[X]?=some .eG/\Y=X+1|.fj,X,Y=>R[X]?=some .fj/\Y=X+1|.fA,X,Y=>R[X]?=some .fA/\Y=X+1|.fail,X,Y=>R[X]?=some .fail/\Y=X+1|.fH,X,Y=>R[X]?=some .fH/\Y=X+1|.iO L,X,Y=>R[X]?=some (.rG L)/\Y=X+1|.fM U,X,Y=>R[X]?=some (.nK U)/\Y=X+1|.de H,X,Y=>∃w G g E,R[X]?=some (.split G)/\W (X+2) G/\R[X+1]?=some (.dg g)/\W Y g/\R[X+2]?=some .gI/\j7 R W H (X+3) w/\R[w]?=some .iP/\R[w+1]?=some (.dg E)/\W X E/\Y=w+2|.bZ F H L,X,Y=>∃w,R[X]?=some .gI/\j7 R W H (X+1) w/\R[w]?=some (.bZ F L)/\Y=w+1|.bF H I,X,Y=>∃w,j7 R W H X w/\j7 R W I w Y|.bU H I,X,Y=>∃w G g,R[X]?=some (.split G)/\W (w+1) G/\j7 R W H (X+1) w/\R[w]?=some (.dg g)/\W Y g/\j7 R W I (w+1) Y
noncomputable def rK:d6->lC|.fail=>.Gp|.lV J H=>.vd J H.reverse|.lW=>.uE|.dG O=>.dG O
def dW(E:aS)(F:aj->List aU)(R:bN)(V:ay)(L:eg)(M:Nat):Prop:=∀w,∃N,N<=M/\∀O,jQ E F (O+N) R w V=L.1.w6 (vf (jQ E F O) w L.2.1) (some (rK L.1,L.2.1))
def Cc(E:aS)(F:aj->List aU)(R:List aU)(G:Nat)(g:List Nat)(M:List<|List aU×Nat)(T:bA)(J:Nat):Prop:=∀H V,1<=(T J H V).2.2/\dW E F ⟨R,G,J,H.reverse,g,M⟩ V (T J H V) (3*(T J H V).2.2-1)
def jj(E:aS)(F:aj->List aU)(R:List aU)(X:Nat)(g:List Nat)(M:List<|List aU×Nat)(T:bA)(J:Nat):Prop:=∃G,qr R X G/\Cc E F R G g M T J
def dW.cZ{E F R V L M I}(w:dW E F R V L M)(H:M<=I):dW E F R V L I:=by intro G;show aB (w G) λN g W=> ?_;show aX N (aq g H) W
def dW.bk{E F R V L M}(H:Nat)(w:dW E F R V L M):dW E F R V (bk H L) M:=by intro G;show aB (w G) λN g W=> ?_;show aX N g W
def Cd{E F R g V G U I N}(w:iy E F R g V=.dE G U I)(O:Nat):jQ E F (O+(N+1)) R g V=jQ E F (O+N) G U I:=by change jQ E F (O+N+1) _ _ _=_;simp only[B9,vg,w]
def dW.bK{E F R H V I L M}(w:∀G,iy E F R G V=.dE H G I)(X:dW E F H I L M):dW E F R V L<|M+1:=λG=>aB (X G) λN g W=>aX (N+1) (cB g) λO=>(Cd (w G) O).trans<|W O
def dW.pw{E F R V I H}(w:∀g,iy E F R g V=.w g I):dW E F R V (.fail,I,H) 1:=λg=>⟨1,aH,λO=>by change jQ E F (O+1) _ _ _=vf _ _ _;simp only[B9,vg,w]⟩
def dW.w9{E F R V I H}(S:d6)(L:∀g:S=.fail,False)(g:∀G,iy E F R G V=.F (rK S) I):dW E F R V (S,I,H) 1:=λG=>⟨1,aH,λO=>by simp only[(by simp only[B9,vg,g]:jQ E F (O+1) R G V=some (rK S,I))];clear g;induction S with|fail=>show(L rfl).elim|_=>rfl⟩
def dW.gq{E F R b d V I L W M}{a:ay->Nat}(w:∀P,iy E F R P V=.dE b (some d::P) I) (X:dW E F b I L M)(T:∀Z,dW E F d Z (W Z)<|a Z)(G:Nat)(U:M+1<=G)(J:L.1=.fail->M+1+a L.2.1<=G):dW E F R V (fk L W) G:=by intro P;obtain⟨S,c,H⟩:=L;show aB (X<|some d::P) λN g K=> ?_;clear X;induction S with|fail=>show aB (T c P) λY e Q=>⟨Y+(N+1),aq (bP lQ)<|aq (ip (cB g) e)<|J rfl,λO=>by rw[<-Nat.add_assoc];show(Cd (w P) _).trans<|(K _).trans<|Q O⟩|_=>show aX (N+1) (aq (cB g) U) λO=>(Cd (w P) O).trans<|K O
def ML(L:eg)(W:ay->eg):L.2.2<=(fk L W).2.2:=by obtain⟨S,K,M⟩:=L;induction S with|fail=>show aR|_=>show aH
theorem zl(O:Nat)(L:eg):(bk O L).2.2=L.2.2+O:=rfl
theorem MM{L:eg}{W:ay->eg}(w:L.1=.fail):(fk L W).2.2=(W L.2.1).2.2+L.2.2:=by obtain⟨S,K,M⟩:=L;simp only at w;subst w;rfl
def jj.lY{E F R X O M T J}(w:jj E F R X O M T J)(K:dF)(V:ay):1<=(T J K V).2.2/\dW E F ⟨R,X,J,K.reverse,O,M⟩ V (T J K V) (3*(T J K V).2.2):=by
 show aB w ?_;rintro G ⟨S,L,U,I⟩ N;obtain⟨H,W⟩:=N K V;show⟨H, ?_⟩;clear L;clear N;rcases I with rfl|I;·show W.cZ kn
 ·show(dW.bK (H:=⟨R,G,J,K.reverse,O,M⟩) (I:=V) ?_ W).cZ<|j1<|Nat.sub_one_lt<|d7<|mz<|aq H (by simp+arith);show λg=>(fe I).trans rfl
def jj.j8{E F R X S g M T J}(L:R[X]?=some S)(U:S.rJ=false)(w:Cc E F R X g M T J):jj E F R X g M T J:=aX X (cO S L U<|.inl rfl) w
def jj.MN{E F R X G O M T J}(I:R[X]?=some (.dg G))(Y:Nat)(V:qr R Y G)(w:jj E F R Y O M T J):jj E F R X O M T J:=by
 obtain⟨U,⟨S,L,H,g⟩,N⟩:=w;show cC V λK W Q P=> ?_;have:G=U:=by
  clear V;rcases g with rfl|g<;>rcases P with rfl|P;·rfl
  ·rw[L]at P;obtain rfl:=bO P;show Bool.noConfusion H
  ·rw[W]at g;obtain rfl:=bO g;show Bool.noConfusion Q
  ·rw[P]at g;cases g;rfl
 subst this;show aX G (cO S L H<|.inr I) N
def jj.MO{E F R Y G K M T J}(V:qr R Y G)(w:jj E F R Y K M T J):Cc E F R G K M T J:=by
 obtain⟨U,⟨S,L,H,g⟩,N⟩:=w;show cC V λI W P O=> ?_;have:G=U:=by
  clear V;rcases g with rfl|g<;>rcases O with rfl|O;·rfl
  ·rw[L]at O;obtain rfl:=bO O;show Bool.noConfusion H
  ·rw[W]at g;obtain rfl:=bO g;show Bool.noConfusion P
  ·rw[O]at g;clear L;cases g;rfl
 subst this;show N
section
variable{E:aS}{I:aj->List aU}{J:List aU}{G:List Nat}{H:List<|List aU×Nat}
def zm{F:aj}{g:Nat}{T:bA}(S:g<=E.aJ)(L:J[a]?=some (.cW F)) (Q:∀N,g<=N->N<=E.aJ->jj E I J (a+1) G H T N):Cc E I J a G H (λg P V=>i3 1 (hW E V g F) (λN=>T N P V) V) g:=by
 intro P V;have M:∀M,iy E I ⟨J,a,g,P.reverse,G,H⟩ M V=zj (hW E V g F) ⟨J,a,g,P.reverse,G,H⟩ M V:=by show λM=>(fe L).trans rfl
 simp only;induction w:hW E V g F with|dq=>obtain M:=w▸M;show⟨aH,(dW.pw M).cZ<|by simp[i3]⟩|dG O=>obtain M:=w▸M;show⟨aH,(dW.w9 _ (by intro w;contradiction) M).cZ<|by simp[i3]⟩|«at» N=>replace M:=w▸M;show eZ ((Q N (kZ S w).1 (kZ S w).2).lY P V) λK W=> ?_;show⟨by show aR,((dW.bK M W).bk 1).cZ<|by show oS<|m8 _⟩
def MP{L:bT}{T:ay->eg}{R F V M}(P:R.fo=J)(g:R.bf=a)(w:∀w,iy E I R w V=ps E L d {R with cK:=G} w V) (Q:∀O,1<=(T O).2.2/\dW E I {R with cK:=G,bf:=a+1} O (T O) (3*(T O).2.2))(N:M=(lz 1 F E L d T V).2.2):1<=M/\dW E I R V (lz 1 F E L d T V) (3*M-1):=by
 subst N g;unfold ps at w;unfold lz;rcases K:hZ E L d V with _|O;·obtain w:=K▸w;show⟨aH,(dW.pw w).cZ<|by show aR⟩
 ·replace w:=K▸w;show eZ (Q O) λH W=> ?_;show⟨by show gU H,((dW.bK w W).bk _).cZ<|by simp only[bk];show oS<|by simp+arith⟩
theorem MQ{T:bA}(Z:∀c Q V,iy E I ⟨J,a,e,c,G,H⟩ Q V=ve h ⟨J,a,e,c,G,H⟩ Q V) (l:∀b∈h,jj E I J (a+1) G H T b)(c:dF)(V:ay):1<=(eQ 1 T c h V).2.2/\dW E I ⟨J,a,e,c.reverse,G,H⟩ V (eQ 1 T c h V) (3*(eQ 1 T c h V).2.2-1):=by
 have k:1<=(eQ 1 T c h V).2.2:=by rcases h with-|-<;>show aR
 show⟨k,λw=> ?_⟩;obtain⟨N,f,W⟩:=(by intro _ _ J G H a T c;intro h;induction h with|nil=>intro _ V j;show⟨0,aH,λF=>rfl⟩|cons b L X=>intro w V j;obtain⟨P,W⟩:=(w b<|cY).lY c V;show aB (W<|L.map (λb=>some (⟨J,a,b,c.reverse,G,H⟩:bN))++j) λN f W=> ?_;change qp (λN=>_<=3*(bk 1<|fk (T b c V)<|eQ 1 T c L).2.2) λN=>∀F,_=(bk 1<|fk (T b c V)<|eQ 1 T c L).1.w6 (vf _ _ (bk 1<|fk (T b c V)<|eQ 1 T c L).2.1) (some (rK (bk 1<|fk (T b c V)<|eQ 1 T c L).1,(bk 1<|fk (T b c V)<|eQ 1 T c L).2.1));generalize T b c V=Y at f W P⊢;obtain⟨S,R,m⟩:=Y;clear P;induction S with|fail=>obtain⟨i,M,d⟩:=(X λb U=>w b<|dI U) R j;show⟨i+N,by change i+N+3<=3*((eQ 1 T c L R).2.2+m+1);show lJ<|m6<|by lia,λF=> ?_⟩;rw[<-Nat.add_assoc];show(W _).trans<|d F|_=>show⟨N,fI f 3,W⟩:∀{E:aS}{I:aj->List aU}{J:List aU}{G:List Nat}{H:List<|List aU×Nat}{a:Nat}{T:bA}{c:dF},∀(h:List Nat),(∀b∈h,jj E I J a G H T b)->∀V w,qp (λN=>N+3<=3*(eQ 1 T c h V).2.2) λN=>∀F,vf (jQ E I<|F+N) (h.map (λb=>some (⟨J,a,b,c.reverse,G,H⟩:bN))++w) V=(eQ 1 T c h V).1.w6 (vf (jQ E I F) w (eQ 1 T c h V).2.1) (some (rK (eQ 1 T c h V).1,(eQ 1 T c h V).2.1))) (E:=E) (I:=I) (J:=J) (G:=G) (H:=H) (a:=a+1) (T:=T) (c:=c) h l V w;show aX (N+1) (ie<|oS f) λF=> ?_;obtain g:jQ E I (F+(N+1)) ⟨J,a,e,c.reverse,G,H⟩ w V=vf (jQ E I<|F+N) (h.map (λb=>some (⟨J,a+1,b,c.reverse,G,H⟩:bN))++w) V:=by change vg (jQ E I<|F+N) (iy E I _ w V)=_;rw[Z];clear k;clear f;clear l;clear Z;rcases h with-|-<;>rfl
 show g.trans<|W F
def MR(E:aS)(I:aj->List aU)(J:List aU)(F:bA->bA)(X Y:Nat):Prop:=∀G H T g,g<=E.aJ->(∀w,g<=w->w<=E.aJ->jj E I J Y G H T w)->jj E I J X G H (F T) g
theorem WC{X:bA->bA}{Y U m:Nat}{T:bA}(Z:J[a]?=some (.split r))(b:qr J (a+2) r)(j:J[a+1]?=some (.dg U))(l:qr J Y U)(s:J[a+2]?=some .gI) (v:MR E I J X (a+3) e)(z:J[e]?=some .iP)(A:J[e+1]?=some (.dg m))(B:qr J a m):∀W P,E.aJ-P<W->P<=E.aJ->(∀h,P<=h->h<=E.aJ->jj E I J Y G H T h)->jj E I J a G H (fq 1 X T W) P:=by
 have f:r=a+2:=by
  show cC b λS L t f=> ?_;clear L;rcases f with rfl|f;·rfl
  ·rw[s]at f;simp at f
 subst f;intro W;induction W with|zero=>intro P w;lia|succ W d=>
  intro P p k x;show .j8 Z rfl ?_;intro i V;show eZ ((x P aH k).MO l i V) λXN q=> ?_;have Q:∀u,dW E I ⟨J,a+2,P,i.reverse,G,H⟩ u (X (λM y n=>if M<=P then(.fail,n,1)else bk 1<|fq 1 X T W M y n) P i u)<|3*(X (λM y n=>if M<=P then(.fail,n,1)else bk 1<|fq 1 X T W M y n) P i u).2.2+1:=by
   intro u;have:=v (P::G) H (λM y n=>if M<=P then(.fail,n,1)else bk 1<|fq 1 X T W M y n) P k ?_;·show dW.bK (λc=>(fe s).trans rfl) (this.lY i u).2
   ·intro h D C;show .j8 z rfl ?_;intro y n;rcases pM<|h<=P with R|R;·simp only[R];show⟨aH,(dW.pw ?_).cZ aR⟩;show λc=>(fe (S:=.iP) z).trans<|if_neg<|Aw.mpr R
    ·simp only[R];show eZ ((jj.MN A a B<|d h (Nat.sub_lt_right_of_lt_add C<|m6<|by lia) C λO g F=>x O (aq D g) F).lY y n) λXO N=> ?_;show⟨aR,((dW.bK ?_ N).bk 1).cZ<|oS<|m8 _⟩;show λc=>(fe (S:=.iP) z).trans<|if_pos<|m6 R
  have t:dW E I ⟨J,a+1,P,i.reverse,G,H⟩ V (T P i V)<|3*(T P i V).2.2-1+1:=dW.bK (λc=>(fe j).trans rfl) q;simp only[Wr];show⟨aR,dW.bk 1 ?_⟩;show dW.gq (a:=λu=>3*(X (λM y n=>if M<=P then(.fail,n,1)else bk 1<|fq 1 X T W M y n) P i u).2.2+1) (λc=>(fe Z).trans rfl) t Q _ ?_ ?_;·simp only[zl];show oS<|j1<|yc (I7<|xV<|t8 _<|ML (T P i V) λV=>X (λM y n=>if M<=P then(.fail,n,1)else bk 1<|fq 1 X T W M y n) P i V) _
  ·intro K;simp only[zl,MM K];show oS<|by lia
def vh(E:aS)(I:aj->List aU)(K:bA->bA):Prop:=∀J X G H T g,g<=E.aJ->(∀w,g<=w->w<=E.aJ->jj E I J X G H T w)->jj E I (I E.l) 0 G ((J,X)::H) (K λg F V=>bk 1<|T g F V) g
def MS{O:List aU}{g:Nat}{T:bA}(N:O[a]?=some .done)(L:jj E I J e G H T g):jj E I O a G ((J,e)::H) (λg F V=>bk 1<|T g F V) g:=by show .j8 N rfl ?_;intro F V;obtain⟨M,K⟩:=L.lY F V;show⟨by show aR,((dW.bK ?_ K).bk 1).cZ<|by show oS<|m8 _⟩;show λw=>(fe N).trans rfl
theorem MT(F:Nat)(t:bA->bA)(XU:∀U,I (.bc U)=[.cW<|.bc U,.done]):∀m X Y,eX m=true\/vh E I t->j7 J (qr J) m X Y->MR E I J (bI E 1 F 0 t m) X Y:=by
 intro m;induction m with|bc XW=>
 intro X Y _ w G H T Z n A;rcases w with⟨h,rfl⟩|⟨rfl,rfl⟩;· show .j8 h rfl<|zm n h A
 · show aB (A Z aH n) λO f q=> ?_;show aX O f ?_;intro k V;have:bI E 1 F 0 t (.bc ⟨#[]⟩) T Z k V=bk 1 (T Z k V):=by
    simp only[th,ze];have:jh E.f Z ⟨#[]⟩=some Z:=by
     unfold jh;have:cF E.f Z (Z+Str.length ⟨#[]⟩)=⟨#[]⟩:=by unfold cF;simp[Str.length];show Nat.min_le_left _ _
     rw[if_pos this];rfl
    rw[this];rfl
   show this▸eZ (q k V) λM u=> ?_;show⟨aR,(u.bk 1).cZ<|Nat.sub_le_sub_right bD _⟩|d5 N U=>intro X Y _ w G H T Z n A;obtain⟨h,rfl⟩:=w;show .j8 h rfl<|zm n h A|gg N U=>intro X Y _ w G H T Z n A;obtain⟨h,rfl⟩:=w;show .j8 h rfl<|zm n h A|fz=>intro X Y _ w G H T Z n A;obtain⟨h,rfl⟩:=w;show .j8 h rfl<|zm n h A|eG=>intro X Y _ w G H T Z n A;obtain⟨h,rfl⟩:=w;show .j8 h rfl λk V=>MQ (λk b V=>(fe h).trans rfl) (λj x=>A j (Gu n j x).1 (Gu n j x).2) k V|fj=>intro X Y _ w G H T Z n A;obtain⟨h,rfl⟩:=w;show .j8 h rfl λk V=>MQ (λk b V=>(fe h).trans rfl) (λj x=>A j (w5 _ Z n j x).1 (w5 _ Z n j x).2) k V|fA=>
 intro X Y _ w G H T Z n A;obtain⟨h,rfl⟩:=w;show .j8 h rfl ?_;intro k V;obtain⟨M,u⟩:=(A Z aH n).lY k V;simp only[u9];show⟨by generalize T Z k V=L;obtain⟨S,XW,X7⟩:=L;induction S<;>simp only[rF,bk]<;>show aR, ?_⟩;intro b;show aB (u<|none::b) λN XX W=> ?_;generalize T Z k V=L at XX W⊢;obtain⟨S,X8,X9⟩:=L;show aX (N+1) ?_ ?_;· induction S<;>(simp only[rF,bk]at*;lia)
 · induction S<;>show λXR=>(Cd ((fe (S:=.fA) h).trans rfl) XR).trans<|W XR|fail=>intro X Y _ w G H T Z n A;obtain⟨h,rfl⟩:=w;show .j8 h rfl λk V=>⟨aH,(dW.pw λb=>(fe h).trans rfl).cZ<|by simp[zg]⟩|fH=>intro X Y _ w G H T Z n A;obtain⟨h,rfl⟩:=w;show .j8 h rfl λk V=>⟨aH,(dW.w9 _ (by intro w;contradiction) λb=>(fe h).trans rfl).cZ<|by simp[zh]⟩|iO L=>intro X Y _ w G H T Z n A;obtain⟨h,rfl⟩:=w;show .j8 h rfl λk V=>MP (a:=X) rfl rfl (λb=>(fe h).trans rfl) (λs=>(A Z aH n).lY k s) rfl|fM U=>
 intro X Y B w G H T Z n A;obtain⟨h,rfl⟩:=w;show .j8 h rfl ?_;intro k V;simp only[tj];rcases i:fY E V U with _|_|Q;· show⟨aH,(dW.pw λb=>(fe (S:=.nK U) h).trans<|congrArg (wZ E I _ b V) i).cZ<|by simp⟩
 · have XY:U=.P:=by induction U using dM.casesOn<;>simp[fY]at i;rfl
   have XZ : vh E I t := by subst XY;rcases B with w|w;· injection w
                            · show w
   obtain⟨M,u⟩:=(XZ J (X+1) G H T Z n A).lY k V;show⟨aR,((dW.bK ?_ u).bk 1).cZ<|oS<|m8 _⟩;show λb=>(fe (S:=.nK U) h).trans<|congrArg (wZ E I _ b V) i
 · have q:jj E I (I<|.bc<|j6 Q) 0 G ((J,X+1)::H) (λZ k V=>i3 1 (hW E V Z<|.bc<|j6 Q) (λj=>bk 1<|T j k V) V) Z:=by rw[XU];show .j8 (S:=.cW<|.bc<|j6 Q) rfl rfl<|zm (T:=λZ k V=>bk 1<|T Z k V) n rfl ?_;intro j a W;show MS rfl<|A j a W
   obtain⟨M,u⟩:=q.lY k V;show⟨by show aR,((dW.bK ?_ u).bk 1).cZ<|oS<|m8 _⟩;show λb=>(fe (S:=.nK U) h).trans<|congrArg (wZ E I _ b V) i|de P c=>intro X Y B w G H T Z n A;obtain⟨e,O,X0,Yb,a,W,l,r,v,z,X2,X3,X4,Yc⟩:=w;show WC a W l r v (c _ _ B z) X2 X3 X4 _ Z (Nat.sub_lt_sub_right n iW) n A|bZ XS P L c=>
 intro X Y B w G H T Z n A;show AY w ?_;rintro e a W l rfl;have d:=c _ _ B W (Z::G) H (zf 1 F E XS L Z T) Z n ?_;show .j8 a rfl ?_;intro k V;simp only[zi];· obtain⟨M,u⟩:=d.lY k V;show⟨by show aR,((dW.bK ?_ u).bk 1).cZ<|oS<|m8 _⟩;show λb=>(fe a).trans rfl
 · intro j D C;show .j8 l rfl ?_;intro XT s;rcases XS with _|_;· show MP (a:=e) rfl rfl (λb=>(fe l).trans rfl) (λy=>(A j D C).lY XT y) rfl
   · obtain⟨M,u⟩:=(A j D C).lY (XT++[(L,cF E.f Z j)]) s;show⟨aR,((dW.bK ?_ u).bk 1).cZ<|oS<|m8 _⟩;intro b;show(fe l).trans ?_;rw[List.reverse_append];rfl|bF P R g XN=>
 intro X Y B w G H T Z n A;show aB w λe a W=> ?_;have XO:eX P=true\/vh E I t:=by simp only[mM,Bool.and_eq_true]at B;show B.imp (·.1) id
 have XQ:eX R=true\/vh E I t:=by simp only[mM,pv,Bool.and_eq_true]at B;show B.imp (·.2) id
 show aB (g _ _ XO a G H (bI E 1 F 0 t R T) Z n λj D C=>XN _ _ XQ W G H T j C λX5 P R=>A X5 (aq D P) R) λO f q=> ?_;show aX O f ?_;intro k V;obtain⟨M,u⟩:=q k V;show⟨M,(u.bk 1).cZ aH⟩|bU P R g XN=>
 intro X Y B w G H T Z n A;show JT w λe O X0 a W l r v z=> ?_;have XO:eX P=true\/vh E I t:=by simp only[mM,pv,Bool.and_eq_true]at B;show B.imp (·.1) id
 have XQ:eX R=true\/vh E I t:=by simp only[mM,pv,Bool.and_eq_true]at B;show B.imp (·.2) id
 obtain d:=XN _ _ XQ z G H T Z n A;show .j8 a rfl ?_;intro k V;obtain⟨M,u⟩:=(g _ _ XO l G H T Z n λj D C=>.MN r Y v<|A j D C).lY k V;simp only[th,Gj,Gk,Gl,Gm,B1,u9,zg,zh,Gn,tj,B2,zi,B4,B5];show⟨aR,dW.bk 1 ?_⟩;show dW.gq (a:=λy=>3*(bI E 1 F 0 t R T Z k y).2.2-1) (λb=>(fe a).trans rfl) u (λy=>(d.MO W k y).2) _ ?_ ?_;· have:=ML (bI E 1 F 0 t P T Z k V) λV=>bI E 1 F 0 t R T Z k V;simp only[zl];show lJ<|Nat.lt_sub_of_add_lt<|yc (Nat.add_lt_add_of_le_of_lt (t8 _ this) iW) _
 · intro X6;have:=(d.lY k (bI E 1 F 0 t P T Z k V).2.1).1;simp only[zl,MM X6];show oS<|cB<|JW (Nat.pos_of_ne_zero<|d7<|mz<|aq this<|by simp+arith)<|by simp+arith
end
def cT(I:Prop)(L Q:eg):Prop:=gV (L.1=Q.1)<|gV (L.2.1=Q.2.1)<|I->L.2.2<=Q.2.2
def cU(I:Prop)(T O:bA):Prop:=∀J H V,cT I (T J H V)<|O J H V
section
variable{E:Prop}
def cT.rfl{L:eg}:cT E L L:=⟨Eq.refl _,Eq.refl _,λ_=>aH⟩
def cT.aC{L Q g:eg}(w:cT E L Q)(O:cT E Q g):cT E L g:=⟨w.1.trans O.1,w.2.1.trans O.2.1,λG=>aq (w.2.2 G)<|O.2.2 G⟩
theorem cT.bk{L Q:eg}(V:E->a<=e)(w:cT E L Q):cT E (bk a L)<|bk e Q:=⟨w.1,w.2.1,λG=>by have:=w.2.2 G;delta Mine.Internal.P.bk;show ip this<|by lia⟩
def cT.vi{L Q:eg}(w:cT E L Q):cT E L<|Mine.Internal.P.bk a Q:=⟨w.1,w.2.1,λG=>by have:=w.2.2 G;delta Mine.Internal.P.bk;show gU this⟩
def cT.fk{L Q:eg}{W F:ay->eg}(w:cT E L Q)(N:∀V,cT E (W V)<|F V):cT E (fk L W)<|fk Q F:=by
 obtain⟨S,K,M⟩:=L;obtain⟨R,G,g⟩:=Q;obtain⟨H,I,J⟩:=w;simp only at H I J;subst H I;cases S;case fail=>show(N K).bk J
 all_goals show⟨Eq.refl _,Eq.refl _,J⟩
def cT.cW(g:E->a<=e){S:ix}{T F:Nat->eg}{V:ay}(w:∀J,cT E (T J)<|F J):cT E (i3 a S T V)<|i3 e S F V:=by induction S with|dq=>show⟨Eq.refl _,Eq.refl _,g⟩|dG O=>show⟨Eq.refl _,Eq.refl _,g⟩|«at» J=>show(w J).bk g
theorem cT.xa{J:Nat}(F:E->a<=e)(H:E->r<=J){g:aS}{L:bT}{T O:ay->eg}(w:∀V,cT E (T V)<|O V)(V:ay):cT E (lz a r g L d T V)<|lz e J g L d O V:=by
 unfold lz;rcases hZ g L d V with _|I;·show⟨Eq.refl _,Eq.refl _,F⟩
 ·show(w I).bk λG=>by lia-abstractProof
def cT.lW(T:E->a<=e){L Q:eg}(w:cT E L Q):cT E (rF a L)<|rF e Q:=by
 obtain⟨S,K,M⟩:=L;obtain⟨R,I,g⟩:=Q;obtain⟨H,W,F⟩:=w;simp only at H W F;subst H W;induction S;case fail=>show⟨Eq.refl _,Eq.refl _,λG=>ip (F G)<|T G⟩
 all_goals show cT.bk T ⟨Eq.refl _,Eq.refl _,F⟩
def cT.fq(F:E->a<=e){X G:bA->bA}(g:∀T K,cU E T K->cU E (X T) (G K)){T K:bA}(w:cU E T K):∀O,cU E (fq a X T O)<|fq e G K O:=by intro O;induction O with|zero=>show λJ H V=>⟨Eq.refl _,Eq.refl _,F⟩|succ O S=>
intro J H V;show(cT.fk (w J H V) λV=>g _ _ ?_ J H V).bk F;intro M L I;simp only;split;·show⟨Eq.refl _,Eq.refl _,F⟩
·show(S M L I).bk F
def zo{M:aS}{k h m:Nat}{X j:bA->bA}(d:E->a<=e)(b:E->r<=k)(c:E->h<=m):∀(Z:aj),(eX Z=true\/∀T O,cU E T O->cU E (X T) (j O))->∀(T O:bA),cU E T O->cU E (bI M a r h X Z T) (bI M e k m j Z O):=by intro Z;induction Z with
|fz|bc|d5|gg=>intro _ T O w J W V;show cT.cW d λR=>w R W V|eG|fj=>intro _ T O w J W V;show(by intro _ _ d _ _ w W;intro F;induction F with|nil=>intro V;show⟨Eq.refl _,Eq.refl _,d⟩|cons J L S=>intro V;show(cT.fk (w J W V)<|S).bk d:∀{a e}(d:E->a<=e){T O}(w:cU E T O){W},∀(F:List Nat)(V:ay),cT E (eQ a T W F V)<|eQ e O W F V) d w _ V|fA=>intro _ T O w J W V;show(w J W V).lW d|fail|fH=>intro _ T O w J W V;show⟨Eq.refl _,Eq.refl _,d⟩|iO L=>intro _ T O w J W V;show cT.xa d b (λV=>w J W V) V|fM U=>
intro g T O w J W V;simp only[tj];rcases P:fY M V U with _|_|Q;·show⟨Eq.refl _,Eq.refl _,d⟩
·have f:U=.P:=by induction U using dM.casesOn<;>simp[fY]at P;rfl
 show((g.resolve_left<|by subst f;intro Y;show Bool.noConfusion Y) _ _ (λJ W V=>(w J W V).bk d) J W V).bk d
·show(cT.cW d λR=>(w R W V).bk d).bk d|de H S=>intro g T O w J W V;show cT.fq d (S g) w _ J W V|bZ F H L S=>
intro g T O w J W V;show(S g _ _ ?_ J W V).bk d;intro R i I;rcases F with _|_;·show cT.xa d b (λV=>w R i V) I
·show(w R _ I).bk d|bF G N l K=>intro g T O w J W V;show(l (g.imp (λY=>by simp only[mM,Bool.and_eq_true]at Y;show Y.1) id) _ _ (K (g.imp (λY=>by simp only[mM,Bool.and_eq_true]at Y;show Y.2) id) _ _ w) J W V).bk c|bU G N l K=>intro g T O w J W V;show(cT.fk (l (g.imp (λY=>by simp only[pv,Bool.and_eq_true]at Y;show Y.1) id) _ _ w J W V) λV=>K (g.imp (λY=>by simp only[pv,Bool.and_eq_true]at Y;show Y.2) id) _ _ w J W V).bk d
end
def fN(w:aj):List aj:=aj.rec (motive:=λ_=>List aj) (λK=>[.bc K]) (λN U=>[.d5 N U]) (λN U=>[.gg N U]) [.fz] [.eG] [.fj] [.fA] [.fail] [.fH] (λL=>[.iO L]) (λU=>[.fM U]) (λH _=>[.de H]) (λF H L _=>[.bZ F H L]) (λ_ _ g S=>g++S) (λH I _ _=>[.bU H I]) w
theorem tw{H I:aj}:fN (.bF H I)=fN H++fN I:=rfl
def gQ(w:aj):List aj:=aj.rec (motive:=λ_=>List aj) (λK=>[.bc K]) (λN U=>[.d5 N U]) (λN U=>[.gg N U]) [.fz] [.eG] [.fj] [.fA] [.fail] [.fH] (λL=>[.iO L]) (λU=>[.fM U]) (λH _=>[.de H]) (λF H L _=>[.bZ F H L]) (λH I _ _=>[.bF H I]) (λ_ _ g S=>g++S) w
theorem qt{H I:aj}:gQ (.bU H I)=gQ H++gQ I:=rfl
noncomputable def xb(G X:aj):List aj:=G.casesOn (λK=>X.casesOn (λU=>[.bc<|K++U]) (λ_ _=>[.bc K,X]) (λ_ _=>[.bc K,X]) [.bc K,X] [.bc K,X] [.bc K,X] [.bc K,X] [.bc K,X] [.bc K,X] (λ_=>[.bc K,X]) (λ_=>[.bc K,X]) (λ_=>[.bc K,X]) (λ_ _ _=>[.bc K,X]) (λ_ _=>[.bc K,X]) λ_ _=>[.bc K,X]) (λ_ _=>[G,X]) (λ_ _=>[G,X]) [G,X] [G,X] [G,X] [G,X] [G,X] [G,X] (λ_=>[G,X]) (λ_=>[G,X]) (λ_=>[G,X]) (λ_ _ _=>[G,X]) (λ_ _=>[G,X]) λ_ _=>[G,X]
def zp(G X:aj):(∃K U,G=.bc K/\X=.bc U/\xb G X=[.bc<|K++U])\/xb G X=[G,X]:=by induction G with
|bc K=>induction X with|bc U=>show .inl<|we K U rfl rfl rfl|_=>show .inr rfl
|_=>show .inr rfl
def lZ(J:List aj)(X:aj):List aj:=List.rec (motive:=λ_=>List aj) [X] (λG L S=>List.casesOn (motive:=λ_=>List aj) L (xb G X) λ_ _=>G::S) J
def zq{P:List aj->List aj->Prop}{X:aj}(g:P [] [X])(H:∀G,P [G]<|xb G X)(W:∀G U L,P (U::L) (lZ (U::L) X)->P (G::U::L) (G::lZ (U::L) X))(J:List aj):P J<|lZ J X:=by induction J with|nil=>show g|cons G L S=>induction L with|nil=>show H G|cons U L=>show W G U L S
def rL(J:List aj)(X:aj):List aj:=aj.casesOn (motive:=λ_=>List aj) X (λU=>if U=⟨#[]⟩then J else lZ J<|.bc U) (λ_ _=>J++[X]) (λ_ _=>J++[X]) (J++[X]) (J++[X]) (J++[X]) (J++[X]) (J++[X]) (J++[X]) (λ_=>J++[X]) (λ_=>J++[X]) (λ_=>J++[X]) (λ_ _ _=>J++[X]) (λ_ _=>J++[X]) λ_ _=>J++[X]
theorem MU(J:List aj)(U:Str):rL J (.bc U)=if U=⟨#[]⟩then J else lZ J<|.bc U:=rfl
def zr{G:List aj->Prop}{J:List aj}{X:aj}(g:X=.bc ⟨#[]⟩->G J)(H:∀U,X=.bc U->G (lZ J<|.bc U))(W:G<|J++[X]):G<|rL J X:=by
 induction X with|bc U=>
 by_cases w:U=⟨#[]⟩;·rw[MU,if_pos w];show g<|w▸rfl
 ·rw[MU,if_neg w];show H U rfl|_=>show W
def jx(J F:List aj):List aj:=F.foldl rL J
def zt(F:List aj):aj:=List.rec (motive:=λ_=>aj) (.bc ⟨#[]⟩) (λG L S=>List.casesOn (motive:=λ_=>aj) L G λ_ _=>.bF G S) F
def l0(F:List aj):aj:=List.rec (motive:=λ_=>aj) .fail (λG L S=>List.casesOn (motive:=λ_=>aj) L G λ_ _=>.bU G S) F
theorem WD{G U:aj}{L:List aj}:l0 (G::U::L)=.bU G (l0<|U::L):=rfl
def Gx{P:List aj->aj->Prop}{M:aj->aj->aj}{g:aj}(w:P [] g)(H:∀G,P [G] G)(W:∀G U L Y,P (U::L) Y->P (G::U::L) (M G Y))(F:List aj):P F<|List.rec (motive:=λ_=>aj) g (λG L S=>List.casesOn (motive:=λ_=>aj) L G λ_ _=>M G S) F:=by induction F with|nil=>show w|cons G L S=>induction L using List.casesOn with|nil=>show H G|cons U L=>show W G U L _ S
def aj.c8(w:aj):Nat:=w.rec (λK=>0) (λ_ _=>0) (λ_ _=>0) 0 0 0 0 0 0 (λ_=>0) (λ_=>0) (λ_ G=>G+1) (λ_ _ _ G=>G+1) (λ_ _ G U=>max G U+1) λ_ _ G U=>max G U+1
theorem afv:aj.c8 (.bc m)=0:=rfl
theorem afw{N:bX}{U:jO}:aj.c8 (.d5 N U)=0:=rfl
theorem afx{N:bX}{U:dM}:aj.c8 (.gg N U)=0:=rfl
theorem afy:aj.c8 (.fz)=0:=rfl
theorem afz:aj.c8 (.eG)=0:=rfl
theorem afA:aj.c8 (.fj)=0:=rfl
theorem afB:aj.c8 (.fA)=0:=rfl
theorem afC:aj.c8 (.fail)=0:=rfl
theorem afD:aj.c8 (.fH)=0:=rfl
theorem afE{L:bT}:aj.c8 (.iO L)=0:=rfl
theorem afF{U:dM}:aj.c8 (.fM U)=0:=rfl
theorem Gy{H:aj}:aj.c8 (.de H)=H.c8+1:=rfl
theorem Ce{H:aj}{L:bT}:aj.c8 (.bZ n H L)=H.c8+1:=rfl
theorem zu{H I:aj}:aj.c8 (.bF H I)=max H.c8 I.c8+1:=rfl
theorem zv{H I:aj}:aj.c8 (.bU H I)=max H.c8 I.c8+1:=rfl
def jy(W:Nat):aj->aj:=W.rec (λw=>w) λ_ S w=>w.casesOn (λK=>.bc K) (λN U=>.d5 N U) (λN U=>.gg N U) .fz .eG .fj .fA .fail .fH (λL=>.iO L) (λU=>.fM U) (λH=>.de<|S H) (λF H L=>.bZ F (S H) L) (λH I=>zt<|(jx []<|fN<|.bF H I).map S) λH I=>l0<|(gQ<|.bU H I).map S
section
variable{G:Nat}{E H:aj}{I:Bool}{J:bT}
theorem afG:jy (G+1) (.de E)=.de (jy G E):=rfl
theorem afH:jy (G+1) (.bZ I E J)=.bZ I (jy G E) J:=rfl
theorem WE:jy (G+1) (.bF E H)=zt ((jx []<|fN<|.bF E H).map<|jy G):=rfl
theorem afI:jy (G+1) (.bU E H)=l0 ((gQ<|.bU E H).map<|jy G):=rfl
end
section
variable{E:aS}{G I:Nat}{H J:bA->bA}
def jR(E:aS)(G I:Nat)(H:bA->bA)(F:List aj):bA->bA:=List.rec (motive:=λ_=>bA->bA) (λT=>T) (λg _ S T=>bI E 1 G I H g<|S T) F
theorem WG{E:aS}{G I:Nat}{H:bA->bA}{g:aj}{L:List aj}{T:bA}:jR E G I H (g::L) T=bI E 1 G I H g (jR E G I H L T):=rfl
theorem afJ(L:eg):bk 0 L=L:=rfl
theorem afK(g U:aj)(T:bA):bI E 1 G 0 H (.bF g U) T=bI E 1 G 0 H g (bI E 1 G 0 H U T):=rfl
def xc:∀(F N:List aj)(T:bA),jR E G I H (F++N) T=jR E G I H F (jR E G I H N T):=by intro F;induction F with|nil=>intro _ _;show rfl|cons g F S=>intro N T;show congrArg (bI E 1 G I H g)<|S N T
def WH(F:List aj)(T:bA):F≠[]->jR E G 0 H F T=bI E 1 G 0 H (zt F) T:=Gx (P:=λF Y=>F≠[]->jR E G 0 H F T=bI E 1 G 0 H Y T) (λw=>absurd rfl w) (λ_ _=>rfl) (λg U L Y w _=>(congrArg (bI E 1 G 0 H g)<|w<|List.cons_ne_nil _ _).trans rfl) F
abbrev tx(H:bA->bA):Prop:=∀T O,cU True T O->cU True (H T) (H O)
theorem cU.rfl{I:Prop}{T:bA}:cU I T T:=λ_ _ _=>cT.rfl
def cU.aC{I:Prop}{T g X:bA}(w:cU I T g)(O:cU I g X):cU I T X:=λJ H V=>(w J H V).aC<|O J H V
def Gz{F:aj}(g:eX F=true\/tx H){T O:bA}(w:cU True T O):cU True (bI E 1 G I H F T)<|bI E 1 G I H F O:=zo (λ_=>aH) (λ_=>aH) (λ_=>aH) F g T O w
def WI(g:tx H):∀(F:List aj){T O:bA},cU True T O->cU True (jR E G I H F T) (jR E G I H F O):=by intro F;induction F with|nil=>intro _ _ w;show w|cons _ F S=>intro _ _ w;show Gz (.inr g)<|S w
def WJ(K:Str)(H I:Nat):(cF K H I).length=min I K.length-H:=by unfold cF;simp[Str.length]
def tA{I:Str}(w:m.cps.toList=I.cps.toList):m=I:=by obtain⟨⟨m⟩⟩:=m;obtain⟨⟨I⟩⟩:=I;simp only at w;subst w;rfl
def tB(K:Str)(H I:Nat):(cF K H I).cps.toList=(K.cps.toList.take I).drop H:=by unfold cF;simp only[Array.toList_extract,List.drop_take]
def tC(H I:Str):(H++I).cps.toList=H.cps.toList++I.cps.toList:=by change(Str.mk<|H.cps++I.cps).cps.toList=_;simp
theorem rM(H:Str):H.length=H.cps.toList.length:=rfl
theorem MV(K:Str)(J:Nat)(G U:Str):jh K J (G++U)=(jh K J G).bind λE=>jh K E U:=by
 have L:cF K J (J+(G++U).length)=G++U↔cF K J (J+G.length)=G/\cF K (J+G.length) (J+G.length+U.length)=U:=by
  obtain S:(G++U).length=G.length+U.length:=by rw[rM,tC,List.length_append];rfl
  rw[S];constructor
  ·intro w;obtain I:=congrArg (λF:Str=>F.cps.toList) w;simp only[tB,tC]at I;obtain g:((K.cps.toList.take<|J+(G.length+U.length)).drop J).take G.length=G.cps.toList:=by rw[I];simp only[rM];simp
   obtain R:((K.cps.toList.take<|J+(G.length+U.length)).drop J).drop G.length=U.cps.toList:=by rw[I];simp only[rM];simp
   show⟨tA ?_,tA ?_⟩;·simp only[tB,<-g,List.take_drop,List.take_take];congr 2;show Eq.symm<|Nat.min_eq_left<|i8 bD _
   ·simp only[tB,<-R,List.drop_drop];congr 2;show n6
  ·rintro⟨H,W⟩;have:(K.cps.toList.take<|J+(G.length+U.length)).drop J=(K.cps.toList.drop J).take (G.length+U.length):=by rw[List.drop_take];congr 1;lia
   show tA ?_;simp only[tB,tC,<-congrArg (λF:Str=>F.cps.toList) H,<-congrArg (λF:Str=>F.cps.toList) W];simp only[this,List.drop_take,List.drop_take];simp only[(by lia:J+G.length-J=G.length),(by lia:J+G.length+U.length-(J+G.length)=U.length),List.take_add,List.drop_drop]
 obtain S:(G++U).length=G.length+U.length:=by rw[rM,tC,List.length_append];rfl
 unfold jh;rcases pM<|cF K J (J+G.length)=G with H|H
 ·by_cases W:cF K (J+G.length) (J+G.length+U.length)=U;·rw[if_pos<|L.mpr ⟨H,W⟩,if_pos H];simp only[Option.bind];rw[if_pos W,S];congr 1;show Eq.symm n6
  ·rw[if_neg λY=>W (L.mp Y).2,if_pos H];simp only[Option.bind];rw[if_neg W]
 ·rw[if_neg λY=>H (L.mp Y).1,if_neg H];rfl
def WK(g U:Str)(T:bA):cU True (bI E 1 G I H (.bc<|g++U) T)<|bI E 1 G I H (.bc g)<|bI E 1 G I H (.bc U) T:=by
 intro J K V;simp only[th,ze,MV];rcases jh E.f J g with _|F;·show cT.rfl
 ·simp only[Option.bind,ix.cA,i3];rcases w:jh E.f F U with _|N;·show .mk rfl<|.mk rfl λ_=>by simp[bk]
  ·show .mk rfl<|.mk rfl λ_=>by show bD
def MW(K:Str)(J:Nat):jh K J ⟨#[]⟩=some J:=by
 have:cF K J (J+Str.length ⟨#[]⟩)=⟨#[]⟩:=by show tA ?_;rw[tB];simp[Str.length]
 show(if_pos this).trans ?_;rfl
theorem MX(T:bA)(J:Nat)(g:dF)(V:ay):bI E 1 G I H (.bc ⟨#[]⟩) T J g V=bk 1 (T J g V):=by simp only[th,ze,MW];rfl
def aaa(g:tx H):∀(F R:List aj)(T:bA),cU True (jR E G I H (jx R F) T)<|jR E G I H (R++F) T:=by intro F;induction F with|nil=>intro R T;rw[List.append_nil];show cU.rfl|cons X L S=>
intro R T;show zr (G:=λN=>cU True (jR E G I H (jx N L) T)<|jR E G I H (R++X::L) T) (λw=> ?_) (λU w=> ?_) ?_;·subst w;show(S R T).aC ?_;simp only[xc,xc];show WI g R ?_;intro J Q V;simp only[WG,MX];show cT.rfl.vi
·subst w;show(S _ T).aC ?_;rw[show R++aj.bc U::L=R++[.bc U]++L by simp,xc,xc _ L];show(by
intro g R X T;show zq (P:=λR F=>cU True (jR E G I H F T)<|jR E G I H (R++[X]) T) cU.rfl (λM=> ?_) (λM O L w=>Gz (.inr g) w) R;rcases zp M X with⟨K,U,rfl,rfl,Y⟩|Y<;>rw[Y];·show WK _ _ _
·show cU.rfl:∀(g:tx H)(R:List aj)(X:aj)(T:bA),cU True (jR E G I H (lZ R X) T)<|jR E G I H (R++[X]) T) g R _ _
·have:=S (R++[X]) T;rwa[List.append_assoc]at this
def GA(N:tx H):∀(L:aj)(T O:bA),cU True T O->cU True (jR E G 1 H (fN L) T) (bI E 1 G 1 H L O):=by intro L;induction L with|bF F I g M=>intro T O w J K V;simp only[tw,xc];show(g _ _ (M _ _ w) J K V).vi|_=>intro T O w;show Gz (.inr N) w
def aab(W:aj->aj):∀(F:List aj),(∀g∈F,∀T O,cU True T O->cU True (bI E 1 G 0 H (W g) T) (bI E 1 G 1 J g O))->∀(T O:bA),cU True T O->cU True (jR E G 0 H (F.map W) T) (jR E G 1 J F O):=by intro F;induction F with|nil=>intro _ _ _ w;show w|cons g F S=>intro I T O w;show I g cY _ _<|S (λU Y=>I U<|dI Y) T O w
def tD(E:aj):gQ E≠[]:=by induction E with|bU H I g J=>simp only[qt];intro w;show g (aff.mp w).1|_=>simp[gQ]
def afL(E:aj):fN E≠[]:=by induction E with|bF H I g J=>simp only[tw];intro w;show g (aff.mp w).1|_=>simp[fN]
theorem aac(b:tx H):∀(Y:aj)(T:bA),cU True (bI E 1 G 1 H (l0<|gQ Y) T)<|bI E 1 G 1 H Y T:=by intro Y;induction Y with|bU P Q g a=>intro T J X V;show((by intro E G I H _ T J X F;induction F with|nil=>intro N V w;show absurd rfl w|cons O F W=>
intro N V _ Z;rcases F with _|⟨U,F⟩
·rcases N with _|⟨U,N⟩;·show absurd rfl Z
 ·show cT.rfl
·dsimp only[List.cons_append,WD,th,Gj,Gk,Gl,Gm,B1,u9,zg,zh,Gn,tj,B2,zi,B4,B5];obtain W:=λV=>W N V (by simp) Z;simp only[List.cons_append]at W;generalize bI E 1 G I H O T J X V=L;obtain⟨S,K,M⟩:=L;induction S;case fail=>
  simp only[fk];show .mk ?_<|.mk ?_ λ_=> ?_;·have:=(W K).1;simp only[bk]at this⊢;show this.trans ?_;generalize bI E 1 G I H (l0<|U::F) T J X K=R;obtain⟨S,K,M⟩:=R;induction S<;>rfl
  ·have:=(W K).2.1;simp only[bk]at this⊢;show this.trans ?_;generalize bI E 1 G I H (l0<|U::F) T J X K=R;obtain⟨S,K,M⟩:=R;induction S<;>rfl
  ·have:=(W K).2.2 trivial;generalize bI E 1 G I H (l0<|U::F) T J X K=R at this⊢;obtain⟨S,K,M⟩:=R;induction S<;>(simp only[fk,bk]at this⊢;lia)
 all_goals show .mk rfl (.mk rfl λ_=>bD):∀{E:aS}{G I:Nat}{H:bA->bA}(b:tx H)(T:bA)(J:Nat)(X:dF)(F:List aj),∀(N:List aj)(V:ay),F≠[]->N≠[]->cT True (bI E 1 G I H (l0<|F++N) T J X V) (bk 1<|fk (bI E 1 G I H (l0 F) T J X V) λV=>bI E 1 G I H (l0 N) T J X V)) b T J X _ _ V (tD P)<|tD Q).aC ?_;show cT.bk (λ_=>aH)<|cT.fk (g T J X V) λV=>a T J X V|_=>intro T;show cU.rfl
def aad(W:aj->aj):∀(F:List aj),(∀g∈F,∀T O,cU True T O->cU True (bI E 1 G 0 H (W g) T) (bI E 1 G 1 J g O))->∀(T O:bA),cU True T O->cU True (bI E 1 G 0 H (l0<|F.map W) T) (bI E 1 G 1 J (l0 F) O):=by intro F;induction F with|nil=>intro _ _ _ _;show λ_ _ _=>⟨rfl,rfl,λ_=>aH⟩|cons g M S=>
rcases M with _|⟨U,F⟩;·intro L T O w;show L g (by show cY) T O w
·intro L T O w;show λI K V=>(cT.fk (L g (by show cY) T O w I K V) λV=>S (λY Z=>L Y<|dI Z) T O w I K V).bk λ_=>aH
theorem MY{E G:aj}:G∈fN E->G.c8<=E.c8:=by
 induction E with|bF H I g J=>
 intro w;rw[tw,List.mem_append]at w;simp only[zu];rcases w with w|w;·have:=g w;show jb<|aq this<|by lia
 ·have:=J w;show jb<|aq this<|by lia|_=>intro w;show vS.mp w▸aH
theorem Cf{H I G:aj}(w:G∈fN (.bF H I)):G.c8+1<=(aj.bF H I).c8:=by
 rw[tw,List.mem_append]at w;simp only[zu];rcases w with w|w;·have:=MY w;show cB<|aq this<|by lia
 ·have:=MY w;show cB<|aq this<|by lia
theorem MZ{E G:aj}:G∈gQ E->G.c8<=E.c8:=by
 induction E with|bU H I g J=>
 intro w;rw[qt,List.mem_append]at w;simp only[zv];rcases w with w|w;·have:=g w;show jb<|aq this<|by lia
 ·have:=J w;show jb<|aq this<|by lia|_=>intro w;show vS.mp w▸aH
theorem Cg{H I G:aj}(w:G∈gQ (.bU H I)):G.c8+1<=(aj.bU H I).c8:=by
 rw[qt,List.mem_append]at w;simp only[zv];rcases w with w|w;·have:=MZ w;show cB<|aq this<|by lia
 ·have:=MZ w;show cB<|aq this<|by lia
def aae(J:List aj)(X G:aj):G∈lZ J X->G∈J\/G=X\/∃K,G=.bc K:=by
 show zq (P:=λJ F=>G∈F->G∈J\/G=X\/∃K,G=.bc K) (λw=>.inr<|.inl<|vS.mp w) (λg w=> ?_) (λg H L S w=> ?_) J
 ·rcases zp g X with⟨K,U,rfl,rfl,Y⟩|Y<;>rw[Y]at w;·show .inr<|.inr ⟨_,vS.mp w⟩
  ·show(gA.mp w).elim (λE=>.inl<|E▸cY) λw=>.inr<|.inl<|vS.mp w
 ·rcases gA.mp w with rfl|w;·show .inl cY
  ·show(S w).imp dI id
def zw:∀(F J:List aj)(G:aj),G∈jx J F->G∈J\/G∈F\/∃K,G=.bc K:=by intro F;induction F with|nil=>show λ_ _ w=>.inl w|cons X L S=>
intro J G;show zr (G:=λH=>G∈jx H L->G∈J\/G∈X::L\/∃K,G=.bc K) (λ_ w=> ?_) (λU E w=> ?_) λw=> ?_;·show(S _ G w).imp id<|Or.imp dI id
·rcases S _ G w with w|w|w
 ·rcases aae _ _ _ w with w|w|w;·show .inl w
  ·show .inr<|.inr ⟨U,w⟩
  ·show .inr<|.inr w
 ·show .inr<|.inl<|dI w
 ·show .inr<|.inr w
·rcases S _ G w with w|w|w;·show(oP.mp w).imp id λw=>.inl<|by show vS.mp w▸cY
 ·show .inr<|.inl<|dI w
 ·show .inr<|.inr w
theorem afM(W:Nat)(K:Str):jy W (.bc K)=.bc K:=by induction W<;>rfl
def M0(g:tx J)(j:∀T f,cU True T f->cU True (H T) (J f)):∀(W:Nat)(a:aj),a.c8<=W->∀(T f:bA),cU True T f->cU True (bI E 1 G 0 H (jy W a) T) (bI E 1 G 1 J a f):=by have i:∀(a:aj) T f,cU True T f->cU True (bI E 1 G 0 H a T) (bI E 1 G 1 J a f):=λa T f w=>zo (λ_=>aH) (λ_=>aH) (λ_=>fx) a (.inr j) T f w;intro W;induction W with|zero=>intro a O T f w;show i a T f w|succ W S=>
intro a O T f w
induction a with|bF N I=>
simp only[WE];obtain U:=λ(M:aj)(X:M∈jx [] (fN<|.bF N I))=>S M (by
rcases zw _ [] M X with w|w|⟨K,rfl⟩;·simp at w
·have:=Cf w;show fJ<|aq this O
·show fx);obtain Q:=aab (E:=E) (G:=G) (jy W) (jx []<|fN<|.bF N I) U T f w;obtain R:=Q.aC<|aaa (E:=E) (G:=G) (I:=1) g (fN<|.bF N I) [] f;by_cases b:jx [] (fN<|.bF N I)=[];·rw[b]at Q R⊢;intro P Z V;obtain c:=GA (E:=E) (G:=G) g N _ _ (GA (E:=E) (G:=G) g I f f cU.rfl) P Z V;change cT True (bI E 1 G 0 H (.bc ⟨#[]⟩) T P Z V)<|bI E 1 G 1 J (.bF N I) f P Z V;rw[MX];rw[<-xc]at c;show cT.bk (λ_=>aH)<|(R P Z V).aC c
·rw[<-WH _ T<|by simpa using b];show R.aC<|GA g (.bF N I) f f cU.rfl|bU N I=>show(aad (jy W) (gQ<|.bU N I) (λM X=>S M<|by have:=Cg X;show fJ<|aq this O) T f w).aC<|aac g (.bU N I) f|de N=>intro P Z V;show cT.fq (λ_=>aH) (S N<|by show fJ O) w _ P Z V|bZ F N L=>
intro P Z V;show cT.bk (λ_=>aH)<|S N (by show fJ O) _ _ ?_ P Z V;intro Y h d;clear O;rcases F with _|_;·show cT.xa (λ_=>aH) (λ_=>aH) (λV=>w Y h V) d
·show(w Y _ d).bk λ_=>aH|_=>show i _ T f w
end
abbrev eR:=List Nat
def gv(F:eR):(Nat->Nat)->Nat:=F.rec (λ_=>0) λH _ S T=>H*T 0+S λN=>T<|N+1
noncomputable def vj(M:Nat->Nat)(N:Nat):Nat:=N.rec 1 λN _=>M N
def px(F:eR):eR->eR:=F.rec (λN=>N) λH F S N=>N.rec (H::F) λI N _=>(H+I)::S N
def GB(F:eR):eR->eR:=F.rec (λN=>N) λH F S N=>N.rec (H::F) λI N _=>Nat.max H I::S N
def Ci(H:Nat)(F:eR):eR:=F.rec [] λI _ S=>H*I::S
def xd(F:eR):(Nat->eR)->eR:=F.rec (λ_=>[]) λH _ S W=>px (Ci H<|W 0)<|S λN=>W<|N+1
noncomputable def zx(O:Nat):eR:=O.rec [1] λ_ S=>0::S
def vk(F:eR):∀(g:eR)(T:Nat->Nat),gv (px F g) T=gv F T+gv g T:=by induction F with|nil=>show λg T=>(I8 _).symm|cons H F S=>
intro g T;rcases g with _|⟨I,g⟩;·rfl
·change(H+I)*T 0+gv (px F g) (λN=>T<|N+1)=H*T 0+gv F (λN=>T<|N+1)+(I*T 0+gv g λN=>T<|N+1);simp only[S,Nat.add_mul];show Nat.add_add_add_comm _ _ _ _
def M1(F:eR):∀(g:eR)(T:Nat->Nat),gv F T<=gv (GB F g) T/\gv g T<=gv (GB F g) T:=by induction F with|nil=>show λg T=>⟨fx,aH⟩|cons H F S=>
intro g T;rcases g with _|⟨I,g⟩;·show⟨aH,fx⟩
·obtain w:=S g λN=>T<|N+1;show⟨ip (Nat.mul_le_mul_right _<|Nat.le_max_left H I) w.1,ip (Nat.mul_le_mul_right _<|Nat.le_max_right H I) w.2⟩
def aaf(H:Nat)(F:eR):∀T,gv (Ci H F) T=H*gv F T:=by induction F with|nil=>show λ_=>rfl|cons I F S=>intro T;change H*I*T 0+gv (Ci H F) _=H*(I*T 0+gv F _);simp only[S,Nat.mul_add,Nat.mul_assoc]
def aag(F:eR):∀(W:Nat->eR)(T:Nat->Nat),gv (xd F W) T=gv F λN=>gv (W N) T:=by induction F with|nil=>show λ_ _=>rfl|cons H F S=>intro W T;change gv (px (Ci H<|W 0)<|xd F _) T=H*gv (W 0) T+gv F _;simp only[vk,aaf,S]
def GC(O:Nat):∀T,gv (zx O) T=T O:=by induction O with|zero=>show λT=>Nat.one_mul _|succ O S=>show λT=>(congrArg (·+_)<|Nat.zero_mul _).trans<|(I8 _).trans<|S _
def aah(F:eR):∀{M T:Nat->Nat},(∀N,M N<=T N)->gv F M<=gv F T:=by induction F with|nil=>show λ_=>aH|cons H F S=>show λw=>ip (t8 _<|w 0)<|S λN=>w<|N+1
structure bb where
iZ:eR
fX:eR
jw:eR
qe:eR
e:eR
noncomputable def bb.at(K:bb)(L:Nat):eR:=L.rec K.iZ λL _=>L.rec K.fX λL _=>L.rec K.jw λL _=>L.rec K.qe λ_ _=>K.e
noncomputable def qu(W:Nat->eR):bb:=⟨W 0,W 1,W 2,W 3,W 4⟩
def gR{P:Nat->Prop}(W:P 0)(g:∀Q,Q<a->P (Q+1)):∀Q,Q<a+1->P Q:=λQ=>Q.casesOn (λ_=>W) λQ w=>g Q<|Nat.lt_of_succ_lt_succ w
def zy{P:Nat->Prop}(g:P 0)(H:P 1)(W:P 2):a<3->P a:=gR (P:=P) g (gR (P:=λa=>P<|a+1) H<|gR (P:=λa=>P<|a+2) W λ_ w=>absurd w<|AA _) a
def aai{P:Nat->Prop}(F:P 0)(H:P 1)(W:P 2)(g:P 3)(E:P 4):a<5->P a:=gR (P:=P) F (gR (P:=λa=>P<|a+1) H<|gR (P:=λa=>P<|a+2) W<|gR (P:=λa=>P<|a+3) g<|gR (P:=λa=>P<|a+4) E λ_ w=>absurd w<|AA _) a
def tE(W:Nat->eR)(w:a<=4):(qu W).at a=W a:=aai (P:=λa=>(qu W).at a=W a) rfl rfl rfl rfl rfl<|xV w
def bb.bw(K:bb)(M:Nat->Nat)(L:Nat):Nat:=gv (K.at L)<|vj M
def bb.j9(G U:bb):bb:=qu λL=>GB (G.at L)<|U.at L
def bb.fc(O:Nat)(G:bb):bb:=qu λL=>px [O]<|G.at L
def aaj(O N:Nat):eR:=N.rec [1] λN _=>O::zx N
def bb.fV(O:Nat)(G:bb):bb:=qu λL=>xd (G.at L)<|aaj O
def bb.bF(G U:bb):bb:=qu λL=>xd (G.at L) λN=>N.rec [1] λN _=>U.at N
def bb.bU(G U:bb):bb:=qu λL=>px (G.at L)<|U.at L
def Cj(R L:Nat)(g:eR)(X:Nat->eR):eR:=px (R::zx L)<|xd g λN=>N.rec [1] λN _=>bif Nat.blt N L then px [R]<|X N else [R]
def bb.zz:bb:=qu λ_=>[]
noncomputable def M3(O:Nat)(N:Nat->c):c:=O.rec (N 0) λg _=>N<|g+1
theorem aak(O:Nat)(N:Nat->c):M3 O N=N O:=by induction O<;>rfl
def rN(F:eR):(eR->c)->c:=F.rec (λN=>N []) λH _ S N=>M3 H λH=>S λF=>N<|H::F
def zA(F:eR):∀(N:eR->c),rN F N=N F:=by induction F with|nil=>show λ_=>rfl|cons H F S=>show λN=>(show rN (H::F) N=rN F λF=>N<|H::F from aak H λH=>rN F λF=>N<|H::F).trans<|S _
def bb.iz(K:bb)(N:bb->c):c:=rN K.iZ λH=>rN K.fX λI=>rN K.jw λM=>rN K.qe λY=>rN K.e λE=>N ⟨H,I,M,Y,E⟩
def bb.tF(K:bb)(N:bb->c):K.iz N=N K:=by unfold bb.iz;rw[zA,zA,zA,zA,zA]
def vm(R:Nat)(G:bb)(O:Nat):bb:=O.rec .zz λO K=>K.iz λK=>qu λL=>bif L.beq O then Cj R O (G.at O) K.at else K.at L
def bb.rO(R:Nat)(G:bb):bb:=vm R G 5
def GD(R:Nat)(G:bb)(w:a<=4):∀O,a<O->(vm R G O).at a=Cj R a (G.at a) (vm R G a).at:=by intro O;induction O with|zero=>intro Y;show absurd Y<|AA _|succ O S=>
intro Y;rw[(by intro R G O a w;change bb.at (bb.iz (vm R G O) _) a=_;rw[bb.tF];show tE _ w:∀(R:Nat)(G:bb)(O:Nat){a}(w:a<=4),(vm R G<|O+1).at a=bif a.beq O then Cj R O (G.at O) (vm R G O).at else(vm R G O).at a) R G O w];rcases Nat.lt_succ_iff_lt_or_eq.mp Y with Y|rfl;·show(afc.mpr λE=>absurd (Nat.eq_of_beq_eq_true E)<|gL Y)▸S Y
·rw[Nat.beq_refl a];rfl
def bb.gm(G U:bb):Prop:=∀M L,L<=4->G.bw M L<=U.bw M L
def bb.oA(G U:bb):G.gm<|G.j9 U:=λM L w=>by delta bb.bw bb.j9;rw[tE _ w];show(M1 _ _ _).1
def bb.tG(G U:bb):U.gm<|G.j9 U:=λM L w=>by delta bb.bw bb.j9;rw[tE _ w];show(M1 _ _ _).2
def bb.aal(G:bb):G.gm G:=λ_ _ _=>aH
def bb.rP{G U g:bb}(w:G.gm U)(O:U.gm g):G.gm g:=λM L Y=>aq (w M L Y)<|O M L Y
def aam(G:bb){T:Nat->Nat}(w:∀N,z N<=T N):G.bw z a<=G.bw T a:=aah _ λN=>match N with|0=>aH|N+1=>w N
theorem zB(O:Nat)(M:Nat->Nat):gv [O] (vj M)=O:=Nat.mul_one O
def xe(O:Nat)(G:bb)(M:Nat->Nat)(K:a<=4):(G.fc O).bw M a=G.bw M a+O:=by delta bb.bw bb.fc;rw[tE _ K,vk,zB,Nat.add_comm]
def GF(F:eR)(W:Nat->eR)(M T:Nat->Nat)(g:W 0=[1])(w:∀N,gv (W<|N+1) (vj M)=T N):gv (xd F W) (vj M)=gv F (vj T):=by
 rw[aag];congr 1;funext N;rcases N with _|N;·show g▸zB 1 M
 ·show w N
def Cm(O:Nat)(G:bb)(M:Nat->Nat)(K:a<=4):(G.fV O).bw M a=G.bw (λN=>M N+O) a:=by delta bb.bw bb.fV;show tE _ K▸GF _ _ _ _ rfl λN=>(congrArg (O*1+·)<|GC N _).trans<|(congrArg (·+_)<|Nat.mul_one O).trans lQ
def aan(G U:bb)(M:Nat->Nat)(K:a<=4):(G.bF U).bw M a=G.bw (U.bw M) a:=by delta bb.bw bb.bF;show tE _ K▸GF _ _ _ _ rfl λN=>rfl
def aao(G U:bb)(M:Nat->Nat)(K:a<=4):(G.bU U).bw M a=G.bw M a+U.bw M a:=by delta bb.bw bb.bU;rw[tE _ K,vk]
def aap(R:Nat)(G:bb)(M:Nat->Nat)(K:a<=4):R+M a+G.bw (λN=>if N<a then(G.rO R).bw M N+R else R) a=(G.rO R).bw M a:=by
 delta bb.bw bb.rO;rw[GD R G K 5<|Nat.lt_succ_of_le K];unfold Cj;rw[vk];congr 1;·show((congrArg (R*1+·)<|GC a _).trans<|congrArg (·+_)<|Nat.mul_one R).symm
 ·show(GF _ _ _ _ rfl λN=> ?_).symm;change gv (bif Nat.blt N a then _ else _) _=_;by_cases Y:N<a;·rw[show Nat.blt N a=true from Nat.ble_eq_true_of_le Y,if_pos Y,cond_true,vk,zB,GD R G (Nat.le_of_lt<|Nat.lt_of_lt_of_le Y K) a Y,GD R G (Nat.le_of_lt<|Nat.lt_of_lt_of_le Y K) 5<|Nat.lt_of_lt_of_le Y<|Nat.le_succ_of_le K,Nat.add_comm]
  ·rw[(Bool.eq_false_iff.mpr λE=>Y (Nat.le_of_ble_eq_true E):Nat.blt N a=false),if_neg Y,cond_false,zB]
theorem aaq(w:a<=4):a=0\/a=1\/a=2\/a=3\/a=4:=by lia-abstractProof
section
set_option tactic.hygienic true
def vn(E:aS)(T:bA)(M:Nat->Nat):Prop:=∀J H V,J<=E.aJ->(T J H V).2.2<=M (E.aJ-J)
def gh(E:aS)(R F:Nat)(X:bA->bA)(w:aj)(K:bb):Prop:=∀T M,vn E T M->vn E (bI E R F R X w T) (K.bw M)
noncomputable def nL(R:Nat)(M:Nat->Nat)(L:Nat):Nat:=Nat.rec (motive:=λ_=>Nat) (R+M 0) (λL S=>S+(R+M (L+1))) L
theorem aar:nL a z 0=a+z 0:=rfl
theorem M4:nL a z (e+1)=nL a z e+(a+z (e+1)):=rfl
def GG(R:Nat)(L:Nat):eR:=L.rec [R,1] λL S=>px (R::zx (L+1)) S
def xf(R F:Nat):bb:=qu λL=>px [R+F]<|GG R L
def aas(R:Nat)(M:Nat->Nat):∀L,gv (GG R L) (vj M)=nL R M L:=by intro L;induction L with|zero=>change R*1+(1*M 0+0)=R+M 0;rw[Nat.mul_one,Nat.one_mul];rfl|succ L S=>change gv (px (R::zx (L+1))<|GG R L) (vj M)=_;rw[vk,S,Nat.add_comm];show congrArg (nL R M L+·)<|(congrArg (R*1+·)<|GC (L+1) _).trans<|congrArg (·+_)<|Nat.mul_one R
def M5(R F:Nat)(M:Nat->Nat)(K:a<=4):(xf R F).bw M a=R+F+nL R M a:=by delta bb.bw xf;simp only[tE _ K,vk,zB,aas]
def M6(R:Nat)(M:Nat->Nat)(w:e<=a):nL R M e<=nL R M a:=by induction a with
| zero => have:e=0:=PU w;subst this;show aH
| succ a S => by_cases Y:e<=a;· have:=S Y;show gU this
              · have:e=a+1:=i7 w<|j1<|m6 Y;clear S;subst this;show aH
theorem zC(R:Nat)(M:Nat->Nat)(w:a<=e):R+M a<=nL R M e:=by
 have:R+M a<=nL R M a:=by induction a<;>simp only[aar,M4]<;>lia-abstractProof
 show aq this<|M6 R M w
def tH(T:Nat):Nat->List Nat->Prop|_,[]=>True|I,J::L=>I<=J/\J<=T/\tH T (J+1) L
def Cn{L:eg}{W:ay->eg}(w:∀V,(W V).2.2<=a):(fk L W).2.2<=L.2.2+a:=by
 obtain⟨S,K,M⟩:=L;induction S<;>simp only[fk,bk];case fail=>have:=w K;show i9<|d8 this<|by simp+arith
 all_goals show bD
theorem M7{E:aS}{T:bA}(O:vn E T z)(g:dF):∀(F:List Nat)(I:Nat),I<=E.aJ->tH E.aJ I F->∀V,(eQ a T g F V).2.2<=a+nL a z (E.aJ-I):=by intro F;induction F with|nil=>intro _ _ _ _;show bD|cons J L S=>
rintro I P ⟨H,W,w⟩ V;obtain G:=O J g V W;simp only[MF,zl];by_cases U:J+1<=E.aJ;·have:=Cn (L:=T J g V)<|S (J+1) U w;obtain R:=M6 a z (show E.aJ-J<=E.aJ-I by lia);rw[yq<|Nat.lt_of_succ_le U]at R G;simp only[M4]at R;show i9<|yr G this R<|by simp+arith
·have K:L=[]:=by
  clear W;clear S;rcases L with _|⟨N,L⟩;·rfl
  ·show iI w λQ M _=> ?_;lia
 clear S;subst K;have:=Cn (L:=T J g V) (a:=a) (W:=eQ a T g []) λ_=>aH;obtain R:=zC a z (show E.aJ-J<=E.aJ-I by lia);show i9<|yr G this R<|by simp+arith
def aat{E:aS}:tH E.aJ a<|jP E a:=by
 unfold jP;have:∀O N,O+N<=E.aJ+1->tH E.aJ N ((List.range O).map (N+·)):=by intro O;induction O with|zero=>intro N _;trivial|succ O S=>
  intro N w;rw[List.range_succ_eq_map];have:=S (N+1)<|aq (bP<|Eq.symm gM) w;obtain g:(λG=>N+G)∘Nat.succ=λG=>N+1+G:=by funext G;simp+arith
  show fS aH (by show i9<|eI (by simp+arith) w) ?_;rw[List.map_map];rw[g];show this
 by_cases F:a<=E.aJ;·show this _ a<|bP<|iT<|jb F
 ·have:E.aJ+1-a=0:=PD<|j1<|m6 F;show this▸ ?_;trivial
def aau:∀O J,J<=m.length->tH m.length (J+1) (ji m O J):=by intro O;induction O with|zero=>intro J _;trivial|succ O S=>
intro J g;simp only[BZ];rcases Q:nI m (m.length-J) J 0with _|E;·trivial
·have:=Gs _ _ _ _ Q;show⟨j1 this.1,aq this.2<|bP<|I6 g,S E<|aq this.2<|bP<|I6 g⟩
def tH.cZ:∀{F:List Nat}{H I:Nat},H<=I->tH a I F->tH a H F:=by intro F;induction F with|nil=>intro _ _ _ _;show trivial|cons _ _ S=>rintro _ _ w ⟨g,W⟩;show⟨aq w g,W⟩
section
variable{G:aS}{E H:Nat}{I:bA->bA}
def gh.iQ{N:aj}{K W:bb}(P:G.aJ<=4)(w:gh G E H I N K)(R:K.gm W):gh G E H I N W:=by intro T M Q J F V S;show aq (w T M Q J F V S)<|(by intro _ _ w M L O;show w M L O:∀{g U:bb}(w:g.gm U)(M:Nat->Nat){L:Nat}(O:L<=4),g.bw M L<=U.bw M L) R M<|aq kn P
def zD{T:bA}(F:vn G T z)(w:a<=G.aJ){S:ix}{g:dF}{V:ay}(L:∀J,S=.at J->gV (a<=J) (J<=G.aJ)):(i3 E S (λJ=>T J g V) V).2.2<=nL E z (G.aJ-a):=by induction S with|dq=>show aq (IS E<|z 0)<|zC E z fx|dG O=>show aq (IS E<|z 0)<|zC E z fx|«at» J=>have:=L J rfl;obtain H:=F J g V this.2;have:=zC E z (Nat.sub_le_sub_left this.1 _:G.aJ-J<=G.aJ-a);simp only[i3,bk];show aq (d8 H<|by simp+arith) this
def zE{g:aj}{V:ay}(S:a<=G.aJ):∀J,hW G V a g=.at J->gV (a<=J) (J<=G.aJ):=λ_ w=>kZ S w
def M8{T:ay->eg}{L:bT}{V:ay}(w:∀V,(T V).2.2<=a):(lz E H G L d T V).2.2<=E+H+a:=by
 unfold lz;rcases hZ G L d V with _|I;·simp only;show gU bD
 ·have:=w I;simp only[bk];show i9<|d8 this<|by simp+arith
noncomputable def qv(w:aj):Bool:=w.casesOn (λ_=>true) (λ_ _=>true) (λ_ _=>true) true true true true true true (λ_=>true) (λ_=>false) (λ_=>false) (λ_ _ _=>false) (λ_ _=>false) λ_ _=>false
theorem aav{W:aj}(Y:G.aJ<=4)(P:qv W=true):gh G E H I W<|xf E H:=by show(by intro _ Y g;intro T R Z J Q V X;show M5 E H R (aq kn Y)▸g T R J Q V Z X:∀{W}(Y:G.aJ<=4)(g:∀T R J Q V,vn G T R->J<=G.aJ->(bI G E H E I W T J Q V).2.2<=E+H+nL E R (G.aJ-J)),gh G E H I W<|xf E H) Y λT R J Q V Z X=> ?_;have O:=zC E R<|Nat.le_refl<|G.aJ-J;induction W with|bc F=>show aq (zD Z X<|zE X) aR|d5 N U=>show aq (zD Z X<|zE X) aR|gg N U=>show aq (zD Z X<|zE X) aR|fz=>show aq (zD Z X<|zE X) aR|eG=>have:=M7 (a:=E) Z Q (jP G J) J X aat V;show aq this<|fI bD _|fj=>have:=M7 (a:=E) Z Q (ji G.f (G.aJ+1-J) J) J X ((aau _ J X).cZ bD) V;show aq this<|fI bD _|fA=>have:=Z J Q V X;simp only[u9];generalize T J Q V=L at this⊢;obtain⟨S,F,M⟩:=L;induction S<;>simp only[rF,bk]<;>simp only at this<;>lia|fail=>simp only[zg];show gU bD|fH=>simp only[zh];show gU bD|iO L=>have:=M8 (G:=G) (E:=E) (H:=H) (L:=L) (d:=.int J) (V:=V) (T:=T J Q) (a:=R<|G.aJ-J) λV=>Z J Q V X;simp only[th,Gj,Gk,Gl,Gm,B1,u9,zg,zh,Gn,tj,B2,zi,B4,B5];show aq this<|i8 (aq aR O) _|_=>show Bool.noConfusion P
def oB(E H:Nat):bb:=((xf E H).fV E).fc E
def aaw{O:aj}(P:G.aJ<=4)(g:qv O=true):gh G E H I O<|oB E H:=by intro T M Q J L V S;obtain K:G.aJ-J<=4:=aq kn P;unfold oB;rw[xe _ _ _ K,Cm _ _ _ K];have:=aam (xf E H) (z:=M) (T:=λN=>M N+E) (a:=G.aJ-J) λN=>bD;show gU<|aq (aav (E:=E) (H:=H) (I:=I) P g T M Q J L V S) this
def aax{U:dM}(R:G.aJ<=4)(P:U≠.P):gh G E H I (.fM U)<|oB E H:=by
 intro T M W J L V S;obtain O:G.aJ-J<=4:=aq kn R;unfold oB;rw[xe _ _ _ O,Cm _ _ _ O,M5 E H _ O];simp only[tj];rcases g:fY G V U with _|_|Q;·simp only;show aR
 ·show absurd (by induction U using dM.casesOn<;>simp[fY]at g;rfl) P
 ·have:=zD (E:=E) (T:=λJ L V=>bk E<|T J L V) (z:=λN=>M N+E) (G:=G) (S:=hW G V J<|.bc<|j6 Q) (g:=L) (V:=V) (λJ L V S=>by have:=W J L V S;show fI this _) S<|zE S;unfold bk at this⊢;show fI (AB this) _
def aay{O:bb}(w:G.aJ<=4)(L:∀T M,vn G T M->vn G (I T) (O.bw M)):gh G E H I (.fM .P)<|(O.fV E).fc E:=by intro T M F J g V S;obtain K:G.aJ-J<=4:=aq kn w;rw[xe _ _ _ K,Cm _ _ _ K];have:=L (λJ g V=>bk E<|T J g V) (λN=>M N+E) (λJ g V S=>by have:=F J g V S;show fI this _) J g V S;show fI this E
def aaz{g:aj}{L:bT}{Q:bb}(W:G.aJ<=4)(F:gh G E H I g Q):gh G E H I (.bZ n g L)<|(Q.fV<|E+H).fc E:=by
 intro T M X J P V S;rw[xe _ _ _<|Nat.le_trans kn W,Cm _ _ _<|Nat.le_trans kn W];have:=F (zf E H G n L J T) (λN=>M N+(E+H)) ?_ J P V S;·simp only[zi];show fI this _
 ·intro O Y R U;rcases n with _|_;·have:=M8 (G:=G) (E:=E) (H:=H) (L:=L) (d:=.str<|cF G.f J O) (V:=R) (T:=T O Y) (a:=M<|G.aJ-O) λV=>X O Y V U;simp only[zf];show aq this<|bP lQ
  ·have:=X O (Y++[(L,cF G.f J O)]) R U;show ip this bD
theorem aaA{g:aj}{K:bb}(Z:G.aJ<=4)(L:gh G E H I g K):gh G E H I (.de g)<|K.rO E:=by
 intro T M a;obtain c:∀O J Q V,G.aJ+1-J<=O->J<=G.aJ->(fq E (bI G E H E I g) T O J Q V).2.2<=(K.rO E).bw M (G.aJ-J):=by intro O;induction O with|zero=>intro J Q V w R;omega|succ O S=>
  intro J Q V w R;have W:∀V,(bI G E H E I g (λd b X=>if d<=J then(.fail,X,E)else bk E<|fq E (bI G E H E I g) T O d b X) J Q V).2.2<=K.bw (λN=>if N<G.aJ-J then(K.rO E).bw M N+E else E) (G.aJ-J):=by
   intro V;show L _ _ ?_ J Q V R;intro P b X U;rcases pM<|P<=J with Y|Y;·simp only[Y,if_true];split<;>lia
   ·simp only[Y];have:=S P b X (vT<|by lia) U;rw[if_pos<|Nat.sub_lt_sub_left (Nat.lt_of_lt_of_le (Nat.lt_of_not_le Y) U)<|Nat.lt_of_not_le Y];delta bk;show fI this _
  simp only[<-aap E K M (Nat.le_trans kn Z:G.aJ-J<=4)];obtain F:=a J Q V R;show aq (fI (Cn W) E)<|d8 F<|by simp+arith
 intro J Q V R;show c _ J Q V aH R
end
noncomputable def qw(w:aj):Option Str:=w.casesOn some (λ_ _=>none) (λ_ _=>none) none none none none none none (λ_=>none) (λ_=>none) (λ_=>none) (λ_ _ _=>none) (λ_ _=>none) λ_ _=>none
def ku(w:aj):Bool:=(qw w).elim false λK=>K==⟨#[]⟩
def GH{H:aj}(w:qw H=some m):H=.bc m:=by rcases H with⟨⟩<;>first|show congrArg _<|jZ w|show bQ w
def aaB{G:aj}(w:ku G=true):G=.bc ⟨#[]⟩:=by rcases G with⟨⟩<;>first|show congrArg _<|eq_of_beq w|show Bool.noConfusion w
def pz(H I:aj):aj:=bif ku H then I else bif ku I then H else(qw H).elim (.bF H I) λK=>(qw I).elim (.bF H I) λU=>.bc<|K++U
def M9{H I:aj}(J:aj->Prop)(g:ku H=true->J I)(W:ku H=false->ku I=true->J H)(w:ku H=false->ku I=false->∀G U,H=.bc G->I=.bc U->J (.bc<|G++U))(E:ku H=false->ku I=false->qw H=none\/qw I=none->J (.bF H I)):J<|pz H I:=by
 unfold pz;induction Y:ku H
 ·induction L:ku I
  ·induction F:qw H;·show E Y L<|.inl F
   ·induction Q:qw I;·show E Y L<|.inr Q
    ·show w Y L _ _ (GH F)<|GH Q
  ·show W Y L
 ·show g Y
def xg{H I:aj}(F:aj->Prop)(g:ku H=true->F I)(W:ku I=true->F H)(w:∀G U,H=.bc G->I=.bc U->F (.bc<|G++U))(E:F<|.bF H I):F<|pz H I:=M9 F g (λ_=>W) (λ_ _=>w) λ_ _ _=>E
def GI(H I M:aj):Prop:=M=pz H I\/M=.bF H I\/M=.bU H I
inductive aaC(X:Bool)(G:Nat->Nat->aj->Nat->Prop):Prop|mk (J:∀Y O w,qv w=true->G Y (O+1) w O) (P:∀Y O U,(U=.P->X=true)->G Y (O+1) (.fM U) O) (K:∀Y O H E,17<=O->E<O->G Y O H E->G (Y+1) (O+1) (.de H) E) (T:∀Y O F H L E,17<=O->E<O->G Y O H E->G (Y+1) (O+1) (.bZ F H L) E) (g:∀Y O H N I E M,17<=O->N<O->E<N->G Y O H N->G Y N I E->GI H I M->G (Y+1) (O+1) M E)
def gw(X:Bool)(Y O:Nat)(w:aj)(E:Nat):Prop:=∀L,aaC X L->L Y O w E
section
variable{G:Bool}{I E H K:Nat}{L J M:aj}
def gw.GJ(w:qv L=true):gw G I (E+1) L E:=λ_ g=>g.1 _ _ _ w
def gw.fM{U:dM}(w:U=.P->G=true):gw G I (E+1) (.fM U) E:=λ_ g=>g.2 _ _ _ w
def gw.de(g:17<=E)(W:H<E)(w:gw G I E J H):gw G (I+1) (E+1) (.de J) H:=λ_ F=>F.3 _ _ _ _ g W<|w _ F
def gw.bZ{L:bT}(g:17<=E)(W:H<E)(w:gw G I E J H):gw G (I+1) (E+1) (.bZ n J L) H:=λ_ F=>F.4 _ _ _ _ _ _ g W<|w _ F
def gw.rd{g:aj}(U:GI J M g)(F:17<=E)(W:K<E)(L:H<K)(w:gw G I E J K)(N:gw G I K M H):gw G (I+1) (E+1) g H:=λ_ O=>O.5 _ _ _ _ _ _ _ F W L (w _ O) (N _ O) U
end
def rQ(R:Nat)(K:Nat->Nat->bb)(O E:Nat)(N:Nat):bb:=Nat.rec (motive:=λ_=>bb) .zz (λN S=>S.iz λM=>(K O<|E+1+N).iz λH=>(K (E+1+N) E).iz λI=>(H.bF I).iz λG=>(M.j9<|G.fc R).j9<|(H.bU I).fc R) N
theorem aaD{K:Nat->Nat->bb}{O:Nat}:rQ e K O a (r+1)=(rQ e K O a r).iz λM=>(K O<|a+1+r).iz λH=>(K (a+1+r) a).iz λI=>(H.bF I).iz λG=>(M.j9<|G.fc e).j9<|(H.bU I).fc e:=rfl
def l7(R F:Nat)(w:bb)(Y:Nat):Nat->Nat->bb:=Nat.rec (motive:=λ_=>Nat->Nat->bb) (λO E=>if E+1=O then w else .zz) (λ_ S O E=>if E+1=O then w else if 18<=O/\E+1<O then(rQ R S (O-1) E<|O-2-E).iz λM=>(S (O-1) E).iz λH=>((H.fV<|R+F).fc R).iz λU=>(H.rO R).iz λg=>((M.j9 U).j9 g).iz λG=>G else .zz) Y
theorem aaE{F:Nat}{w:bb}{Y:Nat}:l7 a F w (Y+1) e r=if r+1=e then w else if 18<=e/\r+1<e then(rQ a (l7 a F w Y) (e-1) r<|e-2-r).iz λM=>(l7 a F w Y (e-1) r).iz λH=>((H.fV<|a+F).fc a).iz λU=>(H.rO a).iz λg=>((M.j9 U).j9 g).iz λG=>G else .zz:=rfl
def xh(R F:Nat)(U:bb)(Y O E:Nat):bb:=(rQ R (l7 R F U Y) O E<|O-1-E).j9<|((l7 R F U Y O E).fV<|R+F).fc R
def GK(R F:Nat)(U:bb)(Y O E:Nat)(H:17<=O)(W:E<O):l7 R F U (Y+1) (O+1) E=(xh R F U Y O E).j9 ((l7 R F U Y O E).rO R):=by simp only[aaE,bb.tF];rw[if_neg<|Nat.ne_of_lt<|Nat.add_lt_add_right W _,if_pos<|And.intro (Nat.succ_le_succ H)<|Nat.add_lt_add_right W _];congr 4
def aaF(R:Nat)(K:Nat->Nat->bb)(O E N:Nat):rQ R K O E (N+1)=((rQ R K O E N).j9<|((K O<|E+1+N).bF<|K (E+1+N) E).fc R).j9 (((K O<|E+1+N).bU<|K (E+1+N) E).fc R):=by simp only[aaD,bb.tF]
theorem aaG(R:Nat)(K:Nat->Nat->bb)(O E g:Nat):∀N,E<g->g<E+1+N->(((K O g).bF<|K g E).fc R).gm (rQ R K O E N)/\(((K O g).bU<|K g E).fc R).gm (rQ R K O E N):=by intro N;induction N with|zero=>intro w F;lia-abstractProof|succ N S=>
intro w F;rw[aaF];by_cases Y:g=E+1+N;·clear F;subst Y;show⟨bb.rP (bb.tG _ _)<|bb.oA _ _,bb.tG _ _⟩
·have:=S w (by lia-abstractProof);show⟨bb.rP this.1<|bb.rP (bb.oA _ _)<|bb.oA _ _,bb.rP this.2<|bb.rP (bb.oA _ _)<|bb.oA _ _⟩
section
variable{H:aS}{E G:Nat}{I:bA->bA}
def aaH{L P:aj}{K:bb}(g:∀T O,cU True T O->cU True (I T) (I O))(w:gh H E G I (.bF L P) K):gh H E G I (pz L P) K:=by
 obtain c:∀T,cU True (bI H E G E I (pz L P) T)<|bI H E G E I (.bF L P) T:=by
  have d:∀F T J Z V,ku F=true->bI H E G E I F T J Z V=bk E (T J Z V):=by intro F T J Z V R;rw[aaB R];simp only[th,ze,MW];rfl
  intro T J Z V;show xg (λY=>cT True (bI H E G E I Y T J Z V) _) (λQ=> ?_) (λW=> ?_) (λF U R a=> ?_) cT.rfl;·change cT True _<|bk E<|bI H E G E I L (bI H E G E I P T) J Z V;rw[d L _ J Z V Q];show cT.rfl.vi.vi
  ·change cT True _<|bk E<|bI H E G E I L (bI H E G E I P T) J Z V;show cT.vi<|zo (λ_=>aH) (λ_=>aH) (λ_=>aH) L (.inr g) T _ (λJ Z V=> ?_) J Z V;rw[d P T J Z V W];show cT.rfl.vi
  ·rw[R,a];change cT True _<|bk E<|bI H E G E I (.bc F) (bI H E G E I (.bc U) T) J Z V;show cT.vi ?_;simp only[th,ze,MV];rcases jh H.f J F with _|X;·show cT.rfl
   ·simp only[Option.bind,ix.cA,i3];rcases w:jh H.f X U with _|N;·show .mk rfl<|.mk rfl λ_=>by simp[bk]
    ·show .mk rfl<|.mk rfl λ_=>by show bD
 intro T M b J Z V S;show aq ((c T J Z V).2.2 trivial)<|w T M b J Z V S
def aaI{F L M:aj}{e K R:bb}(h:H.aJ<=4)(g:∀T O,cU True T O->cU True (I T) (I O))(U:GI F L M)(c:gh H E G I F e)(Q:gh H E G I L R)(P:((e.bF R).fc E).gm K)(W:((e.bU R).fc E).gm K):gh H E G I M K:=by
 have N:=((by intro _ _ _ _ h Z Y;intro T b i J a V S;obtain d:H.aJ-J<=4:=aq kn h;rw[xe _ _ _ d,aan _ _ _ d];have:=Z _ _ (Y T b i) J a V S;simp only[B4];show fI this _:∀{w X K R}(h:H.aJ<=4)(Z:gh H E G I w K)(Y:gh H E G I X R),gh H E G I (.bF w X)<|(K.bF R).fc E) h c Q).iQ h P;rcases U with rfl|rfl|rfl;·show aaH g N
 ·show N
 ·show((by intro w X _ _ h Z Y;intro T b i J a V S;have:=Cn (L:=bI H E G E I w T J a V) (W:=λV=>bI H E G E I X T J a V) λV=>Y T b i J a V S;rw[xe _ _ _<|Nat.le_trans kn h,aao _ _ _<|Nat.le_trans kn h];simp only[B5];show fI (aq this<|fI (Z T b i J a V S) _) _:∀{w X K R}(h:H.aJ<=4)(Z:gh H E G I w K)(Y:gh H E G I X R),gh H E G I (.bU w X)<|(K.bU R).fc E) h c Q).iQ h W
theorem Na{k:bb}(K:H.aJ<=4)(i:∀T h,cU True T h->cU True (I T) (I h))(R:(oB E G).gm k)(j:n=true->gh H E G I (.fM .P) k){Y O d f}(w:gw n Y O d f):gh H E G I d (l7 E G k Y O f)/\((∀P,d≠.de P)->f+1≠O->gh H E G I d (xh E G k (Y-1) (O-1) f)):=by
 obtain l:∀Y O,l7 E G k Y (O+1) O=k:=λY O=>by rcases Y with-|-<;>show if_pos rfl
 show w (λY O d f=>gh H E G I d (l7 E G k Y O f)/\((∀P,d≠.de P)->f+1≠O->gh H E G I d (xh E G k (Y-1) (O-1) f))) ⟨λY O d a=>⟨?_,λ_ w=>absurd rfl w⟩,λY O U e=>⟨?_,λ_ w=>absurd rfl w⟩,λY O P f X W S=>⟨?_,λw=>absurd rfl<|w _⟩,λY O F P L f X W S=> ?_,λY O P Z Q f M X W c g J U=> ?_⟩;·rw[l];show(aaw K a).iQ K R
 ·rw[l];by_cases V:U=.P;·subst V;show j<|e rfl
  ·show(aax K V).iQ K R
 ·rw[GK E G k Y O f X W];show(aaA K S.1).iQ K<|bb.tG _ _
 ·have N:gh H E G I (.bZ F P L)<|xh E G k Y O f:=(aaz K S.1).iQ K<|bb.tG _ _;rw[GK E G k Y O f X W];show⟨N.iQ K<|bb.oA _ _,λ_ _=>N⟩
 ·obtain b:=aaG E (l7 E G k Y) O f Z (O-1-f) c (by omega);have N:gh H E G I M<|xh E G k Y O f:=aaI K i U g.1 J.1 (bb.rP b.1<|bb.oA _ _)<|bb.rP b.2<|bb.oA _ _;simp only[GK E G k Y O f X<|Nat.lt_trans c W];show⟨N.iQ K<|bb.oA _ _,λ_ _=>N⟩
end
def GL(R F:Nat):bb:=((l7 R F (oB R F) 1 18 15).j9<|(l7 R F (oB R F) 1 18 16).j9<|l7 R F (oB R F) 1 18 17).iz λG=>G
def xi(R F:Nat):bb:=((oB R F).j9<|((GL R F).fV R).fc R).iz λG=>G
def tI(R F E:Nat):bb:=if E=21then xi R F else xh R F (xi R F) 2 21 E
def Nb(K:bb)(M:Nat->Nat):Nat:=K.bw M 0+K.bw M 1+K.bw M 2+K.bw M 3+K.bw M 4
set_option maxHeartbeats 0
def aaJ:((List.range 15).all λN=>(tI 1 0<|7+N).iz λK=>decide (K.bw (λ_=>1) 0<=1035665)&&decide (K.bw (λ_=>1) 1<=1035665)&&decide (K.bw (λ_=>1) 2<=1035665)&&decide (K.bw (λ_=>1) 3<=1035665)&&decide (K.bw (λ_=>1) 4<=1035665))=true:=by decide+kernel
def aaK:((List.range 15).all λN=>(tI 0 1<|7+N).iz λK=>decide<|Nb K (λ_=>0)<=155355)=true:=by decide+kernel
end
noncomputable def kz:aj->aU|.eG=>.eG|.fj=>.fj|.fA=>.fA|.fail=>.fail|.fH=>.fH|.iO L=>.rG L|.fM U=>.nK U|w=>.cW w
def pA(W:aj->Nat->List aU)(F:List aj):Nat->List aU:=List.rec (motive:=λ_=>Nat->List aU) (λ_=>[]) (λG _ S X=>W G X++S (X+(W G X).length)) F
theorem GN{W:aj->Nat->List aU}:pA W [] a=[]:=rfl
theorem zF{W:aj->Nat->List aU}{G:aj}{L:List aj}:pA W (G::L) a=W G a++pA W L (a+(W G a).length):=rfl
def iA(W:aj->Nat->List aU)(F:List aj):Nat->List aU:=List.rec (motive:=λ_=>Nat->List aU) (λ_=>[]) (λG L S X=>List.casesOn (motive:=λ_=>List aU) L (W G X) λ_ _=>.split (X+1+(W G<|X+1).length+1)::W G (X+1)++.dg (X+1+(W G<|X+1).length+1+(S<|X+1+(W G<|X+1).length+1).length)::S (X+1+(W G<|X+1).length+1)) F
def bz(W:Nat):aj->Nat->List aU:=W.rec (λw _=>[kz w]) λ_ S w=>w.casesOn (λK _=>[kz<|.bc K]) (λN U _=>[kz<|.d5 N U]) (λN U _=>[kz<|.gg N U]) (λ_=>[kz .fz]) (λ_=>[kz .eG]) (λ_=>[kz .fj]) (λ_=>[kz .fA]) (λ_=>[kz .fail]) (λ_=>[kz .fH]) (λL _=>[kz<|.iO L]) (λU _=>[kz<|.fM U]) (λH X=>.split (X+2)::.dg (X+3+(S H<|X+3).length+2)::.gI::S H (X+3)++[.iP,.dg X]) (λF H L X=>.gI::S H (X+1)++[.bZ F L]) (λH I=>pA S<|jx []<|fN<|.bF H I) λH I=>iA S<|gQ<|.bU H I
theorem aaL{H:aj}:bz (e+1) (.de H) a=.split (a+2)::.dg (a+3+(bz e H<|a+3).length+2)::.gI::bz e H (a+3)++[.iP,.dg a]:=rfl
def mO(R:List aU)(X:Nat)(M:List aU):Prop:=∀N,N<M.length->R[X+N]?=M[N]?
theorem mO.dj{R:List aU}{M Y:List aU}(w:mO R a<|M++Y):gV (mO R a M)<|mO R (a+M.length) Y:=by
 constructor;·intro N g;show(w N<|by rw[List.length_append];show pO _ g).trans<|sm g
 ·intro N g;rw[Nat.add_assoc,w (M.length+N)<|by rw[List.length_append];lia-abstractProof,List.getElem?_append_right<|by lia-abstractProof];congr 1;lia-abstractProof
def mO.cons{R:List aU}{S:aU}{Y:List aU}(w:mO R a<|S::Y):gV (R[a]?=some S)<|mO R (a+1) Y:=⟨w 0<|by simp,(mO.dj (M:=[S]) w).2⟩
abbrev rR:Nat->Nat->Prop:=λY G=>G=Y
def aaM{R:List aU}(W:aj->Nat->List aU)(O:aj->aj):∀(F:List aj),(∀G∈F,∀X,mO R X (W G X)->j7 R rR (O G) X (X+(W G X).length))->∀X,mO R X (pA W F X)->j7 R rR (zt<|F.map O) X (X+(pA W F X).length):=by intro F;induction F with|nil=>intro _ X _;show .inr ⟨rfl,rfl⟩|cons G E S=>
rcases E with _|⟨U,L⟩;·intro w X g;simp only[GN,zF,List.append_nil]at g⊢;show w G (by show cY) X g
·intro w X g;rw[show pA W (G::U::L) X=W G X++pA W (U::L) (X+(W G X).length)from rfl]at g⊢;rw[List.length_append,<-Nat.add_assoc];show aX _ (w G (by show cY) X g.dj.1)<|S (λY Z=>w Y<|dI Z) _ g.dj.2
def aaN{H:List aU}(W:aj->Nat->List aU)(O:aj->aj):∀(F:List aj),F≠[]->(∀G∈F,∀X,mO H X (W G X)->j7 H rR (O G) X (X+(W G X).length))->∀X,mO H X (iA W F X)->j7 H rR (l0<|F.map O) X (X+(iA W F X).length):=by intro F;induction F with|nil=>intro V _ _ _;show(V rfl).elim|cons G I S=>
rcases I with _|⟨U,L⟩;·intro _ w X g;show w G (by show cY) X g
·intro _ w X g;have E:iA W (G::U::L) X=.split (X+1+(W G<|X+1).length+1)::(W G (X+1)++.dg (X+1+(W G<|X+1).length+1+(iA W (U::L)<|X+1+(W G<|X+1).length+1).length)::iA W (U::L) (X+1+(W G<|X+1).length+1)):=rfl;rw[E]at g⊢;have R:X+(aU.split (X+1+(W G<|X+1).length+1)::(W G (X+1)++.dg (X+1+(W G<|X+1).length+1+(iA W (U::L)<|X+1+(W G<|X+1).length+1).length)::iA W (U::L) (X+1+(W G<|X+1).length+1))).length=X+1+(W G<|X+1).length+1+(iA W (U::L)<|X+1+(W G<|X+1).length+1).length:=by simp only[List.length_cons];simp+arith
 simp only[R];show Eh _ _ _ g.cons.1 rfl (w G (by show cY) _ g.cons.2.dj.1) g.cons.2.dj.2.cons.1 rfl<|S (by simp) (λY Z=>w Y<|dI Z) _ g.cons.2.dj.2.cons.2
theorem aaO{R:List aU}:∀(W:Nat)(P:aj),P.c8<=W->∀X,mO R X (bz W P X)->j7 R rR (jy W P) X (X+(bz W P X).length):=by intro W;induction W with
|zero=>intro P O X M;induction P with|de H=>simp[Gy]at O|bZ F H L=>simp[Ce]at O|bF H I=>simp[zu]at O|bU H I=>simp[zv]at O|bc K=>show .inl ⟨M.cons.1,rfl⟩|_=>show⟨M.cons.1,rfl⟩
|succ W S=>intro P O X M;induction P with
|de H=>
rw[show bz (W+1) (.de H) X=.split (X+2)::.dg (X+3+(bz W H<|X+3).length+2)::.gI::(bz W H (X+3)++[.iP,.dg X])from rfl]at M⊢;obtain g:=M.cons.1;obtain J:=M.cons.2;obtain N:=J.cons.1;obtain E:=J.cons.2;show⟨_,_,_,_,g,rfl,N, ?_,E.cons.1,S H (fJ O) _ E.cons.2.dj.1,E.cons.2.dj.2.cons.1,E.cons.2.dj.2.cons.2.cons.1,rfl, ?_⟩;·simp only[List.length_cons,List.length_append,List.length_nil];lia
·simp only[List.length_cons,List.length_append,List.length_nil];show Eq.symm<|by lia|bZ F H L=>rw[show bz (W+1) (.bZ F H L) X=.gI::(bz W H (X+1)++[.bZ F L])from rfl]at M⊢;obtain⟨g,J⟩:=M.cons;obtain E:=J.dj.2;show kP _ g (S H (by show fJ O) _ J.dj.1) E.cons.1<|by simp;show i7 (i9<|yc iW _)<|cB<|bP gM
|bF H I=>show aaM (bz W) (jy W) _ (λG V=>S G<|by
rcases zw _ [] G V with w|w|⟨K,rfl⟩;·simp at w
·have:=Cf w;show fJ<|aq this O
·show fx) X M|bU H I=>show aaN (bz W) (jy W) _ (tD _) (λG V=>S G<|by have:=Cg V;show fJ<|aq this O) X M|bc K=>show .inl ⟨M.cons.1,rfl⟩|_=>show⟨M.cons.1,rfl⟩
noncomputable def aU.bW(O:Nat)(N:Nat->Nat)(S:aU):Nat:=S.casesOn (λ_=>O) O O (λ_=>O) N O (λ_ _=>O) O (λ_=>O) (λ_=>O) O O O O
def nM(R:List aU)(W:Nat):Nat->Nat:=Nat.rec (motive:=λ_=>Nat->Nat) (λO=>O) (λ_ g O=>(R[O]?).elim O λS=>S.bW O g) W
theorem Nc{R:List aU}:Mine.Internal.P.nM R (e+1) a=(R[a]?).elim a λS=>S.bW a<|Mine.Internal.P.nM R e:=rfl
def mP(R:List aU):aU->aU|.dg O=>.dg<|nM R (R.length+1) O|.split O=>.split<|nM R (R.length+1) O|S=>S
def qx(R:List aU):List aU:=R.map<|mP R
def l8(R:List aU)(I S g:Nat):Prop:=∀G U,I<=G->G<S->R[G]?=some (.dg U)->U<=g/\(G<U\/∃O,R[U]?=some (.split O))
theorem nN{R:List aU}{W:Nat->Nat->Prop}:∀(M:aj){X Y:Nat},j7 R W M X Y->X<=Y:=by intro M;induction M with|bc K=>intro X Y w;rcases w with⟨_,rfl⟩|⟨_,rfl⟩<;>lia|de H S=>rintro X Y ⟨N,G,U,P,_,_,_,_,_,w,_,_,_,E⟩;have:=S w;show aq (gU<|aq bD this)<|bP E.symm|bZ F H L S=>rintro X Y ⟨N,_,w,_,E⟩;have:=S w;show ie<|aq (jb this)<|bP E.symm|bF H I g J=>rintro X Y ⟨N,w,O⟩;have:=g w;have:=J O;show aq ‹_› this|bU H I g J=>rintro X Y ⟨N,G,U,_,_,w,_,_,O⟩;have:=g w;have:=J O;show ie<|aq ‹_›<|ie this|_=>intro X Y w;have:=w.2;lia
def rS{R:List aU}{S:aU}(w:R[a]?=some S)(E:S.rJ=false):l8 R a (a+1) e:=by intro G U H W g;have:G=a:=i7 (i9 W) H;subst this;rw[w]at g;obtain rfl:=bO g;show Bool.noConfusion E
def GO{R:List aU}(w:R[a]?=some (.dg e))(E:e<=r)(I:a<e\/∃O,R[e]?=some (.split O)):l8 R a (a+1) r:=by intro G Y H W g;have:G=a:=i7 (i9 W) H;subst this;replace g:=w▸g;cases g;show⟨E,I⟩
def oC{R:List aU}(N:Nat)(w:l8 R e N a)(O:l8 R N r a):l8 R e r a:=by
 intro G U H W g;rcases sy G<|N with V|V;·show w G U H V g
 ·show O G U V W g
def l8.iQ{R:List aU}{F:Nat}(w:l8 R a e r)(E:r<=F):l8 R a e F:=by intro G U H W g;have:=w G U H W g;show⟨aq this.1 E,this.2⟩
theorem aaP{R:List aU}:∀(Z:aj){X Y:Nat},j7 R rR Z X Y->l8 R X Y Y:=by intro Z;induction Z with
| bc K => intro X Y w;rcases w with⟨w,rfl⟩|⟨_,rfl⟩;· show rS w rfl
          · intro G U P W;omega|de H S=>rintro X Y ⟨N,G,U,b,P,W,Q,a,c,d,e,T,h,E⟩;have V:U=Y:=a;have M:b=X:=h;subst E V M;show oC (b+1) (rS P rfl)<|oC (b+2) (GO Q aH<|.inl<|pO _<|mz<|ie<|nN _ d)<|oC (b+3) (rS c rfl)<|oC N ((S d).iQ bD)<|oC (N+1) (rS e rfl)<|GO T (gU<|aq bD<|nN _ d)<|.inr ⟨_,P⟩|bZ F H L S=>rintro X Y ⟨N,P,W,Q,E⟩;subst E;show oC (X+1) (rS P rfl)<|oC N ((S W).iQ bD)<|rS Q rfl|bF H I g J=>rintro X Y ⟨N,w,O⟩;show oC N ((g w).iQ<|nN _ O)<|J O|bU H I g J=>rintro X Y ⟨N,G,U,P,W,Q,a,c,d⟩;have f:=nN _ d;have E:U=Y:=c;subst E;show oC (X+1) (rS P rfl)<|oC N ((g Q).iQ<|ie f)<|oC (N+1) (GO a aH<|.inl<|by assumption)<|J d|_=>intro X Y w;obtain⟨w,rfl⟩:=w;show rS w rfl
def tJ(R:List aU)(N:Nat):Nat->Nat->Prop:=Nat.rec (motive:=λ_=>Nat->Nat->Prop) (λO Y=>O=Y/\∃S,R[O]?=some S/\S.rJ=false) (λ_ g O Y=>∃w,R[O]?=some (.dg w)/\g w Y) N
theorem tJ.nM{R:List aU}:∀{N O:Nat},tJ R N O a->∀W,N<=W->nM R W O=a:=by intro N;induction N with
|zero=>intro O w W _;obtain⟨rfl,S,L,F⟩:=w;cases W with|zero=>rfl|succ W=>rw[Nc,L];cases S<;>first|rfl|show Bool.noConfusion F
|succ N g=>intro O w W E;obtain⟨U,L,w⟩:=w;cases W with|zero=>lia|succ W=>rw[Nc,L];show g w W<|fJ E
def tJ.at{R:List aU}:∀{N O:Nat},tJ R N O a->qp (λS=>R[a]?=some S) λS=>S.rJ=false:=by intro N;induction N with|zero=>intro O w;obtain⟨rfl,S,H,W⟩:=w;show⟨S,H,W⟩|succ N g=>show λw=>w.elim λ_ w=>g w.2
theorem Nd{R:List aU}(K:l8 R 0 R.length<|R.length-1)(M:0<R.length):∀O w,R.length-w<=O->w<R.length->Gq (λN Y=>N<=O+1) λN Y=>tJ R N w Y:=by intro O;induction O with|zero=>intro w H W;lia|succ O g=>
intro w H W;obtain⟨S,L⟩:∃S,R[w]?=some S:=⟨R[w],tZ W⟩;by_cases J:S.rJ=true
·induction S with|dg U=>
obtain⟨F,E⟩:=K w U fx W L;rcases E with E|⟨G,E⟩;·obtain⟨N,Y,I,P⟩:=g U (i9<|eI (Nat.sub_lt_sub_left W E) H)<|jB F<|Nat.pred_lt<|d7 M;show⟨N+1,Y,cB I,_,L,P⟩
·show⟨1,U,aR,_,L,rfl,_,E,rfl⟩|_=>show Bool.noConfusion J
·show⟨0,w,fx,rfl,S,L,by simpa using J⟩
theorem mQ{R:List aU}{S:aU}(w:R[a]?=some S):(qx R)[a]?=some (mP R S):=by unfold qx;rw[List.getElem?_map,w];rfl
theorem aaQ(R:List aU)(S:aU):(mP R S).rJ=S.rJ:=by induction S<;>rfl
def zG{R:List aU}(U:l8 R 0 R.length<|R.length-1)(F:a<R.length):qr (qx R) a<|nM R (R.length+1) a:=by
 obtain⟨N,Y,g,E⟩:=Nd U (jB fx F) _ a aH F;rw[E.nM (R.length+1)<|Nat.le_trans g<|Nat.succ_le_succ kn];obtain⟨S,L,O⟩:=E.at;show cO _ (mQ L) ((aaQ _ _).trans O) ?_;rcases N with _|N;·show .inl E.1
 ·show aB E λw H W=> ?_;show .inr ?_;rw[mQ H];change some (aU.dg _)=_;rw[tJ.nM W (R.length+1)<|Nat.le_of_succ_le<|Nat.le_trans g<|Nat.succ_le_succ kn]
def aaR{c:List aU}(f:l8 c 0 c.length<|c.length-1):∀(Z:aj){X Y:Nat},Y<c.length->j7 c rR Z X Y->j7 (qx c) (qr<|qx c) Z X Y:=by intro Z;induction Z with
| bc K => intro X Y e w;rcases w with⟨w,rfl⟩|w;· show .inl ⟨mQ w,rfl⟩
          · show .inr w|de H S=>rintro X Y e ⟨N,G,U,b,P,W,Q,a,d,h,i,T,k,E⟩;have R:G=X+2:=W;have V:U=Y:=a;have M:b=X:=k;subst R V M;show⟨N,_,_,_,mQ P,zG f<|yb (mz<|aq (nN _ h)<|aq bD<|bP E.symm) e,mQ Q,zG f e,mQ d,S (yb (mz<|ie<|bP E.symm) e) h,mQ i,mQ T,zG f<|yb (eI (m6<|xY.mpr<|pO _<|eI (by simp+arith)<|nN _ h)<|bP E.symm) e,E⟩|bZ F H L S=>rintro X Y e ⟨N,P,W,Q,E⟩;show kP N (mQ P) (S (yb (mz<|bP E.symm) e) W) (mQ Q) E|bF H I g J=>rintro X Y e ⟨N,w,O⟩;show aX N (g (by have:=nN _ O;show jB this e) w)<|J e O|bU H I g J=>rintro X Y e ⟨N,G,U,P,W,Q,a,d,h⟩;have R:G=N+1:=W;have j:U=Y:=d;subst R j;show Eh N _ _ (mQ P) (zG f<|jB (nN _ h) e) (g (yb (mz<|nN _ h) e) Q) (mQ a) (zG f e)<|J e h|_=>intro X Y e w;show⟨mQ w.1,w.2⟩
def lE(w:aj):List aU:=bz 9 w 0++[.done]
def dB(w:aj):List aU:=qx<|lE w
def aaS(w:aj):mO (lE w) 0<|bz 9 w 0:=by intro N g;unfold lE;rw[Nat.zero_add];show sm g
def GP{w:aj}(O:w.c8<=9):j7 (lE w) rR (jy 9 w) 0 (bz 9 w 0).length:=by have:=aaO 9 w O 0<|aaS w;rwa[I8]at this
def Co(w:aj):(lE w).length=(bz 9 w 0).length+1:=by simp[lE]
def GQ(w:aj):(lE w)[(bz 9 w 0).length]?=some .done:=by unfold lE;simp
def Nf{g:aj}(O:g.c8<=9):l8 (lE g) 0 (lE g).length<|(lE g).length-1:=by obtain w:=aaP _<|GP O;rw[Co];show oC _ w<|rS (GQ g) rfl
def Ng{w:aj}(O:w.c8<=9):j7 (dB w) (qr<|dB w) (jy 9 w) 0 (bz 9 w 0).length:=aaR (Nf O) _ (by rw[Co];show iW)<|GP O
def GR(w:aj):(dB w)[(bz 9 w 0).length]?=some .done:=mQ<|GQ w
theorem Nh(U:Str):dB (.bc U)=[.cW<|.bc U,.done]:=rfl
def aaT(F:List aj):(∀G∈F,eX G=true)->eX (zt F)=true:=Gx (P:=λF Y=>(∀G∈F,eX G=true)->eX Y=true) (λ_=>rfl) (λG w=>w G cY) (λG U L Y S w=>by simp only[mM,Bool.and_eq_true];show⟨w G cY,S λg Z=>w g<|dI Z⟩) F
def aaU(F:List aj):(∀G∈F,eX G=true)->eX (l0 F)=true:=Gx (P:=λF Y=>(∀G∈F,eX G=true)->eX Y=true) (λ_=>rfl) (λG w=>w G cY) (λG U L Y S w=>by rw[pv,Bool.and_eq_true];show⟨w G cY,S λg Z=>w g<|dI Z⟩) F
def aaV{E:aj}(w:eX E=true):∀G∈fN E,eX G=true:=by
 induction E with|bF H I g J=>
  intro G V;simp only[mM,Bool.and_eq_true]at w;rw[tw,List.mem_append]at V;rcases V with V|V;·show g w.1 G V
  ·show J w.2 G V|_=>intro G V;rw[List.mem_singleton.mp V];show w
def aaW{E:aj}(w:eX E=true):∀G∈gQ E,eX G=true:=by
 induction E with|bU H I g J=>
  intro G V;simp only[pv,Bool.and_eq_true]at w;rw[qt,List.mem_append]at V;rcases V with V|V;·show g w.1 G V
  ·show J w.2 G V|_=>intro G V;rw[List.mem_singleton.mp V];show w
def aaX:∀(W:Nat)(g:aj),eX g=true->eX (jy W g)=true:=by intro W;induction W with|zero=>intro g w;show w|succ W S=>intro g w;induction g with
|bF H I=>
show aaT _ λG V=> ?_;show aB (nU.mp V) ?_;rintro U E rfl;show S U ?_;rcases zw _ [] U E with Y|Y|⟨K,rfl⟩;·simp at Y
·show aaV w U Y
·rfl|bU H I=>show aaU _ λG V=> ?_;show aB (nU.mp V) ?_;rintro U E rfl;show S U<|aaW w U E|de H=>show S H w|bZ F H L=>show S H w|_=>show w
section
set_option tactic.hygienic true
def vo{X Y O F E}(w:gw X Y O F E):E<O:=w (λ_ O _ E=>E<O) ⟨λ_ _ _ _=>iW,λ_ _ _ _=>iW,λ_ _ _ _ _ _ S=>I2 S,λ_ _ _ _ _ _ _ _ S=>I2 S,λ_ _ _ _ _ _ _ _ W g _ _ _=>I2<|yb g W⟩
def Cp{X Y O L P}(w:gw X Y O L P):L.c8<=Y:=by
 show w (λY _ L _=>L.c8<=Y) ⟨λY O L E=> ?_,λ_ _ _ _=>fx,λ_ _ _ _ _ _ S=>cB S,λ_ _ _ _ _ _ _ _ S=>cB S,λY O H K I P M _ _ _ g J U=> ?_⟩;·rcases L with-|-<;>first|show fx|show nomatch show false=true from E
 ·have N:(aj.bF H I).c8<=Y+1:=by show cB<|Nat.max_le_of_le_of_le g J
  rcases U with rfl|rfl|rfl;·show xg (·.c8<=_) (λ_=>jb J) (λ_=>jb g) (λG F _ _=>fx) N
  ·show N
  ·show N
def Ni{Y O G L}(w:gw false Y O G L):eX G=true:=by
 show w (λ_ _ G _=>eX G=true) ⟨λY O G E=> ?_,λY O U K=> ?_,λ_ _ _ _ _ _ S=>S,λ_ _ _ _ _ _ _ _ S=>S,λY O H F I L M _ _ _ g J U=> ?_⟩;·induction G<;>first|rfl|show nomatch show false=true from E
 ·induction U using dM.casesOn<;>first|rfl|(have:=K rfl;show nomatch this)
 ·have N:eX (.bF H I)=true:=by simp only[mM,g,J,Bool.and_true]
  rcases U with rfl|rfl|rfl;·show xg (eX ·=true) (λ_=>J) (λ_=>g) (λ_ _ _ _=>rfl) N
  ·show N
  ·show N
def GS{X Y O F E}(w:gw X Y O F E):O+1<=E+2^(Y+1):=by
 obtain R:∀Y,2<=2^(Y+1):=λY=>by simp only[Nat.pow_succ];have:=Nat.one_le_two_pow (n:=Y);show j1<|iq this this<|by simp+arith
 obtain G:∀Y O E,O+1<=E+2^(Y+1)->O+1+1<=E+2^(Y+1+1):=λY O E S=>by have:=R Y;rw[Nat.pow_succ];show lJ<|iq S this<|by simp+arith
 show w (λY O _ E=>O+1<=E+2^(Y+1)) ⟨λY O _ _=>i8 (R Y) O,λY O _ _=>i8 (R Y) O,λ_ _ _ _ _ _ S=>G _ _ _ S,λ_ _ _ _ _ _ _ _ S=>G _ _ _ S,λY _ _ _ _ _ _ _ _ _ g J _=>by rw[Nat.pow_succ];show iq g J<|by simp+arith⟩
def rT(T:bA):Prop:=∀J H V,(T J H V).2.1.bx.length<=V.bx.length+(T J H V).2.2
section
variable{I:aS}{E G J:Nat}{H:bA->bA}
def oE{L:eg}(w:L.2.1.bx.length<=a+L.2.2):(bk e L).2.1.bx.length<=a+(bk e L).2.2:=by simp only[bk];show aq w<|i8 bD _
def GU{L:eg}{W:ay->eg}(w:L.2.1.bx.length<=a+L.2.2)(O:∀V,(W V).2.1.bx.length<=V.bx.length+(W V).2.2):(fk L W).2.1.bx.length<=a+(fk L W).2.2:=by
 obtain⟨S,K,M⟩:=L;induction S;case fail=>have:=O K;simp only[fk,bk]at*;show aq this<|d8 w<|by simp+arith
 all_goals show w
def Nj{S:ix}{T:Nat->eg}{V:ay}(w:∀J,(T J).2.1.bx.length<=V.bx.length+(T J).2.2):(i3 E S T V).2.1.bx.length<=V.bx.length+(i3 E S T V).2.2:=by induction S with|dq=>show bD|dG O=>show bD|«at» J=>show oE<|w J
def Nk(S:1<=G){L:bT}{T:ay->eg}(w:∀V,(T V).2.1.bx.length<=V.bx.length+(T V).2.2)(V:ay):(lz E G I L d T V).2.1.bx.length<=V.bx.length+(lz E G I L d T V).2.2:=by
 unfold lz;rcases Y:hZ I L d V with _|g;·show bD
 ·obtain rfl:=ME Y;have:=w {V.u0 L d with bx:=V.bx++[(L,d)]};simp only[bk];show aq this<|d8 S<|by simp+arith
def aaY{H:bA->bA}(g:∀T,rT T->rT (H T)){T:bA}(w:rT T):∀O,rT<|fq E H T O:=by intro O;induction O with|zero=>show λJ F V=>bD|succ O S=>
intro J F V;show oE<|GU (w J F V) λV=>g _ ?_ J F V;intro M G I;simp only;split;·show bD
·show oE<|S M G I
theorem Nl(f:1<=G):∀(b:aj),(eX b=true\/∀T,rT T->rT (H T))->∀(T:bA),rT T->rT (bI I E G J H b T):=by intro b;induction b with
|fz|bc|d5|gg=>intro _ T w P a V;show Nj λZ=>w Z a V|eG|fj=>intro _ T w P a V;show(by intro _ w _;intro F;induction F with|nil=>intro _;show bD|cons _ L W=>intro V;show oE (GU (w _ _ _)<|W):∀{T}(w:rT T){a},∀(F:List Nat)(V:ay),(eQ E T a F V).2.1.bx.length<=V.bx.length+(eQ E T a F V).2.2) w _ V|fA=>intro _ T w P a V;have:=w P a V;simp only[u9];generalize T P a V=L at this⊢;obtain⟨S,K,M⟩:=L;induction S<;>simp only[rF,bk]at*<;>lia|fail|fH=>intro _ T w P a V;show bD|iO L=>intro _ T w P a V;show Nk f (λV=>w P a V) V|fM U=>
intro g T w P a V;simp only[tj];rcases X:fY I V U with _|_|Q;·show bD
·have d:U=.P:=by induction U using dM.casesOn<;>simp[fY]at X;rfl
 show oE<|(g.resolve_left<|by subst d;intro Y;show Bool.noConfusion Y) _ (λP a V=>oE<|w P a V) P a V
·show oE<|Nj λZ=>oE<|w Z a V|de O W=>intro g T w P a V;show aaY (W g) w _ P a V|bZ F O L W=>
intro g T w P a V;show oE<|W g _ ?_ P a V;intro Z e c;rcases F with _|_;·show Nk f (λV=>w Z e V) c
·show oE<|w Z _ c|bF N R h i=>intro g T w P a V;show oE<|h (g.imp (λY=>by simp only[mM,Bool.and_eq_true]at Y;show Y.1) id) _ (i (g.imp (λY=>by simp only[mM,Bool.and_eq_true]at Y;show Y.2) id) _ w) P a V|bU N R h i=>intro g T w P a V;show oE<|GU (h (g.imp (λY=>by simp only[pv,Bool.and_eq_true]at Y;show Y.1) id) _ w P a V) λV=>i (g.imp (λY=>by simp only[mM,pv,Bool.and_eq_true]at Y;show Y.2) id) _ w P a V
end
noncomputable def vp(T:bA):bA:=T
def lF(E:aS)(R F G:Nat):bA->bA:=bI E R F G vp E.l
def Nm(E:aS):bA->bA:=bI E 1 0 0 vp<|jy 9 E.l
noncomputable def mR(M:Nat):bA:=λJ H V=>(.lV J H,V,M)
def GV{I:Prop}:∀T O,cU I T O->cU I (vp T) (vp O):=λ_ _ w=>w
def GW{I:Prop}{E:aS}{G J U:Nat}(F:I->a<=G)(H:I->e<=J)(g:I->r<=U):∀T O,cU I T O->cU I (lF E a e r T) (lF E G J U O):=λT O w=>zo F H g E.l (.inr GV) T O w
section
variable{E:aS}
theorem Nn{R F N Q J}(P:E.aJ<=4)(X:gw false 1 18 E.l Q)(K:gw true 3 22 J N)(L:∀H,J≠.de H):gh E R F (lF E R F R) J<|tI R F N:=by
 obtain M:(oB R F).gm<|xi R F:=by unfold xi;rw[bb.tF];show bb.oA _ _
 obtain O:=Na (H:=E) (E:=R) (G:=F) (I:=lF E R F R) P (GW (I:=True) (E:=E) (a:=R) (e:=F) (r:=R) (G:=R) (J:=F) (U:=R) (λ_=>aH) (λ_=>aH) λ_=>aH) M (λ_=>(by
 intro R F N P X;obtain I:=GS X;show(aay (G:=E) (E:=R) (H:=F) (I:=lF E R F R) P<|(Na (H:=E) (E:=R) (G:=F) (I:=vp) P (λ_ _ g=>g) (bb.aal<|oB R F) (λY=>by show Bool.noConfusion Y) X).1.iQ P<|(by
 intro _ _ N G W;unfold GL;rw[bb.tF];have:N=15\/N=16\/N=17:=by lia-abstractProof
 clear G;clear W;rcases this with rfl|rfl|rfl;·show bb.oA _ _
 ·show bb.rP (bb.oA _ _)<|bb.tG _ _
 ·show bb.rP (bb.tG _ _) (bb.tG _ _):∀(R F:Nat){N}(G:15<=N)(W:N<=17),(l7 R F (oB R F) 1 18 N).gm<|GL R F) R F (N:=N) (by lia-abstractProof)<|i9<|vo X).iQ P ?_;unfold xi;rw[bb.tF];show bb.tG _ _:∀{R F N}(P:E.aJ<=4)(X:gw false 1 18 E.l N),gh E R F (lF E R F R) (.fM .P)<|xi R F) (R:=R) (F:=F) P X) K;by_cases Y:N=21;·clear K;subst Y;show O.1
 ·unfold tI;rw[if_neg Y];show O.2 L λg=>Y<|vO g
def Np{X:Nat->Bool}(w:(List.range e).all X=true)(g:a<e):X a=true:=gB.mp w a<|su.mpr g
theorem aaZ(H:7<=a)(W:a<22)(K:e<=4):(tI 1 0 a).bw (λ_=>1) e<=1035665:=by
 have w:=Np aaJ (a:=a-7)<|I9 H W;simp only[bb.tF,show 7+(a-7)=a by omega]at w;simp only[Bool.and_eq_true,decide_eq_true_eq]at w;rcases aaq K with rfl|rfl|rfl|rfl|rfl;·show w.1.1.1.1
 ·show w.1.1.1.2
 ·show w.1.1.2
 ·show w.1.2
 ·show w.2
theorem aa0(H:7<=a)(W:a<22):Nb (tI 0 1 a) (λ_=>0)<=155355:=by obtain w:=Np aaK (a:=a-7)<|I9 H W;rw[bb.tF,show 7+(a-7)=a by omega]at w;simpa using w
end
end
section
set_option tactic.hygienic true
theorem jS(H:c)(g:ag)(W:c->af A):dv (some (.ai H,g)) W=W H g:=rfl
theorem afN(O:Int)(g:ag)(W:c->af A):dv (some (.cR O,g)) W=some (.cR O,g):=rfl
theorem afO(W:c->af A):dv Option.none W=Option.none:=rfl
theorem Nq{Y:Type}(L:Option<|aI c×ag)(W:c->af A)(T:A->af Y):dv (dv L W) T=dv L λH g=>dv (W H g) T:=by rcases L with-|⟨-|-,-⟩<;>rfl
def bM(T:c->af A)(L:Option<|aI c×ag):Option<|aI A×ag:=dv L T
def Nr:∃O:{X:Type}->X->X,∀{X:Type}(H:X),O H=H:=⟨λH=>H,λ_=>rfl⟩
def o8:c->c:=Nr.choose
theorem jz(H:c):o8 H=H:=Nr.choose_spec H
def pB(Z U:af c)(g:ag)(M:Bool):Option<|aI c×ag:=o8<|bif M then Z g else U g
def l9(T:c->af A)(L:Option<|aI c×ag):Option<|aI A×ag:=o8<|bM T L
theorem xj(T:c->af A)(L:Option<|aI c×ag):l9 T L=dv L T:=jz _
noncomputable def nO(T:c->af A)(g:ag)(S:Option c):Option<|aI A×ag:=match S with|some Q=>T Q g|Option.none=>Option.none
noncomputable def qy(T:aa->af c)(g:ag)(S:Option Bool):Option<|aI c×ag:=match S with|some Q=>T (.bool Q) g|Option.none=>Option.none
noncomputable def iE(M:ag->Bool->Option (aI c×ag))(G:aa):af c:=λg=>match G with|.bool I=>M g I|_=>Option.none
def Cq(P:bu)(g:aW)(U:au)(E:Nat)(O:List Nat)(F:ak)(K:aa):af aa:=af.aN (af.ll<|.list []) λw=>af.aN (kL<|uo (λQ=>af.aN (nk E (O.map λJ=>(F[J]?).join) Q) λR=>af.aN (cG P g U R) λG=>nY w G) K) λ_=>af.bg w
def Cr(P:bu)(g:aW)(U:au)(O:List Nat)(F:ak)(K:aa):af aa:=kJ K λN=>af.d4 (decide (0<=N)&&decide (N<=1000))<|af.aN (af.ll<|.list []) λw=>af.aN (kL<|kK (λQ=>af.aN (nk 1 (O.map λJ=>(F[J]?).join) Q) λR=>af.aN (cG P g U R) λG=>nY w G)<|jF N) λ_=>af.bg w
def gi(P:bu)(g:aW)(R:Nat)(U:au)(I:List bo)(O:Nat)(F:ak):af<|aV×ak:=wd (λF=>ur P g U F) (λF=>dw P g R I F) O F
def jT(P:bu)(g:aW)(R:Nat)(G:Nat)(I:List bo)(Y:List aa)(F:ak):af<|aV×ak:=uu G (λF=>dw P g R I F) Y F
def pC(P:bu)(g:aW)(R:Nat)(G:Nat)(I:List bo)(Y:Nat)(O J:Nat)(F:ak):af<|aV×ak:=yn G (λF=>dw P g R I F) Y O J F
def vq(P:bu)(g:aW)(R:Nat)(G:Nat)(I:List bo)(F:ak)(K:aa):af<|aV×ak:=match K with|.ref w=>pC P g R G I w R 0 F|_=>af.aN (af.dZ<|lL K) λY=>jT P g R G I Y F
def zH(P:bu)(g:aW)(R:Nat)(G:Nat)(I:List bo)(F:ak)(K:aa):af<|aV×ak:=kJ K λN=>af.d4 (decide (0<=N)&&decide (N<=1000))<|jT P g R G I (jF N) F
def Cs(P:bu)(g:aW)(G:Str)(E:au)(F:ak)(O:Int):af<|aV×ak:=af.aN (cG P g E F) λQ=>af.bg (.ret<|.tup [.str G,.int O,Q],F)
section
variable(P:bu)(G:aW){E:Type}
abbrev pD(E:Type):=ak->(aa->af E)->af E
def rU(G:List<|pD E):ak->(List aa->af E)->af E:=List.rec (motive:=λ_=>ak->(List aa->af E)->af E) (λ_ T=>T []) (λM _ S F T=>M F λQ=>S F λY=>T<|Q::Y) G
def Nt(G:List<|pD E)(F:ak)(T:aa->af E):af E:=List.rec (motive:=λ_=>af E) af.fail (λM L S=>List.casesOn (motive:=λ_=>af E) L (M F T) λ_ _=>M F<|iE λg I=>pB S (T<|.bool false) g I) G
def Nu(G:List<|pD E)(F:ak)(T:aa->af E):af E:=List.rec (motive:=λ_=>af E) af.fail (λM L S=>List.casesOn (motive:=λ_=>af E) L (M F T) λ_ _=>M F<|iE λg I=>pB (T<|.bool true) S g I) G
def Ct(Q:au):pD E×List (pD E):=au.rec (motive_1:=λ_=>pD E×List (pD E)) (motive_2:=λ_=>List<|pD E) (λ_ T=>T .none,[]) (λI=>(λ_ T=>T<|.bool I,[])) (λJ=>(λ_ T=>T<|.int J,[])) (λK=>(λ_ T=>T<|.str K,[])) (λJ=>(λF T g=>bM T<|oY F J g,[])) (λV=>(λ_ T g=>nO T g P.p[V]?,[])) (λ_ w=>(λF T=>rU w F λY=>T<|.tup Y,w)) (λ_ w=>(λF T=>rU w F λY g=>T (.ref g.length)<|g++[.list Y],[])) (λb _ w=>(λF T=>rU w F λY g=>T (.ref g.length)<|g++[.dict<|b.zip Y],[])) (λZ _ _ H I=>(λF T=>H.1 F λR=>I.1 F λS g=>nO T g<|f9 Z R S,[])) (λ_ H=>(λF T=>H.1 F λR g=>bM T<|kJ R (λJ=>af.bg<|.int<|-J) g,[])) (λ_ H=>(λF T=>H.1 F<|iE λg I=>T (.bool<|!I) g,[])) (λZ _ _ H I=>(λF T=>H.1 F λR=>I.1 F λS g=>qy T g<|dK Z R S g,[])) (λd c _ _ _ H I M=>(λF T=>H.1 F λR=>I.1 F λS g=>qy (iE λg U=>pB (M.1 F λX g=>qy T g<|dK c S X g) (T<|.bool false) g U) g<|dK d R S g,[])) (λ_ H=>(λF T=>H.1 F λR=>T<|.bool<|iH R,[])) (λ_ H=>(λF T=>H.1 F λR=>T<|.bool<|!iH R,[])) (λ_ w=>(Nt w,[])) (λ_ w=>(Nu w,[])) (λ_ _ _ U H I=>(λF T=>U.1 F<|iE λg M=>pB (H.1 F T) (I.1 F T) g M,[])) (λ_ W Q=>(λF T=>Q.1 F λR g=>bM T<|pR R W g,[])) (λ_ _ Q J=>(λF T=>Q.1 F λR=>J.1 F λS g=>bM T<|jE R S g,[])) (λ_ _ Q H=>(λF T=>Q.1 F λR=>H.1 F λS g=>bM T<|km R (some S) Option.none g,[])) (λ_ _ Q H=>(λF T=>Q.1 F λR=>H.1 F λS g=>bM T<|km R Option.none (some S) g,[])) (λ_ _ _ Q H I=>(λF T=>Q.1 F λR=>H.1 F λS=>I.1 F λX g=>bM T<|km R (some S) (some X) g,[])) (λ_ Q=>(λF T=>Q.1 F λR g=>bM T<|vZ R g,[])) (λW _ w=>(λF T=>rU w F λY g=>l9 T<|G W Y g,[])) (λM _ w=>(λF T=>rU w F λY g=>l9 T<|lu P G M Y g,[])) (λ_ N _ Q w=>(λF T=>Q.1 F λR g=>bM (λW=>rU w F λY g=>l9 T<|G W (R::Y) g)<|wb P R N g,[])) (λI _ w=>(λF T=>rU w F λY g=>bM T<|dO I Y g,[])) (λI _ _ Q w=>(λF T=>Q.1 F λR g=>bM (λ_=>rU w F λY g=>bM T<|dO I (R::Y) g)<|mD I R g,[])) (λe f a _ _ K=>(λF T=>K.1 F λK g=>bM T<|Cq P G e f a F K g,[])) (λe a _ _ O=>(λF T=>O.1 F λK g=>bM T<|Cr P G e a F K g,[])) [] (λ_ _ Q L=>Q.1::L) Q
def bq(g:au):pD E:=(Ct P G g).1
def mh(U:List au):ak->(List aa->af E)->af E:=rU (Ct P G<|.tup U).2
def vr(U:List au):pD E:=Nt (Ct P G<|.tup U).2
def vt(U:List au):pD E:=Nu (Ct P G<|.tup U).2
abbrev vu(E:Type):=aa->ak->(ak->af E)->af E
def Nv(G:List<|vu E):List aa->ak->(ak->af E)->af E:=List.rec (motive:=λ_=>List aa->ak->(ak->af E)->af E) (λ_ F T=>T F) (λM _ S Y F T=>List.casesOn (motive:=λ_=>af E) Y af.fail λQ Y=>M Q F λR=>S Y R T) G
def Nw(U:ft):vu E×List (vu E):=ft.rec (motive_1:=λ_=>vu E×List (vu E)) (motive_2:=λ_=>List<|vu E) (λJ=>(λQ F T=>T<|F.set J<|some Q,[])) (λH W=>(λQ F T=>bq P G H F λI g=>bM (λ_=>T F)<|nW I W Q g,[])) (λH J=>(λQ F T=>bq P G H F λI=>bq P G J F λK g=>bM (λ_=>T F)<|sD I K Q g,[])) (λV w=>(λQ F T=>match Q with|.tup Y=>af.d4 (Y.length==V.length)<|Nv w Y F T|_=>af.fail,w)) [] (λ_ _ U L=>U.1::L) U
def rV(U:ft):vu E:=(Nw P G U).1
def xk(V:List ft):List aa->ak->(ak->af E)->af E:=Nv (Nw P G<|.tup V).2
abbrev mH(E:Type):=ak->(aV×ak->af E)->af E
def GX(G:List<|mH E):mH E:=List.rec (motive:=λ_=>mH E) (λF T=>T (.aK,F)) (λM _ S F T=>M F λY=>match Y.1with|.aK=>S Y.2 T|.brk=>T (.brk,Y.2)|.cont=>T (.cont,Y.2)|.ret Q=>T (.ret Q,Y.2)) G
def Nx(R:Nat)(K:bo):mH E×List (mH E):=bo.rec (motive_1:=λ_=>mH E×List (mH E)) (motive_2:=λ_=>List<|mH E) (λN=>(λF T=>bq P G N F λ_=>T (.aK,F),[])) (λN=>(λF T=>bq P G N F λQ=>T (.ret Q,F),[])) (λU N=>(λF T=>bq P G N F λQ=>rV P G U Q F λb=>T (.aK,b),[])) (λJ Z N=>(λF T g=>bM (λV=>bq P G N F λX g=>nO (λQ=>T (.aK,F.set J<|some Q)) g<|lK Z V X)<|oY F J g,[])) (λN W Z Y=>(λF T=>bq P G N F λS g=>bM (λV=>bq P G Y F λX g=>nO (λQ g=>bM (λ_=>T (.aK,F))<|nW S W Q g) g<|lK Z V X)<|pR S W g,[])) (λU _ _ H I=>(λF T=>bq P G U F<|iE λg M=>pB (GX H F T) (GX I F T) g M,[])) (λU I w=>(λF T g=>bM T<|gi P G R U I R F g,w)) (λV a I _=>(λF T=>bq P G a F λK g=>bM T<|vq P G R V I F K g,[])) (λV O I _=>(λF T=>bq P G O F λK g=>bM T<|zH P G R V I F K g,[])) (λO N=>(λF _=>bq P G N F λ_=>af.raise O,[])) (λI V N _=>(λF T g=>bM T<|pT (dw P G R I F) (Cs P G V N F) g,[])) (λF T=>T (.brk,F),[]) (λF T=>T (.cont,F),[]) [] (λ_ _ K L=>K.1::L) K
def iR(R:Nat)(K:bo):mH E:=(Nx P G R K).1
def dX(R:Nat)(X:List bo):mH E:=GX (Nx P G R<|.z .none X).2
end
def GY(G:aa):af aa:=kJ G λJ=>af.bg<|.int<|-J
noncomputable def GZ(T:aa->af c)(Y:List aa):af c:=T<|.tup Y
noncomputable def G0(T:aa->af c)(Y:List aa):af c:=λg=>T (.ref g.length)<|g++[.list Y]
noncomputable def G2(U:List Str)(T:aa->af c)(Y:List aa):af c:=λg=>T (.ref g.length)<|g++[.dict<|U.zip Y]
def Cu(J:fg)(G:aa)(T:aa->af c)(U:aa):af c:=λg=>nO T g<|f9 J G U
def G3(P:bu)(g:aW)(J:fg)(I:au)(F:ak)(T:aa->af c)(G:aa):af c:=bq P g I F<|Cu J G T
def G4(T:aa->af c)(G:aa):af c:=λg=>bM T<|GY G g
noncomputable def yH(T:aa->af c)(g:ag)(I:Bool):Option<|aI c×ag:=T (.bool<|!I) g
def tK(J:fF)(G:aa)(T:aa->af c)(U:aa):af c:=λg=>qy T g<|dK J G U g
def G5(P:bu)(g:aW)(J:fF)(I:au)(F:ak)(T:aa->af c)(G:aa):af c:=bq P g I F<|tK J G T
def xl(P:bu)(w:aW)(I:fF)(M:au)(F:ak)(E:aa)(T:aa->af c)(g:ag)(U:Bool):Option<|aI c×ag:=pB (bq P w M F<|tK I E T) (T<|.bool false) g U
def Cv(P:bu)(w:aW)(N:fF)(I:fF)(M:au)(F:ak)(G:aa)(T:aa->af c)(U:aa):af c:=λg=>qy (iE<|xl P w I M F U T) g<|dK N G U g
def G6(P:bu)(g:aW)(N:fF)(w:fF)(I:au)(M:au)(F:ak)(T:aa->af c)(G:aa):af c:=bq P g I F<|Cv P g N w M F G T
def G7(T:aa->af c)(G:aa):af c:=T<|.bool<|iH G
def G8(T:aa->af c)(G:aa):af c:=T<|.bool<|!iH G
def zI(P:bu)(w:aW)(L:List au)(F:ak)(T:aa->af c)(g:ag)(I:Bool):Option<|aI c×ag:=pB (vr P w L F T) (T<|.bool false) g I
def zJ(P:bu)(w:aW)(L:List au)(F:ak)(T:aa->af c)(g:ag)(I:Bool):Option<|aI c×ag:=pB (T<|.bool true) (vt P w L F T) g I
def zK(P:bu)(w:aW)(H:au)(I:au)(F:ak)(T:aa->af c)(g:ag)(M:Bool):Option<|aI c×ag:=pB (bq P w H F T) (bq P w I F T) g M
def G9(W:Nat)(T:aa->af c)(G:aa):af c:=λg=>bM T<|pR G W g
def Cw(G:aa)(T:aa->af c)(U:aa):af c:=λg=>bM T<|jE G U g
def Ha(P:bu)(g:aW)(J:au)(F:ak)(T:aa->af c)(G:aa):af c:=bq P g J F<|Cw G T
def Cx(G:aa)(T:aa->af c)(U:aa):af c:=λg=>bM T<|km G (some U) Option.none g
def Hb(P:bu)(g:aW)(H:au)(F:ak)(T:aa->af c)(G:aa):af c:=bq P g H F<|Cx G T
def Cy(G:aa)(T:aa->af c)(U:aa):af c:=λg=>bM T<|km G Option.none (some U) g
def Hc(P:bu)(g:aW)(H:au)(F:ak)(T:aa->af c)(G:aa):af c:=bq P g H F<|Cy G T
def Cz(G:aa)(U:aa)(T:aa->af c)(Y:aa):af c:=λg=>bM T<|km G (some U) (some Y) g
def CA(P:bu)(g:aW)(I:au)(F:ak)(G:aa)(T:aa->af c)(U:aa):af c:=bq P g I F<|Cz G U T
def Hd(P:bu)(g:aW)(H:au)(I:au)(F:ak)(T:aa->af c)(G:aa):af c:=bq P g H F<|CA P g I F G T
def He(T:aa->af c)(G:aa):af c:=λg=>bM T<|vZ G g
def Hf(F:aW)(W:Nat)(T:aa->af c)(Y:List aa):af c:=λg=>l9 T<|F W Y g
def Hg(P:bu)(F:aW)(M:Nat)(T:aa->af c)(Y:List aa):af c:=λg=>l9 T<|lu P F M Y g
def CB(F:aW)(G:aa)(W:Nat)(T:aa->af c)(Y:List aa):af c:=λg=>l9 T<|F W (G::Y) g
def Hh(P:bu)(g:aW)(U:List au)(F:ak)(G:aa)(T:aa->af c)(W:Nat):af c:=mh P g U F<|CB g G W T
def Hi(P:bu)(w:aW)(N:Nat)(U:List au)(F:ak)(T:aa->af c)(G:aa):af c:=λg=>bM (Hh P w U F G T)<|wb P G N g
def Hj(I:eE)(T:aa->af c)(Y:List aa):af c:=λg=>bM T<|dO I Y g
def CC(I:eE)(G:aa)(T:aa->af c)(Y:List aa):af c:=λg=>bM T<|dO I (G::Y) g
def Hk(P:bu)(g:aW)(I:eE)(U:List au)(F:ak)(G:aa)(T:aa->af c)(K:Unit):af c:=mh P g U F<|CC I G T
def Hl(P:bu)(w:aW)(I:eE)(U:List au)(F:ak)(T:aa->af c)(G:aa):af c:=λg=>bM (Hk P w I U F G T)<|mD I G g
def Hm(P:bu)(w:aW)(U:au)(E:Nat)(O:List Nat)(F:ak)(T:aa->af c)(K:aa):af c:=λg=>bM T<|Cq P w U E O F K g
def Hn(P:bu)(w:aW)(U:au)(O:List Nat)(F:ak)(T:aa->af c)(K:aa):af c:=λg=>bM T<|Cr P w U O F K g
noncomputable def CD(Q:aa)(T:List aa->af c)(Y:List aa):af c:=T<|Q::Y
def Ho(P:bu)(g:aW)(L:List au)(F:ak)(T:List aa->af c)(Q:aa):af c:=mh P g L F<|CD Q T
noncomputable def zL(F:ak)(T:ak->af c)(K:Unit):af c:=T F
def Hp(W:Nat)(Q:aa)(F:ak)(T:ak->af c)(G:aa):af c:=λg=>bM (zL F T)<|nW G W Q g
def CE(Q:aa)(F:ak)(G:aa)(T:ak->af c)(U:aa):af c:=λg=>bM (zL F T)<|sD G U Q g
def Hq(P:bu)(g:aW)(J:au)(Q:aa)(F:ak)(T:ak->af c)(G:aa):af c:=bq P g J F<|CE Q F G T
def Hr(P:bu)(g:aW)(V:List ft)(Y:List aa)(T:ak->af c)(F:ak):af c:=xk P g V Y F T
noncomputable def Hs(F:ak)(T:aV×ak->af c)(K:aa):af c:=T (.aK,F)
noncomputable def Ht(F:ak)(T:aV×ak->af c)(Q:aa):af c:=T (.ret Q,F)
noncomputable def CF(T:aV×ak->af c)(F:ak):af c:=T (.aK,F)
def zM(P:bu)(g:aW)(U:ft)(F:ak)(T:aV×ak->af c)(Q:aa):af c:=rV P g U Q F<|CF T
noncomputable def CG(J:Nat)(F:ak)(T:aV×ak->af c)(Q:aa):af c:=T (.aK,F.set J<|some Q)
def CH(w:fg)(J:Nat)(F:ak)(T:aV×ak->af c)(G:aa)(U:aa):af c:=λg=>nO (CG J F T) g<|lK w G U
def Hu(P:bu)(g:aW)(w:fg)(E:au)(J:Nat)(F:ak)(T:aV×ak->af c)(G:aa):af c:=bq P g E F<|CH w J F T G
noncomputable def Hv(F:ak)(T:aV×ak->af c)(K:Unit):af c:=T (.aK,F)
def CI(W:Nat)(F:ak)(T:aV×ak->af c)(S:aa)(Q:aa):af c:=λg=>bM (Hv F T)<|nW S W Q g
def CJ(W:Nat)(J:fg)(F:ak)(T:aV×ak->af c)(S:aa)(G:aa)(U:aa):af c:=λg=>nO (CI W F T S) g<|lK J G U
def Hw(P:bu)(g:aW)(W:Nat)(J:fg)(R:au)(F:ak)(T:aV×ak->af c)(S:aa)(G:aa):af c:=bq P g R F<|CJ W J F T S G
def Hx(P:bu)(w:aW)(W:Nat)(J:fg)(R:au)(F:ak)(T:aV×ak->af c)(S:aa):af c:=λg=>bM (Hw P w W J R F T S)<|pR S W g
def zN(P:bu)(w:aW)(R:Nat)(H:List bo)(I:List bo)(F:ak)(T:aV×ak->af c)(g:ag)(M:Bool):Option<|aI c×ag:=pB (dX P w R H F T) (dX P w R I F T) g M
def Hy(P:bu)(w:aW)(R:Nat)(G:Nat)(I:List bo)(F:ak)(T:aV×ak->af c)(K:aa):af c:=λg=>bM T<|vq P w R G I F K g
def Hz(P:bu)(w:aW)(R:Nat)(G:Nat)(I:List bo)(F:ak)(T:aV×ak->af c)(K:aa):af c:=λg=>bM T<|zH P w R G I F K g
def HA(O:Int)(_:aa):af c:=af.raise O
def iF(P:bu)(F:aW)(R:Nat)(L:List bo)(T:aV×ak->af c):aV×ak->af c:=λY=>match Y.1with|.aK=>dX P F R L Y.2 T|.brk=>T (.brk,Y.2)|.cont=>T (.cont,Y.2)|.ret Q=>T (.ret Q,Y.2)
section
variable{P:bu}{E:aW}{G:Type}
theorem afP(T:c->af G)(L:Option<|aI c×ag):bM T L=dv L T:=rfl
theorem CK(T:c->af G)(g:ag)(S:Option c):nO T g S=dv (af.dZ S g) T:=by induction S<;>rfl
theorem Ny(T:aa->af G)(g:ag)(S:Option Bool):qy T g S=dv (AS S g) T:=by induction S<;>rfl
theorem zO(M:ag->Bool->Option (aI G×ag))(w:aa)(g:ag):iE M w g=dv (lr w g) λI g=>M g I:=by rcases w with-|-<;>rfl
def xm(Z U:af G)(g:ag)(M:Bool):pB Z U g M=(bif M then Z else U) g:=(jz _).trans<|by induction M<;>rfl
def cD{Z:af G}{N:af c}{W:c->af A}{J:c->af G}{T:A->af G}(H:∀g,Z g=dv (N g) J)(E:∀w g,J w g=dv (W w g) T)(g:ag):Z g=dv (af.aN N W g) T:=(H g).trans<|(congrArg (dv<|N g)<|funext λw=>funext (E w)).trans (Nq _ _ _).symm
theorem mS(R:au):∀(F:ak)(T:aa->af G)(g:ag),bq P E R F T g=dv (cG P E R F g) T:=by induction R using au.rec (motive_2:=λc=>(∀(F:ak)(T:List aa->af G)(g:ag),mh P E c F T g=dv (kN P E c F g) T)/\(∀(F:ak)(T:aa->af G)(g:ag),vr P E c F T g=dv (yl P E c F g) T)/\∀(F:ak)(T:aa->af G)(g:ag),vt P E c F T g=dv (ym P E c F g) T)with
|none|bool|int|str|ae=>intros;rfl|bE=>intros;show CK _ _ _|tup c w=>show λF T=>cD (w.1 F<|GZ T) λ_ _=>rfl|list c w=>show λF T=>cD (w.1 F<|G0 T) λ_ _=>rfl|dict j c w=>show λF T=>cD (w.1 F<|G2 j T) λ_ _=>rfl|g W c w=>show λF T=>cD (w.1 F<|Hj W T) λ_ _=>rfl|call W c w=>show λF T=>cD (w.1 F<|Hf E W T) λ_ _=>xj _ _|mk W c w=>show λF T=>cD (w.1 F<|Hg P E W T) λ_ _=>xj _ _|bin J H I e b=>show λF T=>cD (e F<|G3 P E J I F T) λV=>cD (b F<|Cu J V T) λa g=>CK _ _ _|d J H I e b=>show λF T=>cD (e F<|G5 P E J I F T) λV=>cD (b F<|tK J V T) λa g=>Ny _ _ _|vX H e=>show λF T=>cD (e F<|G4 T) λV g=>rfl|r H e=>show λF T=>cD (e F<|G7 T) λV g=>rfl|o H e=>show λF T=>cD (e F<|G8 T) λV g=>rfl|attr H W e=>show λF T=>cD (e F<|G9 W T) λV g=>rfl|ud H e=>show λF T=>cD (e F<|He T) λV g=>rfl|iU R O M H _ e=>show λF T=>cD (e F<|Hm P E R O M F T) λV g=>rfl|ue R M H _ e=>show λF T=>cD (e F<|Hn P E R M F T) λV g=>rfl|c H I e b=>show λF T=>cD (e F<|Ha P E I F T) λV=>cD (b F<|Cw V T) λa g=>rfl|yd H I e b=>show λF T=>cD (e F<|Hb P E I F T) λV=>cD (b F<|Cx V T) λa g=>rfl|S H I e b=>show λF T=>cD (e F<|Hc P E I F T) λV=>cD (b F<|Cy V T) λa g=>rfl|sA H I M e b h=>show λF T=>cD (e F<|Hd P E I M F T) λV=>cD (b F<|CA P E M F V T) λa=>cD (h F<|Cz V a T) λf g=>rfl|not H e=>show λF T=>cD (e F<|iE<|yH T) λV=>cD (zO _ V) λI g=>rfl|b U H I i e b=>show λF T=>cD (i F<|iE<|zK P E H I F T) λV=>cD (zO _ V) λM g=>(xm _ _ g M).trans (match M with|true=>e F T g|false=>b F T g)|uc l k H I M e b h=>
show λF T=>cD (e F<|G6 P E l k I M F T) λV=>cD (b F<|Cv P E l k M F V T) λa g=> ?_;change qy (iE<|xl P E k M F a T) g (dK l V a g)=_;generalize dK l V a g=S;rcases S with-|-|-;·rfl
·show xm _ _ g _
·show(xm _ _ g _).trans<|cD (h F<|tK k a T) (λf g=>Ny _ _ _) g|h R N c d Z=>show λF T=>cD (d F<|Hi P E N c F T) λV=>cD (λg=>rfl) λW=>cD (Z.1 F<|CB E V W T) λY g=>xj _ _|i I R c d Z=>show λF T=>cD (d F<|Hl P E I c F T) λV=>cD (λg=>rfl) λW=>cD (Z.1 F<|CC I V T) λY g=>rfl|and c w=>show w.2.1|or c w=>show w.2.2|nil=>show⟨λ_ _ _=>rfl,λ_ _ _=>rfl,λ_ _ _=>rfl⟩|cons R L d K=>
show fS (λF T=>cD (d F<|Ho P E L F T) λQ=>cD (K.1 F<|CD Q T) λY g=>rfl) ?_ ?_
·rcases L with _|⟨X,L⟩;·show d
 ·show λF T=>cD (d F<|iE<|zI P E (X::L) F T) λV=>cD (zO _ V) λM g=>(xm _ _ g M).trans<|match M with|true=>K.2.1 F T g|false=>rfl
·rcases L with _|⟨X,L⟩;·show d
 ·show λF T=>cD (d F<|iE<|zJ P E (X::L) F T) λV=>cD (zO _ V) λM g=>(xm _ _ g M).trans<|match M with|true=>rfl|false=>K.2.2 F T g
theorem aa4(U:ft):∀(Q:aa)(F:ak)(T:ak->af G)(g:ag),rV P E U Q F T g=dv (nq P E U Q F g) T:=by induction U using ft.rec (motive_2:=λV=>∀(Y:List aa)(F:ak)(T:ak->af G)(g:ag),xk P E V Y F T g=dv (AU P E V Y F g) T)with
|ae=>intros;rfl|attr H W=>show λQ F T=>cD (mS _ _<|Hp W Q F T) λI=>cD (λ_=>rfl) λ_ _=>rfl|c H J=>show λQ F T=>cD (mS _ _<|Hq P E J Q F T) λI=>cD (mS _ _<|CE Q F I T) λL=>cD (λ_=>rfl) λ_ _=>rfl|tup V w=>
intro Q F T g
cases Q with|tup Y=>
change af.d4 (Y.length==V.length) _ g=dv (af.d4 (Y.length==V.length) _ g) T;induction Y.length==V.length;·rfl
·show w Y F T g|_=>rfl
|nil=>intros;rfl|cons U V M K=>
rename_i Y F T g;rcases Y with _|⟨Q,Y⟩;·rfl
·show cD (M Q F<|Hr P E V Y T) (λR=>K Y R T) g
def HC(w:au)(F:ak)(M:ag->Bool->Option (aI G×ag))(g:ag):bq P E w F (iE M) g=dv (ur P E w F g) λI g=>M g I:=(mS w F _ g).trans<|(congrArg (dv _)<|funext λH=>funext (zO M H)).trans (Nq _ _ _).symm
theorem kA(R:Nat)(K:bo):∀(F:ak)(T:aV×ak->af G)(g:ag),iR P E R K F T g=dv (jr P E R K F g) T:=by induction K using bo.rec (motive_2:=λX=>∀(F:ak)(T:aV×ak->af G)(g:ag),dX P E R X F T g=dv (dw P E R X F g) T)with|expr N=>show λF T=>cD (mS _ _<|Hs F T) λV _=>rfl|ret N=>show λF T=>cD (mS _ _<|Ht F T) λV _=>rfl|assign U N=>show λF T=>cD (mS _ _<|zM P E U F T) λV=>cD (aa4 _ _ _<|CF T) λV _=>rfl|L J e N=>show λF T=>cD (J:=Hu P E e N J F T) (λ_=>rfl) λV=>cD (mS _ _<|CH e J F T V) λZ=>cD (CK (CG J F T) · _) λQ _=>rfl|Z N W e b=>show λF T=>cD (mS _ _<|Hx P E W e b F T) λS=>cD (λ_=>rfl) λV=>cD (mS _ _<|CJ W e F T S V) λZ=>cD (CK (CI W F T S) · _) λQ=>cD (λ_=>rfl) λ_ _=>rfl|b U H I c a=>show λF T=>cD (HC U F<|zN P E R H I F T) λM g=>(xm _ _ g M).trans (match M with|true=>c F T g|false=>a F T g)|raise O N=>show λF T=>cD (mS _ _<|HA O) λV _=>rfl|D V f I=>show λF T=>cD (mS _ _<|Hy P E R V I F T) λK _=>by rcases K with-|-<;>rfl|uf V O I=>show λF T=>cD (mS _ _<|Hz P E R V I F T) λK _=>rfl|brk|cont|nil|z|vY=>intros;rfl|cons K L w d=>
rename_i F T g;show cD (w F<|iF P E R L T) (λY=> ?_) g;rcases Y with⟨-|-|-|Q,F⟩;· show d F T
· show λ_=>rfl
· show λ_=>rfl
· show λ_=>rfl
theorem oF(R:Nat)(X:List bo)(F:ak)(T:aV×ak->af G)(g:ag):dX P E R X F T g=dv (dw P E R X F g) T:=by revert F T g;induction X with|nil=>intros;rfl|cons K L w=>
show λF T=>cD (kA R K F<|iF P E R L T) λY=> ?_;rcases Y with⟨-|-|-|Q,F⟩;·show w F T
·show λ_=>rfl
·show λ_=>rfl
·show λ_=>rfl
end
section
variable{J:Type}
@[simp]theorem afQ{H:aa->af J}{E:ag}:GZ H i E=H (.tup i) E:=rfl
@[simp]theorem afR{H:aa->af J}{E:ag}:G0 H i E=H (.ref E.length) (E++[.list i]):=rfl
@[simp]theorem afS{U:List Str}{H:aa->af J}{E:ag}:G2 U H i E=H (.ref E.length) (E++[.dict<|U.zip i]):=rfl
@[simp]theorem afT{H:aa->af J}{E:ag}:Cu B d H v E=nO H E (f9 B d v):=rfl
@[simp]theorem afU{P:bu}{I:aW}{G:ak}{H:aa->af J}{E:ag}:G3 P I B k G H d E=bq P I k G (Cu B d H) E:=rfl
@[simp]theorem afV{H:aa->af J}{E:ag}:G4 H d E=bM H (GY d E):=rfl
@[simp]theorem afW{H:aa->af J}{E:ag}:yH H E n=H (.bool<|!n) E:=rfl
@[simp]theorem afX{g:fF}{H:aa->af J}{E:ag}:tK g d H v E=qy H E (dK g d v E):=rfl
@[simp]theorem afY{P:bu}{I:aW}{g:fF}{G:ak}{H:aa->af J}{E:ag}:G5 P I g k G H d E=bq P I k G (tK g d H) E:=rfl
@[simp]theorem afZ{P:bu}{I:aW}{g:fF}{G:ak}{H:aa->af J}{E:ag}:xl P I g k G d H E true=bq P I k G (tK g d H) E:=jz _
@[simp]theorem af0{P:bu}{I:aW}{g:fF}{G:ak}{H:aa->af J}{E:ag}:xl P I g k G d H E false=H (.bool false) E:=jz _
@[simp low]theorem af1{P:bu}{I:aW}{g:fF}{G:ak}{H:aa->af J}{E:ag}:xl P I g k G d H E n=if n=true then bq P I k G (tK g d H) E else H (.bool false) E:=(jz _).trans<|by cases n<;>rfl
@[simp]theorem af2{P:bu}{I:aW}{N:fF}{g:fF}{G:ak}{H:aa->af J}{E:ag}:Cv P I N g k G v H d E=qy (iE<|xl P I g k G d H) E (dK N v d E):=rfl
@[simp]theorem af3{P:bu}{I:aW}{N:fF}{g:fF}{G:ak}{H:aa->af J}{E:ag}:G6 P I N g k x G H d E=bq P I k G (Cv P I N g x G d H) E:=rfl
@[simp]theorem af4{H:aa->af J}{E:ag}:G7 H d E=H (.bool<|iH d) E:=rfl
@[simp]theorem af5{H:aa->af J}{E:ag}:G8 H d E=H (.bool<|!iH d) E:=rfl
@[simp]theorem af6{P:bu}{I:aW}{M:List au}{G:ak}{H:aa->af J}{E:ag}:zI P I M G H E true=vr P I M G H E:=jz _
@[simp]theorem af7{P:bu}{I:aW}{M:List au}{G:ak}{H:aa->af J}{E:ag}:zI P I M G H E false=H (.bool false) E:=jz _
@[simp low]theorem af8{P:bu}{I:aW}{M:List au}{G:ak}{H:aa->af J}{E:ag}:zI P I M G H E n=if n=true then vr P I M G H E else H (.bool false) E:=(jz _).trans<|by cases n<;>rfl
@[simp]theorem af9{P:bu}{I:aW}{M:List au}{G:ak}{H:aa->af J}{E:ag}:zJ P I M G H E true=H (.bool true) E:=jz _
@[simp]theorem aga{P:bu}{I:aW}{M:List au}{G:ak}{H:aa->af J}{E:ag}:zJ P I M G H E false=vt P I M G H E:=jz _
@[simp low]theorem agb{P:bu}{I:aW}{M:List au}{G:ak}{H:aa->af J}{E:ag}:zJ P I M G H E n=if n=true then H (.bool true) E else vt P I M G H E:=(jz _).trans<|by cases n<;>rfl
@[simp]theorem agc{P:bu}{I:aW}{G:ak}{H:aa->af J}{E:ag}:zK P I k x G H E true=bq P I k G H E:=jz _
@[simp]theorem agd{P:bu}{I:aW}{G:ak}{H:aa->af J}{E:ag}:zK P I x k G H E false=bq P I k G H E:=jz _
@[simp low]theorem age{P:bu}{I:aW}{G:ak}{H:aa->af J}{E:ag}:zK P I k x G H E n=if n=true then bq P I k G H E else bq P I x G H E:=(jz _).trans<|by cases n<;>rfl
@[simp]theorem agf{H:aa->af J}{E:ag}:G9 a H d E=bM H (pR d a E):=rfl
@[simp]theorem agg{H:aa->af J}{E:ag}:Cw d H v E=bM H (jE d v E):=rfl
@[simp]theorem agh{P:bu}{I:aW}{G:ak}{H:aa->af J}{E:ag}:Ha P I k G H d E=bq P I k G (Cw d H) E:=rfl
@[simp]theorem agi{H:aa->af J}{E:ag}:Cx d H v E=bM H (km d (some v) Option.none E):=rfl
@[simp]theorem agj{P:bu}{I:aW}{G:ak}{H:aa->af J}{E:ag}:Hb P I k G H d E=bq P I k G (Cx d H) E:=rfl
@[simp]theorem agk{H:aa->af J}{E:ag}:Cy d H v E=bM H (km d Option.none (some v) E):=rfl
@[simp]theorem agl{P:bu}{I:aW}{G:ak}{H:aa->af J}{E:ag}:Hc P I k G H d E=bq P I k G (Cy d H) E:=rfl
@[simp]theorem agm{H:aa->af J}{Y:aa}{E:ag}:Cz d v H Y E=bM H (km d (some v) (some Y) E):=rfl
@[simp]theorem agn{P:bu}{I:aW}{G:ak}{H:aa->af J}{E:ag}:CA P I k G d H v E=bq P I k G (Cz d v H) E:=rfl
@[simp]theorem ago{P:bu}{I:aW}{G:ak}{H:aa->af J}{E:ag}:Hd P I k x G H d E=bq P I k G (CA P I x G d H) E:=rfl
@[simp]theorem agp{H:aa->af J}{E:ag}:He H d E=bM H (vZ d E):=rfl
@[simp]theorem agq{I:aW}{H:aa->af J}{E:ag}:Hf I a H i E=l9 H (I a i E):=rfl
@[simp]theorem agr{P:bu}{I:aW}{H:aa->af J}{E:ag}:Hg P I a H i E=l9 H (lu P I a i E):=rfl
@[simp]theorem ags{I:aW}{H:aa->af J}{E:ag}:CB I d a H i E=l9 H (I a (d::i) E):=rfl
@[simp]theorem agt{P:bu}{I:aW}{G:ak}{H:aa->af J}{E:ag}:Hh P I o G d H a E=mh P I o G (CB I d a H) E:=rfl
@[simp]theorem agu{P:bu}{I:aW}{G:ak}{H:aa->af J}{E:ag}:Hi P I a o G H d E=bM (Hh P I o G d H) (wb P d a E):=rfl
@[simp]theorem agv{I:eE}{H:aa->af J}{E:ag}:Hj I H i E=bM H (dO I i E):=rfl
@[simp]theorem agw{I:eE}{H:aa->af J}{E:ag}:CC I d H i E=bM H (dO I (d::i) E):=rfl
@[simp]theorem agx{P:bu}{I:aW}{g:eE}{G:ak}{H:aa->af J}{K:Unit}{E:ag}:Hk P I g o G d H K E=mh P I o G (CC g d H) E:=rfl
@[simp]theorem agy{P:bu}{I:aW}{g:eE}{G:ak}{H:aa->af J}{E:ag}:Hl P I g o G H d E=bM (Hk P I g o G d H) (mD g d E):=rfl
@[simp]theorem agz{P:bu}{I:aW}{G:ak}{H:aa->af J}{E:ag}:Hm P I k a h G H d E=bM H (Cq P I k a h G d E):=rfl
@[simp]theorem agA{P:bu}{I:aW}{G:ak}{H:aa->af J}{E:ag}:Hn P I k h G H d E=bM H (Cr P I k h G d E):=rfl
@[simp]theorem agB{H:List aa->af J}{E:ag}:CD d H i E=H (d::i) E:=rfl
@[simp]theorem agC{P:bu}{I:aW}{M:List au}{G:ak}{H:List aa->af J}{E:ag}:Ho P I M G H d E=mh P I M G (CD d H) E:=rfl
@[simp]theorem agD{G:ak}{H:ak->af J}{K:Unit}{E:ag}:zL G H K E=H G E:=rfl
@[simp]theorem agE{G:ak}{H:ak->af J}{E:ag}:Hp a d G H v E=bM (zL G H) (nW v a d E):=rfl
@[simp]theorem agF{G:ak}{H:ak->af J}{U:aa}{E:ag}:CE d G v H U E=bM (zL G H) (sD v U d E):=rfl
@[simp]theorem agG{P:bu}{I:aW}{G:ak}{H:ak->af J}{E:ag}:Hq P I k d G H v E=bq P I k G (CE d G v H) E:=rfl
@[simp]theorem agH{P:bu}{I:aW}{V:List ft}{H:ak->af J}{G:ak}{E:ag}:Hr P I V i H G E=xk P I V i G H E:=rfl
@[simp]theorem agI{G:ak}{H:aV×ak->af J}{E:ag}:Hs G H d E=H (.aK,G) E:=rfl
@[simp]theorem agJ{G:ak}{H:aV×ak->af J}{E:ag}:Ht G H d E=H (.ret d,G) E:=rfl
@[simp]theorem agK{H:aV×ak->af J}{G:ak}{E:ag}:CF H G E=H (.aK,G) E:=rfl
@[simp]theorem agL{P:bu}{I:aW}{U:ft}{G:ak}{H:aV×ak->af J}{E:ag}:zM P I U G H d E=rV P I U d G (CF H) E:=rfl
@[simp]theorem agM{G:ak}{H:aV×ak->af J}{E:ag}:CG a G H d E=H (.aK,G.set a<|some d) E:=rfl
@[simp]theorem agN{G:ak}{H:aV×ak->af J}{E:ag}:CH B a G H d v E=nO (CG a G H) E (lK B d v):=rfl
@[simp]theorem agO{P:bu}{I:aW}{G:ak}{H:aV×ak->af J}{E:ag}:Hu P I B k a G H d E=bq P I k G (CH B a G H d) E:=rfl
@[simp]theorem agP{G:ak}{H:aV×ak->af J}{K:Unit}{E:ag}:Hv G H K E=H (.aK,G) E:=rfl
@[simp]theorem agQ{G:ak}{H:aV×ak->af J}{E:ag}:CI a G H d v E=bM (Hv G H) (nW d a v E):=rfl
@[simp]theorem agR{G:ak}{H:aV×ak->af J}{U:aa}{E:ag}:CJ a B G H d v U E=nO (CI a G H d) E (lK B v U):=rfl
@[simp]theorem agS{P:bu}{I:aW}{G:ak}{H:aV×ak->af J}{E:ag}:Hw P I a B k G H d v E=bq P I k G (CJ a B G H d v) E:=rfl
@[simp]theorem agT{P:bu}{I:aW}{G:ak}{H:aV×ak->af J}{E:ag}:Hx P I a B k G H d E=bM (Hw P I a B k G H d) (pR d a E):=rfl
@[simp]theorem agU{P:bu}{I:aW}{K:Nat}{g:List bo}{G:ak}{H:aV×ak->af J}{E:ag}:zN P I K q g G H E true=dX P I K q G H E:=jz _
@[simp]theorem agV{P:bu}{I:aW}{K:Nat}{g:List bo}{G:ak}{H:aV×ak->af J}{E:ag}:zN P I K g q G H E false=dX P I K q G H E:=jz _
@[simp low]theorem agW{P:bu}{I:aW}{K:Nat}{g:List bo}{G:ak}{H:aV×ak->af J}{E:ag}:zN P I K q g G H E n=if n=true then dX P I K q G H E else dX P I K g G H E:=(jz _).trans<|by cases n<;>rfl
@[simp]theorem agX{P:bu}{I:aW}{K:Nat}{G:ak}{H:aV×ak->af J}{E:ag}:Hy P I K a q G H d E=bM H (vq P I K a q G d E):=rfl
@[simp]theorem agY{P:bu}{I:aW}{K:Nat}{G:ak}{H:aV×ak->af J}{E:ag}:Hz P I K a q G H d E=bM H (zH P I K a q G d E):=rfl
variable{P:bu}{I:aW}{G:ak}{E:ag}{K:Nat}{H:aa->af J}
@[simp]theorem agZ:bq P I .none G H E=H .none E:=rfl
@[simp]theorem ag0:bq P I (.bool n) G H E=H (.bool n) E:=rfl
@[simp]theorem ag1:bq P I (.int p) G H E=H (.int p) E:=rfl
@[simp]theorem ag2:bq P I (.str m) G H E=H (.str m) E:=rfl
@[simp]theorem ag3:bq P I (.ae a) G H E=bM H (oY G a E):=rfl
@[simp]theorem ag4:bq P I (.bE a) G H E=nO H E P.p[a]?:=rfl
@[simp]theorem ag5:bq P I (.tup o) G H E=mh P I o G (GZ H) E:=rfl
@[simp]theorem ag6:bq P I (.list o) G H E=mh P I o G (G0 H) E:=rfl
@[simp]theorem ag7{U:List Str}:bq P I (.dict U o) G H E=mh P I o G (G2 U H) E:=rfl
@[simp]theorem ag8:bq P I (.bin B k x) G H E=bq P I k G (G3 P I B x G H) E:=rfl
@[simp]theorem ag9:bq P I (.vX k) G H E=bq P I k G (G4 H) E:=rfl
@[simp]theorem aha:bq P I (.not k) G H E=bq P I k G (iE<|yH H) E:=rfl
@[simp]theorem ahb{J:fF}:bq P I (.d J k x) G H E=bq P I k G (G5 P I J x G H) E:=rfl
@[simp]theorem ahc{N:fF}{g:fF}{M:au}:bq P I (.uc N g k x M) G H E=bq P I k G (G6 P I N g x M G H) E:=rfl
@[simp]theorem ahd:bq P I (.r k) G H E=bq P I k G (G7 H) E:=rfl
@[simp]theorem ahe:bq P I (.o k) G H E=bq P I k G (G8 H) E:=rfl
@[simp]theorem ahf:bq P I (.and o) G H E=vr P I o G H E:=rfl
@[simp]theorem ahg:bq P I (.or o) G H E=vt P I o G H E:=rfl
@[simp]theorem ahh{g:au}:bq P I (.b k x g) G H E=bq P I k G (iE<|zK P I x g G H) E:=rfl
@[simp]theorem ahi:bq P I (.attr k a) G H E=bq P I k G (G9 a H) E:=rfl
@[simp]theorem ahj:bq P I (.c k x) G H E=bq P I k G (Ha P I x G H) E:=rfl
@[simp]theorem ahk:bq P I (.yd k x) G H E=bq P I k G (Hb P I x G H) E:=rfl
@[simp]theorem ahl:bq P I (.S k x) G H E=bq P I k G (Hc P I x G H) E:=rfl
@[simp]theorem ahm{g:au}:bq P I (.sA k x g) G H E=bq P I k G (Hd P I x g G H) E:=rfl
@[simp]theorem ahn:bq P I (.ud k) G H E=bq P I k G (He H) E:=rfl
@[simp]theorem aho:bq P I (.call a o) G H E=mh P I o G (Hf I a H) E:=rfl
@[simp]theorem ahp:bq P I (.mk a o) G H E=mh P I o G (Hg P I a H) E:=rfl
@[simp]theorem ahq:bq P I (.h k a o) G H E=bq P I k G (Hi P I a o G H) E:=rfl
@[simp]theorem ahr{g:eE}:bq P I (.g g o) G H E=mh P I o G (Hj g H) E:=rfl
@[simp]theorem ahs{g:eE}:bq P I (.i g k o) G H E=bq P I k G (Hl P I g o G H) E:=rfl
@[simp]theorem aht:bq P I (.iU k a h x) G H E=bq P I x G (Hm P I k a h G H) E:=rfl
@[simp]theorem ahu:bq P I (.ue k h x) G H E=bq P I x G (Hn P I k h G H) E:=rfl
@[simp]theorem ahv{E:ag}:(HA p d:af J) E=some (.cR p,E):=rfl
variable{L:aV×ak->af J}{M:List bo}
@[simp high]theorem i4:iF P I K M L (.aK,G) E=dX P I K M G L E:=rfl
theorem CL:iF P I K M L (.aK,G) E=dX P I K M G L E:=id rfl
@[simp]theorem ahw:iF P I K M L (.brk,G) E=L (.brk,G) E:=rfl
@[simp]theorem ahx:iF P I K M L (.cont,G) E=L (.cont,G) E:=rfl
@[simp]theorem aa5:iF P I K M L (.ret d,G) E=L (.ret d,G) E:=rfl
@[simp]theorem Nz:dX P I K [] G L E=L (.aK,G) E:=rfl
@[simp]theorem k8{g:bo}:dX P I K (g::M) G L E=iR P I K g G (iF P I K M L) E:=rfl
@[simp]theorem ahy:iR P I K (.expr k) G L E=bq P I k G (Hs G L) E:=rfl
@[simp]theorem ahz:iR P I K (.ret k) G L E=bq P I k G (Ht G L) E:=rfl
@[simp]theorem ahA{U:ft}:iR P I K (.assign U k) G L E=bq P I k G (zM P I U G L) E:=rfl
@[simp]theorem ahB:iR P I K (.L a B k) G L E=bM (Hu P I B k a G L) (oY G a E):=rfl
@[simp]theorem ahC:iR P I K (.Z k a B x) G L E=bq P I k G (Hx P I a B x G L) E:=rfl
@[simp]theorem ahD{g:List bo}:iR P I K (.b k q g) G L E=bq P I k G (iE<|zN P I K q g G L) E:=rfl
@[simp]theorem ahE:iR P I K (.z k q) G L E=bM L (gi P I K k q K G E):=rfl
@[simp]theorem ahF:iR P I K (.D a k q) G L E=bq P I k G (Hy P I K a q G L) E:=rfl
@[simp]theorem ahG:iR P I K (.uf a k q) G L E=bq P I k G (Hz P I K a q G L) E:=rfl
@[simp]theorem ahH:iR P I K (.raise p k) G L E=bq P I k G (HA p) E:=rfl
@[simp]theorem ahI:iR P I K (.vY q m k) G L E=bM L (pT (dw P I K q G) (Cs P I m k G) E):=rfl
@[simp]theorem ahJ:iR P I K .cont G L E=L (.cont,G) E:=rfl
@[simp]theorem ahK:iR P I K .brk G L E=L (.brk,G) E:=rfl
variable{N:ak->af J}{O:List aa->af J}
@[simp]theorem ahL:rV P I (.ae a) d G N E=N (G.set a<|some d) E:=rfl
@[simp]theorem ahM:rV P I (.attr k a) d G N E=bq P I k G (Hp a d G N) E:=rfl
@[simp]theorem ahN:rV P I (.c k x) d G N E=bq P I k G (Hq P I x d G N) E:=rfl
@[simp]theorem ahO{V:List ft}:rV P I (.tup V) (.tup i) G N E=af.d4 (i.length==V.length) (xk P I V i G N) E:=rfl
@[simp]theorem ahP:xk P I [] i G N E=N G E:=rfl
@[simp]theorem ahQ{U:ft}{V:List ft}:xk P I (U::V) (d::i) G N E=rV P I U d G (Hr P I V i N) E:=rfl
@[simp]theorem ahR:mh P I [] G O E=O [] E:=rfl
@[simp]theorem ahS{M:List au}:mh P I (k::M) G O E=bq P I k G (Ho P I M G O) E:=rfl
@[simp]theorem ahT:vr P I [k] G H E=bq P I k G H E:=rfl
@[simp]theorem ahU{M:List au}:vr P I (k::x::M) G H E=bq P I k G (iE<|zI P I (x::M) G H) E:=rfl
@[simp]theorem ahV:vt P I [k] G H E=bq P I k G H E:=rfl
@[simp]theorem ahW{M:List au}:vt P I (k::x::M) G H E=bq P I k G (iE<|zJ P I (x::M) G H) E:=rfl
@[simp]theorem xn{Z:c->af J}{H:c}:bM Z (some (.ai H,E))=Z H E:=rfl
@[simp]theorem ahX{Z:c->af J}{H:c}:l9 Z (some (.ai H,E))=Z H E:=xj _ _
@[simp]theorem NA{Z:c->af J}:l9 Z (some (.cR p,E))=some (.cR p,E):=xj _ _
@[simp]theorem ahY{Z:c->af J}:l9 Z none=none:=xj _ _
@[simp]theorem ahZ{Z:c->af J}:bM Z (some (.cR p,E))=some (.cR p,E):=rfl
@[simp]theorem ah0{Z:c->af J}:bM Z none=none:=rfl
@[simp]theorem ah1{Z:c->af J}{H:c}:nO Z E (some H)=Z H E:=rfl
@[simp]theorem ah2:qy H E (some n)=H (.bool n) E:=rfl
@[simp]theorem ah3{Z:ag->Bool->Option (aI J×ag)}:iE Z (.bool n) E=Z E n:=rfl
end
def rW:c->af c:=af.bg
theorem CM(L:Option<|aI c×ag):dv L rW=L:=by rcases L with-|⟨-|-,-⟩<;>rfl
section
variable(P:bu)(I:aW)(H:Nat)(G:ak)(E:ag){J K:Type}
@[simp]theorem ah4{H:J}:rW H E=some (.ai H,E):=rfl
@[simp↓]theorem ah5{T:aV×ak->af K}:dv (dw P I H q G E) T=dX P I H q G T E:=(oF H q G T E).symm
@[simp↓]theorem ah6{g:bo}{T:aV×ak->af K}:dv (jr P I H g G E) T=iR P I H g G T E:=(kA H g G T E).symm
@[simp]theorem ah7:dw P I H q G E=dX P I H q G rW E:=(CM _).symm.trans (oF H q G rW E).symm
@[simp]theorem ah8{K:bo}:jr P I H K G E=iR P I H K G rW E:=(CM _).symm.trans (kA H K G rW E).symm
@[simp]theorem ah9:cG P I k G E=bq P I k G rW E:=(CM _).symm.trans (mS k G rW E).symm
@[simp]theorem aia:ur P I k G E=bq P I k G (iE λE g=>rW g E) E:=(CM _).symm.trans (HC k G _ E).symm
@[simp]theorem aa6{H:J}:af.bg H E=some (.ai H,E):=rfl
@[simp]theorem aib:(af.fail:af J) E=none:=rfl
@[simp]theorem aic:(af.raise p:af J) E=some (.cR p,E):=rfl
@[simp]theorem aid:af.ll s E=some (.ai<|.ref E.length,E++[s]):=rfl
@[simp]theorem NB{H:J}:af.dZ (some H) E=some (.ai H,E):=rfl
@[simp]theorem aie:af.dZ (none:Option J) E=none:=rfl
@[simp]theorem aif{N:af J}:af.d4 true N=N:=rfl
@[simp]theorem aih{N:af J}:af.d4 false N=af.fail:=rfl
@[simp]theorem aii{H:J}:af.mB a s H E=some (.ai H,E.set a s):=rfl
@[simp]theorem zP{N:af J}{W:J->af K}:af.aN N W E=bM W (N E):=rfl
@[simp]theorem aij{M:Prop} [Decidable M]{G U:af J}:(if M then G else U) E=if M then G E else U E:=by split<;>rfl
@[simp]theorem aik:AS (some n) E=some (.ai<|.bool n,E):=rfl
@[simp]theorem ail:fR (.ret d,G) E=some (.ai d,E):=rfl
@[simp]theorem aim:fR (.aK,G) E=some (.ai .none,E):=rfl
@[simp]theorem ain:iH .none=true:=rfl
@[simp]theorem aio:iH (.str m)=false:=rfl
@[simp]theorem aip:iH (.int p)=false:=rfl
@[simp]theorem aiq{G:List aa}:iH (.tup G)=false:=rfl
@[simp]theorem air:iH (.ref a)=false:=rfl
@[simp]theorem ais:vq P I H a q G (.ref e) E=pC P I H a q e H 0 G E:=rfl
@[simp]theorem ait:vq P I H a q G (.tup i) E=jT P I H a q i G E:=rfl
@[simp]theorem aiu:vq P I H a q G (.cM i) E=jT P I H a q i G E:=rfl
@[simp]theorem aiv:GY (.int p) E=some (.ai<|.int<|-p,E):=rfl
end
@[simp]theorem aiw:oY (some d::j) 0=af.bg d:=rfl
@[simp]theorem aix:oY (y::j) (a+1)=oY j a:=rfl
noncomputable def ao(O:Nat):aa:=.int O
section
variable{I:ag}{E H K:Nat}{G J:Str}
theorem kB(w:K<=16000000):eN K=true:=oW.mpr w
def vv(w:K<=4000):j2 (K:Int)=true:=Jf.mpr<|jB w<|j0 rfl
@[simp]theorem aiy:f9 .cV (ao E) (ao H)=some (ao<|E+H):=rfl
@[simp]theorem aiz:f9 .cV (ao E) (.int 1)=some (ao<|E+1):=rfl
@[simp]theorem aiA:lK .cV (ao E) (.int 1)=some (ao<|E+1):=rfl
@[simp]theorem aiB:lK .cV (.int p) (.int 1)=some (.int<|p+1):=rfl
@[simp]theorem aiC:lK .cg (.int p) (.int 1)=some (.int<|p-1):=rfl
@[simp]theorem aiD(w:1<=E):f9 .cg (ao E) (.int 1)=some (ao<|E-1):=by change some (aa.int<|(E:Int)-1)=some (aa.int ((E-1:Nat):Int));congr 2;show Eq.symm<|Int.ofNat_sub w
@[simp]theorem aiE:f9 .cg (ao E) (ao H)=some (.int<|(E:Int)-H):=rfl
@[simp]theorem aiF(w:G.length+J.length<=4000):f9 .cV (.str G) (.str J)=some (.str<|G++J):=by change eJ (eN _) _=_;rw[kB<|Nat.le_trans w<|Nat.le_of_ble_eq_true rfl];rfl
@[simp]theorem aiG{U:List aa}(w:i.length+U.length<=16000000):f9 .cV (.tup i) (.tup U)=some (.tup<|i++U):=by change eJ (eN _) _=_;rw[kB w];rfl
@[simp]theorem aiH:dK .aA (.str G) (.str J) I=some (eY G J):=rfl
@[simp]theorem aiI{E H:List Nat}:eY ⟨E.toArray⟩ ⟨H.toArray⟩=mC E H:=rfl
@[simp]theorem aiJ:mC [] []=true:=rfl
@[simp]theorem aiK{H:Nat}:mC [] (H::h)=false:=rfl
@[simp]theorem aiL{H:Nat}:mC (H::h) []=false:=rfl
@[simp]theorem aiM{E H:Nat}:mC (E::h) (H::C)=AG (E==H) h C:=rfl
@[simp]theorem aiN:AG true h C=mC h C:=rfl
@[simp]theorem aiO:AG false h C=false:=rfl
@[simp low]theorem aiP:AG n h C=bif n then mC h C else false:=rfl
@[simp high]theorem aiQ{E:Str}:eY E E=true:=AH.mpr rfl
@[simp low]theorem aa7{E H:Str}:eY E H=(E==H):=sC E H
@[simp]theorem aiR:dK .aA (ao E) (ao H) I=some (decide<|E=H):=by change some ((E:Int)==(H:Int))=_;congr 1;by_cases w:E=H<;>simp[w];show El w
@[simp]theorem aiS:dK .aA (.int p) (ao H) I=some (decide<|p=H):=by change some (p==(H:Int))=_;congr 1
@[simp]theorem aiT{U:Int}:dK .aA (.int p) (.int U) I=some (decide<|p=U):=rfl
@[simp]theorem aiU:dK .aA (ao E) (.int 0) I=some (decide<|E=0):=by change some ((E:Int)==0)=_;congr 1;by_cases w:E=0<;>simp[w]
@[simp]theorem aiV{U:Bool}:dK .aA (.bool n) (.bool U) I=some (n==U):=rfl
@[simp]theorem aa8:dK .aA (.tup i) (.str G) I=some false:=rfl
@[simp]theorem aiW:dK .dS (ao E) (ao H) I=some (decide<|E<H):=by change some (decide<|(E:Int)<(H:Int))=_;congr 2;simp
@[simp]theorem aiX:dK .gm (ao E) (ao H) I=some (decide<|E<=H):=by change some (decide<|(E:Int)<=(H:Int))=_;congr 2;simp
@[simp]theorem aiY:dK .fQ (ao E) (ao H) I=some (decide<|H<E):=by change some (decide<|(H:Int)<(E:Int))=_;congr 2;simp
@[simp]theorem aiZ:dK .fQ (ao E) (.int 0) I=some (decide<|0<E):=by change some (decide<|(0:Int)<(E:Int))=_;congr 2;simp
@[simp]theorem ai0:dK .fQ (ao E) (.int 1) I=some (decide<|1<E):=by change some (decide<|(1:Int)<(E:Int))=_;congr 2;apply propext;omega
@[simp]theorem ai1:dK .dS (ao E) (.int 0) I=some false:=by change some (decide<|(E:Int)<0)=_;congr 1
@[simp]theorem ai2:dK .gm (ao E) (.int p) I=some (decide<|(E:Int)<=p):=rfl
@[simp]theorem ai3{U:Int}:dK .dS (.int p) (.int U) I=some (decide<|p<U):=rfl
@[simp]theorem ai4{U:Int}:dK .gm (.int p) (.int U) I=some (decide<|p<=U):=rfl
@[simp]theorem ai5{U:Int}:dK .fQ (.int p) (.int U) I=some (decide<|U<p):=rfl
@[simp]theorem ai6:dK .gm (.str G) (.str J) I=some (!ye J G):=rfl
@[simp]theorem ai7:dK .jD (.str G) (.tup i) I=jo G i:=rfl
@[simp]theorem ai8:dK .sz (.str G) (.tup i) I=(jo G i).map (!·):=rfl
@[simp]theorem ai9:dK .jD (.str G) (.str J) I=qP G J:=rfl
@[simp]theorem aja:dK .sz (.str G) (.str J) I=(qP G J).map (!·):=rfl
@[simp]theorem ajb(w:G.length<=4000):dO .aZ [.str G]=af.bg (ao G.length):=by change af.d4 (eN _) _=_;rw[kB<|Nat.le_trans w<|Nat.le_of_ble_eq_true rfl];rfl
@[simp]theorem ajc(w:i.length<=16000000):dO .aZ [.tup i]=af.bg (ao i.length):=by change af.d4 (eN _) _=_;rw[kB w];rfl
@[simp]theorem ajd:dO .W [ao E]=af.bg (.bool true):=rfl
@[simp]theorem aje:dO .Q [ao E]=af.bg (.bool false):=rfl
@[simp]theorem ajf:dO .O [ao E]=af.bg (.bool false):=rfl
@[simp]theorem ajg:dO .O [.none]=af.bg (.bool false):=rfl
@[simp]theorem ajh:dO (.R a) [ao E]=af.bg (.bool false):=rfl
@[simp]theorem aji:dO .W [.str G]=af.bg (.bool false):=rfl
@[simp]theorem ajj:dO .Q [.str G]=af.bg (.bool true):=rfl
@[simp]theorem ajk:dO .O [.str G]=af.bg (.bool false):=rfl
@[simp]theorem ajl:dO (.R a) [.str G]=af.bg (.bool false):=rfl
@[simp]theorem ajm:dO .O [.tup i]=af.bg (.bool true):=rfl
@[simp]theorem ajn:dO .Q [.tup i]=af.bg (.bool false):=rfl
@[simp]theorem ajo:dO .W [.tup i]=af.bg (.bool false):=rfl
@[simp]theorem ajp(g:E<=4000)(W:H<=4000)(w:G.length<=4000):km (.str G) (some<|ao E) (some<|ao H)=af.bg (.str<|cF G E H):=by change af.dZ (eJ (j2 E&&j2 H&&eN G.length) _)=_;simp only[vv g,vv W,kB<|Nat.le_trans w<|Nat.le_of_ble_eq_true rfl];rfl
@[simp]theorem ajq(w:G.length<=4000):km (.str G) (some<|.int 1) none=af.bg (.str<|cF G 1 G.length):=by change af.dZ (eJ (eN G.length) _)=_;rw[kB<|Nat.le_trans w<|Nat.le_of_ble_eq_true rfl];rfl
@[simp]theorem ajr(w:G.length<=4000):km (.str G) none (some<|.int 4)=af.bg (.str<|cF G 0 4):=by change af.dZ (eJ (eN G.length) _)=_;rw[kB<|Nat.le_trans w<|Nat.le_of_ble_eq_true rfl];rfl
@[simp]theorem aa9(w:E<G.length)(H:G.length<=4000):jE (.str G) (ao E)=af.bg (.str<|cF G E<|E+1):=by change af.dZ (eJ (j2 E&&Nat.blt E G.length) _)=_;rw[vv<|Nat.le_trans (Nat.le_of_lt w) H,show Nat.blt E G.length=true from Nat.ble_eq_true_of_le w];rfl
@[simp]theorem ajs(w:0<G.length):jE (.str G) (.int 0)=af.bg (.str<|cF G 0 1):=by change af.dZ (eJ (Nat.blt 0 G.length) _)=_;rw[show Nat.blt 0 G.length=true from Nat.ble_eq_true_of_le w];rfl
@[simp]theorem ajt:jE (.tup<|d::i) (.int 0)=af.bg d:=rfl
@[simp]theorem aju:jE (.tup<|v::d::i) (.int 1)=af.bg d:=rfl
@[simp]theorem ajv{J:aa}:jE (.tup<|J::v::d::i) (.int 2)=af.bg d:=rfl
end
def fB:Option Nat->aa|some O=>ao O|none=>.none
noncomputable def vw:Nat->ak|0=>[]|O+1=>none::vw O
def xo:List aa->Nat->ak|[],O=>vw O|Q::L,O=>some Q::xo L (O-1)
@[simp]theorem ajw:vw 0=[]:=rfl
@[simp]theorem ajx:vw (a+1)=none::vw a:=rfl
@[simp]theorem ajy:xo [] a=vw a:=rfl
@[simp]theorem ajz:xo (d::i) (a+1)=some d::xo i a:=rfl
theorem aba:∀O,List.replicate O none=vw O:=by intro O;induction O with|zero=>show rfl|succ O S=>show congrArg (none::·)<|S
def abb:∀(Y:List aa)(O:Nat),Y.map some++List.replicate (O-Y.length) none=xo Y O:=by intro Y;induction Y with|nil=>intro O;show aba O|cons Q L S=>intro O;have:=S<|O-1;rw[Nat.sub_sub,Nat.add_comm 1]at this;show congrArg (some Q::·) this
def NC:∃O:Nat->Nat->aW,∀R Y,O R Y=nZ aw R Y:=⟨_,λ_ _=>rfl⟩
def av:Nat->Nat->aW:=NC.choose
theorem HD(R Y:Nat):av R Y=nZ aw R Y:=NC.choose_spec R Y
def aO{H:bG}(w:aw.T[a]?=some H)(E:i.length=H.H):av e (r+1) a i=dX aw (av e r) e H.qN (xo i H.pP) fR:=by rw[HD,HD];simp only[nZ,w];rw[<-abb,E];show((by intro _ _ _ _ _ w;unfold AV;rw[w,beq_self_eq_true];rfl:∀(P:bu)(F:aW)(e:Nat)(a:bG)(i:List aa)(w:i.length=a.H),AV P F e a i=af.aN (dw P F e a.qN<|i.map some++List.replicate (a.pP-a.H) none) fR) _ _ _ _ _ E).trans<|funext λg=>(oF e H.qN _ fR g).symm
section
variable{J K:Nat}{I:ag}{E L:Str}{G H:Nat}
theorem abc(H:E.length<=4)(W:L.length<=1000)(g:G<=4):av J (K+1) 28 [.str E,ao G,.str L] I=some (.ai<|fB<|jh E G L,I):=by rw[aO (H:=EE) rfl rfl];unfold jh;by_cases w:cF E G (G+L.length)=L<;>simp(disch:=lia) [EE,w,fB]
theorem abd(g:E.length<=4)(W:H<=1000)(F:G<=4):av J (K+1) 29 [.str E,ao G,ao H] I=some (.ai<|fB<|gO E G .aZ<|.gu H,I):=by rw[aO (H:=EF) rfl rfl];simp only[Wg];by_cases w:G+H<=E.length<;>simp(disch:=lia) [EF,w,fB]
theorem abe:av J (K+1) 30 [ao G,ao H] I=some (.ai<|fB<|gO E G .uV<|.gu H,I):=by rw[aO (H:=EG) rfl rfl];simp only[Wh];by_cases w:G=H<;>simp(disch:=lia) [EG,w,fB]
theorem abf(g:E.length<=4)(W:G<=E.length):av J (K+1) 31 [.str E,ao G,ao H] I=some (.ai<|fB<|gO E G .uW<|.gu H,I):=by rw[aO (H:=EH) rfl rfl];simp only[Wi];by_cases w:G+H=E.length<;>simp(disch:=lia) [EH,w,(by lia-abstractProof:(E.length:Int)-G=H↔G+H=E.length),fB]
theorem abg(g:E.length<=4)(W:G<=E.length):av J (K+1) 32 [.str E,ao G,ao H] I=some (.ai<|fB<|gO E G .uX<|.gu H,I):=by rw[aO (H:=EI) rfl rfl];simp only[Wj];by_cases w:G<=H<;>by_cases F:H<=E.length<;>simp(disch:=lia) [EI,w,F,fB]
theorem abh(F:E.length<=4)(W:G<=E.length):av J (K+1) 33 [.str E,ao G,ao H] I=some (.ai<|fB<|gO E G .uY<|.gu H,I):=by
 rw[aO (H:=A6) rfl rfl];simp only[Wk];by_cases w:G+H<=E.length
 ·obtain g:aa.int ((E.length:Int)-H)=ao (E.length-H):=by congr 1;show Eq.symm<|Int.ofNat_sub<|aq aR w
  simp(disch:=lia) [A6,w,Nat.le_sub_of_add_le w,fB,g]
 ·simp(disch:=lia) [A6,w,(by lia-abstractProof:(G:Int)<=(E.length:Int)-H↔G+H<=E.length),fB]
theorem abi(H:E.length<=4):av J (K+1) 34 [.str E] I=some (.ai<|ao E.length,I):=by rw[aO (H:=EJ) rfl rfl];simp(disch:=lia) [EJ]
end
end
section
variable(P:bu)(J:aW)(H:Nat)(M:au)(I:List bo)(K:Nat)(G:ak)(E:ag)(R:aa)
def kf(P:bu)(J:aW)(H:Nat)(M:au)(I:List bo)(K:Nat):aV×ak->af (aV×ak):=nr<|gi P J H M I K
@[simp high]theorem ajA:kf P J H M I K (.aK,G) E=gi P J H M I K G E:=id rfl
@[simp]theorem ajB:kf P J H M I K (.cont,G) E=gi P J H M I K G E:=rfl
@[simp]theorem ajC:kf P J H M I K (.brk,G) E=some (.ai (.aK,G),E):=rfl
@[simp]theorem ajD:kf P J H M I K (.ret R,G) E=some (.ai (.ret R,G),E):=rfl
def HE(P:bu)(J:aW)(H:Nat)(M:au)(I:List bo)(K:Nat)(G:ak)(E:ag)(g:Bool):Option<|aI (aV×ak)×ag:=o8<|bif g then dX P J H I G (kf P J H M I K) E else some (.ai (.aK,G),E)
@[simp]theorem ND:HE P J H M I K G E true=dX P J H I G (kf P J H M I K) E:=jz _
@[simp]theorem ajE:HE P J H M I K G E false=some (.ai (.aK,G),E):=jz _
theorem jU:gi P J H M I (K+1) G E=bq P J M G (iE<|HE P J H M I K G) E:=by
 show Eq.trans (congrArg (dv<|ur P J M G E)<|funext λg=>funext λE=> ?_) (HC M G _ E).symm;rcases g with-|-;·show(jz _).symm
 ·show(oF H I G _ E).symm.trans (jz _).symm
def xq(P:bu)(J:aW)(H:Nat)(L:Nat)(I:List bo)(N:List aa):aV×ak->af (aV×ak):=nr<|jT P J H L I N
variable(L:Nat)(N:List aa)
@[simp high]theorem zQ:xq P J H L I N (.aK,G) E=jT P J H L I N G E:=id rfl
@[simp]theorem ajF:xq P J H L I N (.cont,G) E=jT P J H L I N G E:=rfl
@[simp]theorem ajG:xq P J H L I N (.ret R,G) E=some (.ai (.ret R,G),E):=rfl
@[simp]theorem ajH:jT P J H L I [] G E=some (.ai (.aK,G),E):=rfl
theorem rX:jT P J H L I (R::N) G E=dX P J H I (G.set L<|some R) (xq P J H L I N) E:=(oF H I _ _ E).symm
def CN(P:bu)(J:aW)(H:Nat)(L:Nat)(I:List bo)(Q K O:Nat):aV×ak->af (aV×ak):=nr<|pC P J H L I Q K O
variable(Q O:Nat)
@[simp high]theorem NF:CN P J H L I Q K O (.aK,G) E=pC P J H L I Q K O G E:=_root_.id rfl
@[simp]theorem abj:CN P J H L I Q K O (.cont,G) E=pC P J H L I Q K O G E:=rfl
@[simp]theorem ajI:CN P J H L I Q K O (.ret R,G) E=some (.ai (.ret R,G),E):=rfl
theorem CP(w:E[Q]?=some (.list N))(S:N[O]?=none):pC P J H L I Q (K+1) O G E=some (.ai (.aK,G),E):=by change gX E[Q]? _ E=_;rw[w];change(match N[O]?with|some R=>_|none=>af.bg (aV.aK,G)) E=_;rw[S];rfl
def CQ(w:E[Q]?=some (.list N))(S:N[O]?=some R):pC P J H L I Q (K+1) O G E=dX P J H I (G.set L<|some R) (CN P J H L I Q K<|O+1) E:=by change gX E[Q]? _ E=_;rw[w];change(match N[O]?with|some R=>_|none=>af.bg (aV.aK,G)) E=_;rw[S];show(oF H I _ _ E).symm
end
@[simp]theorem ajJ:aw.p[0]?=some (.str c1):=rfl
@[simp]theorem ajK:aw.p[1]?=some (.str c5):=rfl
@[simp]theorem ajL:aw.p[2]?=some (.str c6):=rfl
@[simp]theorem ajM:aw.p[3]?=some (.str c2):=rfl
@[simp]theorem ajN:aw.p[4]?=some (.str dr):=rfl
@[simp]theorem ajO:aw.p[5]?=some (.str ax):=rfl
@[simp]theorem ajP:aw.p[6]?=some (.str dt):=rfl
@[simp]theorem ajQ:aw.p[7]?=some (.str df):=rfl
@[simp]theorem ajR:aw.p[8]?=some (.str ⟨#[112,108,97,99,101]⟩):=rfl
@[simp]theorem ajS:aw.p[9]?=some (.str ⟨#[97,115,107]⟩):=rfl
@[simp]theorem ajT:aw.p[10]?=some (.str b1):=rfl
@[simp]theorem ajU:aw.p[11]?=some (.str a9):=rfl
@[simp]theorem ajV:aw.p[12]?=some (.str a7):=rfl
@[simp]theorem ajW:aw.p[13]?=some (.str dd):=rfl
@[simp]theorem ajX:aw.p[14]?=some (.str cw):=rfl
@[simp]theorem ajY:aw.p[15]?=some (.tup [.str ab,.str b3,.str b4,.str b5,.str b6,.str b7,.str b9,.str cb,.str cj,.str ct,.str b8]):=rfl
@[simp]theorem ajZ:aw.p[16]?=some (.tup [.str b1,.str a9,.str a7,.str dd]):=rfl
@[simp]theorem aj0:aw.p[17]?=some (.tup [.str b3,.str b4,.str b5,.str b6,.str b7]):=rfl
@[simp]theorem aj1:aw.p[18]?=some (.tup [.str b9,.str cb,.str cj,.str ct]):=rfl
@[simp]theorem aj2:aw.p[19]?=some (.tup [.str ab,.str ⟨#[]⟩]):=rfl
@[simp]theorem aj3:aw.p[20]?=some (.int 64):=rfl
@[simp]theorem aj4:aw.p[21]?=some (.str ⟨#[40]⟩):=rfl
@[simp]theorem aj5:aw.p[22]?=some (.str ⟨#[41]⟩):=rfl
@[simp]theorem aj6:aw.p[23]?=some (.int 0):=rfl
@[simp]theorem aj7:aw.p[24]?=some (.int 1):=rfl
@[simp]theorem aj8:aw.p[25]?=some (.int 2):=rfl
@[simp]theorem aj9:aw.p[26]?=some (.str dk):=rfl
@[simp]theorem aka:jo m []=some false:=rfl
@[simp]theorem akb{I:Bool}:yg n (some I)=some (n||I):=rfl
@[simp]theorem akc:yg true (some n)=some true:=rfl
@[simp]theorem abk{I:Str}:jo m (.str I::i)=yg (eY m I) (jo m i):=rfl
theorem Bk(w:a<m.length):(cF m a<|a+1).cps.toList=[m.cps[a]'w]:=by
 rw[tB,List.drop_take];rw[Nat.add_sub_cancel_left a 1];have:m.cps.toList.drop a=m.cps[a]'w::m.cps.toList.drop (a+1):=by show(List.drop_eq_getElem_cons w).trans ?_;rfl
 rw[this];rfl
def zR{U:Str}(w:a<m.length):qP (cF m a<|a+1) U=some (lX m a U):=by delta qP lX;rw[Bk w,Array.getElem?_eq_getElem w]
section
variable{J L:Nat}{H:ag}{G I:Str}{E K:Nat}
theorem abl(g:G.length<=4):av J (L+1) 35 [.str G,ao E,.str I] H=some (.ai<|fB<|gO G E .wO<|.fL I,H):=by
 rw[aO (H:=A7) rfl rfl];simp only[Wl];by_cases w:E<G.length;·induction K:lX G E I<;>simp(disch:=lia) [A7,w,K,fB,zR]
 ·simp(disch:=lia) [A7,w,fB]
theorem abm(g:G.length<=4):av J (L+1) 36 [.str G,ao E,.str I] H=some (.ai<|fB<|gO G E .wQ<|.fL I,H):=by
 rw[aO (H:=A8) rfl rfl];simp only[Wm];by_cases w:E<G.length;·induction K:lX G E I<;>simp(disch:=lia) [A8,w,K,fB,zR]
 ·simp(disch:=lia) [A8,w,fB]
theorem abn(F:aW)(Q:Nat)(M:G.length<=4)(L:Bool):∀K E O,G.length-E<=K->K+1<=O->E<=G.length->gi aw F Q (.and [.d .dS (.ae 1)<|.g .aZ [.ae 0],.d .aA (.d .jD (.c (.ae 0)<|.ae 1)<|.ae 2)<|.ae 3]) [.L 1 .cV<|.int 1] O [some<|.str G,some<|ao E,some<|.str I,some<|.bool L] H=some (.ai (.aK,[some<|.str G,some<|ao<|kX G I L (G.length-E) E,some<|.str I,some<|.bool L]),H):=by intro K;induction K with|zero=>intro E O V R P;show eA λT X=> ?_;obtain⟨O,rfl⟩:=AW (a:=O)<|mz R;have J:E=G.length:=JV V P;subst J;show X ?_;rw[jU];simp(disch:=lia) [MA]|succ K S=>
intro E O V R P;obtain⟨O,rfl⟩:∃N,O=N+1:=⟨O-1,Eq.symm<|iT<|aq aR R⟩;rw[jU];by_cases w:E<G.length
·obtain⟨N,g⟩:∃N,G.length-E=N+1:=⟨G.length-E-1,yq w⟩;simp only[g,MB];by_cases U:lX G E I==L;·have Y:=S (E+1) O (JX w V) (fJ R)<|j1 w;rw[<-Eq.symm<|A5 g]at Y;simp(disch:=lia) [w,U,zR,Y]
 ·have W:(lX G E I==L)=false:=by simpa using U
  simp(disch:=lia) [w,W,zR]
·have J:E=G.length:=i7 P<|sq w;subst J;simp(disch:=lia) [MA]
theorem NG(w:G.length<=4)(W:E<=G.length)(F:10<=J)(g:Bool):av J (L+1) 37 [.str G,ao E,.str I,.bool g] H=some (.ai<|ao<|kX G I g (G.length-E) E,H):=by rw[aO (H:=EK) rfl rfl];have:=abn (H:=H) (G:=G) (I:=I) (av J L) J w g (G.length-E) E J aH (j1<|I7<|m6<|xY.mpr<|jB w<|eI (by decide) F) W;simp(disch:=lia) [EK,this]
theorem abo(g:G.length<=4)(W:E<=G.length)(F:10<=J):av J (L+2) 38 [.str G,ao E,.str I] H=some (.ai<|fB<|gO G E .wR<|.fL I,H):=by rw[aO (H:=EL) rfl rfl];simp only[Wn];by_cases w:E<kX G I true (G.length-E) E<;>simp(disch:=lia) [EL,NG g W F,w,fB]
theorem abp(g:G.length<=4)(W:E<=G.length)(F:10<=J):av J (L+2) 39 [.str G,ao E,.str I] H=some (.ai<|fB<|gO G E .brk<|.fL I,H):=by rw[aO (H:=EM) rfl rfl];simp only[Wo];by_cases w:kX G I false (G.length-E) E<G.length<;>simp(disch:=lia) [EM,NG g W F,w,fB]
def HF(w:E<G.length):eY (cF G E<|E+1) ⟨#[a]⟩=decide (G.cps[E]?=some a):=by rw[Array.getElem?_eq_getElem w];change mC (cF G E<|E+1).cps.toList [a]=_;rw[Bk w];by_cases Y:G.cps[E]'w=a<;>simp[Y]
theorem abq(F:aW)(Q:Nat)(O:G.length<=4):∀K E P(c:Int),G.length-E<=K->K+1<=P->E<=G.length->qp (λY=>gi aw F Q (.d .dS (.ae 1)<|.g .aZ [.ae 0]) [.b (.d .aA (.c (.ae 0)<|.ae 1)<|.bE 21) [.L 2 .cV<|.int 1] [.b (.d .aA (.c (.ae 0)<|.ae 1)<|.bE 22) [.L 2 .cg<|.int 1] []],.L 1 .cV<|.int 1,.b (.d .dS (.ae 2)<|.int 0) [.ret<|.none] [],.b (.d .aA (.ae 2)<|.int 0) [.ret<|.ae 1] []] P [some<|.str G,some<|ao E,some<|.int c] H=some (.ai Y,H)) λY=>match nI G (G.length-E) E c with|some L=>Y.1=.ret (ao L)|none=>Y.1=.ret .none\/Y.1=.aK:=by intro K;induction K with|zero=>intro E P c V U T;obtain⟨P,rfl⟩:∃N,P=N+1:=⟨P-1,Eq.symm<|iT U⟩;obtain L:E=G.length:=JV V T;subst L;rw[jU];show⟨_,by conv=>lhs;simp(disch:=lia);rfl, ?_⟩;show Nat.sub_self _▸ ?_;show .inr rfl|succ K S=>
intro E P c V U T;obtain⟨P,rfl⟩:∃N,P=N+1:=⟨P-1,Eq.symm<|iT<|aq aR U⟩;rw[jU];by_cases w:E<G.length
·obtain⟨N,g⟩:∃N,G.length-E=N+1:=⟨G.length-E-1,yq w⟩;simp only[g,MC];generalize d:rD G E c=J;unfold rD at d;obtain⟨Y,R,Z⟩:=S (E+1) P J (JX w V) (fJ U)<|j1 w;have b:jr aw F Q (.b (.d .aA (.c (.ae 0)<|.ae 1)<|.bE 21) [.L 2 .cV<|.int 1] [.b (.d .aA (.c (.ae 0)<|.ae 1)<|.bE 22) [.L 2 .cg<|.int 1] []]) [some<|.str G,some<|ao E,some<|.int c] H=some (.ai (.aK,[some<|.str G,some<|ao E,some<|.int J]),H):=by
  subst d;by_cases a:G.cps[E]?=some 40;·simp(disch:=lia) [w,HF,a]
  ·by_cases W:G.cps[E]?=some 41;·simp(disch:=lia) [w,HF,W]
   ·simp(disch:=lia) [w,HF,a,W]
 rw[<-(Eq.symm (A5 g):N=G.length-(E+1))]at Z;simp only[(λM=>by simp(disch:=lia) [w]:∀M:ag->Bool->Option (aI (aV×ak)×ag),bq aw F (.d .dS (.ae 1)<|.g .aZ [.ae 0]) [some<|.str G,some<|ao E,some<|.int c] (iE M) H=M H true),ND,k8,kA,b,jS,i4];by_cases I:J<0;·simp only[I];show⟨_,by conv=>lhs;simp[I];rfl,.inl rfl⟩
 ·by_cases X:J=0;·clear b;subst X;show⟨_,by simp;rfl, ?_⟩;simp
  ·simp only[I,X];show⟨Y,by simp[I,X,R],Z⟩
·obtain L:E=G.length:=i7 T<|sq w;clear V;subst L;show⟨_,by conv=>lhs;simp(disch:=lia);rfl, ?_⟩;show Nat.sub_self _▸ ?_;show .inr rfl
def NH(w:G.length<=4)(I:E<=G.length)(K:10<=J):av J (L+1) 41 [.str G,ao E] H=some (.ai<|fB<|nI G (G.length-E) E 0,H):=by
 rw[aO (H:=A9) rfl rfl];obtain⟨Y,R,Z⟩:=abq (H:=H) (av J L) J w (G.length-E) E J 0 aH (j1<|I7<|m6<|xY.mpr<|jB w<|eI (by decide) K) I;obtain⟨W,F⟩:=Y;rcases Q:nI G (G.length-E) E 0with _|g;·rw[Q]at Z;rcases Z with rfl|rfl<;>simp[A9,R,fB]
 ·rw[Q]at Z;subst Z;simp[A9,R,fB]
end
structure aY where
iZ:Nat
fX:Nat
jw:Nat
noncomputable def aY.cA(Z:aY):bT->Nat|.bV=>Z.iZ|.B=>Z.fX|.C=>Z.jw
noncomputable def c7:bT->Str|.bV=>aT|.B=>ck|.C=>a5
noncomputable def akd:Str:=ax
noncomputable def fC:dM->aa|.N=>.tup [.str ax,.str b2]|.S=>.tup [.str ax,.str a8]|.bV=>.tup [.str ax,.str aT]|.P=>.tup [.str ax,.str cm]|.iD=>.tup [.str da]|.fX=>.tup [.str ⟨#[116,101,120,116]⟩,.str cn]
noncomputable def ik:bX->Str|.aZ=>b3|.uV=>b4|.uW=>b5|.uX=>b6|.uY=>b7|.wO=>b9|.wQ=>cb|.wR=>cj|.brk=>ct
def jV:jO->aa|.gu O=>ao O|.fL K=>.str K
def aD(Z:aY)(w:aj):aa:=aj.rec (motive:=λ_=>aa) (λK=>.tup [.str ab,.str K]) (λN U=>.tup [.str<|ik N,jV U]) (λN U=>.tup [.str<|ik N,.tup [.str a4,fC U]]) (.tup [.str b8]) (.tup [.str a3]) (.tup [.str a6]) (.tup [.str b1]) (.tup [.str a9]) (.tup [.str a7]) (λL=>.tup [.str c3,.ref<|Z.cA L]) (λU=>.tup [.str a4,fC U]) (λ_ g=>.tup [.str cx,g]) (λF _ L g=>bif F then .tup [.str cv,g,.ref<|Z.cA L]else .tup [.str cy,g,.ref<|Z.cA L]) (λ_ _ g S=>.tup [.str ba,g,S]) (λ_ _ g S=>.tup [.str cu,g,S]) w
section
variable(E:aY)
@[simp]theorem abr:aD E (.bc m)=.tup [.str ab,.str m]:=rfl
@[simp]theorem ake{N:bX}{U:jO}:aD E (.d5 N U)=.tup [.str<|ik N,jV U]:=rfl
@[simp]theorem zS{N:bX}{U:dM}:aD E (.gg N U)=.tup [.str<|ik N,.tup [.str a4,fC U]]:=rfl
@[simp]theorem akf:aD E (.fz)=.tup [.str b8]:=rfl
@[simp]theorem abt:aD E (.eG)=.tup [.str a3]:=rfl
@[simp]theorem NI:aD E (.fj)=.tup [.str a6]:=rfl
@[simp]theorem abu:aD E (.fA)=.tup [.str b1]:=rfl
@[simp]theorem abv:aD E (.fail)=.tup [.str a9]:=rfl
@[simp]theorem abw:aD E (.fH)=.tup [.str a7]:=rfl
@[simp]theorem akg{L:bT}:aD E (.iO L)=.tup [.str c3,.ref<|E.cA L]:=rfl
@[simp]theorem abx{U:dM}:aD E (.fM U)=.tup [.str a4,fC U]:=rfl
@[simp]theorem HG{H:aj}:aD E (.de H)=.tup [.str cx,aD E H]:=rfl
@[simp]theorem NJ{H:aj}{L:bT}:aD E (.bZ true H L)=.tup [.str cv,aD E H,.ref<|E.cA L]:=rfl
@[simp]theorem NK{H:aj}{L:bT}:aD E (.bZ false H L)=.tup [.str cy,aD E H,.ref<|E.cA L]:=rfl
@[simp]theorem HH{H:aj}{I:aj}:aD E (.bF H I)=.tup [.str ba,aD E H,aD E I]:=rfl
@[simp]theorem HI{H:aj}{I:aj}:aD E (.bU H I)=.tup [.str cu,aD E H,aD E I]:=rfl
end
inductive gJ:aa->Prop|gu {O:Nat}:O<=9->gJ (ao O)|cW:gJ<|.str a0|fL {K:Str}:K.length<=4->(∀M∈K.cps.toList,M=97\/M=98\/M=40\/M=41)->gJ (.str K)
section
variable{H J:Nat}{E:ag}{G K:Str}{L I:Nat}
@[simp]theorem akh:f9 .m9 (ao a) (.int 10)=some (ao<|a %10):=rfl
@[simp]theorem aki:lK .qK (ao a) (.int 10)=some (ao<|a/10):=rfl
@[simp]theorem akj:f9 .cV (.int 48) (ao a)=some (ao<|48+a):=rfl
@[simp]theorem akk(w:a<=127):dO .ua [ao a]=af.bg (.str ⟨#[a]⟩):=by change af.dZ (eJ (true&&decide ((a:Int)<128))<|aa.str ⟨#[a]⟩)=_;rw[decide_eq_true<|show(a:Int)<128 by lia];rfl
@[simp]theorem akl:dO .ub [ao a]=af.bg (ao a):=by rfl
def aby(G:Str):G++(⟨#[]⟩:Str)=G:=tA<|by rw[tC];simp
theorem abz(w:I<=9)(L:10<=H):av H (J+1) 16 [ao I] E=some (.ai<|.str<|wW I,E):=by
 obtain R:I/10=0:=by lia
 rw[aO (H:=Ez) rfl rfl];obtain⟨H,rfl⟩:∃N,H=N+2:=⟨H-2,Eq.symm<|iT<|aq aR L⟩;have S:(⟨#[48+I]⟩:Str).length+Str.length ⟨#[]⟩<=4000:=by simp[Str.length]
 simp(disch:=lia) [Ez,jU,(by lia:I %10=I),R,S,aby,wW]
@[simp]theorem akm{P:bu}{H:Nat}{G:Str}:vq P f H a q j (.str G)=af.aN (af.dZ<|lL<|.str G) λY=>jT P f H a q Y j:=rfl
theorem abA:av H (J+1) 14 [.int 1,.int 64] E=some (.ai<|.bool true,E):=by rw[aO (H:=Ey) rfl rfl];obtain R:f9 .vU (.int 1) (.int 63)=some (.int<|2^63):=rfl;simp[Ey,show f9 .cg (.int 64) (.int 1)=some (.int 63)from rfl,R]
def abB:av H (J+2) 15 [.str a0,.int 64] E=some (.ai<|ao 1,E):=by
 rw[aO (H:=sH) rfl rfl];conv=>lhs;simp[sH,(by simp[lL]:lL (.str a0)=some [.str a0]),(show∀E,jE (.str a0) (.int 0) E=some (.ai<|.str a0,E)from λ_=>by rfl),show qP a0 ⟨#[43,45]⟩=some false from rfl,(show∀E,dO .aZ [.str a0] E=some (.ai<|.int 1,E)from λ_=>by rfl),(by decide:ye a0 ⟨#[48]⟩=false),(by decide:ye ⟨#[57]⟩ a0=false),show f9 .oU (.int 10) (.int 0)=some (.int 0)from rfl,(show∀E,dO .t9 [.str a0] E=some (.ai<|.int 49,E)from λ_=>rfl),show f9 .cV (.int 0) (.int 49)=some (.int 49)from rfl,show f9 .cg (.int 49) (.int 48)=some (.int 1)from rfl,rX,abA]
 rfl
def abC:av H (J+1) 15 [.str ⟨#[]⟩,.int 64] E=some (.ai<|ao 0,E):=by rw[aO (H:=sH) rfl rfl];simp[sH,ao]
theorem NL(w:0<G.length):qP (cF G 0 1) K=some (lX G 0 K):=zR w
def NM(w:∀M∈G.cps.toList,M=97\/M=98\/M=40\/M=41):lL (.str G)=some (G.cps.toList.map λM=>.str ⟨#[M]⟩):=by
 have:G.cps.all λM=>decide<|M<128=true:=by show amk.mpr ?_;intro g V;have:=w g<|Au.mpr V;clear V;rcases this with rfl|rfl|rfl|rfl<;>rfl
 unfold lL;simp only[this,if_true]
theorem abD(F:G.length<=4)(W:∀M∈G.cps.toList,M=97\/M=98\/M=40\/M=41)(I:0<G.length):av H (J+1) 15 [.str G,.int 64] E=some (.ai .none,E):=by
 rw[aO (H:=sH) rfl rfl];obtain⟨M,L,w⟩:∃M L,G.cps.toList=M::L:=by
  rcases Y:G.cps.toList with _|⟨M,L⟩;·simp only[rM,Y]at I;contradiction
  ·show qR M L rfl
 have K:=W M<|w▸cY;have g:(G==(⟨#[]⟩:Str))=false:=by rw[beq_eq_false_iff_ne];intro Y;rw[Y]at I;contradiction
 have S:G.cps[0]?=some M:=by rw[<-Array.getElem?_toList,w];rfl
 have R:lX G 0 ⟨#[43,45]⟩=false:=by unfold lX;rw[S];clear S;rcases K with rfl|rfl|rfl|rfl<;>rfl
 have V:dK .fQ (ao G.length) (.int 64) E=some false:=by change some (decide<|(64:Int)<(G.length:Int))=_;rw[decide_eq_false<|by lia]
 obtain O:ye ⟨#[M]⟩ ⟨#[48]⟩=true\/ye ⟨#[M]⟩ ⟨#[48]⟩=false/\ye ⟨#[57]⟩ ⟨#[M]⟩=true:=by clear S;rcases K with rfl|rfl|rfl|rfl<;>decide
 rcases O with O|⟨O,N⟩;·simp(disch:=lia) [sH,w▸NM W,g,R,V,O,NL,rX]
 ·simp(disch:=lia) [sH,w▸NM W,g,R,V,O,N,NL,rX]
def abE:av H (J+1) 17 [ao I,.int 64] E=some (.ai<|ao I,E):=by rw[aO (H:=yv) rfl rfl];simp[yv]
def HJ(w:av H J 15 [.str G,.int 64] E=some (.ai d,E)):av H (J+1) 17 [.str G,.int 64] E=some (.ai d,E):=by rw[aO (H:=yv) rfl rfl];simp[yv,w]
def NN(w:I<=9)(L:10<=H):av H (J+2) 18 [ao I] E=some (.ai<|.str<|wW I,E):=by rw[aO (H:=yw) rfl rfl];simp[yw,abz w L]
def zT:av H (J+1) 18 [.str G] E=some (.ai<|.str G,E):=by rw[aO (H:=yw) rfl rfl];simp[yw]
@[simp]theorem akn:iH (ao I)=false:=rfl
theorem CR(w:av H J 18 [d] E=some (.ai<|.str G,E)):av H (J+1) 19 [d] E=some (.ai<|.str G,E):=by rw[aO (H:=EA) rfl rfl];simp[EA,w]
def vx:rE->ag->Option (aI aa×ag)|.ai K,E=>some (.ai<|jV K,E)|.dG I,E=>some (.cR I,E)|.iD,_=>none
def abF(T:gJ d)(L:10<=H):av H (J+4) 22 [d,.str m] E=vx (oy d) E:=by rw[aO (H:=wi) rfl rfl];induction T with| @gu I V=>simp[wi,CR<|NN V L];simp[wW,ao,oy,vx,jV]|cW=>simp[wi,CR zT];rfl| @fL G w W=>
by_cases g:G=⟨#[]⟩;·subst g;simp[wi,CR zT];rfl
·simp[wi,CR zT,oy,g,vx,jV]
end
@[simp high]theorem ako:((0:Nat)==0)=true:=rfl
@[simp high]theorem akp:((1:Nat)==1)=true:=rfl
@[simp high]theorem akq:((2:Nat)==2)=true:=rfl
@[simp high]theorem akr:((3:Nat)==3)=true:=rfl
@[simp high]theorem aks:((4:Nat)==4)=true:=rfl
@[simp high]theorem akt:((5:Nat)==5)=true:=rfl
@[simp high]theorem aku:((6:Nat)==6)=true:=rfl
@[simp high]theorem akv:((7:Nat)==7)=true:=rfl
@[simp high]theorem akw:((8:Nat)==8)=true:=rfl
@[simp high]theorem akx:((9:Nat)==9)=true:=rfl
@[simp high]theorem aky:((10:Nat)==10)=true:=rfl
@[simp high]theorem akz:((11:Nat)==11)=true:=rfl
@[simp high]theorem akA:((12:Nat)==12)=true:=rfl
@[simp high]theorem akB:((13:Nat)==13)=true:=rfl
@[simp high]theorem akC:((14:Nat)==14)=true:=rfl
@[simp high]theorem akD:((15:Nat)==15)=true:=rfl
@[simp high]theorem akE:((16:Nat)==16)=true:=rfl
@[simp high]theorem akF:((17:Nat)==17)=true:=rfl
@[simp high]theorem akG:((18:Nat)==18)=true:=rfl
section
variable(E:ag)(G O J N R:Nat)(K:List<|Nat×aa)(M:List aa)(L:List<|Str×aa)(Q H:aa)(I:Str)
def qz(E:ag)(S:Option c):Option<|aI c×ag:=af.dZ S E
@[simp]theorem akH{H:c}:qz E (some H)=some (.ai H,E):=rfl
def NO(J:Nat)(E:ag)(S:Option aM):=Jj S J E
@[simp]theorem akI:pR (.ref G) J E=NO J E E[G]?:=rfl
@[simp]theorem akJ:NO J E (some<|.bt N K)=qz E (nh K J):=rfl
def NP(O J:Nat)(H:aa)(E:ag)(S:Option aM):=Jo S O J H E
@[simp]theorem zU:nW (.ref G) J H E=NP G J H E E[G]?:=rfl
theorem tL{R:af c}(w:n=true):af.d4 n R=R:=by subst w;rfl
def jk(w:K.length<=900):NP O J H E (some<|.bt N K)=some (.ai (),E.set O<|.bt N<|lq J H K):=congrFun (tL<|Nat.ble_eq_true_of_le w) E
def NQ(P:bu)(R:Nat)(E:ag)(S:Option aM):=JM P S R E
@[simp]theorem akK{P:bu}:wb P (.ref G) R E=NQ P R E E[G]?:=rfl
@[simp]theorem akL{P:bu}:NQ P R E (some<|.bt N K)=qz E (P.iV N R):=rfl
def HK(G:Nat)(Q:aa)(E:ag)(S:Option aM):=JC S G Q E
@[simp]theorem NR:dO .dj [.ref G,Q] E=HK G Q E E[G]?:=rfl
@[simp]theorem abG:nY (.ref G) Q E=HK G Q E E[G]?:=rfl
theorem jl(w:M.length+1<=16000000):HK G Q E (some<|.list M)=some (.ai .none,E.set G<|.list<|M++[Q]):=congrFun (tL<|kB w) E
def NS(G:Nat)(E:ag)(S:Option aM):=JD S G E
@[simp]theorem abH:dO .G [.ref G] E=NS G E E[G]?:=rfl
theorem CS(w:M.length+1<=16000000):NS G E (some<|.list<|M++[Q])=some (.ai Q,E.set G<|.list M):=by
 obtain g:eN (M++[Q]).length=true:=by rw[List.length_append];show kB w
 change af.d4 (eN (M++[Q]).length) _ E=_;rw[tL g,List.getLast?_concat,List.dropLast_concat];rfl
def CT(E:ag)(S:Option aM):=Jr S E
@[simp]theorem abI:dO .aZ [.ref G] E=CT E E[G]?:=rfl
theorem jW(w:M.length<=16000000)(E:ag):CT E (some<|.list M)=some (.ai<|ao M.length,E):=congrFun (tL<|kB w) E
def xr(E:ag)(S:Option aM):=JN S E
@[simp]theorem akM:mD .dj (.ref G) E=xr E E[G]?:=rfl
@[simp]theorem abJ:mD .G (.ref G) E=xr E E[G]?:=rfl
@[simp]theorem akN:mD .qL (.ref G) E=xr E E[G]?:=rfl
@[simp]theorem akO:mD .Y (.ref G) E=xr E E[G]?:=rfl
@[simp]theorem akP:mD .nf (.ref G) E=xr E E[G]?:=rfl
def NT(E:ag)(S:Option aM):=JO S E
@[simp]theorem akQ:mD .gW (.ref G) E=NT E E[G]?:=rfl
@[simp]theorem akR:xr E (some<|.list M)=some (.ai (),E):=rfl
@[simp]theorem akS:NT E (some<|.dict L)=some (.ai (),E):=rfl
def HL(E:ag)(S:Option aM):=Jt S E
@[simp]theorem akT:dO .W [.ref G] E=HL E E[G]?:=rfl
@[simp]theorem akU:dO .Q [.ref G] E=HL E E[G]?:=rfl
@[simp]theorem akV:HL E (some<|.bt N K)=some (.ai<|.bool false,E):=rfl
def NU(N:Nat)(E:ag)(S:Option aM):=Jx S N E
@[simp]theorem akW:dO (.R N) [.ref G] E=NU N E E[G]?:=rfl
@[simp]theorem akX:NU N E (some<|.bt a K)=some (.ai<|.bool<|a==N,E):=rfl
def NV(I:Str)(Y:aa)(E:ag)(S:Option aM):=JH S I Y E
@[simp]theorem akY:dO .gW [.ref G,.str I,d] E=NV I d E E[G]?:=rfl
@[simp]theorem akZ:NV I d E (some<|.dict L)=some (.ai<|(nj I L).getD d,E):=rfl
def NW(K:Str)(S:Option aM):=D7 S K
@[simp]theorem ak0:dK .jD (.str m) (.ref G) E=NW m E[G]?:=rfl
@[simp]theorem ak1:NW m (some<|.list M)=jo m M:=rfl
def HM(O:Nat)(I:Str)(H:aa)(E:ag)(S:Option aM):=Jn S O I H E
@[simp]theorem ak2:sD (.ref G) (.str I) H E=HM G I H E E[G]?:=rfl
theorem NX(w:L.length<=1000):HM O I H E (some<|.dict L)=some (.ai (),E.set O<|.dict<|oX I H L):=congrFun (tL<|Nat.ble_eq_true_of_le w) E
def CU(O:Nat)(G:Int)(H:aa)(E:ag)(S:Option aM):=D8 S O G H E
@[simp]theorem ak3:sD (.ref G) (.int p) H E=CU G p H E E[G]?:=rfl
def NY(O:Nat)(g:Nat)(H:aa)(E:ag)(S:Option aM):=D8 S O g H E
@[simp]theorem ak4:sD (.ref G) (ao a) H E=NY G a H E E[G]?:=rfl
theorem CV(g:Nat)(w:g<M.length)(W:g<=4000):NY O g H E (some<|.list M)=some (.ai (),E.set O<|.list<|M.set g H):=by change af.d4 (j2 (g:Int)&&Nat.blt g M.length) (af.mB O (.list<|M.set g H) ()) E=_;rw[vv W,show Nat.blt g M.length=true from Nat.ble_eq_true_of_le w];rfl
def NZ(I:Str)(E:ag)(S:Option aM):=Jk S I E
@[simp]theorem ak5:jE (.ref G) (.str I) E=NZ I E E[G]?:=rfl
@[simp]theorem ak6:NZ I E (some<|.dict L)=qz E (nj I L):=rfl
def la(G:Int)(E:ag)(S:Option aM):=AN S G E
@[simp]theorem HN:jE (.ref G) (.int p) E=la p E E[G]?:=rfl
@[simp]theorem vy:jE (.ref G) (ao a) E=la a E E[G]?:=rfl
theorem mT(O:Nat)(W:O<=4000)(E:ag):la O E (some<|.list M)=qz E M[O]?:=by change af.dZ (bif j2 (O:Int)then M[O]?else none) E=_;rw[vv W];rfl
def HO(J:Nat)(R:aa)(K:List<|Nat×aa)(N:Bool):Option aa:=bif N then some R else nh K J
@[simp]theorem ak7:HO J d K true=some d:=rfl
@[simp]theorem ak8:HO J d K false=nh K J:=rfl
@[simp]theorem ak9:nh ((a,d)::K) J=HO J d K (a==J):=rfl
@[simp]theorem ala:lq J H []=[(J,H)]:=rfl
def HP(J:Nat)(H:aa)(O:Nat)(R:aa)(K:List<|Nat×aa)(N:Bool):List<|Nat×aa:=bif N then(O,H)::K else(O,R)::lq J H K
@[simp]theorem alb:HP J H a d K true=(a,H)::K:=rfl
@[simp]theorem alc:HP J H a d K false=(a,d)::lq J H K:=rfl
@[simp]theorem ald:lq J H ((a,d)::K)=HP J H a d K (a==J):=rfl
def HQ(I:Str)(R:aa)(L:List<|Str×aa)(N:Bool):Option aa:=bif N then some R else nj I L
@[simp]theorem ale:HQ I d L true=some d:=rfl
@[simp]theorem alf:HQ I d L false=nj I L:=rfl
@[simp]theorem alg:nj I ((m,d)::L)=HQ I d L (eY m I):=rfl
@[simp]theorem alh:nj I []=none:=rfl
def HR(I:Str)(H:aa)(O:Str)(R:aa)(L:List<|Str×aa)(N:Bool):List<|Str×aa:=bif N then(O,H)::L else(O,R)::oX I H L
@[simp]theorem ali:HR I H m d L true=(m,H)::L:=rfl
@[simp]theorem alj:HR I H m d L false=(m,d)::oX I H L:=rfl
@[simp]theorem alk:oX I H ((m,d)::L)=HR I H m d L (eY m I):=rfl
@[simp]theorem alm:oX I H []=[(I,H)]:=rfl
end
@[simp]theorem aln{H I:Array Nat}:((⟨H⟩:Str)=⟨I⟩)=(H.toList=I.toList):=by
 apply propext;constructor;·intro w;cases w;rfl
 ·intro w;rw[Array.toList_inj.mp w]
def dQ(w:e≠a):(b.set e s)[a]?=b[a]?:=List.getElem?_set_ne w
def dY(w:a<b.length):(b.set a s)[a]?=some s:=by rw[List.getElem?_set_self w]
def gj(w:a<b.length):(b++[s])[a]?=b[a]?:=sm w
theorem eL:(b++[s])[b.length]?=some s:=by rw[List.getElem?_append_right aH,Nat.sub_self];rfl
def bC(w:b[a]?=some s):a<b.length:=(eD.mp w).1
structure bj(X:List Nat)(g w:ag):Prop where
aZ:g.length<=w.length
gW:∀J,J<g.length->J∉X->w[J]?=g[J]?
def bj.rfl:bj h b b:=⟨aH,λ_ _ _=>Eq.refl _⟩
def bj.aC{F:ag}(H:bj h b u)(I:bj h u F):bj h b F:=⟨aq H.aZ I.aZ,λJ S V=>(I.gW J (eI S H.aZ) V).trans<|H.gW J S V⟩
def bj.cZ(H:bj h b u)(w:∀J∈h,J<b.length->J∈C):bj C b u:=⟨H.aZ,λJ S Y=>H.gW J S λV=>Y<|w J V S⟩
def bj.at(H:bj h b u)(w:b[a]?=some s)(V:a∉h):u[a]?=some s:=(H.gW a (bC w) V).trans w
def eC(w:a∈h):bj h b<|b.set a s:=⟨by simp,λJ _ V=>dQ λY=>V<|Y▸w⟩
def fp:bj h b<|b++[s]:=⟨by simp,λ_ U _=>gj U⟩
structure cQ where
e:Nat
m:Nat
k:Nat
q:Nat
s:Nat
structure jX(w:cQ)(Z:aY):Prop where
x:w.e≠w.m
A:w.e≠w.k
I:w.e≠w.q
CW:w.e≠w.s
zV:w.m≠w.k
CX:w.m≠w.q
abK:w.m≠w.s
abL:w.k≠w.q
abM:w.k≠w.s
abN:∀N,w.e≠Z.cA N
N0:∀N,w.m≠Z.cA N
abO:∀N,w.k≠Z.cA N
def nP(X:bT×aa):aa:=.tup [.str<|c7 X.1,X.2]
def gS(w:cQ)(J:Nat):aM:=.bt 8 [(14,.ref w.m),(15,.int 1000000000),(16,.ref w.q),(17,ao J),(18,.ref w.k)]
def pE(w:cQ)(E:aS)(V:ay):aM:=.dict [(b2,ao E.wU),(a8,.str E.wV),(aT,V.iZ),(ck,V.fX),(a5,V.jw),(cm,.ref w.s)]
structure bJ(w:cQ)(Z:aY)(E:aS)(V:ay)(J:Nat)(g:ag):Prop where
e:g[w.e]?=some (gS w J)
m:g[w.m]?=some (pE w E V)
k:g[w.k]?=some (.list<|V.bx.map nP)
q:g[w.q]?=some (.list<|if E.uZ then [.str a5]else [])
s:g[w.s]?=some (.bt 3 [(1,aD Z E.l)])
eK:∀N,g[Z.cA N]?=some (.bt 5 [(3,.str c4),(4,.none),(5,.str<|c7 N)])
section
variable{E:cQ}{K:aY}{G:aS}{H:ay}{L:Nat}{I J:ag}
def bJ.aF(w:bJ E K G H L I)(N:bj h I J)(F:E.e∉h)(W:E.m∉h)(M:E.k∉h)(O:E.q∉h)(P:E.s∉h)(Q:∀N,K.cA N∉h):bJ E K G H L J:=⟨N.at w.e F,N.at w.m W,N.at w.k M,N.at w.q O,N.at w.s P,λg=>N.at (w.eK g)<|Q g⟩
def bJ.lb(w:bJ E K G H L I)(S:aM):bJ E K G H L<|I++[S]:=w.aF (h:=[]) fp (by simp) (by simp) (by simp) (by simp) (by simp)<|by simp
variable{M N:Nat}
theorem N1(P:jX E K)(w:bJ E K G H L I)(U:L+1<=1000000000):zk (λJ=>av M (N+1) 63 [.ref E.e] I=some (.ai .none,J)) (λJ=>bJ E K G H (L+1) J) λJ=>bj [E.e] I J:=by
 obtain O:=bC w.e;show⟨I.set E.e<|gS E<|L+1, ?_, ?_,eC<|by show cY⟩
 ·rw[aO (H:=E1) rfl rfl];obtain g:∀I,dK .fQ (ao<|L+1) (.int 1000000000) I=some false:=λ_=>by change some (decide<|(1000000000:Int)<((L+1:Nat):Int))=_;rw[decide_eq_false<|by lia]
  simp(disch:=first|lia|exact Nat.le_of_ble_eq_true rfl) [-getElem?_pos,E1,w.e,gS,jk,dY,g]
 ·show⟨dY O,(dQ P.x).trans w.m,(dQ P.A).trans w.k,(dQ P.I).trans w.q,(dQ P.CW).trans w.s,λF=>(dQ<|P.abN F).trans<|w.eK F⟩
def alo{N I:bT}(w:N≠I):c7 N≠c7 I:=by induction N using bT.casesOn<;>induction I using bT.casesOn<;>first|show absurd rfl w|decide
def abP(J:Nat)(N:bT)(Q:aa):HM J (c7 N) Q I (some<|pE E G H)=some (.ai (),I.set J<|pE E G<|H.u0 N Q):=by induction N using bT.casesOn<;>show NX _ _ _ _ _<|j0 rfl
theorem CY(O:jX E K)(w:bJ E K G H L I)(g:bT)(Q:aa)(F:H.bx.length+1<=16000000):zk (λJ=>av M (N+1) 62 [.ref E.e,.ref<|K.cA g,Q] I=some (.ai<|.bool (hZ G g Q H).isSome,J)) (λJ=>bJ E K G ((hZ G g Q H).getD H) L J) λJ=>bj [E.m,E.k] I J:=by
 obtain Z:=(by intro G g;induction G.uZ<;>induction g using bT.casesOn<;>rfl:∀{G:aS}(g:bT),jo (c7 g) (if G.uZ then [.str a5]else [])=some (G.uZ&&g==bT.C)) (G:=G) g;obtain T:=O.x;obtain U:=O.zV;obtain V:=O.N0 g;rw[aO (H:=Bb) rfl rfl];unfold hZ;induction Y:G.uZ&&g==bT.C
 ·rw[Y]at Z;show⟨(I.set E.m<|pE E G {H.u0 g Q with bx:=H.bx++[(g,Q)]}).set E.k<|.list<|H.bx.map nP++[nP (g,Q)], ?_, ?_, ?_⟩
  ·obtain S:(H.bx.map nP).length+1<=16000000:=by simpa using F
   obtain R:pE E G {H.u0 g Q with bx:=H.bx++[(g,Q)]}=pE E G (H.u0 g Q):=rfl;simp(disch:=first|lia|exact Nat.le_of_ble_eq_true rfl) [-getElem?_pos,Bb,w.e,w.eK,w.m,w.k,w.q,Z,gS,abP,dQ,jl,S,R,nP]
  ·show⟨?_, ?_, ?_, ?_, ?_,λP=> ?_⟩;·rw[dQ<|Ne.symm O.A,dQ<|Ne.symm O.x];show w.e
   ·show(dQ<|Ne.symm O.zV).trans<|dY<|bC w.m
   ·rw[dY<|by simpa using bC w.k];simp
   ·rw[dQ O.abL,dQ O.CX];show w.q
   ·rw[dQ O.abM,dQ O.abK];show w.s
   ·rw[dQ<|O.abO P,dQ<|O.N0 P];show w.eK P
  ·show(eC<|by simp).aC<|eC<|by simp
 ·rw[Y]at Z;show⟨I, ?_,w,bj.rfl⟩;simp(disch:=first|lia|exact Nat.le_of_ble_eq_true rfl) [-getElem?_pos,Bb,w.e,w.eK,w.m,w.k,w.q,Z,gS]
end
structure fD(E:aS):Prop where
aZ:E.f.length<=4
bc:∀M∈E.f.cps.toList,M=97\/M=98\/M=40\/M=41
wU:E.wU<=9
wV:gJ<|.str E.wV
structure oG(V:ay):Prop where
iZ:gJ V.iZ
fX:gJ V.fX
jw:gJ V.jw
def tM(N:bX):jO->Prop|.gu O=>N.rC=true/\O<=9|.fL _=>N.rC=false
@[simp]theorem alp:aw.iV 8 13=some 61:=rfl
@[simp]theorem alq:aw.iV 8 14=some 62:=rfl
@[simp]theorem alr:aw.iV 8 15=some 63:=rfl
@[simp]theorem als:lu aw f 2 [] b=some (.ai<|.ref b.length,b++[.bt 2 []]):=rfl
section
variable{J:cQ}{M:aY}{G:aS}{H:ay}{O:Nat}{E Q:ag}{I L N:Nat}{K:Str}
theorem abQ(H:K.length<=4)(W:N<=K.length)(G:10<=I){F:bX}{U:jO}(w:tM F U):av I (L+3) 43 [.str<|ik F,.str K,ao N,jV U] E=some (.ai<|fB<|gO K N F U,E):=by
 rw[aO (H:=nx) rfl rfl];rcases U with O|U
 ·obtain g:=w.1;obtain V:=w.2;induction F using bX.casesOn<;>simp[bX.rC]at g;·simp[nx,ik,jV,abd H (show O<=1000 by lia)<|show N<=4 by lia]
  ·simp[nx,ik,jV,abe (E:=K)]
  ·simp[nx,ik,jV,abf H W]
  ·simp[nx,ik,jV,abg H W]
  ·simp[nx,ik,jV,abh H W]
 ·induction F using bX.casesOn<;>simp[bX.rC,tM]at w;·simp[nx,ik,jV,abl H]
  ·simp[nx,ik,jV,abm H]
  ·simp[nx,ik,jV,abo H W G]
  ·simp[nx,ik,jV,abp H W G]
theorem abR(H:K.length<=4)(W:N<=K.length)(g:m.length<=1000):av I (L+2) 43 [.str ab,.str K,ao N,.str m] E=some (.ai<|fB<|jh K N m,E):=by rw[aO (H:=nx) rfl rfl];simp[nx,abc H g<|show N<=4 by lia-abstractProof]
def CZ(H:K.length<=4)(W:N<=K.length)(G:10<=I){F:bX}{U:jO}(w:tM F U):av I (L+4) 44 [aD M<|.d5 F U,.str K,ao N] E=some (.ai<|fB<|gO K N F U,E):=by
 rw[aO (H:=uw) rfl rfl];obtain g:(ik F==b8)=false:=by induction F using bX.casesOn<;>rfl
 simp[uw,g,abQ H W G w]
def N2(H:K.length<=4)(W:N<=K.length)(g:m.length<=1000):av I (L+3) 44 [aD M<|.bc m,.str K,ao N] E=some (.ai<|fB<|jh K N m,E):=by rw[aO (H:=uw) rfl rfl];simp[uw,abR H W g]
def N3(H:K.length<=4):av I (L+2) 44 [.tup<|.str b8::i,.str K,ao N] E=some (.ai<|ao K.length,E):=by rw[aO (H:=uw) rfl rfl];simp[uw,abi H]
def fO(J:cQ)(G:aS)(H:ay)(U:dM)(E:ag):aa×ag:=match fY G H U with|.v g=>(g,E)|.Gh=>(.ref J.s,E)|.iD=>(.ref E.length,E++[.bt 2 []])
def C0(w:bJ J M G H O E)(U:dM):av I (L+1) 61 [.ref J.e,fC U] E=some (.ai (fO J G H U E).1,(fO J G H U E).2):=by rw[aO (H:=E0) rfl rfl];induction U using dM.casesOn<;>simp[E0,fC,fO,fY,w.e,w.m,gS,pE];rfl
def vz{U:dM}:bj h E (fO J G H U E).2:=by
 unfold fO;split;·show bj.rfl
 ·show bj.rfl
 ·show fp
def N4(w:bJ J M G H O E){U:dM}:bJ J M G H O (fO J G H U E).2:=w.aF (h:=[]) vz (by simp) (by simp) (by simp) (by simp) (by simp)<|by simp
noncomputable def N5(G:wX):Option aa:=wX.casesOn G none none some
def vA(L:fD G)(F:oG H){U:dM}(w:fY G H U=.v d):gJ d:=by
 induction U using dM.casesOn<;>first|show bQ<|congrArg N5 w|obtain rfl:=bO<|congrArg N5 w
 ·show .gu L.wU
 ·show L.wV
 ·show F.iZ
 ·show .fL (vQ _)<|by decide
def C1(K:fD G)(F:oG H)(w:bJ J M G H O E)(U:dM):av I (L+1) 13 [(fO J G H U E).1] (fO J G H U E).2=some (.ai<|.bool<|match fY G H U with|.iD=>true|_=>false,(fO J G H U E).2):=by
 rw[aO (H:=yu) rfl rfl];unfold fO;rcases T:fY G H U with _|_|g;·simp[yu]
 ·simp[yu,w.s]
 ·induction vA K F T<;>simp[yu]
def N6(g:10<=I)(T:gJ d):av I (L+3) 25 [d] E=some (.ai<|aD M<|.bc<|j6 d,E):=by rw[aO (H:=uv) rfl rfl];induction T with|gu V=>simp[uv,NN V g];rfl|cW=>simp[uv,zT,j6]|fL _ _=>simp[uv,zT,j6]
def N7(w:bJ J M G H O E):av I (L+1) 25 [.ref J.s] E=some (.ai<|aD M G.l,E):=by rw[aO (H:=uv) rfl rfl];simp[uv,w.s]
def C2(w:∀E,dO .O [d] E=some (.ai<|.bool n,E)):av I (L+1) 26 [d] E=some (.ai<|.bool n,E):=by rw[aO (H:=ED) rfl rfl];simp[ED,w]
theorem HS(U:jO)(E:ag):dO .O [jV U] E=some (.ai<|.bool false,E):=by induction U<;>rfl
def N8(V:jo m [.str b3,.str b4,.str b5,.str b6,.str b7]=some n)(g:jo m [.str b9,.str cb,.str cj,.str ct]=some (!n))(w:av I (L+1) 26 [d] E=some (.ai<|.bool false,E)):av I (L+2) 27 [.tup [.str m,d],v] E=some (.ai<|.tup [.str m,d],E):=by rw[aO (H:=pW) rfl rfl];induction n<;>simp[pW,V,g,w]
def abS{N:bX}{U:jO}:av I (L+2) 27 [aD M<|.d5 N U,.ref J.e] E=some (.ai<|aD M<|.d5 N U,E):=by induction N using bX.casesOn<;>first|show N8 (n:=true) rfl rfl<|C2<|HS U|show N8 (n:=false) rfl rfl<|C2<|HS U
def N9{K:Str}(H:jo K [.str b3,.str b4,.str b5,.str b6,.str b7]=some false) (W:jo K [.str b9,.str cb,.str cj,.str ct]=some false):av I (L+2) 27 [.tup<|.str K::i,.ref J.e] E=some (.ai<|.tup<|.str K::i,E):=by rw[aO (H:=pW) rfl rfl];simp[pW]at H W⊢;simp[H,W]
def abT(G:aa):nJ G≠.iD:=by
 unfold nJ;split;·simp
 ·split;·simp
  ·split<;>simp
 ·simp
def abU(G:aa):oy G≠.iD:=by
 unfold oy;split;·simp
 ·split<;>simp
 ·simp
def C3(M:aY)(J:cQ)(G:aS)(H:ay)(N:bX)(U:dM)(E:ag):Option<|aI aa×ag:=match mL G H N U with|.iD=>some (.ai .none,(fO J G H U E).2)|.dG O=>some (.cR O,(fO J G H U E).2)|.ai g=>some (.ai<|aD M<|.d5 N g,(fO J G H U E).2)
def C4(N:Str)(Y:rE)(E:ag):Option<|aI aa×ag:=match Y with|.ai U=>some (.ai<|.tup [.str N,jV U],E)|.dG O=>some (.cR O,E)|.iD=>none
section
variable{S:Str}{U:Bool}{R:dM}(Y:fD G)(V:oG H)(WL:10<=I)(T:bJ J M G H O E)(X:jo S [.str b3,.str b4,.str b5,.str b6,.str b7]=some U)(Z:jo S [.str b9,.str cb,.str cj,.str ct]=some (!U))
include Y V WL T X Z
theorem abV(g:fY G H R=.iD):av I (L+5) 27 [.tup [.str S,.tup [.str a4,fC R]],.ref J.e] E=some (.ai .none,(fO J G H R E).2):=by rw[aO (H:=pW) rfl rfl];induction U<;>simp[pW,C2 (I:=I) (L:=L+3) (E:=E) (d:=.tup [.str a4,fC R]) (n:=true) λ_=>rfl,C0 (I:=I) (L:=L+3) T R,g▸C1 (I:=I) (L:=L+3) Y V T R,T.e,gS,X,Z]
theorem Oa(P:fY G H R=.v d):av I (L+5) 27 [.tup [.str S,.tup [.str a4,fC R]],.ref J.e] E=C4 S (bif U then nJ d else oy d) E:=by
 rw[aO (H:=pW) rfl rfl];obtain g:=C2 (I:=I) (L:=L+3) (E:=E) (d:=.tup [.str a4,fC R]) (n:=true) λ_=>rfl;obtain a:=C0 (I:=I) (L:=L+3) T R;obtain f:=C1 (I:=I) (L:=L+3) Y V T R;have M:=vA Y V P;have h:fO J G H R E=(d,E):=by unfold fO;rw[P]
 rw[h]at a f;replace f:=P▸f;rcases U with _|_;·have i:=abF (H:=I) (J:=L) (E:=E) (m:=S) M WL;generalize oy d=w at i⊢;induction w<;>delta vx at i<;>simp[pW,g,a,f,T.e,gS,X,Z,i,C4]
 ·have i:=(by intro _ _ _ _ _ P;rw[aO (H:=wh) rfl rfl];induction P with| @gu O e=>simp[wh,abE];rfl|cW=>simp[wh,HJ abB];rfl| @fL K F W=>
 rcases sy 0<|K.length with c|c
 ·obtain g:K≠⟨#[]⟩:=by intro w;rw[w]at c;contradiction
  obtain a:K≠a0:=by intro w;obtain W:=w▸W;have:=W 49 (by show .head _);lia
  simp[wh,HJ<|abD F W c,nJ,g,a,vx]
 ·have g:K=⟨#[]⟩:=tA<|List.eq_nil_of_length_eq_zero (by show PU c);subst g;simp[wh,HJ abC];rfl:∀{I L:Nat}{E:ag}{Q:aa}{S:Str}(P:gJ Q),av I (L+4) 21 [Q,.str S] E=vx (nJ Q) E) (I:=I) (L:=L) (E:=E) (S:=S) M;generalize nJ d=w at i⊢;induction w<;>delta vx at i<;>simp[pW,g,a,f,T.e,gS,X,i,C4]
end
def Ob{N:bX}{Y:rE}(R:Y≠.iD):C4 (ik N) Y E=match(generalizing:=false) Y with|.iD=>some (.ai .none,b)|.dG O=>some (.cR O,E)|.ai g=>some (.ai<|aD M<|.d5 N g,E):=by induction Y with|iD=>contradiction|_=>rfl
def Oc(K:fD G)(F:oG H)(Q:10<=I)(w:bJ J M G H O E){N:bX}{U:dM}(P:U≠.P):av I (L+5) 27 [aD M<|.gg N U,.ref J.e] E=C3 M J G H N U E:=by
 delta C3 mL;rcases T:fY G H U with _|_|g;·induction N using bX.casesOn<;>show abV K F Q w rfl rfl T
 ·show absurd (by induction U using dM.casesOn<;>simp[fY]at T;rfl) P
 ·obtain R:fO J G H U E=(g,E):=by unfold fO;rw[T]
  rw[R];induction N using bX.casesOn;all_goals first|show(Oa K F Q w (U:=true) rfl rfl T).trans<|Ob<|abT g|show(Oa K F Q w (U:=false) rfl rfl T).trans<|Ob<|abU g
end
theorem vB{S:aM}:(b++[S]).set b.length s=b++[s]:=by rw[List.set_append_right _ _ aH,Nat.sub_self];rfl
@[simp]theorem alu{S:Option Nat}:iH (fB S)=S.isNone:=by cases S<;>rfl
@[simp]theorem alv:fB (some a)=ao a:=rfl
@[simp]theorem alw:fB none=.none:=rfl
theorem alx:b.length<(b++[s]).length:=by simp
section
variable{M:cQ}{N:aY}{I:aS}{L:ay}{Q:Nat}{H O:ag}{J K E:Nat}{G:Str}
def C5(G:Str):∀O E,(ji G O E).length<=O:=by intro O;induction O with|zero=>show λE=>aH|succ O S=>
intro E;simp only[BZ];rcases nI G (G.length-E) E 0with _|I;·simp
·have:=S I;simp;show this
theorem Od(g:G.length<=4)(W:E<=G.length)(L:10<=J):av J (K+2) 42 [.str G,ao E] H=some (.ai<|.ref H.length,H++[.list<|(ji G (G.length+1-E) E).map ao]):=by rw[aO (H:=EP) rfl rfl];simp[EP,NH (J:=J) (L:=K) (H:=H++[.list []]) g W L,(by intro H J K _ G _ g L;intro O;induction O with|zero=>intro M F X w;omega|succ O S=>
intro M F X V T P U;show lM (AW (a:=F)<|Nat.lt_of_lt_of_le (Nat.succ_pos _) T) ?_;rintro F rfl;rw[jU];simp only[BZ];rcases Q:nI G (G.length-M) M 0with _|I;·simp
·have:=Gs _ _ _ _ Q;simp(disch:=lia) [-getElem?_pos,eL,jl,vB,NH (J:=J) (L:=K) (H:=H++[.list<|X++[ao I]]) g (show I<=G.length by lia) L,S I F (X++[ao I]) (Nat.le_of_lt_succ<|Nat.lt_of_lt_of_le (Nat.sub_lt_sub_left (Nat.lt_succ_of_le P) this.1) V) (Nat.le_of_succ_le_succ T) (by lia)<|by simp;show gM▸U]:∀{H:ag}{J K E:Nat}{G:Str}(R:Nat)(g:G.length<=4)(L:10<=J),∀O M F(X:List aa),G.length+1-M<=O->O+1<=F->M<=G.length->X.length+O<=100->gi aw (av J<|K+1) R (.o<|.ae 3) [.expr<|.i .dj (.ae 2) [.ae 3],.assign (.ae 3)<|.call 41 [.ae 0,.ae 3]] F [some<|.str G,some<|ao E,some<|.ref H.length,some<|fB<|nI G (G.length-M) M 0] (H++[.list X])=some (.ai (.aK,[some<|.str G,some<|ao E,some<|.ref H.length,some .none]),H++[.list<|X++(ji G O M).map ao])) (K:=K) (E:=E) (H:=H) J g L (G.length+1-E) E J [] aH (j1<|I7<|m6<|xY.mpr<|iq g L<|by simp+arith) W<|by simp;show gU<|cB<|aq g aR]
theorem abW(F:I.f.length<=4)(W:E<=I.aJ):av J (K+1) 40 [.str I.f,ao E] H=some (.ai<|.ref H.length,H++[.list<|(jP I E).map ao]):=by
 rw[aO (H:=EN) rfl rfl];obtain g:∀w,w<=1000->dO .vW [ao E,ao w]=af.ll (.list<|(List.range<|w-E).map λN=>ao<|E+N):=by intro w Q;change af.d4 (decide ((0:Int)<=(E:Int))&&decide ((E:Int)<=1000)&&decide ((0:Int)<=(w:Int))&&decide ((w:Int)<=1000)) (af.ll<|.list<|(List.range ((w:Int)-(E:Int)).toNat).map λ(N:Nat)=>aa.int<|(E:Int)+N)=_;rw[decide_eq_true<|show(E:Int)<=1000from Int.ofNat_le.mpr<|Nat.le_trans W<|Nat.le_trans F aR,decide_eq_true<|show(w:Int)<=1000from Int.ofNat_le.mpr Q];rw[Qn];rfl
 simp(disch:=lia) [EN,g (I.f.length+1)<|Nat.succ_le_succ<|Nat.le_trans F aR,jP,aS.aJ,Function.comp_def]
def abX(g:I.f.length<=4)(W:E<=I.aJ):av J (K+2) 45 [.str a3,.str I.f,ao E,.none] H=some (.ai<|.ref H.length,H++[.list<|(jP I E).map ao]):=by rw[aO (H:=yx) rfl rfl];simp[yx,abW g W]
def abY(g:G.length<=4)(W:E<=G.length)(L:10<=J):av J (K+3) 45 [.str a6,.str G,ao E,.none] H=some (.ai<|.ref H.length,H++[.list<|(ji G (G.length+1-E) E).map ao]):=by rw[aO (H:=yx) rfl rfl];simp[yx,Od g W L]
end
def eh(Z:aY)(H:dF):aa:=.tup<|H.map λX=>.tup [.ref<|Z.cA X.1,.str X.2]
def dR(Z:aY):dU->aa|.bl H=>aD Z H|.lA H J=>.tup [.str ⟨#[101,110,100,32,114,111,117,110,100]⟩,aD Z<|.de H,ao J]|.kr true L J=>.tup [.str ⟨#[101,110,100,32,108,97,116,101,114]⟩,.ref<|Z.cA L,ao J]|.kr false L J=>.tup [.str ⟨#[101,110,100,32,110,111,119]⟩,.ref<|Z.cA L,ao J]
def d9(Z:aY)(F:List dU):aa:=List.rec (motive:=λ_=>aa) .none (λM _ S=>.tup [dR Z M,S]) F
theorem kC{Z:aY}:d9 Z []=.none:=rfl
theorem fZ{Z:aY}{M:dU}{L:List dU}:d9 Z (M::L)=.tup [dR Z M,d9 Z L]:=rfl
def dJ(Z:aY)(R:cX):aa:=.tup [d9 Z R.1,ao R.2.1,eh Z R.2.2]
def nQ(Z:aY):Option cX->aa|none=>.none|some R=>dJ Z R
def cH(Z:aY)(X:List<|Option cX):aM:=.list (X.map<|nQ Z).reverse
def dh(w:aj):Prop:=w.rec (λK=>K.length<=100) (λN U=>tM N U) (λ_ U=>U≠.P) True True True True True True (λ_=>True) (λ_=>True) (λ_ G=>G) (λ_ _ _ G=>G) (λ_ _ G g=>G/\g) λ_ _ G g=>G/\g
def C6:dU->Prop|.bl H=>dh H|.lA H J=>dh H/\J<=4|.kr _ _ J=>J<=4
abbrev abZ(M:Option<|aI aa×ag)(J:ag)(S:d6):Prop:=S.casesOn False (λ_ _=>False) (M=some (.ai<|.str dk,J)) λO=>M=some (.cR O,J)
abbrev ab0(w:cQ)(Z:aY)(E:aS)(g F:Nat)(M:Option<|aI aa×ag)(J:ag)(L:oz):Prop:=L.casesOn (λR G V=>M=some (.ai<|dJ Z R,J)/\bJ w Z E V g J/\J[F]?=some (cH Z G)) (λG V=>M=some (.ai .none,J)/\bJ w Z E V g J/\J[F]?=some (cH Z G)) λS V=>bJ w Z E V g J/\abZ M J S
def i5(w:cQ)(Z:aY)(E:aS)(G F:Nat)(g:ag)(L:oz)(M:Option<|aI aa×ag):Prop:=∃J,bj [w.m,w.k,F] g J/\ab0 w Z E G F M J L
structure gK(w:cQ)(Z:aY)(F:Nat):Prop where
x:F≠w.e
A:F≠w.m
I:F≠w.k
CW:F≠w.q
zV:F≠w.s
CX:∀N,F≠Z.cA N
@[simp]theorem aly{H:Array Nat}:cF ⟨H⟩ a e=⟨((H.toList.take e).drop a).toArray⟩:=tA<|by rw[tB]
theorem alz(Z:aY)(R:Option cX)(X:List<|Option cX):aM.list ((X.map<|nQ Z).reverse++[nQ Z R])=cH Z (R::X):=by simp[cH]
section
variable{K:cQ}{E:aY}{J:aS}{R:ay}{S H:Nat}{G T:ag}{N O I:Nat}{U:Str}{M:List dU}{L:dF}{Q:List<|Option cX}
def bJ.gq(w:bJ K E J R S G)(g:gK K E H)(F:aM):bJ K E J R S<|G.set H F:=w.aF (h:=[H]) (eC<|by show cY) (by simp[Ne.symm g.x]) (by simp[Ne.symm g.A]) (by simp[Ne.symm g.I]) (by simp[Ne.symm g.CW]) (by simp[Ne.symm g.zV])<|by simp[Ne.symm<|g.CX _]
def vC{g:cX}{F:List<|Option cX}(w:bJ K E J R S G)(I:G[H]?=some (cH E F)):i5 K E J S H G (.dE g F R)<|some (.ai<|dJ E g,G):=kP G bj.rfl rfl w I
def C7{F:cX}{M:Option cX}{N:List<|Option cX}(w:bJ K E J R S G)(g:gK K E H)(I:G[H]?=some (cH E Q))(L:M::Q=N):i5 K E J S H G (.dE F N R)<|some (.ai<|dJ E F,G.set H<|cH E<|M::Q):=kP _ (eC<|by simp) rfl (w.gq g _)<|by rw[dY<|bC I,L]
def dc(N O:Nat)(E:aY)(K:cQ)(J:aS)(g:dU)(M:List dU)(I:Nat)(L:dF)(H:Nat)(G:ag):Option<|aI aa×ag:=av N O 67 [d9 E<|g::M,ao I,eh E L,.str J.f,.ref H,.ref K.e] G
theorem ab1{F P:aj}(w:bJ K E J R S G)(T:G[H]?=some (cH E Q)):i5 K E J S H G (dz J (.bl<|.bF F P) M I L Q R)<|dc N (O+2) E K J (.bl<|.bF F P) M I L H G:=by
 obtain g:=(by intros;rw[aO (H:=pX) rfl rfl];simp[pX,dJ,fZ,dR]:∀{E:aY}{H:Nat}{G:ag}{N O I:Nat}{M:List dU}{L:dF}{F P:aj},av N (O+1) 68 [aD E<|.bF F P,d9 E M,ao I,eh E L,.ref H] G=some (.ai<|dJ E (.bl F::.bl P::M,I,L),G)) (N:=N) (O:=O) (E:=E) (G:=G) (F:=F) (P:=P) (M:=M) (I:=I) (L:=L) (H:=H);simp only[HH]at g;have:dc N (O+2) E K J (.bl<|.bF F P) M I L H G=some (.ai<|dJ E (.bl F::.bl P::M,I,L),G):=by rw[dc,aO (H:=fy) rfl rfl];simp[fy,fZ,dR,g]
 simp only[this];show vC w T
def ab2{F P:aj}(w:bJ K E J R S G)(V:gK K E H)(U:G[H]?=some (cH E Q))(T:Q.length+1<=16000000):i5 K E J S H G (dz J (.bl<|.bU F P) M I L Q R)<|dc N (O+2) E K J (.bl<|.bU F P) M I L H G:=by
 obtain g:=(by intro _ _ _ _ _ _ _ _ _ _ _ U T;rw[aO (H:=pX) rfl rfl];simp[pX,U,cH,jl,T,dJ,fZ,dR,nQ]:∀{E:aY}{H:Nat}{G:ag}{N O I:Nat}{M:List dU}{L:dF}{Q:List<|Option cX}{F P:aj}(U:G[H]?=some (cH E Q))(T:Q.length+1<=16000000),av N (O+1) 68 [aD E<|.bU F P,d9 E M,ao I,eh E L,.ref H] G=some (.ai<|dJ E (.bl F::M,I,L),G.set H<|cH E<|some (.bl P::M,I,L)::Q)) (N:=N) (O:=O) (E:=E) (G:=G) (F:=F) (P:=P) (M:=M) (I:=I) (L:=L) (H:=H) U T;simp only[HI]at g;have:dc N (O+2) E K J (.bl<|.bU F P) M I L H G=some (.ai<|dJ E (.bl F::M,I,L),G.set H<|cH E<|some (.bl P::M,I,L)::Q):=by rw[dc,aO (H:=fy) rfl rfl];simp[fy,fZ,dR,g]
 simp only[this];show C7 w V U rfl
def ab3{F:aj}(w:bJ K E J R S G)(U:gK K E H)(T:G[H]?=some (cH E Q))(P:Q.length+1<=16000000):i5 K E J S H G (dz J (.bl<|.de F) M I L Q R)<|dc N (O+2) E K J (.bl<|.de F) M I L H G:=by
 obtain g:=(by intro _ _ _ _ _ _ _ _ _ _ T P;rw[aO (H:=pX) rfl rfl];simp[pX,T,cH,jl,P,dJ,fZ,dR,nQ]:∀{E:aY}{H:Nat}{G:ag}{N O I:Nat}{M:List dU}{L:dF}{Q:List<|Option cX}{F:aj}(T:G[H]?=some (cH E Q))(P:Q.length+1<=16000000),av N (O+1) 68 [aD E<|.de F,d9 E M,ao I,eh E L,.ref H] G=some (.ai<|dJ E (M,I,L),G.set H<|cH E<|some (.bl F::.lA F I::M,I,L)::Q)) (N:=N) (O:=O) (E:=E) (G:=G) (F:=F) (M:=M) (I:=I) (L:=L) (H:=H) T P;simp only[HG]at g;have:dc N (O+2) E K J (.bl<|.de F) M I L H G=some (.ai<|dJ E (M,I,L),G.set H<|cH E<|some (.bl F::.lA F I::M,I,L)::Q):=by rw[dc,aO (H:=fy) rfl rfl];simp[fy,fZ,dR,g]
 simp only[this];show C7 w U T rfl
theorem ab4{F:aj}{P:bT}(w:bJ K E J R S G)(T:G[H]?=some (cH E Q)):i5 K E J S H G (dz J (.bl<|.bZ n F P) M I L Q R)<|dc N (O+2) E K J (.bl<|.bZ n F P) M I L H G:=by
 obtain g:=(by
  intro _ _ _ _ _ _ _ _ n;intros;rw[aO (H:=pX) rfl rfl];induction n;·have g:(⟨#[101,110,100,32]⟩:Str)++cy=⟨#[101,110,100,32,110,111,119]⟩:=rfl;simp(disch:=first|lia|exact by decide) [pX,dJ,kC,fZ,dR,g]
  ·have g:(⟨#[101,110,100,32]⟩:Str)++cv=⟨#[101,110,100,32,108,97,116,101,114]⟩:=rfl;simp(disch:=first|lia|exact by decide) [pX,dJ,kC,fZ,dR,g]:∀{E:aY}{H:Nat}{G:ag}{N O I:Nat}{M:List dU}{L:dF}{n:Bool}{F:aj}{P:bT},av N (O+1) 68 [aD E<|.bZ n F P,d9 E M,ao I,eh E L,.ref H] G=some (.ai<|dJ E (.bl F::.kr n P I::M,I,L),G)) (N:=N) (O:=O) (E:=E) (G:=G) (n:=n) (F:=F) (P:=P) (M:=M) (I:=I) (L:=L) (H:=H);have:dc N (O+2) E K J (.bl<|.bZ n F P) M I L H G=some (.ai<|dJ E (.bl F::.kr n P I::M,I,L),G):=by
  rw[dc,aO (H:=fy) rfl rfl];induction n;·simp only[NK]at g;simp[fy,fZ,dR,g]
  ·simp only[NJ]at g;simp[fy,fZ,dR,g]
 simp only[this];show vC w T
theorem ab5{F:aj}(w:bJ K E J R S G)(P:G[H]?=some (cH E Q)):i5 K E J S H G (dz J (.lA F a) M I L Q R)<|dc N (O+2) E K J (.lA F a) M I L H G:=by
 obtain g:av N (O+1) 69 [dR E<|.lA F a,d9 E M,ao I,eh E L,.str J.f,.ref H,.ref K.e] G=some (.ai<|if I=a then .none else dJ E (.bl (.de F)::M,I,L),G):=by
  rw[aO (H:=sI) rfl rfl];by_cases Y:I=a;·simp[sI,dR,Y]
  ·simp[sI,dR,Y,dJ,fZ]
 simp only[dR,HG]at g;have:dc N (O+2) E K J (.lA F a) M I L H G=some (.ai<|if I=a then .none else dJ E (.bl (.de F)::M,I,L),G):=by rw[dc,aO (H:=fy) rfl rfl];simp(disch:=first|lia|exact Nat.le_of_ble_eq_true rfl) [fy,kC,fZ,dR,g]
 simp only[this];simp only[dz];rcases pM<|I=a with Y|Y;·simp only[Y];show kP G bj.rfl rfl w P
 ·simp only[Y];show vC w P
def Oe{M:cX}{L:bT}(w:bJ K E J R S G)(g:gK K E H)(I:G[H]?=some (cH E Q))(U:bJ K E J ((hZ J L d R).getD R) S T)(N:bj [K.m,K.k] G T):i5 K E J S H G (qm J L d M Q R)<|some (.ai<|if(hZ J L d R).isSome then dJ E M else .none,T):=by
 obtain V:bj [K.m,K.k,H] G T:=N.cZ (by intro F O _;simp at O⊢;rcases O with rfl|rfl<;>simp);unfold qm;rcases Y:hZ J L d R with _|P;·replace U:=Y▸U;show kP T V rfl U<|N.at I<|by simp[g.A,g.I]
 ·rw[Y]at U;show kP T V rfl U<|N.at I<|by simp[g.A,g.I]
theorem ab6{U:dM}(W:fD J)(F:oG R)(Z:10<=N)(w:bJ K E J R S G)(V:G[H]?=some (cH E Q)):i5 K E J S H G (dz J (.bl<|.fM U) M I L Q R)<|dc N (O+4) E K J (.bl<|.fM U) M I L H G:=by
 obtain P:=C0 (I:=N) (L:=O+2) w U;obtain Y:=C1 (I:=N) (L:=O+2) W F w U;rcases T:fY J R U with _|_|g
 ·obtain Y:=T▸Y;have:dc N (O+4) E K J (.bl<|.fM U) M I L H G=some (.ai .none,(fO K J R U G).2):=by rw[dc,aO (H:=fy) rfl rfl];simp(disch:=first|lia|exact Nat.le_of_ble_eq_true rfl) [fy,kC,fZ,dR,w.e,gS,P,Y]
  rw[this];simp only[dz,kY,T];show kP _ (vz (E:=G) (J:=K) (G:=J) (H:=R) (U:=U) (h:=[K.m,K.k,H])) rfl (N4 w (U:=U))<|(vz (E:=G) (J:=K) (G:=J) (H:=R) (U:=U) (h:=[])).at V<|by simp
 ·have a:fO K J R U G=(.ref K.s,G):=by unfold fO;rw[T]
  rw[T,a]at Y;replace P:=a▸P;have b:=N7 (I:=N) (L:=O+2) w;have:dc N (O+4) E K J (.bl<|.fM U) M I L H G=some (.ai<|dJ E (.bl J.l::M,I,L),G):=by rw[dc,aO (H:=fy) rfl rfl];simp(disch:=first|lia|exact Nat.le_of_ble_eq_true rfl) [fy,kC,fZ,dR,w.e,gS,P,Y,b,dJ]
  rw[this];simp only[dz,kY,T];show vC w V
 ·have a:fO K J R U G=(g,G):=by unfold fO;rw[T]
  rw[T,a]at Y;rw[a]at P;have b:=N6 (I:=N) (L:=O) (M:=E) (E:=G) Z<|vA W F T;have:dc N (O+4) E K J (.bl<|.fM U) M I L H G=some (.ai<|dJ E (.bl (.bc<|j6 g)::M,I,L),G):=by rw[dc,aO (H:=fy) rfl rfl];simp(disch:=first|lia|exact Nat.le_of_ble_eq_true rfl) [fy,kC,fZ,dR,w.e,gS,P,Y,b,dJ]
  rw[this];simp only[dz,kY,T];show vC w V
theorem ab7(w:bJ K E J R S G)(T:gK K E H)(P:G[H]?=some (cH E Q))(F:Q.length+1<=16000000):i5 K E J S H G (dz J (.bl .fA) M I L Q R)<|dc N (O+2) E K J (.bl .fA) M I L H G:=by
 obtain g:av N (O+1) 70 [d9 E<|.bl .fA::M,ao I,eh E L,.ref H] G=some (.ai<|dJ E (M,I,L),G.set H<|cH E<|none::Q):=by rw[aO (H:=uy) rfl rfl];simp[uy,fZ,dR,P,cH,jl,F,dJ,nQ]
 simp only[fZ,dR,abu]at g;have:dc N (O+2) E K J (.bl .fA) M I L H G=some (.ai<|dJ E (M,I,L),G.set H<|cH E<|none::Q):=by rw[dc,aO (H:=fy) rfl rfl];simp(disch:=first|lia|exact Nat.le_of_ble_eq_true rfl) [fy,kC,fZ,dR,g]
 simp only[this];show C7 w T P rfl
end
section
set_option tactic.hygienic true
@[simp]theorem alA:vZ (.ref a) b=AP b[a]? b:=rfl
theorem Of(F:List aa)(w:F.length<=16000000):AP (some<|.list F)=af.bg (.cM (F.drop 1).reverse):=by change af.dZ (eJ (eN F.length) _)=_;rw[kB w];rfl
@[simp]theorem alB:la 0 b (some<|.list<|d::i)=some (.ai d,b):=rfl
section
variable{M:cQ}{E:aY}{G:aS}{R:ay}{S J:Nat}{H T:ag}{N O I:Nat}{U:Str}{L:List dU}{K:dF}{Q:List<|Option cX}
theorem ab8(T:G.f.length<=4)(w:bJ M E G R S H)(U:gK M E J)(P:H[J]?=some (cH E Q))(F:Q.length+1<=16000000):i5 M E G S J H (dz G (.bl .eG) L I K Q R)<|dc N (O+2) E M G (.bl .eG) L I K J H:=by
 obtain g:=(by
 intro _ _ G _ _ _ _ I _ _ _ _ P F;rw[aO (H:=nz) rfl rfl];by_cases Y:I<G.aJ;·have V:I<G.f.length:=Y;simp(disch:=first|lia|(rw[List.length_reverse,List.length_map];exact F)) [-getElem?_pos,nz,Y,V,P,cH,jl,F,dJ,kC,fZ,dR,nQ]
 ·have V:¬I<G.f.length:=Y;simp(disch:=lia) [-getElem?_pos,nz,Y,V,dJ]:∀{M:cQ}{E:aY}{G:aS}{J:Nat}{H:ag}{N O I:Nat}{L:List dU}{K:dF}{Q:List<|Option cX}(T:G.f.length<=4)(P:H[J]?=some (cH E Q))(F:Q.length+1<=16000000),av N (O+1) 71 [aD E .eG,d9 E L,ao I,eh E K,.str G.f,.ref J,.ref M.e] H=some (.ai<|dJ E (L,I,K),if I<G.aJ then H.set J<|cH E<|some (.bl .eG::L,I+1,K)::Q else H)) (N:=N) (O:=O) (E:=E) (H:=H) (M:=M) (L:=L) (I:=I) (K:=K) (J:=J) T P F;simp only[abt]at g;have:dc N (O+2) E M G (.bl .eG) L I K J H=some (.ai<|dJ E (L,I,K),if I<G.aJ then H.set J<|cH E<|some (.bl .eG::L,I+1,K)::Q else H):=by rw[dc,aO (H:=fy) rfl rfl];simp(disch:=first|lia|exact Nat.le_of_ble_eq_true rfl) [fy,kC,fZ,dR,g]
 rw[this];simp only[dz,kY];rcases pM<|I<G.aJ with Y|Y;·simp only[Y];show C7 w U P rfl
 ·simp only[Y];show vC w P
def ab9{H:ag}{I:Nat}(w:H[I]?=some s):H.set I s=H:=by
 apply List.ext_getElem?;intro J;by_cases Y:I=J;·subst Y;rw[dY<|bC w,w]
 ·show dQ Y
def C8(E:aY)(L:List dU)(K:dF):List Nat->aa|[]=>.none|J::_=>dJ E (L,J,K)
theorem aca(l:G.f.length<=4)(i:I<=G.aJ)(n:10<=N)(w:bJ M E G R S H)(q:gK M E J)(j:H[J]?=some (cH E Q))(e:Q.length+10<=16000000):i5 M E G S J H (dz G (.bl .fj) L I K Q R)<|dc N (O+4) E M G (.bl .fj) L I K J H:=by
 obtain g:=Od (J:=N) (K:=O) (H:=H) l (i:I<=G.f.length) n;have Z:=C5 G.f (G.f.length+1-I) I;have o:G.f.length=G.aJ:=rfl;rw[o]at g Z;generalize c:ji G.f (G.aJ+1-I) I=x at g Z;obtain hL4:G.aJ<=4:=l;obtain⟨v,h⟩:=(by intro E J L K F k t X z A B D C;intro U;induction U with|nil=>intro Q H P j e;show⟨P,by simp[ab9 j]⟩|cons Y U b=>
  intro Q H P j e;show lM (b (some (L,Y,K)::Q) (H.set J<|cH E<|some (L,Y,K)::Q) (some<|ao Y) (dY<|bC j)<|by show aq (bP gM) e) λv XN=> ?_;show⟨v, ?_⟩;have g:dw aw F k [.expr<|.i .dj (.ae 5) [.tup [.ae 1,.ae 9,.ae 3]]] [t,some<|d9 E L,X,some<|eh E K,z,some<|.ref J,A,B,D,some<|ao Y,C] H=some (.ai (.aK,[t,some<|d9 E L,X,some<|eh E K,z,some<|.ref J,A,B,D,some<|ao Y,C]),H.set J<|cH E<|some (L,Y,K)::Q):=by simp[j,cH,jl,by show Nat.le_trans (Nat.succ_le_succ bD) e,nQ,dJ]
  simp only[List.map_cons,rX];simp only[List.set_cons_succ,List.set_cons_zero];simp only[oF,g,jS,zQ,XN];simp:∀{E:aY}{J:Nat}{L:List dU}{K:dF}(F:aW)(k:Nat)(t X z A B D:Option aa)(C:Option aa),∀(U:List Nat)(Q:List<|Option cX)(H:ag)(P:Option aa),H[J]?=some (cH E Q)->Q.length+U.length<=16000000->∃v,jT aw F k 9 [.expr<|.i .dj (.ae 5) [.tup [.ae 1,.ae 9,.ae 3]]] (U.map ao) [t,some<|d9 E L,X,some<|eh E K,z,some<|.ref J,A,B,D,P,C] H=some (.ai (.aK,[t,some<|d9 E L,X,some<|eh E K,z,some<|.ref J,A,B,D,v,C]),H.set J<|cH E<|U.reverse.map (λY=>some (L,Y,K))++Q)) (E:=E) (L:=L) (K:=K) (J:=J) (av N<|O+2) N (some<|aD E .fj) (some<|ao I) (some<|.str G.f) (some<|.ref M.e) (some<|.str a6) (some<|.ref H.length) none (x.drop 1).reverse Q (H++[.list<|x.map ao]) none ((gj<|bC j).trans j) (by simp;show aq (i8 (vT<|aq Z<|vT<|gU<|cB<|aq l aR) _) e);obtain m:((x.map ao).drop 1).reverse=((x.drop 1).reverse).map ao:=List.map_drop▸List.map_reverse.symm;have r:(x.map ao).length<=16000000:=by simp;show aq Z<|vT<|gU<|cB<|aq l aR
 obtain y:(H++[aM.list<|x.map ao])[H.length]?=some (.list<|x.map ao):=eL;obtain V:av N (O+3) 71 [aD E .fj,d9 E L,ao I,eh E K,.str G.f,.ref J,.ref M.e] H=some (.ai<|C8 E L K x,(H++[aM.list<|x.map ao]).set J<|cH E<|(x.drop 1).map (λY=>some (L,Y,K))++Q):=by
  rw[aO (H:=nz) rfl rfl];have p:∀a,((H++[aM.list<|x.map ao]).set J a)[H.length]?=some (.list<|x.map ao):=λa=>(dQ<|gL<|bC j).trans y;simp only[NI]at h;have s:AP (some<|aM.list<|x.map ao)=af.bg (.cM<|(x.drop 1).reverse.map ao):=by rw[Of _ r,m]
  clear m;clear Z;rcases x with _|⟨f,T⟩;·simp only[List.drop_nil,List.reverse_nil,List.map_nil]at g h p s y⊢;simp[-getElem?_pos,nz,g,s,h,p,y,jW,C8]
  ·have u:((f::T).map ao).length<=16000000:=r;simp only[List.drop_succ_cons,List.drop_zero,List.map_cons]at g h p s y u⊢;simp only[List.length_cons]at u;simp(disch:=first|lia|(simp only[List.length_cons];exact u)) [-getElem?_pos,-List.map_reverse,-List.length_map,nz,g,s,h,p,y,jW,C8,dJ]
 simp only[NI]at V;have:dc N (O+4) E M G (.bl .fj) L I K J H=some (.ai<|C8 E L K x,(H++[aM.list<|x.map ao]).set J<|cH E<|(x.drop 1).map (λY=>some (L,Y,K))++Q):=by rw[dc,aO (H:=fy) rfl rfl];simp(disch:=first|lia|exact Nat.le_of_ble_eq_true rfl) [fy,kC,fZ,dR,V]
 simp only[this];obtain W:=(w.lb<|.list<|x.map ao).gq q<|cH E<|(x.drop 1).map (λY=>some (L,Y,K))++Q;simp only[dz,kY,c];clear g;clear h;clear m;clear V;clear Z;clear y;clear r;rcases x with _|⟨f,T⟩;·show kP _ (fp.aC<|eC<|by simp) rfl W<|dY<|bC<|(gj<|bC j).trans j
 ·show kP _ (fp.aC<|eC<|by simp) rfl W<|dY<|bC<|(gj<|bC j).trans j
theorem C9{f:aj}{S:Option Nat}(X:aD E f=.tup (.str m::i))(j:(m==ba)=false/\(m==cu)=false/\(m==cx)=false/\(m==cv)=false/\(m==cy)=false) (h:m.length<=4000/\(cF m 0 4==(⟨#[101,110,100,32]⟩:Str))=false)(k:(m==c3)=false)(n:(m==a4)=false) (Z:(m==b1)=false/\(m==a7)=false/\(m==a9)=false/\(m==dd)=false) (p:(m==a3)=false)(Q:(m==a6)=false):(av N O 27 [aD E f,.ref M.e] H=some (.ai .none,b)->dc N (O+2) E M G (.bl f) L I K J H=some (.ai .none,b))/\(∀g,av N O 27 [aD E f,.ref M.e] H=some (.cR g,b)->dc N (O+2) E M G (.bl f) L I K J H=some (.cR g,b))/\(av N O 27 [aD E f,.ref M.e] H=some (.ai d,b)->iH d=false->av N O 44 [d,.str G.f,ao I] b=some (.ai<|fB S,b)->dc N (O+2) E M G (.bl f) L I K J H=some (.ai<|match S with|some F=>dJ E (L,F,K)|none=>.none,b)):=by
 show AX j λa c e R T=> ?_;show pU Z λU o q r=> ?_;have l:∀Y,av N (O+1) 71 [.tup<|.str m::i,d9 E L,ao I,eh E K,.str G.f,.ref J,.ref M.e] H=some (Y,b)->dc N (O+2) E M G (.bl f) L I K J H=some (Y,b):=by intro Y P;rw[dc,aO (H:=fy) rfl rfl];induction Y<;>simp(disch:=first|lia|assumption) [fy,kC,fZ,dR,X,a,c,e,R,T,U,o,q,r,h.2,k,n,P]
 show X▸⟨λw=>l _ ?_,λg w=>l _ ?_,λw V W=>l _ ?_⟩;·rw[aO (H:=nz) rfl rfl];simp[nz,p,Q,w]
 ·rw[aO (H:=nz) rfl rfl];simp[nz,p,Q,w]
 ·rw[aO (H:=nz) rfl rfl];induction S<;>simp[nz,p,Q,w,W,V,dJ]
def Dc{g:Option Nat}(w:bJ M E G R S H)(I:H[J]?=some (cH E Q))(N:∀O,bj O H b):i5 M E G S J H (tl (.cA g) L K Q R)<|some (.ai<|match g with|some F=>dJ E (L,F,K)|none=>.none,b):=by
 have W:bJ M E G R S b:=w.aF (h:=[]) (N _) (by simp) (by simp) (by simp) (by simp) (by simp) (by simp);have P:=(N []).at I (by simp);rcases g with _|F;·show kP b (N _) rfl W P
 ·show kP b (N _) rfl W P
def acb{U:jO}{N:bX}(T:gJ d)(g:N.rC=true)(w:nJ d=.ai U):tM N U:=by induction T with|gu V=>simp[nJ,ao]at w;subst w;show⟨g,V⟩|cW=>simp[nJ]at w;subst w;show⟨g,aR⟩|fL H W=>
simp only[nJ]at w;split at w;·cases w;show⟨g,fx⟩
·split at w;·cases w;show⟨g,aR⟩
 ·contradiction
def acd{U:jO}{N:bX}(g:N.rC=false)(w:oy d=.ai U):tM N U:=by
 unfold oy at w;split at w;·cases w;show g
 ·split at w;·contradiction
  ·cases w;show g
 ·contradiction
theorem Og(L:fD G)(F:oG R){N:bX}{U:dM}{E:jO}(w:mL G R N U=.ai E):tM N E:=by
 unfold mL at w;split at w;·contradiction
 ·contradiction
 ·rename_i Q T;split at w;·rename_i g;show acb (vA L F T) g w
  ·rename_i g;show acd (by simpa using g) w
theorem ace{r:dU}(l:fD G)(s:oG R)(m:jX M E)(q:10<=N)(h:I<=G.aJ)(D:C6 r)(V:K.length+1<=16000000)(C:R.bx.length+1<=16000000)(f:Q.length+10<=16000000) (w:bJ M E G R S H)(B:gK M E J)(j:H[J]?=some (cH E Q)):i5 M E G S J H (dz G r L I K Q R)<|dc N (O+7) E M G r L I K J H:=by
 rcases r with P|⟨P,Y⟩|⟨F,Z,Y⟩;·induction P with
  |bc U=>show(by intro M E G _ _ J H N O I L K _ U l h n w j;simp only[(C9 (N:=N) (O:=O+3) (E:=E) (M:=M) (G:=G) (H:=H) (L:=L) (I:=I) (K:=K) (J:=J) (f:=.bc U) (d:=aD E<|.bc U) (b:=H) (S:=jh G.f I U) rfl (gC rfl rfl rfl rfl rfl) ⟨by decide,rfl⟩ rfl rfl ⟨rfl,rfl,rfl,rfl⟩ rfl rfl).2.2 (N9 rfl rfl) rfl<|N2 l h n];show Dc w j λ_=>bj.rfl:∀{M:cQ}{E:aY}{G:aS}{R:ay}{S J:Nat}{H:ag}{N O I:Nat}{L:List dU}{K:dF}{Q:List<|Option cX}{U:Str}(l:G.f.length<=4)(h:I<=G.aJ)(n:U.length<=1000)(w:bJ M E G R S H)(j:H[J]?=some (cH E Q)),i5 M E G S J H (dz G (.bl<|.bc U) L I K Q R)<|dc N (O+5) E M G (.bl<|.bc U) L I K J H) l.aZ h (aq D aR) w j|d5 b U=>show(by intro M E G _ _ J H N O I L K _ b U l h q n w j;simp only[(C9 (N:=N) (O:=O+4) (E:=E) (M:=M) (G:=G) (H:=H) (L:=L) (I:=I) (K:=K) (J:=J) (f:=.d5 b U) (d:=aD E<|.d5 b U) (b:=H) (S:=gO G.f I b U) rfl (by induction b using bX.casesOn<;>show gC rfl rfl rfl rfl rfl) (by induction b using bX.casesOn<;>show⟨by decide,rfl⟩) (by induction b using bX.casesOn<;>rfl) (by induction b using bX.casesOn<;>rfl) (by induction b using bX.casesOn<;>show kO rfl rfl rfl rfl) (by induction b using bX.casesOn<;>rfl)<|by induction b using bX.casesOn<;>rfl).2.2 abS rfl<|CZ l h q n];show Dc w j λ_=>bj.rfl:∀{M:cQ}{E:aY}{G:aS}{R:ay}{S J:Nat}{H:ag}{N O I:Nat}{L:List dU}{K:dF}{Q:List<|Option cX}{b:bX}{U:jO}(l:G.f.length<=4)(h:I<=G.aJ)(q:10<=N)(n:tM b U)(w:bJ M E G R S H)(j:H[J]?=some (cH E Q)),i5 M E G S J H (dz G (.bl<|.d5 b U) L I K Q R)<|dc N (O+6) E M G (.bl<|.d5 b U) L I K J H) l.aZ h q D w j
  |gg b U=>show(by
  intro b U l s h q n w j;obtain P:=λ(XN:aa)(XO:Option Nat)=>C9 (N:=N) (O:=O+5) (E:=E) (M:=M) (G:=G) (H:=H) (L:=L) (I:=I) (K:=K) (J:=J) (f:=.gg b U) (d:=XN) (b:=(fO M G R U H).2) (S:=XO) rfl (by induction b using bX.casesOn<;>show gC rfl rfl rfl rfl rfl) (by induction b using bX.casesOn<;>show⟨by decide,rfl⟩) (by induction b using bX.casesOn<;>rfl) (by induction b using bX.casesOn<;>rfl) (by induction b using bX.casesOn<;>show kO rfl rfl rfl rfl) (by induction b using bX.casesOn<;>rfl) (by induction b using bX.casesOn<;>rfl);obtain g:=Oc (I:=N) (L:=O) (N:=b) l s q w n;obtain p:=λXQ=>vz (E:=H) (J:=M) (G:=G) (H:=R) (U:=U) (h:=XQ);obtain W:=N4 w (U:=U);unfold C3 at g;simp only[dz,kY,MD];rcases u:mL G R b U with _|XR|XS;·replace g:=u▸g;rw[(P .none none).1 g];show kP _ (p _) rfl W<|(p []).at j<|by simp
  ·rw[u]at g;rw[(P .none none).2.1 XR g];show cO _ (p _) W rfl
  ·rw[u]at g;rw[(P _<|gO G.f I b XS).2.2 g rfl<|CZ l.aZ h q<|Og l s u];show Dc w j p:∀{b U}(l:fD G)(s:oG R)(h:I<=G.aJ)(q:10<=N)(n:U≠.P)(w:bJ M E G R S H)(j:H[J]?=some (cH E Q)),i5 M E G S J H (dz G (.bl<|.gg b U) L I K Q R)<|dc N (O+7) E M G (.bl<|.gg b U) L I K J H) l s h q D w j|fz=>show(by intro M E G _ _ J H N O I L K _ l _ w j;simp only[(C9 (N:=N) (O:=O+3) (E:=E) (M:=M) (G:=G) (H:=H) (L:=L) (I:=I) (K:=K) (J:=J) (f:=.fz) (d:=aD E .fz) (b:=H) (S:=some G.aJ) rfl (gC rfl rfl rfl rfl rfl) ⟨by decide,rfl⟩ rfl rfl ⟨rfl,rfl,rfl,rfl⟩ rfl rfl).2.2 (N9 rfl rfl) rfl<|N3 l];show Dc (g:=some G.aJ) w j λ_=>bj.rfl:∀{M:cQ}{E:aY}{G:aS}{R:ay}{S J:Nat}{H:ag}{N O I:Nat}{L:List dU}{K:dF}{Q:List<|Option cX}(l:G.f.length<=4)(h:I<=G.aJ)(w:bJ M E G R S H)(j:H[J]?=some (cH E Q)),i5 M E G S J H (dz G (.bl .fz) L I K Q R)<|dc N (O+5) E M G (.bl .fz) L I K J H) l.aZ h w j
  |eG=>show ab8 l.aZ w B j<|aq (cB bD) f|fj=>show aca l.aZ h q w B j f|fA=>show ab7 w B j<|aq (cB bD) f|fail=>show(by
  intro M E G _ _ J H N O I L K _ w j;obtain g:av N (O+1) 70 [d9 E<|.bl .fail::L,ao I,eh E K,.ref J] H=some (.ai .none,H):=by rw[aO (H:=uy) rfl rfl];simp[uy,fZ,dR]
  simp only[fZ,dR,abv]at g;have:dc N (O+2) E M G (.bl .fail) L I K J H=some (.ai .none,H):=by rw[dc,aO (H:=fy) rfl rfl];simp(disch:=first|lia|exact Nat.le_of_ble_eq_true rfl) [fy,kC,fZ,dR,g]
  show this▸kP H bj.rfl rfl w j:∀{M:cQ}{E:aY}{G:aS}{R:ay}{S J:Nat}{H:ag}{N O I:Nat}{L:List dU}{K:dF}{Q:List<|Option cX}(w:bJ M E G R S H)(j:H[J]?=some (cH E Q)),i5 M E G S J H (dz G (.bl .fail) L I K Q R)<|dc N (O+2) E M G (.bl .fail) L I K J H) w j
  |fH=>show(by
  intro M E G _ _ J H N O I L K _ w;obtain g:av N (O+1) 70 [d9 E<|.bl .fH::L,ao I,eh E K,.ref J] H=some (.ai<|.str dk,H):=by rw[aO (H:=uy) rfl rfl];simp[uy,fZ,dR]
  simp only[fZ,dR,abw]at g;have:dc N (O+2) E M G (.bl .fH) L I K J H=some (.ai<|.str dk,H):=by rw[dc,aO (H:=fy) rfl rfl];simp(disch:=first|lia|exact Nat.le_of_ble_eq_true rfl) [fy,kC,fZ,dR,g]
  show this▸cO H bj.rfl w rfl:∀{M:cQ}{E:aY}{G:aS}{R:ay}{S J:Nat}{H:ag}{N O I:Nat}{L:List dU}{K:dF}{Q:List<|Option cX}(w:bJ M E G R S H),i5 M E G S J H (dz G (.bl .fH) L I K Q R)<|dc N (O+2) E M G (.bl .fH) L I K J H) w|iO Z=>show(by
  intro M E G R _ J H N O I L K _ Z m f w B j;obtain⟨T,y,z,A⟩:=CY (M:=N) (N:=O) m w Z (ao I) f;have:dc N (O+2) E M G (.bl<|.iO Z) L I K J H=some (.ai<|if(hZ G Z (ao I) R).isSome then dJ E (L,I,K)else .none,T):=by rw[dc,aO (H:=fy) rfl rfl];generalize(hZ G Z (ao I) R).isSome=a at*;induction a<;>simp(disch:=first|lia|exact Nat.le_of_ble_eq_true rfl) [fy,kC,fZ,dR,w.e,gS,y,dJ]
  simp only[this];show Oe (d:=ao I) w B j z A:∀{M:cQ}{E:aY}{G:aS}{R:ay}{S J:Nat}{H:ag}{N O I:Nat}{L:List dU}{K:dF}{Q:List<|Option cX}{Z:bT}(m:jX M E)(f:R.bx.length+1<=16000000)(w:bJ M E G R S H)(B:gK M E J)(j:H[J]?=some (cH E Q)),i5 M E G S J H (dz G (.bl<|.iO Z) L I K Q R)<|dc N (O+2) E M G (.bl<|.iO Z) L I K J H) m C w B j|fM U=>show ab6 l s q w j|de P=>show ab3 w B j<|by lia|bZ F P Z=>show ab4 w j|bF P Y=>show ab1 w j|bU P Y=>show ab2 w B j<|by lia
 ·show ab5 w j
 ·rcases F with _|_;·show(by
  intro M E G R _ J H N O I L K _ Z Y _ _ _ m f w B j;obtain⟨T,y,z,A⟩:=CY (M:=N) (N:=O) m w Z (.str<|cF G.f Y I) f;obtain g:av N (O+2) 69 [dR E<|.kr false Z Y,d9 E L,ao I,eh E K,.str G.f,.ref J,.ref M.e] H=some (.ai<|if(hZ G Z (.str<|cF G.f Y I) R).isSome then dJ E (L,I,K)else .none,T):=by rw[aO (H:=sI) rfl rfl];generalize(hZ G Z (.str<|cF G.f Y I) R).isSome=a at*;induction a<;>simp(disch:=lia) [sI,dR,dJ,w.e,gS,y]
  delta dR at g;have:dc N (O+3) E M G (.kr false Z Y) L I K J H=some (.ai<|if(hZ G Z (.str<|cF G.f Y I) R).isSome then dJ E (L,I,K)else .none,T):=by rw[dc,aO (H:=fy) rfl rfl];simp(disch:=first|lia|exact by decide) [fy,kC,fZ,dR,g]
  simp only[this];show Oe w B j z A:∀{M:cQ}{E:aY}{G:aS}{R:ay}{S J:Nat}{H:ag}{N O I:Nat}{L:List dU}{K:dF}{Q:List<|Option cX}{Z:bT}{Y:Nat}(l:G.f.length<=4)(h:I<=4)(XT:Y<=4)(m:jX M E)(f:R.bx.length+1<=16000000)(w:bJ M E G R S H)(B:gK M E J)(j:H[J]?=some (cH E Q)),i5 M E G S J H (dz G (.kr false Z Y) L I K Q R)<|dc N (O+3) E M G (.kr false Z Y) L I K J H) l.aZ (aq h l.aZ) D m C w B j
  ·show(by
  intro M E G _ _ J H N O I L K _ Z Y _ _ _ V w j;obtain g:av N (O+1) 69 [dR E<|.kr true Z Y,d9 E L,ao I,eh E K,.str G.f,.ref J,.ref M.e] H=some (.ai<|dJ E (L,I,K++[(Z,cF G.f Y I)]),H):=by rw[aO (H:=sI) rfl rfl];obtain XU:(K.map λc=>aa.tup [.ref<|E.cA c.1,.str c.2]).length+[aa.tup [.ref<|E.cA Z,.str<|cF G.f Y I]].length<=16000000:=(by simpa using V);simp(disch:=first|lia|assumption) [sI,dR,dJ,eh]
  delta dR at g;have:dc N (O+2) E M G (.kr true Z Y) L I K J H=some (.ai<|dJ E (L,I,K++[(Z,cF G.f Y I)]),H):=by rw[dc,aO (H:=fy) rfl rfl];simp(disch:=first|lia|exact Nat.le_of_ble_eq_true rfl) [fy,kC,fZ,dR,g]
  simp only[this];show vC w j:∀{M:cQ}{E:aY}{G:aS}{R:ay}{S J:Nat}{H:ag}{N O I:Nat}{L:List dU}{K:dF}{Q:List<|Option cX}{Z:bT}{Y:Nat}(l:G.f.length<=4)(h:I<=4)(XT:Y<=4)(V:K.length+1<=16000000)(w:bJ M E G R S H)(j:H[J]?=some (cH E Q)),i5 M E G S J H (dz G (.kr true Z Y) L I K Q R)<|dc N (O+2) E M G (.kr true Z Y) L I K J H) l.aZ (aq h l.aZ) D V w j
end
end
section
set_option tactic.hygienic true
def vD(F:List dU):Nat:=List.rec (motive:=λ_=>Nat) 0 (λM _ S=>M.casesOn (λ_=>S) (λ_ _=>S) λ_ _ _=>S+1) F
theorem alC{H:aj}{L:List dU}:vD (.bl H::L)=vD L:=rfl
theorem alD{H:aj}{L:List dU}:vD (.lA H a::L)=vD L:=rfl
structure di(V:ay):Prop where
N:oG V
bx:∀X∈V.bx,gJ X.2
structure gT(E:aS)(U:Nat)(R:cX):Prop where
vE:∀M∈R.1,C6 M
u:R.2.1<=E.aJ
eK:∀X∈R.2.2,gJ<|.str X.2
tN:2*R.2.2.length+vD R.1<=U
def kD(E:aS)(U:Nat)(V:List<|Option cX):Prop:=∀R,some R∈V->gT E U R
def gT.iQ{E:aS}{R:cX}(w:gT E a R)(O:a<=e):gT E e R:=⟨w.vE,w.u,w.eK,aq w.tN O⟩
def kD.iQ{E:aS}{X:List<|Option cX}(w:kD E a X)(O:a<=e):kD E e X:=λR T=>(w R T).iQ O
def kD.cons{E:aS}{R:cX}{X:List<|Option cX}(T:gT E a R)(w:kD E a X):kD E a<|some R::X:=by
 intro I N;rcases gA.mp N with K|K;·obtain rfl:=bO K;show T
 ·show w I K
def HT{E:aS}(L:fD E)(I J:Nat):gJ<|.str<|cF E.f I J:=by
 show .fL ?_ ?_;·rw[WJ];have:=L.aZ;show vT<|gU<|aq (xU _ _) this
 ·intro M w;rw[tB]at w;show L.bc M<|List.mem_of_mem_take<|List.mem_of_mem_drop w
def vF(E:aS)(U:Nat)(g:List<|Option cX)(V:ay):oz->Prop|.dE R G I=>gT E (U+1) R/\kD E (U+1) G/\G.length<=g.length+4/\di I/\V.bx.length<=I.bx.length|.w G I=>G=g/\di I/\V.bx.length<=I.bx.length|.F S I=>di I/\V.bx.length<=I.bx.length/\(S=.lW\/∃O,S=.dG O)
section
variable{E:aS}{H J:Nat}{K:dF}{L:List dU}{I:List<|Option cX}{G:ay}
def Dd{S:ix}(g:di G)(F:kD E (H+1) I)(w:∀J,S=.at J->gT E (H+1) (L,J,K)):vF E H I G<|tl S L K I G:=by induction S with|dq=>show fS rfl g aH|dG O=>show fS g aH<|.inr ⟨O,rfl⟩|«at» J=>show gC (w J rfl) F bD g aH
def De{L:bT}{I:ay}(g:di G)(T:gJ d)(Y:hZ E L d G=some I):gV (di I)<|G.bx.length<=I.bx.length:=by
 obtain rfl:=ME Y;show⟨⟨?_,λX N=> ?_⟩, ?_⟩;·clear Y;induction L using bT.casesOn<;>show⟨by first|show T|show g.N.iZ,by first|show T|show g.N.fX,by first|show T|show g.N.jw⟩
 ·rcases oP.mp N with w|w;·show g.bx X w
  ·rw[List.mem_singleton.mp w];show T
 ·change G.bx.length<=(G.bx++[(L,d)]).length;simp
def Oh{L:bT}{R:cX}(w:di G)(g:kD E (H+1) I)(T:gJ d)(J:gT E (H+1) R):vF E H I G<|qm E L d R I G:=by
 unfold qm;rcases Y:hZ E L d G with _|F;·show fS rfl w aH
 ·show gC J g bD (De w T Y).1 (De w T Y).2
theorem acf(w:gJ d):dh<|.bc<|j6 d:=by induction w with|gu V=>show show 1<=100 by lia|cW=>show show 1<=100 by lia|fL H W=>show aq H aR
def gT.bl{F:List dU}{g:aj}(w:gT E H (F,J,K))(I:dh g):gT E H (.bl g::F,J,K):=⟨λG V=>(gA.mp V).elim (λE=>E▸I)<|w.vE G,w.u,w.eK,w.tN⟩
def gT.lA{F:List dU}{g:aj}(w:gT E H (F,J,K))(I:C6<|.lA g a):gT E H (.lA g a::F,J,K):=⟨λG V=>(gA.mp V).elim (λE=>E▸I)<|w.vE G,w.u,w.eK,w.tN⟩
def gT.kr{F:List dU}{L:bT}(w:gT E H (F,J,K))(Q:a<=4):gT E (H+1) (.kr n L a::F,J,K):=⟨λG V=>(gA.mp V).elim (λE=>E▸Q)<|w.vE G,w.u,w.eK,cB w.tN⟩
def acg{O:aj}(h:fD E)(k:dh E.l)(X:di G)(i:dh O)(W:J<=E.aJ)(R:∀c,c<=E.aJ->gT E H (L,c,K))(d:kD E (H+1) I):vF E H I G<|kY E O L J K I G:=by have Z:=λc j=>(R c j).iQ<|m8 H;have S:=Z J W;have f:J<=4:=aq W h.aZ;induction O with
|bc U=>show Dd X d λc j=>Z c (kZ W j).2|d5 N U=>show Dd X d λc j=>Z c (kZ W j).2|gg N U=>show Dd X d λc j=>Z c (kZ W j).2|fz=>show Dd (S:=.at E.aJ) X d λc j=>by cases j;show Z _ aH|eG=>
show gC S ?_ ?_ X aH
·split;·show .cons ((Z (J+1)<|j1 ‹_›).bl trivial) d
 ·show d
·split<;>simp|fj=>
obtain m:=w5 (K:=E.f) (E.aJ+1-J) J W;obtain l:=C5 E.f (E.aJ+1-J) J;change vF E H I G<|(ji E.f (E.aJ+1-J) J).casesOn (.w I G) λc V=>.dE (L,c,K) (V.map (λN=>some (L,N,K))++I) G;generalize ji E.f (E.aJ+1-J) J=P at m l⊢;rcases P with _|⟨c,V⟩;·show fS rfl X aH
·show gC (Z c (m c cY).2) (λR e=> ?_) ?_ X aH
 ·rcases oP.mp e with w|w;·show aB (nU.mp w) λN g M=> ?_;show(bO M).symm▸Z N (m N<|dI g).2
  ·show d R w
 ·rw[List.length_append,List.length_map,Nat.add_comm];show i8 (fJ<|aq l<|aq kn<|cB h.aZ) _|fA=>show gC S (λR e=>(gA.mp e).elim (λw=>bQ w.symm)<|d R) (by simp) X aH|fail=>show fS rfl X aH|fH=>show fS X aH<|.inl rfl|iO V=>show Oh X d (.gu (O:=J)<|aq f aR) S|fM U=>
have T:=λQ(Y:fY E G U=.v Q)=>vA h X.N Y;change vF E H I G<|(fY E G U).casesOn (.w I G) (.dE (.bl E.l::L,J,K) I G) λQ=>.dE (.bl (.bc<|j6 Q)::L,J,K) I G;generalize fY E G U=Y at T⊢;rcases Y with _|_|Q;·show⟨rfl,X,aH⟩
·show gC (S.bl k) d bD X aH
·show gC (S.bl<|acf<|T Q rfl) d bD X aH|de O=>show gC S (.cons ((S.lA (g:=O) (a:=J) ⟨i,f⟩).bl i) d) (by simp) X aH|bZ F O V=>show gC (((R J W).kr f).bl i) d bD X aH|bF O P=>show gC ((S.bl i.2).bl i.1) d bD X aH|bU O P=>show gC (S.bl i.1) (.cons (S.bl i.2) d) (by simp) X aH
def Oi{M:dU}(c:fD E)(e:dh E.l)(R:di G)(T:gT E H (M::L,J,K))(a:kD E (H+1) I):vF E H I G<|dz E M L J K I G:=by
 have S:=T.vE M cY;have d:∀g∈L,C6 g:=λg V=>T.vE g<|dI V;have W:J<=E.aJ:=T.u;have Z:∀X∈K,gJ<|.str X.2:=T.eK;have b:2*K.length+vD (M::L)<=H:=T.tN;clear T;rcases M with O|⟨O,P⟩|⟨F,Q,P⟩;·show acg c e R S W (λY U=>⟨d,U,Z,b⟩) a
 ·change vF E H I G<|if J=P then .w I G else .dE (.bl (.de O)::L,J,K) I G;split;·show fS rfl R aH
  ·show gC ((⟨d,W,Z,jb b⟩:gT E (H+1) (L,J,K)).bl S.1) a bD R aH
 ·replace b:2*K.length+vD L+1<=H:=b;clear S;rcases F with _|_;·show Oh R a (HT c _ _) ⟨d,W,Z,jb<|ie b⟩
  ·show gC ⟨d,W,λX N=> ?_, ?_⟩ a bD R aH
   ·rcases oP.mp N with w|w;·show Z X w
    ·rw[List.mem_singleton.mp w];show HT c _ _
   ·dsimp only[List.length_nil];show d8 b<|by simp+arith
def ach(E:aS)(N:Nat)(S:d6):Prop:=∀J H,S=.lV J H->J<=E.aJ/\(∀X∈H,gJ<|.str X.2)/\2*H.length<=N
abbrev nR(E:aS)(G:ay)(S:d6)(I:ay)(N:Nat):Prop:=gV (G.bx.length<=I.bx.length)<|gV (di I)<|ach E N S
def nR.cA{S N:d6}{g I:ay}(w:some (N,g)=some (S,I))(U:nR E G N g a):nR E G S I a:=by obtain⟨rfl,rfl⟩:=dT w;show U
def nR.iQ{S:d6}{g I:ay}(F:G.bx.length<=g.bx.length)(N:a<=e)(U:nR E g S I a):nR E G S I e:=⟨aq F U.1,U.2.1,λJ K Y=>have:=U.2.2 J K Y;⟨this.1,this.2.1,aq this.2.2 N⟩⟩
def nR.dq{S:d6}{U:ay}(F:G.bx.length<=U.bx.length)(g:di U)(w:S=.fail\/S=.lW\/∃O,S=.dG O):nR E G S U a:=⟨F,g,λJ K Y=>by rcases w with rfl|rfl|⟨O,rfl⟩<;>show d6.noConfusion Y⟩
def nR.vd(T:gT E H ([],J,K))(w:di G)(N:H<=a):nR E G (.lV J K) G a:=⟨aH,w,λg F Y=>by cases Y;show fS T.u T.eK<|aq (aq bD T.tN) N⟩
def HU(W:fD E)(Z:dh E.l):∀O R I G S X H,gH E O R I G=some (S,X)->gT E H R->kD E H I->di G->nR E G S X (H+O):=by intro O;induction O with
|zero=>
intro R I G S X H w T V F;rcases R with⟨-|⟨M,L⟩,J,K⟩;·show .cA w<|.vd T F aH
·show bQ w|succ O P=>
intro R I G S X H w T V F;rcases R with⟨-|⟨M,L⟩,J,K⟩;·show .cA w<|.vd T F bD
·have Q:=Oi W Z F T<|V.iQ<|m8 H;simp only[vc]at w;generalize dz E M L J K I G=Y at w Q;rcases Y with⟨a,b,U⟩|⟨b,U⟩|⟨N,U⟩;·show .iQ Q.2.2.2.2 (bP gM)<|P a b U S X (H+1) w Q.1 Q.2.1 Q.2.2.2.1
 ·show .iQ Q.2.2 (m8 _)<|(by
 intro _ H I G _ P S X w V F;rcases I with-|⟨-|R,g⟩;·show .cA w<|.dq aH F<|.inl rfl
 ·show .cA w<|.dq aH F<|.inr<|.inl rfl
 ·show P R g G S X H w (V R cY) (λa c=>V a<|dI c) F:∀{E:aS}{H:Nat}{I:List<|Option cX}{G:ay}{O:Nat}(P:∀R I G S X H,gH E O R I G=some (S,X)->gT E H R->kD E H I->di G->nR E G S X (H+O)){S:d6}{X:ay}(w:qn (gH E O) I G=some (S,X))(V:kD E H I)(F:di G),nR E G S X<|H+O) P w (Q.1▸V) Q.2.1
 ·show .cA w<|.dq Q.2.1 Q.1<|.inr Q.2.2
end
end
noncomputable def mj:au:=.o<|.ae 6
noncomputable def mU:List bo:=[.expr<|.h (.ae 3) 15 [],.assign (.ae 5)<|.call 67 [.ae 6,.ae 7,.ae 8,.ae 1,.ae 4,.ae 3],.b (.r<|.ae 5) [.brk] [],.b (.d .aA (.ae 5)<|.bE 26) [.ret<|.bE 26] [],.assign (.tup [.ae 6,.ae 7,.ae 8])<|.ae 5]
noncomputable def tO:bo:=.b (.r<|.ae 6) [.ret<|.tup [.ae 7,.g .list [.ae 8]]] []
noncomputable def nS:au:=.d .fQ (.g .aZ [.ae 4])<|.int 0
def mV:List bo:=[.assign (.ae 5)<|.i .G (.ae 4) [],.b (.r<|.ae 5) [.ret<|.bE 26] [],.assign (.tup [.ae 6,.ae 7,.ae 8])<|.ae 5,.z mj mU,tO]
theorem aci:E3=⟨4,9,[.assign (.ae 4)<|.list [.tup [.tup [.ae 0,.none],.ae 2,.tup []]],.z nS mV,.ret<|.none]⟩:=rfl
noncomputable def oH:aa:=.str dk
abbrev acj(Z:aY)(g:ag)(G:Option<|aI (aV×ak)×ag)(w:ag)(S:d6):Prop:=S.casesOn (∃F,G=some (.ai (.aK,F),w)) (λJ E=>∃F H,G=some (.ai (.ret<|.tup [ao J,.ref H],F),w)/\g.length<=H/\w[H]?=some (.list<|E.map λX=>.tup [.ref<|Z.cA X.1,.str X.2])) (∃F,G=some (.ai (.ret oH,F),w)) λO=>G=some (.cR O,w)
def tP(w:cQ)(Z:aY)(E:aS)(V:ay)(I F:Nat)(g:ag)(S:d6)(G:Option<|aI (aV×ak)×ag):Prop:=∃J H,H<=I/\bJ w Z E V H J/\bj [w.e,w.m,w.k,F] g J/\acj Z g G J S
def tP.ml{L:cQ}{Z:aY}{E:aS}{V:ay}{S:d6}{G:Option<|aI (aV×ak)×ag}(w:tP L Z E V e a u S G)(N:bj [L.e,L.m,L.k,a] b u):tP L Z E V e a b S G:=by
 show lO w λg T K W Q R=> ?_;show nu g T K W (N.aC Q) ?_;clear w;rcases S with _|⟨J,P⟩|_|O;·show R
 ·show gZ R λF H M U I=> ?_;show we F H M (aq N.aZ U) I
 ·show R
 ·show R
section
variable{J:cQ}{E:aY}{H:aS}{I:Nat}{G K:Nat}{L:Option aa}{M:Option aa}
noncomputable def gx(L M:Option aa)(J:cQ)(H:aS)(I:Nat)(K O g Z:Option aa):ak:=[L,some<|.str H.f,M,some<|.ref J.e,some<|.ref I,K,O,g,Z]
theorem alE(E:aY)(R:cX)(g:ag):dK .aA (dJ E R) oH g=some false:=aa8
theorem Oj{L:List<|Option cX}(g:b[I]?=some (cH E L)):mD .G (.ref I) b=some (.ai (),b):=by rw[abJ,g];rfl
def ack(w:i.length<=16000000):dO .list [.tup i] b=some (.ai<|.ref b.length,b++[.list i]):=congrFun (tL<|kB w) b
def Ol(O:Nat)(j:fD H)(t:gK J E I) (a:∀(R:cX)(m:List<|Option cX)(V:ay)(S:d6)(l:ay)(U k:Nat)(g:ag)(N b:Nat)(o:Option aa),gH H O R m V=some (S,l)->gT H U R->kD H U m->di V->l.bx.length<=1000000->U+O<=4000000->m.length+4*O<=15000000->k+O<=1000000000->O+1<=N->O+1<=b->bJ J E H V k g->g[I]?=some (cH E m)->tP J E H l (k+O) I g S (bM (iF aw (av G<|K+8) G [tO]<|kf aw (av G<|K+8) G nS mV b)<|gi aw (av G<|K+8) G mj mU N (gx L M J H I o (some<|d9 E R.1) (some<|ao R.2.1)<|some<|eh E R.2.2) g)) (x:O+1<=G){m:List<|Option cX}{V:ay}{S:d6}{l:ay}{U k:Nat}{g:ag}{b:Nat}{o Z:Option aa}(w:qn (gH H O) m V=some (S,l))(h:kD H U m)(r:di V)(Y:l.bx.length<=1000000)(u:U+O<=4000000)(X:m.length+4*O<=15000000)(F:k+O<=1000000000)(i:O+2<=b) (W:bJ J E H V k g)(n:g[I]?=some (cH E m)):tP J E H l (k+O) I g S<|gi aw (av G<|K+8) G nS mV b (gx L M J H I o y D Z) g:=by
 obtain⟨b,rfl⟩:∃N,b=N+1:=⟨b-1,Eq.symm<|iT<|aq aR i⟩;have d:=(by intro _ _ h c;simp only[abI,h];unfold cH;rw[jW _<|by simpa using c];simp:∀{g T}(h:g[I]?=some (cH E T))(c:T.length<=16000000),dO .aZ [.ref I] g=some (.ai<|ao T.length,g)) n<|d8 X (by simp+arith);simp only[jU];rcases m with _|⟨P,T⟩
 ·obtain⟨s,rfl⟩:=dT w;subst s;show⟨g,k,bD,W,bj.rfl,gx L M J H I o y D Z, ?_⟩;delta gx;conv=>lhs;delta nS mV
  simp[d]
 ·obtain c:T.length+1<=16000000:=by simp only[List.length_cons]at X;show cB<|d8 X<|by simp+arith
  obtain e:=(by
   intro g P T h c;rw[abH,h];have:cH E (P::T)=.list ((T.map<|nQ E).reverse++[nQ E P]):=by simp[cH]
   rw[this,CS g I _ _<|by simpa using c];rfl:∀{g P T}(h:g[I]?=some (cH E<|P::T))(c:T.length+1<=16000000),dO .G [.ref I] g=some (.ai<|nQ E P,g.set I<|cH E T)) n c;have Q:bj [J.e,J.m,J.k,I] g<|g.set I<|cH E T:=eC (by simp);obtain v:∀f:ag->Bool->Option (aI (aV×ak)×ag),bq aw (av G<|K+8) nS (gx L M J H I o y D Z) (iE f) g=f g true:=λf=>by delta gx;unfold nS;simp[d]
  simp only[v,ND];clear d;rcases P with _|R
  ·obtain⟨s,rfl⟩:=dT w;show s▸⟨_,k,bD,W.gq t _,Q,gx L M J H I (some .none) y D Z, ?_⟩;delta gx;conv=>lhs;unfold mV
   delta nQ at e;simp[e,Oj n,oH]
  ·have:=a R T V S l U k (g.set I<|cH E T) G b (some<|dJ E R) w (h R cY) (λq z=>h q<|dI z) r Y u (aq (fI bD _) X) F x (fJ i) (W.gq t _)<|dY<|bC n;obtain p:dX aw (av G<|K+8) G mV (gx L M J H I o y D Z) (kf aw (av G<|K+8) G nS mV b) g=bM (iF aw (av G<|K+8) G [tO]<|kf aw (av G<|K+8) G nS mV b) (gi aw (av G<|K+8) G mj mU G (gx L M J H I (some<|.tup [d9 E R.1,ao R.2.1,eh E R.2.2]) (some<|d9 E R.1) (some<|ao R.2.1)<|some<|eh E R.2.2)<|g.set I<|cH E T):=by
    delta gx;conv=>lhs;unfold mV
    simp[e,Oj n];rfl
   show tP.ml ?_ Q;simp only[p];show this
theorem acm(h:fD H)(X4:dh H.l)(n:jX J E)(z:gK J E I)(XQ:10<=G):∀O,O<=G->∀(R:cX)(o:List<|Option cX)(V:ay)(S:d6)(k:ay)(U j:Nat)(g:ag)(Q a:Nat)(r:Option aa),gH H O R o V=some (S,k)->gT H U R->kD H U o->di V->k.bx.length<=1000000->U+O<=4000000->o.length+4*O<=15000000->j+O<=1000000000->O+1<=Q->O+1<=a->bJ J E H V j g->g[I]?=some (cH E o)->tP J E H k (j+O) I g S (bM (iF aw (av G<|K+8) G [tO]<|kf aw (av G<|K+8) G nS mV a)<|gi aw (av G<|K+8) G mj mU Q (gx L M J H I r (some<|d9 E R.1) (some<|ao R.2.1)<|some<|eh E R.2.2) g):=by
 have X5:∀O P e o(V:ay)(k:ay) S U j g Q a r,gH H O ([],P,e) o V=some (S,k)->gT H U ([],P,e)->U<=4000000->1<=Q->bJ J E H V j g->tP J E H k (j+O) I g S (bM (iF aw (av G<|K+8) G [tO]<|kf aw (av G<|K+8) G nS mV a)<|gi aw (av G<|K+8) G mj mU Q (gx L M J H I r (some<|d9 E []) (some<|ao P)<|some<|eh E e) g):=by
  intro O P e o V k S U j g Q a r w T A i W;have Yc:S=.lV P e/\k=V:=by rcases O with⟨-,-⟩<;>show dT w.symm
  obtain⟨rfl,rfl⟩:=Yc;obtain⟨Q,rfl⟩:∃XU,Q=XU+1:=⟨Q-1,Eq.symm<|iT i⟩;obtain X6:e.length<=16000000:=by have:=T.tN;simp only at this;show jb<|iq A this<|by simp+arith
  obtain c:=ack (b:=g) (i:=e.map λX=>aa.tup [.ref<|E.cA X.1,.str X.2]) (by simp_all);show⟨g++[.list<|e.map λX=>.tup [.ref<|E.cA X.1,.str X.2]],j,bD,W.lb _,fp,gx L M J H I r (some .none) (some<|ao P)<|some<|eh E e,g.length, ?_,aH,eL⟩;rw[jU];simp only[gx,kC];conv=>lhs;delta mj tO
  simp[eh,c]
 intro O;induction O with
 |zero=>
  intro _ R o V S k U j g Q a r w T f XR y A D F i XW W XX;obtain⟨B,P,e⟩:=R;rcases B with _|⟨q,p⟩;·show X5 _ _ _ _ _ _ _ _ _ _ _ _ _ w T A i W
  ·show bQ w|succ O X7=>
  intro X8 R o V S k U j g Q a r w T f XR y A D F i XW W XX;obtain⟨B,P,e⟩:=R;rcases B with _|⟨q,p⟩;·show X5 _ _ _ _ _ _ _ _ _ _ _ _ _ w T (aq bD A) (aq aR i) W
  ·obtain⟨Q,rfl⟩:∃XU,Q=XU+1:=⟨Q-1,Eq.symm<|iT<|aq aR i⟩;obtain⟨Z,XS,b⟩:=(by
    intro J E H I G K L M V _ _ q p P e o _ _ _ h n z XQ T X9 A y D w f F;obtain⟨XT,t,u,x⟩:=N1 (M:=G) (N:=K+7) n w F;have X6:e.length+1<=16000000:=by have:=T.tN;simp only at this;show cB<|iq A this<|by simp+arith
    have W:=w.e;show aB (ace (N:=G) (O:=K+1) (L:=p) h X9.N n XQ T.u (T.vE q cY) X6 (cB<|aq y aR) (fI (aq D aR) _) u z<|x.at f<|by simp[z.x]) λZ Yd v=> ?_;have B:d9 E (q::p)=.tup [dR E q,d9 E p]:=rfl;show⟨Z,(x.cZ<|by intro Ye XN _;simp at XN⊢;show .inl XN).aC<|Yd.cZ<|by intro Ye XN _;simp at XN⊢;show .inr XN, ?_⟩;unfold dc at v;rcases Y:dz H q p P e o V with⟨R,C,k⟩|⟨C,k⟩|⟨S,k⟩
    ·rw[Y]at v;show iI v λs XY XZ=> ?_;show fS XY XZ ?_;rw[jU];rw[(rfl:dJ E R=.tup [d9 E R.1,ao R.2.1,eh E R.2.2])]at s⊢;delta gx;replace s:av G (K+8) 67 [.tup [dR E q,d9 E p],ao P,eh E e,.str H.f,.ref I,.ref J.e] XT=some (.ai<|.tup [d9 E R.1,ao R.2.1,eh E R.2.2],Z):=s;rw[B];conv=>lhs;delta mj mU
     conv=>lhs;simp[W,gS,t,s]
     rfl
    ·replace v:=Y▸v;show iI v λs XY XZ=> ?_;show fS XY XZ ?_;rw[jU];delta gx;replace s:av G (K+8) 67 [.tup [dR E q,d9 E p],ao P,eh E e,.str H.f,.ref I,.ref J.e] XT=some (.ai .none,Z):=s;rw[B];conv=>lhs;delta mj mU
     simp[W,gS,t,s]
    ·rw[Y]at v;obtain s:=v.2;show⟨v.1, ?_⟩;show B▸ ?_;rcases S with _|⟨Yg,Yh⟩|_|O;·show s.elim
     ·show s.elim
     ·replace s:av G (K+8) 67 [.tup [dR E q,d9 E p],ao P,eh E e,.str H.f,.ref I,.ref J.e] XT=some (.ai<|.str dk,Z):=s;simp only;show⟨gx L M J H I (some oH) (some<|.tup [dR E q,d9 E p]) (some<|ao P)<|some<|eh E e, ?_⟩;rw[jU];delta gx;conv=>lhs;delta mj mU
      simp[W,gS,t,s,oH]
     ·replace s:av G (K+8) 67 [.tup [dR E q,d9 E p],ao P,eh E e,.str H.f,.ref I,.ref J.e] XT=some (.cR O,Z):=s;simp only;rw[jU];delta gx;conv=>lhs;delta mj mU
      simp[W,gS,t,s]:∀{J:cQ}{E:aY}{H:aS}{I G K:Nat}{L M:Option aa}{V:ay}{j:Nat}{g:ag}{q:dU}{p:List dU}{P:Nat}{e:dF}{o:List<|Option cX}{U:Nat}(a:Nat)(r:Option aa)(h:fD H)(n:jX J E)(z:gK J E I)(XQ:10<=G)(T:gT H U (q::p,P,e))(X9:di V)(A:U<=4000000)(y:V.bx.length<=1000000)(D:o.length<=15000000)(w:bJ J E H V j g)(f:g[I]?=some (cH E o))(F:j+1<=1000000000),qp (λZ=>bj [J.e,J.m,J.k,I] g Z) λZ=>match dz H q p P e o V with|.dE R C k=>bJ J E H k (j+1) Z/\Z[I]?=some (cH E C)/\gi aw (av G<|K+8) G mj mU (a+1) (gx L M J H I r (some<|d9 E<|q::p) (some<|ao P)<|some<|eh E e) g=gi aw (av G<|K+8) G mj mU a (gx L M J H I (some<|dJ E R) (some<|d9 E R.1) (some<|ao R.2.1)<|some<|eh E R.2.2) Z|.w C k=>bJ J E H k (j+1) Z/\Z[I]?=some (cH E C)/\gi aw (av G<|K+8) G mj mU (a+1) (gx L M J H I r (some<|d9 E<|q::p) (some<|ao P)<|some<|eh E e) g=some (.ai (.aK,gx L M J H I (some .none) (some<|d9 E<|q::p) (some<|ao P)<|some<|eh E e),Z)|.F S k=>bJ J E H k (j+1) Z/\match S with|.lW=>∃X0,gi aw (av G<|K+8) G mj mU (a+1) (gx L M J H I r (some<|d9 E<|q::p) (some<|ao P)<|some<|eh E e) g=some (.ai (.ret oH,X0),Z)|.dG O=>gi aw (av G<|K+8) G mj mU (a+1) (gx L M J H I r (some<|d9 E<|q::p) (some<|ao P)<|some<|eh E e) g=some (.cR O,Z)|_=>False) (G:=G) (K:=K) (L:=L) (M:=M) Q r h n z XQ T XR (aq bD A) (aq ((HU h X4 _ _ _ _ _ _ _ w T f XR).1) y) (aq bD D) W XX<|aq (cB bD) F;obtain XO:=Oi h X4 XR T<|f.iQ<|m8 U;simp only[vc]at w;clear XX;rcases Y:dz H q p P e o V with⟨Yb,C,X2⟩|⟨C,X2⟩|⟨Yn,X2⟩;·rw[Y]at w b XO;show iI b λt u x=> ?_;show AX XO λYi Yj Yk X3 Yl=> ?_;have:=X7 (ie X8) Yb C X2 S k (U+1) (j+1) Z Q a (some<|dJ E Yb) w Yi Yj X3 y (gM▸A) (aq (d8 Yk<|by simp+arith) D) (gM▸F) (fJ i) (ie XW) t u;have c:j+1+O=j+(O+1):=gM;rw[c]at this;show x▸this.ml XS
   ·rw[Y]at w b XO;have c:j+1+O=j+(O+1):=gM;show iI b λt u x=> ?_;show iI XO ?_;clear XO;rintro rfl X3 Yl;have:=Ol (b:=a) (o:=some .none) (y:=some<|d9 E<|q::p) (D:=some<|ao P) (Z:=some<|eh E e) (L:=L) (M:=M) O h z (X7<|by lia) X8 w f X3 y (ie A) (aq (i8 bD _) D) (show j+1+O<=1000000000 by lia) XW t u;rw[c]at this;rw[x];have Ym:bM (iF aw (av G<|K+8) G [tO]<|kf aw (av G<|K+8) G nS mV a) (some (aI.ai (aV.aK,gx L M J H I (some aa.none) (some<|d9 E<|q::p) (some<|ao P)<|some<|eh E e),Z))=gi aw (av G<|K+8) G nS mV a (gx L M J H I (some .none) (some<|d9 E<|q::p) (some<|ao P)<|some<|eh E e) Z:=by
     simp only[gx,fZ];conv=>lhs;unfold tO
     simp
    show Ym▸this.ml XS
   ·simp only[Y]at w b;obtain⟨rfl,rfl⟩:=dT w.symm;obtain⟨t,u⟩:=b;simp only;induction S with|lW=>obtain⟨X0,u⟩:=u;rw[u];show⟨Z,j+1,cB bD,t,XS,X0,by simp⟩|dG O=>show u▸nu Z (j+1) (cB bD) t XS (by simp)|fail=>show u.elim|lV Yg Yh=>show u.elim
end
def qA(E:aS)(w:aj)(J:Nat)(V:ay)(S:d6)(I:ay):Prop:=∃g L,g<=1035665/\L<=3106995/\(∀O,gH E (O+g) ([.bl w],J,[]) [] V=some (S,I))/\∀O,jQ E dB (O+L) ⟨dB w,0,J,[],[],[]⟩ [] V=some (rK S,I)
set_option genCtorIdx false in inductive i6|none|xt (I J:Nat) (H:dF)|dG (O:Int)
noncomputable def i6.ctorIdx(U:i6):Nat:=U.casesOn 0 (λ_ _ _=>1) λ_=>2
def xu(J:Nat)(S:d6):i6:=d6.rec (motive:=λ_=>i6) .none (λg H=>.xt J g H) .none (λO=>.dG O) S
def mm(E:aS)(w:aj)(F:List Nat):ay->i6->ay->Prop:=List.rec (motive:=λ_=>ay->i6->ay->Prop) (λV W I=>W=.none/\I=V) (λJ _ g V W I=>∃S U,qA E w J V S U/\(S=.fail/\g U W I\/S≠.fail/\W=xu J S/\I=U)) F
def mm.acn{E:aS}{g:aj}{V U:ay}{S:d6}(R:qA E g a V S U)(w:S≠.fail):mm E g (a::h) V (xu a S) U:=lN _ _ R<|.inr<|fS w rfl rfl
def zW(U:Nat->Nat)(T:Nat)(F:List Nat):Nat:=List.rec (motive:=λ_=>Nat) 0 (λJ _ S=>U (T-J)+S) F
theorem qB:zW z a []=0:=rfl
theorem vG:zW z a (e::h)=z (a-e)+zW z a h:=rfl
theorem aco{E:aS}{i:aj}(q:E.aJ<=4)(X:gw false 1 18 E.l e)(K:gw true 3 22 i a):∃p:Nat->Nat,p 0+p 1+p 2+p 3+p 4<=155355/\∀(F:List Nat) V,(∀J∈F,J<=E.aJ)->∃W I,mm E i F V W I/\I.bx.length<=V.bx.length+zW p E.aJ F:=by show aB ((by
intro i a _ q X K;have G:∀J V,J<=E.aJ->∀M p,(bI E 1 0 1 (lF E 1 0 1) i (mR 1) J [] V).2.2<=M->(bI E 1 0 1 (lF E 1 0 1) i (mR 1) J [] V).2.1.bx.length<=V.bx.length+p->∃S I v x,v<=M/\x<=3*M/\I.bx.length<=V.bx.length+p/\(∀O,gH E (O+v) ([.bl i],J,[]) [] V=some (S,I))/\∀O,jQ E dB (O+x) ⟨dB i,0,J,[],[],[]⟩ [] V=some (rK S,I):=by
 intro J V j M p n s;show eA λXY Q=> ?_;show aB ((by intro i u J j V;show MK E 0 (lF E 1 0 1) i (.inr<|MK E 0 vp E.l<|.inl u) [] (mR 1) J j ?_ [] V;intro d P Z f V XZ;show aX 0 fx λO=>by rcases O with-|-<;>rfl:∀{i}(u:eX E.l=true){J}(j:J<=E.aJ)(V:ay),gP E [.bl i] J [] V<|bI E 1 0 1 (lF E 1 0 1) i (mR 1) J [] V) (i:=i) (Ni X) j V []) λv t A=> ?_;show aB ((by
 intro i u B m J j V;obtain y:vh E dB<|Nm E:=by intro X0 X2 T X3 X4 J j r;show MT 0 vp Nh (jy 9 E.l) 0 _ (.inl<|aaX 9 _ u) (Ng B) T _ _ J j λd P Z=>MS (GR _)<|r d P Z
 obtain N:=MT 0 (Nm E) Nh (jy 9 i) 0 _ (.inr y) (Ng m) [] [] (mR 1) J j (by intro d P Z;show .j8 (GR i) rfl ?_;intro f V;show⟨aH,(dW.w9 (.lV d f) (by intro g;contradiction) ?_).cZ<|by simp[mR]⟩;show λX5=>(fe<|GR i).trans rfl);show aX _ ?_<|(N.lY [] V).2;show M0 (GW (λ_=>aH) (λ_=>aH) λ_=>aH) (M0 GV GV 9 E.l B) 9 i m _ _ cU.rfl J [] V:∀{i}(u:eX E.l=true)(B:E.l.c8<=9)(m:i.c8<=9){J}(j:J<=E.aJ)(V:ay),∃L:eg,cT True L (bI E 1 0 1 (lF E 1 0 1) i (mR 1) J [] V)/\dW E dB ⟨dB i,0,J,[],[],[]⟩ V L (3*L.2.2)) (i:=i) (Ni X) (aq (Cp X)<|show 1<=9 by lia) (aq (Cp K)<|show 3<=9 by lia) j V) ?_;rintro L ⟨XN,XO,XQ⟩ N;show aB (N []) λx XR z=> ?_;rw[XN,XO]at z;show Q ?_;generalize bI E 1 0 1 (lF E 1 0 1) i (mR 1) J [] V=Y at*;obtain⟨S,I,X6⟩:=Y;show Ei S I v x (aq t n) (aq XR<|t8 _<|aq (XQ trivial) n) s ?_ ?_;·induction S<;>show A
 ·induction S<;>show z
by_cases l:∃H,i=.de H
·obtain⟨H,rfl⟩:=l;show aX (λ_=>0) (by decide) λJ V j=> ?_;have C:bI E 1 0 1 (lF E 1 0 1) (.de H) (mR 1) J [] V=(.lV J [],V,2):=by simp only[B2];have:E.aJ+1-J=E.aJ-J+1:=Nat.sub_add_comm j;rw[this];rfl
 show AZ (G J V j 2 0 (C▸aH)<|C▸aH) λS I v x P Z h=> ?_;show A3 S I v x (aq P aR) (aq Z aR) h
·have X7:=GS K;show aX (λL=>(tI 0 1 a).bw (λ_=>0) L) (aa0 (by lia)<|vo K) λJ V j=> ?_;show G J V j _ ((tI 0 1 a).bw (λ_=>0)<|E.aJ-J) (aq (Nn (R:=1) (F:=0) q X K (λH Y=>l ⟨H,Y⟩) (mR 1) (λ_=>1) (λJ f V _=>aH) J [] V j)<|aaZ (a:=a) (by lia) (vo K)<|show E.aJ-J<=4 by lia)<|by rw[(zo (E:=False) (M:=E) (a:=1) (e:=0) (r:=0) (k:=1) (h:=1) (m:=0) (X:=lF E 1 0 1) (j:=lF E 0 1 0) (λY=>Y.elim) (λY=>Y.elim) (λY=>Y.elim) i (.inr<|GW (λY=>Y.elim) (λY=>Y.elim) λY=>Y.elim) (mR 1) (mR 0) (λJ f V=>⟨rfl,rfl,λY=>Y.elim⟩) J [] V).2.1];show aq (Nl (I:=E) (E:=0) (G:=1) (J:=0) (H:=lF E 0 1 0) aH i (.inr<|Nl aH E.l<|.inr λ_ g=>g) (mR 0) (λJ f V=>aH) J [] V) (i8 (Nn (R:=0) (F:=1) q X K (λH Y=>l ⟨H,Y⟩) (mR 0) (λ_=>0) (λJ f V _=>aH) J [] V j) _):∀{i a e}(q:E.aJ<=4)(X:gw false 1 18 E.l e)(K:gw true 3 22 i a),∃p:Nat->Nat,p 0+p 1+p 2+p 3+p 4<=155355/\∀J V,J<=E.aJ->∃S I v x,v<=1035665/\x<=3106995/\I.bx.length<=V.bx.length+p (E.aJ-J)/\(∀O,gH E (O+v) ([.bl i],J,[]) [] V=some (S,I))/\∀O,jQ E dB (O+x) ⟨dB i,0,J,[],[],[]⟩ [] V=some (rK S,I)) q X K) λp s g=> ?_;show aX p s ?_;intro F;induction F with|nil=>intro V _;show lN _ _ ⟨rfl,rfl⟩ aH|cons J L XS=>intro V c;show yp (g J V<|c J cY) λS U v x P Z h k o=> ?_;have R:qA E i J V S U:=nu v x P Z k o;simp only[vG];clear k;clear o;induction S with|fail=>show js (XS U λd XT=>c d<|dI XT) λW XU XW XX=> ?_;show lN W XU ((by intro _ _ _ _ _ _ _ _ R g;show lN _ _ R (.inl ⟨rfl,g⟩):∀{E i J L V U I W}(R:qA E i J V .fail U)(g:mm E i L U W I),mm E i (J::L) V W I) R XW)<|iq h XX<|by simp+arith|_=>show lN _ _ (mm.acn R λg=>d6.noConfusion g)<|by lia
section
variable{G:cQ}{I:aY}{E:aS}{H J:Nat}
def Om(G:cQ)(I:aY)(E:aS)(V:ay)(M:Nat)(g:ag)(S:d6)(w:Option<|aI aa×ag):Prop:=∃F L,L<=M/\bJ G I E V L F/\bj [G.e,G.m,G.k] g F/\match S with|.fail=>w=some (.ai .none,F)|.lW=>w=some (.ai oH,F)|.dG O=>w=some (.cR O,F)|.lV J K=>∃H,w=some (.ai<|.tup [ao J,.ref H],F)/\g.length<=H/\F[H]?=some (.list<|K.map λX=>.tup [.ref<|I.cA X.1,.str X.2])
def HV{w:aj}(F:dh w)(S:a<=E.aJ):gT E 0 ([.bl w],a,[]):=⟨λG V=>by show vS.mp V▸F,S,λX I=>by simp at I,aH⟩
def xw(I:aY)(g w:ag)(G:Option<|aI aa×ag)(J:Nat):d6->Prop|.fail=>G=some (.ai .none,w)|.lW=>G=some (.ai oH,w)|.dG O=>G=some (.cR O,w)|.lV E F=>∃H,G=some (.ai<|.tup [ao J,ao E,.ref H],w)/\g.length<=H/\w[H]?=some (.list<|F.map λX=>.tup [.ref<|I.cA X.1,.str X.2])
def bJ.dS{V:ay}(w:bJ G I E V a b):gK G I b.length:=⟨d7<|bC w.e,d7<|bC w.m,d7<|bC w.k,d7<|bC w.q,d7<|bC w.s,λN=>d7<|bC<|w.eK N⟩
theorem acp{V k:ay}{S:d6}{f:aj}(L:fD E)(K:dh E.l)(u:dh f)(l:jX G I)(p:2000000<=H)(h:a<=E.aJ)(i:e<=1035665) (w:gH E e ([.bl f],a,[]) [] V=some (S,k))(U:di V)(Y:k.bx.length<=1000000)(t:r+e<=1000000000)(W:bJ G I E V r b):Om G I E k (r+e) b S<|av H (J+9) 66 [aD I f,.str E.f,ao a,.ref G.e] b:=by
 obtain T:gT E 0 ([.bl f],a,[]):=HV u h;show lO (Ol (G:=H) (K:=J) (L:=some<|aD I f) (M:=some<|ao a) (o:=none) (y:=none) (D:=none) (Z:=none) (b:=H) e L W.dS (acm L K l W.dS (aq aR p) e<|aq (aq i aR) p) (aq (cB<|aq i aR) p) (show qn (gH E e) [some ([.bl f],a,[])] V=some (S,k)from w) ((show kD E 0 []from λR T=>by simp at T).cons T) U Y (d8 i<|by simp+arith) (by simp;lia) t (aq (fI (aq i aR) _) p) (W.lb _) eL) λQ x M n o q=> ?_;obtain g:av H (J+9) 66 [aD I f,.str E.f,ao a,.ref G.e] b=bM (iF aw (av H<|J+8) H [.ret .none] fR) (gi aw (av H<|J+8) H nS mV H (gx (some<|aD I f) (some<|ao a) G E b.length none none none none)<|b++[cH I [some ([.bl f],a,[])]]):=by rw[aO (H:=E3) rfl rfl,aci];simp[gx,cH,nQ,dJ,kC,fZ,dR,eh]
 show nu Q x M n ((fp.aC o).cZ<|by intro P j X;simp at j⊢;rcases j with w|w|w|w<;>first|show .inl w|show .inr<|.inl w|show .inr<|.inr w|lia) ?_;show g▸ ?_;clear w;rcases S with _|⟨Z,c⟩|_|O;·obtain⟨F,q⟩:=q;simp only[q];simp
 ·show gZ q λF P q s v=> ?_;show cO P (by rw[q];simp) ?_ v;rw[List.length_append]at s;show ie s
 ·obtain⟨F,q⟩:=q;simp only[q];simp
 ·simp only at q⊢;rw[q];simp
abbrev xx(I:aY)(g:ag)(G:Option<|aI aa×ag)(E:ag)(W:i6):Prop:=W.casesOn (G=some (.ai .none,E)) (λw J F=>∃H,G=some (.ai<|.tup [ao w,ao J,.ref H],E)/\g.length<=H/\E[H]?=some (.list<|F.map λX=>.tup [.ref<|I.cA X.1,.str X.2])) λO=>G=some (.cR O,E)
inductive HW(G:cQ)(I:aY)(E:aS)(O:ag->ag->Prop)(V:ay)(N:Nat)(g:ag)(W:i6)(w:Option<|aI aa×ag):Prop|mk (J:ag) (K:Nat) (H:K<=N) (F:bJ G I E V K J) (L:O g J) (M:xx I g w J W)
abbrev Oo(G:cQ)(I:aY)(E:aS):=HW G I E<|bj [G.e,G.m,G.k]
noncomputable def zX:List bo:=[.b (.o<|.ae 5) [.ret<|.b (.d .aA (.ae 5)<|.bE 26) (.none)<|.ae 5] []]
def pF:List bo:=.assign (.ae 5) (.call 65 [.ae 0,.ae 1,.ae 4,.ae 3])::zX
theorem acq:E2=⟨4,6,[.uf 4 (.b (.ae 2) (.int 1)<|.bin .cV (.g .aZ [.ae 1])<|.int 1) pF,.ret<|.none]⟩:=rfl
def mW(Q:aa)(W:Str)(I:Bool)(L J:Nat)(K:Option aa):ak:=[some Q,some<|.str W,some<|.bool I,some<|.ref L,some<|ao J,K]
section
variable{K V:aa}{L:Str}{N M:Nat}{R:Bool}{T:Option aa}{Q S:ag}{U:Type}(O:aV×ak->af U)
def Df:dX aw (av H<|J+10) H pF (mW K L R N M T) O Q=l9 (zM aw (av H<|J+10) (.ae 5) (mW K L R N M T)<|iF aw (av H<|J+10) H zX O) (av H (J+10) 65 [K,.str L,ao M,.ref N] Q):=by simp[pF,mW]
def acr(g:av H (J+10) 65 [K,.str L,ao M,.ref N] Q=some (.ai .none,S)):dX aw (av H<|J+10) H pF (mW K L R N M T) O Q=O (.aK,mW K L R N M<|some .none) S:=by simp only[Df,g];simp[mW,zX]
def acs(g:av H (J+10) 65 [K,.str L,ao M,.ref N] Q=some (.ai oH,S)):dX aw (av H<|J+10) H pF (mW K L R N M T) O Q=O (.ret .none,mW K L R N M<|some oH) S:=by simp only[Df,g];simp[mW,zX,oH]
def acu(g:av H (J+10) 65 [K,.str L,ao M,.ref N] Q=some (.cR p,S)):dX aw (av H<|J+10) H pF (mW K L R N M T) O Q=some (.cR p,S):=(Df O).trans<|by show g▸NA
end
section
variable{K:aj}(N:fD E)(M:dh E.l)(L:dh K)
include N M L
theorem Dg{V I:ay}{S:d6}(g:a<=E.aJ)(G:di V)(W:qA E K a V S I):gV (V.bx.length<=I.bx.length)<|gV (di I)<|∀J H,S=.lV J H->2*H.length<=1035665:=by show lO W λw X O P F Q=> ?_;have U:=HU N M _ _ _ _ _ _ 0 (F 0) (HV L g) (λR T=>by simp at T) G;show⟨U.1,U.2.1,λJ H Y=>by have:=(U.2.2 J H Y).2.2;show aq (aq this<|by simp+arith) O⟩
def HX{W:i6}{I:ay}:∀{V:ay},mm E K h V W I->(∀J∈h,J<=E.aJ)->di V->gV (V.bx.length<=I.bx.length) (di I):=by induction h with|nil=>show λw _ G=>by rw[w.2];show⟨aH,G⟩|cons J g F=>
intro V w H G;show js w λS P R w=> ?_;obtain U:=Dg N M L (H _ cY) G R;rcases w with w|w;·obtain Q:=F w.2 (λO T=>H O<|dI T) U.2.1;show⟨aq U.1 Q.1,Q.2⟩
·rw[w.2.2];show⟨U.1,U.2.1⟩
def acv{W:i6}{V I:ay}(w:mm E K (a::h) V W I)(g:∀J∈a::h,J<=E.aJ)(G:di V)(F:I.bx.length<=e):∃S H,qA E K a V S H/\H.bx.length<=e/\di H/\(S=.fail/\mm E K h H W I\/S≠.fail/\W=xu a S/\I=H):=by
 show js w λS H R w=> ?_;obtain U:=Dg N M L (g _ cY) G R;show nu S H R ?_ U.2.1 w;rcases w with w|w;·show aq (HX N M L w.2 (λJ O=>g J<|dI O) U.2.1).1 F
 ·show w.2.2▸F
end
def acw{c:aj}(L:fD E)(K:dh E.l)(v:dh c)(m:jX G I)(r:2000000<=H){S:d6}{V U:ay}(f:e<=E.aJ)(u:di V)(x:U.bx.length<=1000000)(t:a+1035665<=1000000000)(j:bJ G I E V a b)(z:qA E c e V S U):
qq (λP h=>h<=a+1035665) (λP h=>bJ G I E U h P) (λP _=>bj [G.e,G.m,G.k] b P) λP _=>xw I b P (av H (J+10) 65 [aD I c,.str E.f,ao e,.ref G.e] b) e S:=by show lO z λA B n Y F y=> ?_;obtain F:=F 0;rw[Nat.zero_add]at F;obtain⟨P,h,M,o,q,R⟩:=(by
intro _ _ _ _ _ S _ _ _ _ _ w;show lO w λP a Q W Z i=> ?_;show⟨P,a,Q,W,Z, ?_⟩;clear w;rcases S with _|⟨T,X⟩|_|O;·simp only[xw]at i⊢;rw[aO (H:=qT) rfl rfl];simp[qT,i]
·show cC i λg i p s=> ?_;show cO g ?_ p s;rw[aO (H:=qT) rfl rfl];simp[qT,i]
·simp only[oH,xw]at i⊢;rw[aO (H:=qT) rfl rfl];simp[qT,i]
·simp only[xw]at i⊢;rw[aO (H:=qT) rfl rfl];simp[qT,i]:∀{G:cQ}{I:aY}{E:aS}{H J:Nat}{S:d6}{c:aj}{e l:Nat}{k:ay}{b:ag}(w:Om G I E k l b S<|av H J 66 [aD I c,.str E.f,ao e,.ref G.e] b),qq (λP a=>a<=l) (λP a=>bJ G I E k a P) (λP a=>bj [G.e,G.m,G.k] b P) λP a=>xw I b P (av H (J+1) 65 [aD I c,.str E.f,ao e,.ref G.e] b) e S)<|acp (H:=H) (J:=J) L K v m r f n F u x (aq (i8 n _) t) j;show⟨P,h,aq M<|i8 n _,o,q,R⟩
inductive Oq{U:Type}(G:cQ)(I:aY)(E:aS)(R:ag->ag->Prop)(P:ag->Prop)(M:List Nat->U->ag->Option (aI aa×ag))(J:Nat)(L:List Nat)(X:U)(V:ay)(O:Nat)(g:ag)(S:d6):Prop|mk (w:ag) (K:Nat) (H:K<=O) (W:bJ G I E V K w) (F:R g w) (N:S=.fail->gV (P w) (∃T,M (J::L) X g=M L T w)) (Q:S≠.fail->xx I g (M (J::L) X g) w (xu J S))
def xx.cZ{J:ag}{G:Option<|aI aa×ag}{W:i6}(w:b.length<=u.length)(N:xx I u G J W):xx I b G J W:=by induction W with|none|dG=>show N|xt g E F=>show N.elim λH R=>cO H R.1 (aq w R.2.1) R.2.2
theorem Ot{d:aj}{y:ag->ag->Prop}{P:ag->Prop}{M:List Nat->c->ag->Option (aI aa×ag)}{W:i6}{m:ay}(j:fD E)(K:dh E.l)(s:dh d)(v:∀g,y g g)(C:∀{g O x},y g O->y O x->y g x)(r:∀{g O},y g O->g.length<=O.length) (B:∀f g,M [] f g=some (.ai .none,g))(D:∀J L V S U g k f,J<=E.aJ->di V->U.bx.length<=1000000->k+a<=1000000000->bJ G I E V k g->P g->qA E d J V S U->Oq G I E y P M J L f U (k+a) g S)(Y:m.bx.length<=1000000):∀(V:ay)(g:ag)(k:Nat)(f:c),mm E d h V W m->(∀J∈h,J<=E.aJ)->di V->k+h.length*a<=1000000000->bJ G I E V k g->P g->HW G I E y m (k+h.length*a) g W (M h f g):=by induction h with|nil=>show λV g k f w _ _ _ l _=>by simp only[w.1,w.2,B];show⟨g,k,bD,l,v g,rfl⟩|cons J L Z=>intro V g k f w b q F l e;simp only[List.length_cons]at F⊢;show lO (acv j K s w b q Y) λS U u A H w=> ?_;obtain⟨O,i,n,N,o,R,T⟩:=D J L V S U g k f (b _ cY) q A (aq (i8 (by lia) _) F) l e u;show w.elim (λw=> ?_) λw=>⟨O,i,aq n<|i8 (by lia) _,w.2.2▸N,o,w.2.1▸T w.1⟩;obtain⟨X,z,E⟩:=R w.1;obtain⟨p,t,Q,XN,XO,XQ⟩:=Z U O i z w.2 (λXR XS=>b XR<|dI XS) H (aq (by lia) F) N X;show⟨p,t,aq Q<|by lia,XN,C o XO,E▸XQ.cZ (r o)⟩
def HY(H J:Nat)(Q:aa)(W:Str)(I:Bool)(L:Nat)(F:List Nat)(X:Option aa×Option aa)(g:ag):Option<|aI aa×ag:=bM (iF aw (av H<|J+10) H [.ret .none] fR)<|jT aw (av H<|J+10) H 4 pF (F.map ao) [some Q,some<|.str W,some<|.bool I,some<|.ref L,X.1,X.2] g
def Ou{X:Option aa×Option aa}:HY H J d m n a (e::h) X b=bM (iF aw (av H<|J+10) H [.ret .none] fR) (dX aw (av H<|J+10) H pF (mW d m n a e X.2) (xq aw (av H<|J+10) H 4 pF<|h.map ao) b):=congrArg (bM _)<|rX _ _ _ _ _ _ _ _ _
def acx{j:aj}(v:Bool)(m:fD E)(x:dh E.l)(A:dh j)(N:jX G I)(t:2000000<=H){W:i6}{q:ay}(Y:q.bx.length<=1000000):∀(V:ay)(g:ag)(n:Nat)(X:Option aa×Option aa),mm E j h V W q->(∀Z∈h,Z<=E.aJ)->di V->n+h.length*1035665<=1000000000->bJ G I E V n g->True->Oo G I E q (n+h.length*1035665) g W (HY H J (aD I j) E.f v G.e h X g):=Ot m x A (λ_=>bj.rfl) bj.aC bj.aZ (λ_ _=>rfl) λZ L V S p g n X k y Y F o _ B=>by obtain⟨a,l,M,r,s,u⟩:=acw (J:=J) m x A N t k y Y F o B;show⟨a,l,M,r,s,λw=>⟨trivial,(some<|ao Z,some .none),by rw[Ou,acr _ (w▸u:xw _ _ _ _ _ .fail),zQ];rfl⟩,(by
intro Q z v c Z _ _ g a S i w;rw[Ou];rcases S with _|⟨e,f⟩|_|O;·show absurd rfl w
·show i.elim λP R=>aX P (by rw[(by intro _ _ _ _ _ _ _ _ _ _ _ _ _ i;simp only[Df,i];simp[mW,zX]:∀{H J:Nat}{Q:aa}{z:Str}{c Z:Nat}{v:Bool}{K:Option aa}{g a:ag}{b:Type}(T:aV×ak->af b){U}(i:av H (J+10) 65 [Q,.str z,ao Z,.ref c] g=some (.ai<|.tup U,a)),dX aw (av H<|J+10) H pF (mW Q z v c Z K) T g=T (.ret<|.tup U,mW Q z v c Z<|some<|.tup U) a) _ R.1];rfl) R.2
·rw[acs _ i];rfl
·rw[acu _ i];rfl:∀{Q z v c Z L X g a S}(i:xw I g a (av H (J+10) 65 [Q,.str z,ao Z,.ref c] g) Z S)(w:S≠.fail),xx I g (HY H J Q z v c (Z::L) X g) a<|xu Z S) u⟩ Y
def mq(I:Bool)(E:aS):List Nat:=List.range<|if I then 1 else E.aJ+1
theorem xy:∀J∈mq n E,J<=E.aJ:=by intro J S;have:=su.mp S;clear S;induction n<;>simp at this<;>lia-abstractProof
theorem Ov(K:E.aJ<=4):(mq n E).length<=5:=by unfold mq;rw[List.length_range];split<;>lia-abstractProof
def HZ(P:bu)(g:aW)(Q G:Nat)(I:List bo)(F:ak)(N:Nat)(w:N<=1000):zH P g Q G I F (ao N)=jT P g Q G I ((List.range N).map ao) F:=by change Mine.Internal.af.d4 (decide ((0:Int)<=(N:Int))&&decide ((N:Int)<=1000)) _=_;rw[decide_eq_true (by show Int.ofNat_le.mpr w:(N:Int)<=1000)];rfl
theorem Ow(P:bu)(g:aW)(Q G:Nat)(I:List bo)(F:ak):zH P g Q G I F (.int 1)=jT P g Q G I ((List.range 1).map ao) F:=HZ P g Q G I F 1 aR
theorem acy{X:aj}{V f:ay}{W:i6}(L:fD E)(K:dh E.l)(j:dh X)(h:jX G I)(i:2000000<=H)(w:mm E X (mq n E) V W f)(U:di V)(k:f.bx.length<=1000000)(F:a+6000000<=1000000000)(e:bJ G I E V a b):Oo G I E f (a+6000000) b W (av H (J+11) 64 [aD I X,.str E.f,.bool n,.ref G.e] b)/\di f:=by
 obtain Y:=Ov (n:=n) L.aZ;obtain g:av H (J+11) 64 [aD I X,.str E.f,.bool n,.ref G.e] b=bM (iF aw (av H<|J+10) H [.ret .none] fR) (jT aw (av H<|J+10) H 4 pF ((mq n E).map ao) [some<|aD I X,some<|.str E.f,some<|.bool n,some<|.ref G.e,none,none] b):=by
  rw[aO (H:=E2) rfl rfl,acq];obtain R:E.f.length<=4:=L.aZ;clear Y;induction n;·simp(disch:=lia) [HZ,mq];rfl
  ·simp[Ow,mq]
 show eA λT Q=> ?_;obtain⟨M,Z,O,P,S,c⟩:=acx (H:=H) (J:=J) n L K j h i k V b a (none,none) w xy U (aq (by lia) F) e trivial;show Q ?_;show⟨⟨M,Z,aq O<|by lia,P,S, ?_⟩,(HX L K j w xy U).2⟩;show g▸c
end
section
set_option tactic.hygienic true
def aj.cE(w:aj):Nat:=w.rec (λK=>1) (λ_ _=>1) (λ_ _=>1) 1 1 1 1 1 1 (λ_=>1) (λ_=>1) (λ_ G=>G+1) (λ_ _ _ G=>G+1) (λ_ _ G U=>G+U+1) λ_ _ G U=>G+U+1
theorem Dh:aj.cE (.bc m)=1:=rfl
theorem Ox{N:bX}{U:jO}:aj.cE (.d5 N U)=1:=rfl
theorem Oy{N:bX}{U:dM}:aj.cE (.gg N U)=1:=rfl
theorem Oz:aj.cE (.fz)=1:=rfl
theorem OA:aj.cE (.eG)=1:=rfl
theorem OB:aj.cE (.fj)=1:=rfl
theorem OC:aj.cE (.fA)=1:=rfl
theorem OD:aj.cE (.fail)=1:=rfl
theorem OE:aj.cE (.fH)=1:=rfl
theorem OF{L:bT}:aj.cE (.iO L)=1:=rfl
theorem OG{U:dM}:aj.cE (.fM U)=1:=rfl
theorem zY{H:aj}:aj.cE (.de H)=H.cE+1:=rfl
theorem zZ{H:aj}{L:bT}:aj.cE (.bZ n H L)=H.cE+1:=rfl
theorem z0{H I:aj}:aj.cE (.bF H I)=H.cE+I.cE+1:=rfl
theorem z7{H I:aj}:aj.cE (.bU H I)=H.cE+I.cE+1:=rfl
def aj.cp(w:aj):Nat:=w.rec (λK=>K.length) (λ_ _=>0) (λ_ _=>0) 0 0 0 0 0 0 (λ_=>0) (λ_=>0) (λ_ G=>G) (λ_ _ _ G=>G) (λ_ _ G U=>G+U) λ_ _ G U=>G+U
theorem Di:aj.cp (.bc m)=m.length:=rfl
theorem alF{N:bX}{U:jO}:aj.cp (.d5 N U)=0:=rfl
theorem alG{N:bX}{U:dM}:aj.cp (.gg N U)=0:=rfl
theorem alH:aj.cp (.fz)=0:=rfl
theorem alI:aj.cp (.eG)=0:=rfl
theorem alJ:aj.cp (.fj)=0:=rfl
theorem alK:aj.cp (.fA)=0:=rfl
theorem alL:aj.cp (.fail)=0:=rfl
theorem alM:aj.cp (.fH)=0:=rfl
theorem alN{L:bT}:aj.cp (.iO L)=0:=rfl
theorem alO{U:dM}:aj.cp (.fM U)=0:=rfl
theorem alP{H:aj}:aj.cp (.de H)=H.cp:=rfl
theorem OH{H:aj}{L:bT}:aj.cp (.bZ n H L)=H.cp:=rfl
theorem H0{H I:aj}:aj.cp (.bF H I)=H.cp+I.cp:=rfl
theorem OI{H I:aj}:aj.cp (.bU H I)=H.cp+I.cp:=rfl
def rY(w:aj):1<=w.cE:=by rcases w with-|-<;>simp[Dh,Ox,Oy,Oz,OA,OB,OC,OD,OE,OF,OG,zY,zZ,z0,z7]
def gy(F:List aj):Nat:=List.rec (motive:=λ_=>Nat) 0 (λG _ S=>G.cE+S) F
def gz(F:List aj):Nat:=List.rec (motive:=λ_=>Nat) 0 (λG _ S=>G.cp+S) F
theorem oI:gy []=0:=rfl
theorem jY{G:aj}{L:List aj}:gy (G::L)=G.cE+gy L:=rfl
theorem vH:gz []=0:=rfl
theorem rZ{G:aj}{L:List aj}:gz (G::L)=G.cp+gz L:=rfl
def Aa(F N:List aj):gy (F++N)=gy F+gy N:=by induction F with|nil=>simp[oI,jY]|cons G F S=>simp only[List.cons_append,oI,jY,S];show Eq.symm n6
def Ab(F N:List aj):gz (F++N)=gz F+gz N:=by induction F with|nil=>simp[vH,rZ]|cons G F S=>simp only[List.cons_append,vH,rZ,S];show Eq.symm n6
def Dj(F:List aj):F.length<=gy F:=by induction F with|nil=>show aH|cons G F S=>have:=rY G;simp only[List.length_cons,oI,jY];show j1<|jB S<|d8 this<|bP lQ
def Ia(w:aj):gy (fN w)<=w.cE:=by induction w with|bF H I g J=>simp only[tw,Aa];simp only[z0];show jb<|ip g J|_=>simp[fN,oI,jY]
def acz(w:aj):gy (gQ w)<=w.cE:=by induction w with|bU H I g J=>simp only[qt,Aa];simp only[z7];show jb<|ip g J|_=>simp[gQ,oI,jY]
def Ib(w:aj):gz (fN w)=w.cp:=by induction w with|bF H I g J=>simp only[tw,Ab];simp only[H0];show i7 (ip (bP g)<|bP J)<|ip (bP g.symm)<|bP J.symm|_=>simp[fN,vH,rZ]
def OJ(w:aj):gz (gQ w)=w.cp:=by induction w with|bU H I g J=>simp only[qt,Ab];simp only[OI];show i7 (ip (bP g)<|bP J)<|ip (bP g.symm)<|bP J.symm|_=>simp[gQ,vH,rZ]
def OK(J:List aj)(X:aj):gz (lZ J X)=gz J+X.cp:=by
 show zq (P:=λJ F=>gz F=gz J+X.cp) lQ (λG=> ?_) (λG g L w=> ?_) J
 ·rcases zp G X with⟨K,U,rfl,rfl,Y⟩|Y<;>rw[Y];·simp only[rZ,Di];simp only[rM,tC,List.length_append,rM,rM];show n6
  ·simp[vH,rZ]
 ·show(congrArg (G.cp+·) w).trans n6.symm
def acA(J:List aj)(X:aj):gy (lZ J X)<=gy J+X.cE:=by
 show zq (P:=λJ F=>gy F<=gy J+X.cE) (bP lQ) (λG=> ?_) (λG g L w=> ?_) J
 ·rcases zp G X with⟨K,U,rfl,rfl,Y⟩|Y<;>rw[Y];·simp[jY,Dh]
  ·simp[oI,jY]
 ·simp only[jY]at w⊢;show d8 w<|by simp+arith
def OL:∀(F J:List aj),gz (jx J F)=gz J+gz F:=by intro F;induction F with|nil=>show λ_=>rfl|cons X L S=>
intro J;show zr (G:=λH=>gz (jx H L)=gz J+gz (X::L)) (λw=> ?_) (λU w=> ?_) ?_;·subst w;show(S J).trans<|congrArg _ (I8 _).symm
·subst w;rw[S,OK];show n6
·rw[S,Ab];show n6
def Ic:∀(F J:List aj),gy (jx J F)<=gy J+gy F:=by intro F;induction F with|nil=>show λ_=>aH|cons X L S=>
intro J;show zr (G:=λH=>gy (jx H L)<=gy J+gy (X::L)) (λw=> ?_) (λU w=> ?_) ?_;·show aq (S J)<|i8 aR _
·subst w;show aq (S _)<|aq (fI (acA J _) _)<|bP n6
·have:=S<|J++[X];rw[Aa]at this;show aq this<|bP n6
def acB(w:b[a]?=some (.list i))(W:b[e]?=some (.list [d,v]))(V:a≠e)(E:i.length+2<=16000000):dO .Y [.ref a,.ref e] b=some (.ai .none,b.set a<|.list<|i++[d,v]):=by change JG b[a]? b[e]? a e b=_;rw[w,W];change af.d4 (a !=e&&eN (i.length+2)) _ b=_;rw[bne_iff_ne.mpr V,kB E];rfl
section
variable{E:aY}{G H:Nat}
inductive mr|xA|xB
noncomputable def mr.str:mr->Str|.xA=>ba|.xB=>cu
def mr.tQ:mr->aj->List aj|.xA=>fN|.xB=>gQ
noncomputable def mr.split(N:mr)(w:aj):Option<|aj×aj:=match N,w with|.xA,.bF H I=>some (H,I)|.xB,.bU H I=>some (H,I)|_,_=>none
def aj.OM(w:aj):Str:=w.casesOn (λ_=>ab) (λN _=>ik N) (λN _=>ik N) b8 a3 a6 b1 a9 a7 (λ_=>c3) (λ_=>a4) (λ_=>cx) (λF _ _=>bif F then cv else cy) (λ_ _=>ba) λ_ _=>cu
theorem Dk(w:bX)(N:mr):(ik w==N.str)=false:=by induction N<;>induction w using bX.casesOn<;>rfl
def acC{N:mr}{G:aj}(w:N.split G=none):N.tQ G=[G]/\∃K F,aD E G=.tup (.str K::F)/\(K==N.str)=false:=by
 have Y:N.tQ G=[G]/\(G.OM==N.str)=false:=by
  rcases N with _|_;·induction G with|d5 N U=>show⟨rfl,Dk N .xA⟩|gg N U=>show⟨rfl,Dk N .xA⟩|bZ F H L=>induction F<;>show⟨rfl,rfl⟩|bF H I=>show nomatch w|_=>show⟨rfl,rfl⟩
  ·induction G with|d5 N U=>show⟨rfl,Dk N .xB⟩|gg N U=>show⟨rfl,Dk N .xB⟩|bZ F H L=>induction F<;>show⟨rfl,rfl⟩|bU H I=>show nomatch w|_=>show⟨rfl,rfl⟩
 obtain⟨F,g⟩:=(by intro _ G;induction G with|bZ F H L=>induction F<;>show⟨_,rfl⟩|_=>show⟨_,rfl⟩:∀{E:aY}(G:aj),∃F,aD E G=.tup (.str G.OM::F)) (E:=E) G;show⟨Y.1,_,F,g,Y.2⟩
noncomputable def Dl:List bo:=[.assign (.ae 4)<|.i .G (.ae 3) [],.b (.d .aA (.c (.ae 4)<|.int 0)<|.ae 1) [.expr<|.i .Y (.ae 3) [.list [.c (.ae 4)<|.int 2,.c (.ae 4)<|.int 1]]] [.expr<|.i .dj (.ae 2) [.ae 4]]]
theorem acD:Em=⟨2,5,[.assign (.tup [.ae 2,.ae 3])<|.tup [.list [],.list [.ae 0]],.z (.d .fQ (.g .aZ [.ae 3])<|.int 0) Dl,.ret<|.ae 2]⟩:=rfl
theorem acE(F:aW)(Q:Nat)(N:mr)(W:Option aa)(s:e≠a):∀(O:Nat)(D k:List aj)(g:ag)(X:Nat)(Z:Option aa),2*gy D<=O->O+1<=X->k.length+gy D<=4000->g[e]?=some (.list<|k.map<|aD E)->g[a]?=some (.list (D.map<|aD E).reverse)->tm (λJ U=>gi aw F Q (.d .fQ (.g .aZ [.ae 3])<|.int 0) Dl X [W,some<|.str N.str,some<|.ref e,some<|.ref a,Z] g=some (.ai (.aK,[W,some<|.str N.str,some<|.ref e,some<|.ref a,U]),J)) (λJ U=>J[e]?=some (.list<|(k++(D.map N.tQ).flatten).map<|aD E)) λJ U=>bj [e,a] g J:=by
 intro O;induction O with|zero=>
 intro D k g X Z V h Y m T;obtain⟨X,rfl⟩:∃N,X=N+1:=⟨X-1,Eq.symm<|iT h⟩;rcases D with _|⟨G,L⟩;·show⟨g,Z, ?_,by simpa using m,bj.rfl⟩;rw[jU];simp[T,jW]
 ·have:=rY G;simp only[jY]at V;lia|succ O S=>
 intro D k g X Z V h Y m T;obtain⟨X,rfl⟩:∃N,X=N+1:=⟨X-1,Eq.symm<|iT<|aq aR h⟩;rcases D with _|⟨G,L⟩;·show⟨g,Z, ?_,by simpa using m,bj.rfl⟩;rw[jU];simp[T,jW]
 ·obtain C:=Dj L;simp only[jY]at V Y;obtain c:g[a]?=some (.list<|(L.map<|aD E).reverse++[aD E G]):=by rw[T];simp
  have x:((L.map<|aD E).reverse++[aD E G]).length<=16000000:=by simp;show aq C<|d8 Y<|by simp+arith
  have z:=bC T;simp only[jU];obtain v:((L.map<|aD E).reverse).length+1<=16000000:=by simp;show aq C<|by lia
  obtain d:=CS g a ((L.map<|aD E).reverse) (aD E G) v;obtain p:=jW ((L.map<|aD E).reverse++[aD E G]) x;have A:0<((L.map<|aD E).reverse++[aD E G]).length:=by simp
  rcases P:N.split G with _|XN
  ·have XO:(k.map<|aD E).length+1<=16000000:=by simp;show d8 Y<|by simp+arith
   show eA λXQ o=> ?_;obtain⟨y,XT,XU,u,B⟩:=acC (E:=E) P;obtain⟨J,U,M,n,q⟩:=S L (k++[G]) ((g.set a<|.list (L.map<|aD E).reverse).set e<|.list<|(k++[G]).map<|aD E) X (some<|aD E G) (i9<|eI (m6<|xY.mpr<|d8 (rY G)<|by simp+arith) V) (fJ h) (by simp;show aq (d8 (rY G)<|by simp+arith) Y) (dY<|by simpa using bC m)<|(dQ s).trans<|dY z;show o ?_;show⟨J,U, ?_, ?_, ?_⟩
   ·have t:=jl (g.set a<|.list (L.map<|aD E).reverse) e (k.map<|aD E) (aD E G) XO;have XR:(k++[G]).map (aD E)=k.map (aD E)++[aD E G]:=by simp
    rw[XR]at M;rw[u]at M c d p t A;rw[<-M];conv=>lhs;unfold Dl
    simp[-List.length_append,c,d,p,A,(dQ<|Ne.symm s).trans m,B,t];rfl
   ·show n.trans ?_;simp only[List.map_cons,List.flatten_cons,y,List.append_assoc]
   ·show((eC<|by simp).aC<|eC<|by simp).aC q
  ·show eA λXQ o=> ?_;obtain⟨K,I⟩:=XN;show iI ((by intro _ N f _ _ w;induction N<;>rcases f with⟨⟩<;>simp[mr.split]at w<;>(obtain⟨rfl,rfl⟩:=w;show fS rfl rfl rfl):∀{E:aY}{N:mr}{f K I:aj}(w:N.split f=some (K,I)),N.tQ f=N.tQ K++N.tQ I/\aD E f=.tup [.str N.str,aD E K,aD E I]/\f.cE=K.cE+I.cE+1) (E:=E) P) λy u B=> ?_;have XW:=rY K;have XX:=rY I;have XS:a≠(g.set a<|aM.list (L.map<|aD E).reverse).length:=by simp;show gL z
   have r:=acB (b:=g.set a (aM.list (L.map<|aD E).reverse)++[aM.list [aD E I,aD E K]]) (a:=a) (e:=(g.set a<|aM.list (L.map<|aD E).reverse).length) (i:=(L.map<|aD E).reverse) (d:=aD E I) (v:=aD E K) ((gj<|by simp_all).trans<|dY z) eL XS (by simp;show aq C<|d8 Y<|by simp+arith);obtain⟨J,U,M,n,q⟩:=S (K::I::L) k ((g.set a (aM.list (L.map<|aD E).reverse)++[aM.list [aD E I,aD E K]]).set a<|.list<|(L.map<|aD E).reverse++[aD E I,aD E K]) X (some<|aD E G) (by simp only[jY];show fJ<|aq (j1<|m6<|xY.mpr<|iq (bP B.symm) (bP B.symm)<|by simp+arith) V) (fJ h) (by simp only[jY];show aq (d8 (bP B.symm)<|by simp+arith) Y) ((dQ<|Ne.symm s).trans<|(gj<|by simpa using bC m).trans<|(dQ<|Ne.symm s).trans m) (by show(dY<|by simp;show pO _ z).trans ?_;simp);show o ?_;show⟨J,U, ?_, ?_, ?_⟩
   ·rw[u]at M c d p A;rw[<-M];conv=>lhs;unfold Dl
    rw[List.length_set]at r;simp(disch:=assumption) [-getElem?_pos,-List.reverse_reverse,-List.length_append,-List.length_reverse,-List.length_map,c,d,p,A,dY z,r];rfl
   ·show n.trans ?_;simp only[List.map_cons,List.flatten_cons,y,List.append_assoc]
   ·show((eC<|by simp).aC<|fp.aC<|eC<|by simp).aC q
theorem ON{N:mr}{K:aj}(w:K.cE<=1000)(L:4000<=G):qq (λJ g=>av G (H+1) 0 [aD E K,.str N.str] b=some (.ai<|.ref g,J)) (λJ g=>J[g]?=some (.list<|(N.tQ K).map<|aD E)) (λJ g=>b.length<=g) λJ g=>bj [] b J:=by
 obtain⟨J,U,M,P,I⟩:=acE (E:=E) (av G H) G N (some<|aD E K) (e:=b.length) (a:=b.length+1) (gL iW) (2*K.cE) [K] [] (b++[.list []]++[.list [aD E K]]) G none (by simp[oI,jY]) (aq (cB<|iq w w<|by simp+arith) L) (by simp[oI];show aq w aR) (by show(gj<|by simp).trans eL) (by
 have:(b++[aM.list []]).length=b.length+1:=by simp
 show this▸eL);show⟨J,b.length, ?_, ?_,aH, ?_⟩;·rw[aO (H:=Em) rfl rfl,acD];simp only[List.append_assoc,List.cons_append,List.nil_append]at M;simp[M]
 ·show P.trans ?_;simp
 ·show(fp.aC<|fp.aC I).cZ<|by intro g O F;simp at O;lia
noncomputable def Ac:aj->Bool|.bc _=>true|_=>false
def Ie(w:eY m ab=false):av G (H+1) 1 [.tup<|.str m::i] b=some (.ai<|.bool false,b):=by rw[aO (H:=yt) rfl rfl];simp[yt,w]
def acF{w:aj}:av G (H+1) 1 [aD E w] b=some (.ai<|.bool<|Ac w,b):=by induction w with|bc g=>rw[aO (H:=yt) rfl rfl];simp[yt,Ac]|d5 N U|gg N U=>induction N using bX.casesOn<;>show Ie rfl|bZ F=>induction F<;>show Ie rfl|_=>show Ie rfl
noncomputable def mX:List bo:=[.b (.call 1 [.ae 2]) [.b (.d .aA (.c (.ae 2)<|.int 1)<|.str ⟨#[]⟩) [.cont] [],.b (.and [.d .fQ (.g .aZ [.ae 1])<|.int 0,.call 1 [.c (.ae 1)<|.bin .cg (.g .aZ [.ae 1])<|.int 1]]) [.assign (.ae 2)<|.tup [.str ab,.bin .cV (.c (.i .G (.ae 1) [])<|.int 1)<|.c (.ae 2)<|.int 1]] []] [],.expr<|.i .dj (.ae 1) [.ae 2]]
theorem acG:En=⟨1,3,[.assign (.ae 1)<|.list [],.D 2 (.ae 0) mX,.ret<|.ae 1]⟩:=rfl
def acH(F:List aj)(G X:aj):lZ (F++[G]) X=F++xb G X:=by induction F with|nil=>rfl|cons U F S=>
rcases F with _|⟨Y,F⟩;·change U::lZ [G] X=_;rfl
·change U::lZ (Y::F++[G]) X=_;rw[S];rfl
def acI(G:aj):(∃K,G=.bc K)\/(Ac G=false/\∀U,xb G (.bc U)=[G,.bc U]):=by induction G with|bc K=>show .inl ⟨K,rfl⟩|_=>show .inr ⟨rfl,λ_=>rfl⟩
section
variable{M:aW}{S K:Nat}{I:ag}{Q:Option aa}{J:List aa}{L R:aa}{T N:Str}
def acJ(g:I[K]?=some (.list J))(E:J.length<=3000)(O:M 1 [L] I=some (.ai<|.bool false,I)):dw aw M S mX [Q,some<|.ref K,some L] I=some (.ai (.aK,[Q,some<|.ref K,some L]),I.set K<|.list<|J++[L]):=by unfold mX;simp[O,g,jl I K J L<|Nat.le_trans (Nat.succ_le_succ E) aR]
variable(O:M 1 [.tup [.str ab,.str N]] I=some (.ai<|.bool true,I))(U:(N==(⟨#[]⟩:Str))=false)
include O U
theorem OO(g:I[K]?=some (.list<|J++[R]))(E:J.length+1<=3000):jE (.ref K) (ao J.length) I=some (.ai R,I):=by simp only[vy,g,mT _ _<|Nat.le_of_succ_le<|Nat.le_trans E aR];simp
end
inductive acK(E:aY)(I:aW)(Q:Nat)(N:Option aa)(M:Nat)(X:aj)(g:ag)(F:List aj):Prop|mk (J:ag) (W:aV) (G:aa) (H:dw aw I Q mX [N,some<|.ref M,some<|aD E X] g=some (.ai (W,[N,some<|.ref M,some G]),J)) (w:W=.aK\/W=.cont) (K:J[M]?=some (.list<|F.map<|aD E)) (L:bj [M] g J)
def acL(J:List aj)(X:aj):gz (rL J X)=gz J+X.cp/\(rL J X).length<=J.length+1:=by
 show zr (G:=λH=>gz H=gz J+X.cp/\H.length<=J.length+1) (λw=> ?_) (λU w=> ?_) ?_;·subst w;show⟨rfl,m8 _⟩
 ·subst w;show⟨OK _ _,zq (P:=λJ F=>F.length<=J.length+1) aH (λG=> ?_) (λG g L w=>cB w) J⟩;rcases zp G<|.bc U with⟨K,I,_,_,Y⟩|Y<;>rw[Y]<;>simp
 ·show⟨by simp[Ab,vH,rZ],by simp⟩
theorem acM(d:∀(b:aj) g,f 1 [aD E b] g=some (.ai<|.bool<|Ac b,g))(XN:a≠r)(B:List aj):∀(L C:List aj)(p:List aj)(g:ag)(u:Option aa)(Y:Nat),B=C++L->L.length+1<=Y->g[r]?=some (.list<|B.map<|aD E)->g[a]?=some (.list<|p.map<|aD E)->p.length+L.length<=3000->gz p+gz L<=4000->tm (λJ z=>pC aw f e 2 mX r Y C.length [some<|.ref r,some<|.ref a,u] g=some (.ai (.aK,[some<|.ref r,some<|.ref a,z]),J)) (λJ z=>J[a]?=some (.list<|(jx p L).map<|aD E)) λJ z=>bj [a] g J:=by intro L;induction L with|nil=>intro C p g u Y H c I h Z j;obtain⟨Y,rfl⟩:∃N,Y=N+1:=⟨Y-1,Eq.symm<|iT c⟩;show⟨g,u,CP _ _ _ _ _ _ _ _ _ _ _ I<|by subst H;simp,h,bj.rfl⟩|cons X L P=>
intro C p g u Y H c I h Z j;obtain⟨Y,rfl⟩:∃N,Y=N+1:=⟨Y-1,Eq.symm<|iT<|aq aR c⟩;simp only[List.length_cons]at c Z;have:=CQ aw f e mX Y [some<|.ref r,some<|.ref a,u] g (aD E X) 2 _ r C.length I (by subst H;simp);simp only[rZ]at j;obtain Q:=acL p X;obtain⟨t,XO,x,i,k,n,q⟩:=(by intro E f e g a p X y d h Z j;have A:=bC h;have D:∀{S:aM},bj [a] g<|g.set a S:=eC cY;induction X with|bc U=>
obtain I:=d (.bc U) g;by_cases W:U=⟨#[]⟩;·show⟨g,.cont,_,(by intro _ _ _ _ _ _ w O;unfold mX;simp[w,O]:∀{f:aW}{e a:Nat}{g:ag}{y:Option aa}{U:Str}(w:f 1 [.tup [.str ab,.str U]] g=some (.ai<|.bool true,g))(O:(U==(⟨#[]⟩:Str))=true),dw aw f e mX [y,some<|.ref a,some<|.tup [.str ab,.str U]] g=some (.ai (.cont,[y,some<|.ref a,some<|.tup [.str ab,.str U]]),g)) I<|by simpa using W,.inr rfl,by rw[show rL p (.bc U)=if U=⟨#[]⟩then p else lZ p<|.bc U from rfl,if_pos W];show h,bj.rfl⟩
·rw[(show rL p (.bc U)=if U=⟨#[]⟩then p else lZ p<|.bc U from rfl).trans<|if_neg W];rcases List.eq_nil_or_concat p with rfl|⟨F,G,rfl⟩;·show⟨_,.aK,_,(by intro _ _ a g _ U w O h;unfold mX;simp[w,O,h,jl g a [] (.tup [.str ab,.str U])<|by simp,jW]:∀{f:aW}{e a:Nat}{g:ag}{y:Option aa}{U:Str}(w:f 1 [.tup [.str ab,.str U]] g=some (.ai<|.bool true,g))(O:(U==(⟨#[]⟩:Str))=false)(h:g[a]?=some (.list [])),dw aw f e mX [y,some<|.ref a,some<|.tup [.str ab,.str U]] g=some (.ai (.aK,[y,some<|.ref a,some<|.tup [.str ab,.str U]]),g.set a<|.list [.tup [.str ab,.str U]])) I (by simpa using W) h,.inl rfl,dY A,D⟩
 ·rw[List.concat_eq_append]at h Z j⊢;rw[acH];obtain h:g[a]?=some (.list<|F.map (aD E)++[aD E G]):=h.trans (by simp);have c:(F.map<|aD E).length+1<=3000:=by simpa using Z
  rcases acI G with⟨K,rfl⟩|⟨V,m⟩
  ·obtain v:K.length+U.length<=4000:=by rw[Ab]at j;show aq (fI aR _) j
   show⟨_,.aK,_,(by intro _ _ a g _ T K U w O h Z V v;unfold mX;simp(disch:=lia) [-getElem?_pos,-vy,-HN,w,O,h,jW (T++[.tup [.str ab,.str K]])<|by simp;lia,CS g a T (.tup [.str ab,.str K])<|by lia,jl (g.set a<|.list T) a T (.tup [.str ab,.str<|K++U])<|by lia,OO w O h Z,V,v,dY<|bC h]:∀{f:aW}{e a:Nat}{g:ag}{y:Option aa}{T:List aa}{K U:Str}(w:f 1 [.tup [.str ab,.str U]] g=some (.ai<|.bool true,g))(O:(U==(⟨#[]⟩:Str))=false)(h:g[a]?=some (.list<|T++[.tup [.str ab,.str K]]))(Z:T.length+1<=3000)(V:f 1 [.tup [.str ab,.str K]] g=some (.ai<|.bool true,g))(v:K.length+U.length<=4000),dw aw f e mX [y,some<|.ref a,some<|.tup [.str ab,.str U]] g=some (.ai (.aK,[y,some<|.ref a,some<|.tup [.str ab,.str<|K++U]]),(g.set a<|.list T).set a<|.list<|T++[.tup [.str ab,.str<|K++U]])) I (by simpa using W) h c (d (.bc K) g) v,.inl rfl,(dY<|by simp_all).trans<|by simp;rfl,D.aC<|eC cY⟩
  ·show⟨_,.aK,_,(by intro _ _ a g _ T G U w O h Z V;unfold mX;simp(disch:=lia) [-getElem?_pos,-vy,-HN,-List.append_assoc,w,O,h,jl g a (T++[G]) (.tup [.str ab,.str U])<|Nat.succ_le_succ<|Nat.le_trans (Nat.le_of_eq List.length_append)<|Nat.le_trans Z aR,jW (T++[G])<|Nat.le_trans (Nat.le_of_eq List.length_append)<|Nat.le_trans Z aR,OO w O h Z,V]:∀{f:aW}{e a:Nat}{g:ag}{y:Option aa}{T:List aa}{G:aa}{U:Str}(w:f 1 [.tup [.str ab,.str U]] g=some (.ai<|.bool true,g))(O:(U==(⟨#[]⟩:Str))=false)(h:g[a]?=some (.list<|T++[G]))(Z:T.length+1<=3000)(V:f 1 [G] g=some (.ai<|.bool false,g)),dw aw f e mX [y,some<|.ref a,some<|.tup [.str ab,.str U]] g=some (.ai (.aK,[y,some<|.ref a,some<|.tup [.str ab,.str U]]),g.set a<|.list<|T++[G]++[.tup [.str ab,.str U]])) I (by simpa using W) h c<|V▸d G g,.inl rfl,(dY A).trans<|by rw[m];simp,D⟩|_=>show⟨_,.aK,_,acJ h (by simpa using Z)<|d _ g,.inl rfl,(dY A).trans<|congrArg (λF=>some<|aM.list F) (List.map_append (l₁:=p) (l₂:=[_])).symm,D⟩:∀{E:aY}{f:aW}{e:Nat}{g:ag}{a:Nat}{p:List aj}{X:aj}{y:Option aa}(d:∀(b:aj) g,f 1 [aD E b] g=some (.ai<|.bool<|Ac b,g))(h:g[a]?=some (.list<|p.map<|aD E))(Z:p.length<=3000)(j:gz p+X.cp<=4000),acK E f e y a X g<|rL p X) (E:=E) (y:=some<|.ref r) (e:=e) d h (by lia) (show gz p+X.cp<=4000 by lia);obtain⟨J,z,o,l,s⟩:=P (C++[X]) (rL p X) t (some x) Y (by show H.trans ?_;simp) (fJ c) (q.at I<|by simp;lia) n (aq (d8 Q.2<|by simp+arith) Z)<|aq (bP<|by lia) j;show⟨J,z, ?_,l,q.aC s⟩;simp only[List.set_cons_succ,List.set_cons_zero]at this;simp only[this,oF,i,jS];rw[List.length_append]at o;clear i;rcases k with rfl|rfl;·rw[NF];show o
·simp only[abj];show o
end
end
def lG(Z:aY):aj->aa|.bc K=>.tup [.str c1,.str ab,.str K]|.d5 N U=>.tup [.str c1,.str<|ik N,jV U]|.gg N U=>.tup [.str c1,.str<|ik N,.tup [.str a4,fC U]]|.fz=>.tup [.str c1,.str b8,.none]|_=>.none
def aL(Z:aY):aU->aa|.cW F=>lG Z F|.eG=>.tup [.str c5,.str a3]|.fj=>.tup [.str c5,.str a6]|.split O=>.tup [.str c6,ao O]|.dg O=>.tup [.str c2,ao O]|.gI=>.tup [.str dr]|.bZ true L=>.tup [.str ax,.ref<|Z.cA L]|.bZ false L=>.tup [.str dt,.ref<|Z.cA L]|.iP=>.tup [.str df]|.rG L=>.tup [.str ⟨#[112,108,97,99,101]⟩,.ref<|Z.cA L]|.nK U=>.tup [.str ⟨#[97,115,107]⟩,fC U]|.fA=>.tup [.str b1]|.fail=>.tup [.str a9]|.fH=>.tup [.str a7]|.done=>.tup [.str cw]
noncomputable def aj.xC:aj->Bool|.bF _ _|.bU _ _|.de _|.bZ _ _ _=>false|_=>true
def OP{g:aj}(w:g.xC=true)(X:Nat):bz a g X=[kz g]:=by rcases a with-|-<;>rcases g with⟨⟩<;>simp[aj.xC]at w<;>rfl
theorem acN(W:aj->Nat->List aU):∀(F:List aj),(∀G∈F,∀X,(W G X).length<=6*G.cE)->∀X,(pA W F X).length<=6*gy F:=by intro F;induction F with|nil=>intro _ _;simp[GN]|cons G L S=>intro w X;have:=w G cY X;have:=S (λU Y=>w U<|dI Y)<|X+(W G X).length;simp only[zF,List.length_append,jY];lia-abstractProof
def acO(W:aj->Nat->List aU):∀(F:List aj),(∀G∈F,∀X,(W G X).length<=6*G.cE)->∀X,(iA W F X).length+2<=6*gy F+2*F.length\/F=[]:=by intro F;induction F with|nil=>show λ_ _=>.inr rfl|cons G L S=>
intro w X;left;rcases L with-|⟨U,L⟩;·show fI (w G cY X) _
obtain g:=S (λY Z=>w Y<|dI Z)<|X+1+(W G<|X+1).length+1;rcases g with g|g;·have E:iA W (G::U::L) X=.split (X+1+(W G<|X+1).length+1)::(W G (X+1)++.dg (X+1+(W G<|X+1).length+1+(iA W (U::L)<|X+1+(W G<|X+1).length+1).length)::iA W (U::L) (X+1+(W G<|X+1).length+1)):=rfl;rw[E];simp only[List.length_cons,List.length_append,jY]at g⊢;show j1<|iq (w G cY<|X+1) g<|by simp+arith
·contradiction
def alQ(w:aj):2*(gQ w).length<=w.cE+1:=by induction w with|bU H I g J=>simp only[qt,List.length_append];simp only[z7];show iq g J<|by simp+arith|_=>simp[gQ,Dh,Ox,Oy,Oz,OA,OB,OC,OD,OE,OF,OG,zY,zZ,z0]
def OQ(w:aj):gy (gQ w)+(gQ w).length<=w.cE+1:=by induction w with|bU H I g J=>simp only[qt,List.length_append,Aa];simp only[z7];show iq g J<|by simp+arith|_=>simp[gQ,oI,jY]
theorem r9:∀(W:Nat)(w:aj)(X:Nat),(bz W w X).length<=6*w.cE:=by intro W;induction W with|zero=>intro w X;have:=rY w;show aq this<|by simp+arith|succ W S=>
intro w X
induction w with|bF H I=>obtain g:=acN (bz W) (jx []<|fN<|.bF H I) (λG _=>S G) X;obtain E:=Ic (fN<|.bF H I) [];obtain J:=Ia<|.bF H I;show aq g<|t8 _<|aq E<|aq (bP lQ) J|bU H I=>
obtain g:=acO (bz W) (gQ<|.bU H I) (λG _=>S G) X;obtain E:=OQ<|.bU H I;have J:=PV.mpr<|tD<|.bU H I;change(iA (bz W) _ _).length<=_;rcases g with g|g;·lia-abstractProof
·show absurd g<|tD _|de H=>have:=S H<|X+3;change(aU.split (X+2)::aU.dg (X+3+(bz W H<|X+3).length+2)::aU.gI::bz W H (X+3)++[aU.iP,aU.dg X]).length<=_;simp only[List.length_cons,List.length_append,zY];show cB<|ip this aR|bZ F H L=>have:=S H<|X+1;change(aU.gI::bz W H (X+1)++[aU.bZ F L]).length<=_;simp only[List.length_append,zZ];show cB<|ip this aR|_=>show show 1<=6 by lia-abstractProof
structure fE(V W:Nat)(Y:List aa)(g:ag):Prop where
n:g[V]?=some (.bt 0 [(0,.ref W)])
J:g[W]?=some (.list Y)
def fE.acP(w:fE a e i b):a≠e:=by intro Y;have:=w.n;rw[Y,w.J]at this;show nomatch this
def fE.pe(w:fE e a i b)(U:List aa):fE e a U<|b.set a<|.list U:=⟨(dQ<|Ne.symm w.acP).trans w.n,dY<|bC w.J⟩
def fE.lb(w:fE a e i b)(S:aM):fE a e i<|b++[S]:=⟨(gj<|bC w.n).trans w.n,(gj<|bC w.J).trans w.J⟩
def fE.aF(w:fE a e i b)(N:bj h b u)(H:a∉h)(W:e∉h):fE a e i u:=⟨N.at w.n H,N.at w.J W⟩
@[simp]theorem alR:aw.iV 0 0=some 4:=rfl
@[simp]theorem alS:aw.iV 0 1=some 5:=rfl
@[simp]theorem alT:aw.iV 0 2=some 6:=rfl
@[simp]theorem alU:aw.iV 0 3=some 7:=rfl
section
variable{L:aY}{J K H I:Nat}{G:List aa}{E:ag}
theorem qC(w:fE H I G E)(Q:aa)(g:G.length<=3900):av J (K+1) 4 [.ref H,Q] E=some (.ai<|ao G.length,E.set I<|.list<|G++[Q]):=by rw[aO (H:=Ep) rfl rfl];obtain W:=w.pe<|G++[Q];simp(disch:=lia) [-List.length_append,Ep,w.n,w.J,jl E I G Q<|Nat.succ_le_succ<|Nat.le_trans g aR,W.n,W.J,(by simp:(G++[Q]).length=G.length+1)▸jW (G++[Q]) (by simp;show Nat.le_trans g aR)]
section
variable{M:Str}{U:aa}{S:Bool}(N:fE H I G E)(O:G.length<=3900)(Q:eY M ba=false)(R:eY M cu=false)(T:jo M [.str ab,.str b3,.str b4,.str b5,.str b6,.str b7,.str b9,.str cb,.str cj,.str ct,.str b8]=some S)
include N O Q R T
theorem Ig(g:S=true):av J (K+2) 5 [.ref H,.tup [.str M,U]] E=some (.ai .none,E.set I<|.list<|G++[.tup [.str c1,.str M,U]]):=by subst g;rw[aO (H:=jd) rfl rfl];simp(disch:=exact Nat.le_of_ble_eq_true rfl) [-abk,-aa7,jd,N.n,qC (J:=J) (K:=K) N _ O,Q,R,T]
def OR(g:S=false)(w:(eY M a3||eY M a6)=true):av J (K+2) 5 [.ref H,.tup [.str M]] E=some (.ai .none,E.set I<|.list<|G++[.tup [.str c5,.str M]]):=by
 subst g;rw[aO (H:=jd) rfl rfl];induction Y:eY M a3;·rw[Y]at w;simp[jd,N.n,qC (J:=J) (K:=K) N _ O,Q,R,T,Y,show eY M a6=true from w]
 ·simp[jd,N.n,qC (J:=J) (K:=K) N _ O,Q,R,T,Y]
def Ih(g:S=false)(F:eY M a3=false)(w:eY M a6=false)(L:eY M cx=false)(V:jo M [.str b1,.str a9,.str a7,.str dd]=some true):av J (K+2) 5 [.ref H,.tup [.str M]] E=some (.ai .none,E.set I<|.list<|G++[.tup [.str M]]):=by subst g;rw[aO (H:=jd) rfl rfl];simp[jd,N.n,qC (J:=J) (K:=K) N _ O,Q,R,T,F,w,L,V]
end
def acQ{S:aj}(V:S.xC=true)(w:fE H I G E)(R:G.length<=3900):av J (K+2) 5 [.ref H,aD L S] E=some (.ai .none,E.set I<|.list<|G++[aL L<|kz S]):=by induction S with|bF g M=>show Bool.noConfusion V|bU g M=>show Bool.noConfusion V|de g=>show Bool.noConfusion V|bZ F g P=>show Bool.noConfusion V|bc O=>show Ig w R rfl rfl rfl rfl|d5 Q U=>clear V;induction Q using bX.casesOn<;>show Ig w R rfl rfl rfl rfl|gg Q U=>clear V;induction Q using bX.casesOn<;>show Ig w R rfl rfl rfl rfl|fz=>rw[aO (H:=jd) rfl rfl];simp(disch:=exact Nat.le_of_ble_eq_true rfl) [jd,w.n,qC (J:=J) (K:=K) w _ R,kz,aL,lG]|eG=>show OR w R rfl rfl rfl rfl rfl|fj=>show OR w R rfl rfl rfl rfl rfl|fA=>show Ih w R rfl rfl rfl rfl rfl rfl rfl rfl|fail=>show Ih w R rfl rfl rfl rfl rfl rfl rfl rfl|fH=>show Ih w R rfl rfl rfl rfl rfl rfl rfl rfl|iO P=>rw[aO (H:=jd) rfl rfl];simp[jd,w.n,qC (J:=J) (K:=K) w _ R,kz,aL]|fM U=>rw[aO (H:=jd) rfl rfl];simp[jd,w.n,qC (J:=J) (K:=K) w _ R,kz,aL]
def xD(L:aY)(J:Nat)(F:aW)(W:Nat):Prop:=∀(w:aj)(H I:Nat)(G:List aa)(E:ag),w.c8<=W->w.cE<=300->w.cp<=2000->fE H I G E->G.length+8*w.cE<=3700->∃g,F 5 [.ref H,aD L w] E=some (.ai .none,g)/\fE H I (G++(bz W w G.length).map (aL L)) g/\bj [I] E g
def kg{E:ag}(N:bj h E b)(w:∀H∈h,H∈C):bj C E b:=N.cZ λH g _=>w H g
def acR(Z:xD L J f a)(o:List aj):∀(O t:List aj)(G:List aa)(E:ag)(m:Option aa)(R:Nat),o=t++O->O.length+1<=R->(∀F∈O,F.c8<=a/\F.cE<=300/\F.cp<=2000)->E[e]?=some (.list<|o.map<|aD L)->fE H I G E->e≠I->G.length+8*gy O<=3700->tm (λP U=>pC aw f r 3 [.expr<|.h (.ae 0) 1 [.ae 3]] e R t.length [some<|.ref H,y,D,m] E=some (.ai (.aK,[some<|.ref H,y,D,U]),P)) (λP U=>fE H I (G++(pA (bz a) O G.length).map (aL L)) P) λP U=>bj [I] E P:=by intro O;induction O with|nil=>intro t G E m R c b K g w n W;obtain⟨R,rfl⟩:∃N,R=N+1:=⟨R-1,Eq.symm<|iT b⟩;show⟨E,m,CP _ _ _ _ _ _ _ _ _ _ _ g<|by subst c;simp,by simpa[GN,zF]using w,bj.rfl⟩|cons X O S=>
intro t G E m R c b K g w n W;obtain⟨R,rfl⟩:∃N,R=N+1:=⟨R-1,Eq.symm<|iT<|aq aR b⟩;simp only[jY]at W;show eA λT Q=> ?_;show iI (K X cY) λp q s=> ?_;show cC (Z X H I G E p q s w<|aq (i8 (t8 _ bD) _) W) λl M d i=> ?_;obtain Y:=r9 a X G.length;obtain⟨P,U,j,h,k⟩:=S (t++[X]) (G++(bz a X G.length).map (aL L)) l (some<|aD L X) R (by show c.trans ?_;simp) (fJ b) (λF V=>K F<|dI V) (i.at g<|by simpa using n) d n (by simp;show aq (d8 Y<|by simp+arith) W);show Q ?_;show⟨P,U, ?_, ?_,i.aC k⟩;·have:=CQ aw f r [.expr<|.h (.ae 0) 1 [.ae 3]] R [some<|.ref H,y,D,m] E (aD L X) 3 _ e t.length g (by clear g;clear S;subst c;simp);show this.trans ?_;simp only[List.length_append,List.length_cons,List.length_nil]at j;simp[w.n,M,j]
·simp only[zF,List.map_append];simp only[List.length_append,List.length_map]at h;rw[List.append_assoc]at h;show h
end
def iS(Z:aY)(W:aj->Nat->List aU)(J:aa)(F:List aj):Nat->List aa:=List.rec (motive:=λ_=>Nat->List aa) (λ_=>[]) (λG _ S X=>aL Z (.split<|X+1+(W G<|X+1).length+1)::(W G<|X+1).map (aL Z)++J::S (X+1+(W G<|X+1).length+1)) F
def mY(W:aj->Nat->List aU)(F:List aj):Nat->List Nat:=List.rec (motive:=λ_=>Nat->List Nat) (λ_=>[]) (λG _ S X=>(X+1+(W G<|X+1).length)::S (X+1+(W G<|X+1).length+1)) F
def jA(W:aj->Nat->List aU)(F:List aj):Nat->Nat:=List.rec (motive:=λ_=>Nat->Nat) (λX=>X) (λG _ S X=>S<|X+1+(W G<|X+1).length+1) F
section
variable{J:aY}{G:aj->Nat->List aU}{K:aa}{E:Nat}{H:aj}{I:List aj}
theorem Ii:iS J G K [] E=[]:=rfl
theorem xE:iS J G K (H::I) E=aL J (.split<|E+1+(G H<|E+1).length+1)::(G H<|E+1).map (aL J)++K::iS J G K I (E+1+(G H<|E+1).length+1):=rfl
theorem Ij:mY G [] E=[]:=rfl
theorem Ik:mY G (H::I) E=(E+1+(G H<|E+1).length)::mY G I (E+1+(G H<|E+1).length+1):=rfl
theorem acS:jA G [] E=E:=rfl
theorem acT:jA G (H::I) E=jA G I (E+1+(G H<|E+1).length+1):=rfl
end
def acU(Z:aY)(W:aj->Nat->List aU)(J:aa):∀(F:List aj)(X:Nat),X+(iS Z W J F X).length=jA W F X:=by intro F;induction F with|nil=>intro X;show rfl|cons G L S=>intro X;have:=S<|X+1+(W G<|X+1).length+1;simp only[xE,List.length_append,List.length_cons];show Eq.trans (by simp+arith) this
def acV(W:aj->Nat->List aU):∀(F:List aj)(X:Nat),(mY W F X).length=F.length:=by intro F;induction F with|nil=>intro X;show rfl|cons G L S=>intro X;simp only[Ij,Ik,List.length_cons,S]
noncomputable def xF(J:aa)(F:List aa)(U:List Nat):List aa:=U.foldl (λF E=>F.set E J) F
theorem OS(H:List c)(G U:c)(I:List c):(H++G::I).set H.length U=H++U::I:=by rw[List.set_append_right _ _ aH,Nat.sub_self];rfl
def acW(Z:aY)(W:aj->Nat->List aU)(J:aa):∀(F:List aj)(H I:List aa),xF J (H++iS Z W .none F H.length++I) (mY W F H.length)=H++iS Z W J F H.length++I:=by intro F;induction F with|nil=>intro H I;show rfl|cons G L S=>
intro H I;obtain S:=S (H++aL Z (.split<|H.length+1+(W G<|H.length+1).length+1)::(W G<|H.length+1).map (aL Z)++[J]) I;obtain E:(H++aL Z (.split<|H.length+1+(W G<|H.length+1).length+1)::(W G<|H.length+1).map (aL Z)++[J]).length=H.length+1+(W G<|H.length+1).length+1:=by simp;show i7 (i9<|yc iW _)<|cB<|bP gM
rw[E]at S;simp only[xE,Ik,xF,List.foldl_cons];have g:H++(aL Z (.split<|H.length+1+(W G<|H.length+1).length+1)::(W G<|H.length+1).map (aL Z)++aa.none::iS Z W .none L (H.length+1+(W G<|H.length+1).length+1))++I=H++aL Z (.split<|H.length+1+(W G<|H.length+1).length+1)::(W G<|H.length+1).map (aL Z)++aa.none::(iS Z W .none L (H.length+1+(W G<|H.length+1).length+1)++I):=by simp
obtain K:(H++aL Z (.split<|H.length+1+(W G<|H.length+1).length+1)::(W G<|H.length+1).map (aL Z)).length=H.length+1+(W G<|H.length+1).length:=by simp;show Eq.symm gM
obtain R:=OS (H++aL Z (.split<|H.length+1+(W G<|H.length+1).length+1)::(W G<|H.length+1).map (aL Z)) .none J<|iS Z W .none L (H.length+1+(W G<|H.length+1).length+1)++I;have w:H++aL Z (.split<|H.length+1+(W G<|H.length+1).length+1)::(W G<|H.length+1).map (aL Z)++J::(iS Z W .none L (H.length+1+(W G<|H.length+1).length+1)++I)=H++aL Z (.split<|H.length+1+(W G<|H.length+1).length+1)::(W G<|H.length+1).map (aL Z)++[J]++iS Z W .none L (H.length+1+(W G<|H.length+1).length+1)++I:=by simp
rw[g];rw[K]at R;rw[R];unfold xF at S;rw[w,S];simp
def acX(Z:aY)(W:aj->Nat->List aU)(U:aj):∀(F:List aj)(X:Nat),X+(iA W (F++[U]) X).length=jA W F X+(W U<|jA W F X).length/\(iA W (F++[U]) X).map (aL Z)=iS Z W (aL Z<|.dg<|jA W F X+(W U<|jA W F X).length) F X++(W U<|jA W F X).map (aL Z):=by intro F;induction F with|nil=>intro X;show⟨rfl,rfl⟩|cons G L S=>
intro X;obtain⟨H,g⟩:=S<|X+1+(W G<|X+1).length+1;have E:iA W (G::L++[U]) X=.split (X+1+(W G<|X+1).length+1)::(W G (X+1)++.dg (X+1+(W G<|X+1).length+1+(iA W (L++[U])<|X+1+(W G<|X+1).length+1).length)::iA W (L++[U]) (X+1+(W G<|X+1).length+1)):=by clear S;rcases L with-|-<;>rfl
rw[E];constructor;·simp only[List.length_cons];show Eq.trans (by simp+arith) H
·simp only[List.map_cons,List.map_append,H,g,xE,acT,List.cons_append,List.append_assoc]
section
variable{G:aY}{K L J I:Nat}{E:List aa}{H:ag}
noncomputable def Dm:List bo:=[.assign (.ae 4)<|.h (.ae 0) 0 [.none],.expr<|.h (.ae 0) 1 [.ae 3],.expr<|.i .dj (.ae 2) [.h (.ae 0) 0 [.none]],.assign (.c (.attr (.ae 0) 0)<|.ae 4)<|.tup [.bE 2,.g .aZ [.attr (.ae 0) 0]]]
noncomputable def Ad:List bo:=[.assign (.c (.attr (.ae 0) 0)<|.ae 5)<|.tup [.bE 3,.g .aZ [.attr (.ae 0) 0]]]
theorem acY:Er=⟨2,6,[.assign (.ae 2)<|.list [],.D 3 (.S (.ae 1)<|.bin .cg (.g .aZ [.ae 1])<|.int 1) Dm,.expr<|.h (.ae 0) 1 [.c (.ae 1)<|.bin .cg (.g .aZ [.ae 1])<|.int 1],.D 5 (.ae 2) Ad]⟩:=rfl
def alV(J:aa):∀(U:List Nat)(F:List aa),(xF J F U).length=F.length:=by intro U;induction U with|nil=>intro F;show rfl|cons E U S=>intro F;change(xF J (F.set E J) U).length=_;rw[S];simp
def acZ{U:Option aa}(d:List Nat):∀(L h:List Nat)(E:List aa)(H:ag)(Z:Option aa)(O:Nat),d=h++L->L.length+1<=O->(∀F∈L,F<E.length)->fE J I E H->H[a]?=some (.list<|d.map ao)->a≠I->E.length<=3900->tm (λM i=>pC aw f e 5 Ad a O h.length [some<|.ref J,y,some<|.ref a,D,U,Z] H=some (.ai (.aK,[some<|.ref J,y,some<|.ref a,D,U,i]),M)) (λM i=>fE J I (xF (aL G<|.dg E.length) E L) M) λM i=>bj [I] H M:=by intro L;induction L with|nil=>intro h E H Z O X R K w W T P;obtain⟨O,rfl⟩:∃N,O=N+1:=⟨O-1,Eq.symm<|iT R⟩;show⟨H,Z,CP _ _ _ _ _ _ _ _ _ _ _ W<|by subst X;simp,w,bj.rfl⟩|cons N L S=>
intro h E H Z O X R K w W T P;obtain⟨O,rfl⟩:∃N,O=N+1:=⟨O-1,Eq.symm<|iT<|aq aR R⟩;obtain⟨M,i,Q,Y,b⟩:=S (h++[N]) (E.set N<|aL G<|.dg E.length) _ (some<|ao N) O (by show X.trans ?_;simp) (fJ R) (λF V=>by simpa using K F<|dI V) (w.pe<|E.set N<|aL G<|.dg E.length) ((dQ<|Ne.symm T).trans W) T (by simpa using P);obtain g:=K N cY;show⟨M,i, ?_, ?_,(eC<|by simp).aC b⟩
·have:=CQ aw f e Ad O [some<|.ref J,y,some<|.ref a,D,U,Z] H (ao N) 5 _ a h.length W (by clear W;clear S;subst X;simp);simp only[List.set_cons_succ,List.set_cons_zero]at this;obtain c:dw aw f e Ad [some<|.ref J,y,some<|.ref a,D,U,some<|ao N] H=some (.ai (.aK,[some<|.ref J,y,some<|.ref a,D,U,some<|ao N]),H.set I<|.list<|E.set N<|aL G<|.dg E.length):=by unfold Ad;delta aL;simp[w.n,w.J,jW E<|Nat.le_trans P aR,λH F=>CV H I E F N g<|Nat.le_trans (Nat.le_of_lt g)<|Nat.le_trans P aR]
 show this.trans ?_;simp only[List.length_append,List.length_cons,List.length_nil]at Q;simp only[<-Q];simp only[oF,c,jS,NF]
·rw[List.length_set]at Y;show Y
def ac0(W:aj->Nat->List aU):∀(F:List aj)(X:Nat),∀G∈mY W F X,G<jA W F X:=by intro F;induction F with|nil=>intro X G w;cases w|cons U L S=>
intro X G w;obtain E:∀(F:List aj) Y,Y<=jA W F Y:=by intro F;induction F with|nil=>intro Y;show aH|cons g F S=>intro Y;have:=S<|Y+1+(W g<|Y+1).length+1;show ie<|aq (jb bD) this
rcases gA.mp w with rfl|w;·show mz<|E L<|X+1+(W U<|X+1).length+1
·show S _ G w
theorem ac1{F:List aj}{U:aj}(l:xD G K (av K<|L+1) a)(Yj:4000<=K)(n:∀g∈F++[U],g.c8<=a/\g.cE<=300/\g.cp<=2000)(w:fE J I E H)(XS:H[e]?=some (.list<|(F++[U]).map<|aD G))(x:e≠I)(h:E.length+8*gy (F++[U])<=3692):zk (λb=>av K (L+2) 6 [.ref J,.ref e] H=some (.ai .none,b)) (λb=>fE J I (E++(iA (bz a) (F++[U]) E.length).map (aL G)) b) λb=>bj [I] H b:=by
 have Y:=Dj<|F++[U];have XT:(H++[aM.list []])[e]?=some (.list<|(F++[U]).map<|aD G):=(gj<|bC XS).trans XS;simp only[List.length_append,List.length_cons,List.length_nil]at Y;have XU:=bC w.J;simp only[Aa,oI,jY]at h Y;show eA λYk XW=> ?_;obtain⟨T,z,D,o,q,s,XN⟩:=(by intro G K L J I a Q t l y;intro O;induction O with|nil=>intro E j H XO Z _ w m _ _ _;show⟨H,XO,Z,by simp,by simpa[iS]using w,by simpa[mY]using m,bj.rfl⟩|cons W O XX=>
  intro E j H XO Z n w m x h S;simp only[jY]at h;obtain Y:=r9 a W<|E.length+1;obtain X7:=rY W;show eA λYk XW=> ?_;show iI (n W cY) λA B C=> ?_;obtain⟨T,o,q,s,XN⟩:=(by
   intro a _ _ l j y W _ A B C w m x h S;obtain Y:=r9 a W<|E.length+1;obtain X8:=w.pe<|E++[.none];obtain Yl:(H.set I<|.list<|E++[.none])[y]?=some (.list j):=(dQ<|Ne.symm x).trans m;show cC (l W J I _ _ A B C X8<|by simp;show d8 h<|by simp+arith) λv o q s=> ?_;replace q:=(by simp:(E++[aa.none]).length=E.length+1)▸q;have XQ:v[y]?=some (.list j):=s.at Yl (by simpa using x);have X9:(E++[aa.none]++(bz a W<|E.length+1).map (aL G)).length=E.length+1+(bz a W<|E.length+1).length:=by simp;show Eq.symm gM
   obtain i:=qC (J:=K) (K:=L) q .none<|X9▸iq h Y (by simp+arith);rw[X9]at i;obtain Yb:=q.pe<|E++[aa.none]++(bz a W<|E.length+1).map (aL G)++[aa.none];obtain XY:fE J I (E++[aa.none]++(bz a W<|E.length+1).map (aL G)++[aa.none])<|(v.set I<|.list<|E++[aa.none]++(bz a W<|E.length+1).map (aL G)++[aa.none]).set y<|.list<|j++[ao<|E.length+1+(bz a W<|E.length+1).length]:=by show Yb.aF (h:=[y]) (eC<|by simp) ?_ (by simpa using Ne.symm x);simp;intro Ym;have:=Yb.n;simp only[Ym,(dQ<|Ne.symm x).trans XQ]at this;show nomatch this
   have XZ:(E++[aa.none]++(bz a W<|E.length+1).map (aL G)++[aa.none]).length=E.length+1+(bz a W<|E.length+1).length+1:=by simp;show i7 (i9<|yc iW _)<|cB<|bP gM
   obtain Yn:(E++[aa.none]++(bz a W<|E.length+1).map (aL G)++[aa.none]).set E.length (aL G<|.split<|E.length+1+(bz a W<|E.length+1).length+1)=E++iS G (bz a) .none [W] E.length:=by have:=OS E aa.none (aL G<|.split<|E.length+1+(bz a W<|E.length+1).length+1)<|(bz a W<|E.length+1).map (aL G)++[aa.none];simp only[Ii,xE];rw[(by simp:E++[aa.none]++(bz a W<|E.length+1).map (aL G)++[aa.none]=E++aa.none::((bz a W<|E.length+1).map (aL G)++[aa.none])),this];simp
   show⟨_, ?_,XY.pe<|E++iS G (bz a) .none [W] E.length, ?_, ?_⟩;rotate_left;·rw[dQ<|Ne.symm x,dY<|bC<|(dQ<|Ne.symm x).trans XQ];rfl
   ·show((kg (eC (h:=[I])<|by simp)<|by simp).aC<|kg s<|by simp).aC<|(eC<|by simp).aC<|(eC<|by simp).aC<|eC<|by simp
   ·rw[<-Yn];unfold Dm;simp only[aL];simp[-List.append_assoc,w.n,X8.n,q.n,qC (J:=K) (K:=L) w .none<|d8 h<|by simp+arith,o,i,(dQ<|Ne.symm x).trans XQ,XQ,jl (v.set I<|.list<|E++[aa.none]++(bz a W<|E.length+1).map (aL G)++[aa.none]) y j (ao<|E.length+1+(bz a W<|E.length+1).length)<|Nat.succ_le_succ<|Nat.le_trans S aR,XY.n,XY.J,XZ▸jW (E++[aa.none]++(bz a W<|E.length+1).map (aL G)++[aa.none]) (Nat.le_trans (Nat.le_of_eq XZ)<|iq h Y<|by simp+arith),λH g=>CV H I (E++[aa.none]++(bz a W<|E.length+1).map (aL G)++[aa.none]) g E.length (Nat.lt_of_succ_le<|Nat.le_trans (Nat.le_succ_of_le bD)<|Nat.le_of_eq XZ.symm)<|d8 h<|by simp+arith]:∀{a Q t}(l:xD G K (av K<|L+1) a){j y W Z}(A:W.c8<=a)(B:W.cE<=300)(C:W.cp<=2000)(w:fE J I E H)(m:H[y]?=some (.list j))(x:y≠I)(h:E.length+8*W.cE<=3692)(S:j.length<=3000),Wt (λb=>dw aw (av K<|L+1) K Dm [some<|.ref J,Q,some<|.ref y,some<|aD G W,Z,t] H=some (.ai (.aK,[some<|.ref J,Q,some<|.ref y,some<|aD G W,some<|ao E.length,t]),b)) (λb=>fE J I (E++iS G (bz a) .none [W] E.length) b) (λb=>b[y]?=some (.list<|j++(mY (bz a) [W] E.length).map ao)) λb=>bj [I,y] H b) (Q:=Q) (t:=t) (Z:=Z) l A B C w m x (aq (i8 (t8 _ bD) _) h)<|aq bD S;have X0:(E++iS G (bz a) .none [W] E.length).length=E.length+1+(bz a W<|E.length+1).length+1:=by simp[Ii,xE];simp+arith
  obtain⟨b,z,D,X2,r,u,Yo⟩:=XX _ _ T (some<|aD G W) (some<|ao E.length) (λg c=>n g<|dI c) q s x (by rw[X0];show aq (yr Y X7 X7<|by simp+arith) h) (by simp[Ij];show aq (bP gM) S);show XW ?_;show⟨b,z,D, ?_, ?_, ?_,XN.aC Yo⟩;·simp only[List.map_cons,rX];simp only[List.set_cons_succ,List.set_cons_zero];simp only[oF,o,jS,zQ,X2]
  ·rw[X0]at r;have:E++iS G (bz a) .none [W] E.length++iS G (bz a) .none O (E.length+1+(bz a W<|E.length+1).length+1)=E++iS G (bz a) .none (W::O) E.length:=by simp[Ii,xE]
   rwa[this]at r
  ·rw[X0]at u;have:j++(mY (bz a) [W] E.length).map ao++(mY (bz a) O<|E.length+1+(bz a W<|E.length+1).length+1).map ao=j++(mY (bz a) (W::O) E.length).map ao:=by simp[Ij,Ik]
   rwa[this]at u:∀{G:aY}{K L J I:Nat}{a:Nat}{Q t:Option aa}(l:xD G K (av K<|L+1) a){y:Nat},∀(O:List aj)(E:List aa)(j:List aa)(H:ag)(XO Z:Option aa),(∀g∈O,g.c8<=a/\g.cE<=300/\g.cp<=2000)->fE J I E H->H[y]?=some (.list j)->y≠I->E.length+8*gy O<=3692->j.length+O.length<=3000->Gr (λb z D=>jT aw (av K<|L+1) K 3 Dm (O.map<|aD G) [some<|.ref J,Q,some<|.ref y,XO,Z,t] H=some (.ai (.aK,[some<|.ref J,Q,some<|.ref y,z,D,t]),b)) (λb z D=>fE J I (E++iS G (bz a) .none O E.length) b) (λb z D=>b[y]?=some (.list<|j++(mY (bz a) O E.length).map ao)) λb z D=>bj [I,y] H b) (L:=L) (Q:=some<|.ref e) (t:=none) l (y:=H.length) F E [] (H++[.list []]) none none λg c=>n g<|by simp[c] (w.lb _) eL (d7 XU) (aq (i8 (t8 _ bD) _) h) (by simp;show ie<|aq Y<|by lia);have Yc:T[e]?=some (.list<|(F++[U]).map<|aD G):=XN.at XT (by simp;show⟨x,gL<|bC XS⟩);have X3:(E++iS G (bz a) .none F E.length).length=jA (bz a) F E.length:=List.length_append.trans<|acU G (bz a) .none F E.length;have Yd:jA (bz a) F E.length<=E.length+8*gy F:=by
  have:∀(F:List aj) W,jA (bz a) F W<=W+8*gy F:=by intro F;induction F with|nil=>intro W;simp[acS,oI]|cons X4 F XX=>intro W;have:=XX<|W+1+(bz a X4<|W+1).length+1;have:=r9 a X4<|W+1;have:=rY X4;simp only[jY];show aq ‹_›<|by lia
  show this F _
 show iI (n U<|by simp) λA B C=> ?_;show cC (l U J I _ T A B C q<|by rw[X3];show iq h Yd<|by simp+arith) λv X2 r u=> ?_;rw[X3]at r;have X5:(E++iS G (bz a) .none F E.length++(bz a U<|jA (bz a) F E.length).map (aL G)).length=jA (bz a) F E.length+(bz a U<|jA (bz a) F E.length).length:=by simp only[List.length_append,X3,List.length_map]
 obtain⟨Yp,Yx,Ye,X6,Yq⟩:=acZ (G:=G) (f:=av K<|L+1) (e:=K) (y:=some<|.ref e) (D:=z) (U:=D) (mY (bz a) F E.length) (mY (bz a) F E.length) [] _ v none K rfl (by rw[acV];show aq (aq Y<|d8 h<|by simp+arith) Yj) (λg c=>by have:=ac0 (bz a) F E.length g c;rw[X5];show pO _ this) r (u.at s<|by simpa using d7 XU) (d7 XU) (by rw[X5];show yr h Yd (r9 a U<|jA (bz a) F E.length)<|by simp+arith);rw[X5,acW G (bz a) _ F E]at X6;obtain⟨Yy,Yr⟩:=acX G (bz a) U F E.length;obtain Ys:E++iS G (bz a) (aL G<|.dg<|jA (bz a) F E.length+(bz a U<|jA (bz a) F E.length).length) F E.length++(bz a U<|jA (bz a) F E.length).map (aL G)=E++(iA (bz a) (F++[U]) E.length).map (aL G):=by rw[Yr];simp
 rw[Ys]at X6;show XW ?_;show⟨Yp, ?_,X6, ?_⟩
 ·have Yg:((F++[U]).map<|aD G).length=F.length+1:=by simp
  obtain i:=(by intro H XR F P Yh Yi h;change Jm H[XR]? none (some<|.int (P:Int)) H=_;rw[Yh];change af.dZ (eJ (j2 (P:Int)&&eN F.length) _) H=_;rw[vv Yi,kB h];rfl:∀{H XR F P}(Yh:H[XR]?=some (.list F))(Yi:P<=4000)(h:F.length<=16000000),km (.ref XR) none (some<|ao P) H=some (.ai<|.cM<|F.take P,H)) (P:=F.length) XT (ie<|aq Y<|by lia) (by rw[Yg];show aq Y<|by lia);obtain Yt:((F++[U]).map<|aD G).take F.length=F.map (aD G):=by rw[List.map_append];show List.take_left'<|by simp
  rw[Yt]at i;obtain Yu:la ((F.length:Nat):Int) T (some<|.list<|(F++[U]).map<|aD G)=some (.ai<|aD G U,T):=by rw[mT _ _<|Nat.le_of_succ_le<|Nat.le_trans Y<|by lia];simp
  obtain Yv:jE (.ref e) (ao F.length) T=some (.ai<|aD G U,T):=by simp only[vy,Yc];show Yu
  simp only[List.length_nil]at Ye;rw[aO (H:=Er) rfl rfl,acY];simp(disch:=lia) [-getElem?_pos,-vy,-HN,-List.map_append,XT,jW ((F++[U]).map<|aD G)<|by rw[Yg];show Nat.le_trans Y<|d8 h<|by simp+arith,i,o,Yc,Yv,q.n,X2,Ye]
 ·show((fp.aC XN).aC<|(kg u<|by simp).aC<|kg Yq<|by simp).cZ<|by intro Yz Yw h;simp at Yw⊢;lia
end
section
variable{G:aY}{J H L K:Nat}{E:List aa}{I:ag}
def tR(w:fE L K E I)(Q:aa)(F:E.length<=3900):zk (λg=>av J (H+1) 4 [.ref L,Q] I=some (.ai<|ao E.length,g)) (λg=>fE L K (E++[Q]) g) λg=>bj [K] I g:=⟨_,qC w Q F,w.pe _,eC<|by show cY⟩
def ac2{P:aj}(b:xD G J (av J<|H+1) a)(p:P.c8<=a)(T:P.cE<=300)(q:P.cp<=2000)(w:fE L K E I)(Z:E.length+8*P.cE<=3692):zk (λW=>av J (H+2) 7 [.ref L,aD G P] I=some (.ai .none,W)) (λW=>fE L K (E++(bz (a+1) (.de P) E.length).map (aL G)) W) λW=>bj [K] I W:=by
 obtain⟨XW,g,l,V⟩:=tR (J:=J) (H:=H) w .none<|d8 Z (by simp+arith);have Q:(E++[aa.none]).length=E.length+1:=by simp
 obtain⟨e,R,k,Y⟩:=tR (J:=J) (H:=H) l .none (by rw[Q];show cB<|d8 Z<|by simp+arith);rw[Q]at R;have X:(E++[aa.none]++[aa.none]).length=E.length+2:=by simp
 obtain S:=jW (E++[aa.none]++[aa.none])<|X▸fI (d8 Z<|by simp+arith) _;rw[X]at S;have m:(E++[aa.none]++[aa.none]).set E.length (aL G<|.split<|E.length+2)=E++[aL G<|.split<|E.length+2,.none]:=by simpa using this
 obtain r:=k.pe<|(E++[aa.none]++[aa.none]).set E.length<|aL G<|.split<|E.length+2;obtain F:bj [K] e<|e.set K<|.list<|(E++[aa.none]++[aa.none]).set E.length<|aL G<|.split<|E.length+2:=eC (by simp);generalize v:(E++[aa.none]++[aa.none]).set E.length (aL G<|.split<|E.length+2)=s at r F m;have n:s.length=E.length+2:=by rw[m];simp
 obtain⟨XX,h,u,XN⟩:=tR (J:=J) (H:=H) r (aL G .gI)<|n▸fI (d8 Z<|by simp+arith) _;have U:(s++[aL G .gI]).length=E.length+3:=by simp[n]
 show cC (b P L K _ _ p T q u<|U▸d8 Z (by simp+arith)) ?_;clear q;intro XY XO c XQ;rw[U]at c;obtain f:=r9 a P<|E.length+3;generalize XR:bz a P (E.length+3)=o at c f;have x:(s++[aL G .gI]++o.map (aL G)).length=E.length+3+o.length:=by simp[n];show Eq.symm Ek
 obtain⟨XZ,j,A,XS⟩:=tR (J:=J) (H:=H) c (aL G .iP) (by rw[x];show iq Z f<|by simp+arith);rw[x]at j;have y:(s++[aL G .gI]++o.map (aL G)++[aL G .iP]).length=E.length+3+o.length+1:=by simp[n];show i7 (i9<|yc iW _)<|cB<|bP Ek
 obtain⟨X0,t,B,XT⟩:=tR (J:=J) (H:=H) A (aL G<|.dg E.length) (by rw[y];show iq Z f<|by simp+arith);have i:(s++[aL G .gI]++o.map (aL G)++[aL G .iP]++[aL G<|.dg E.length]).set (E.length+1) (aL G<|.dg<|E.length+3+o.length+2)=E++(bz (a+1) (.de P) E.length).map (aL G):=by
  obtain XU:s++[aL G .gI]++o.map (aL G)++[aL G .iP]++[aL G<|.dg E.length]=E++[aL G<|.split<|E.length+2]++aa.none::([aL G .gI]++o.map (aL G)++[aL G .iP]++[aL G<|.dg E.length]):=by rw[m];simp
  show XU▸ ?_;simp[aaL,XR]
 rw[y]at t;have z:(s++[aL G .gI]++o.map (aL G)++[aL G .iP]++[aL G<|.dg E.length]).length=E.length+3+o.length+2:=by simp[n];show i7 (i9<|yc iW _)<|fI (bP Ek) _
 generalize X2:s++[aL G .gI]++o.map (aL G)++[aL G .iP]++[aL G<|.dg E.length]=D at B z i;obtain C:=B.pe<|D.set (E.length+1)<|aL G<|.dg<|E.length+3+o.length+2;rw[i]at C;show⟨_, ?_,C, ?_⟩;rotate_left;· show((V.aC Y).aC<|F.aC XN).aC<|(XQ.aC XS).aC<|XT.aC<|eC<|by simp
 · rw[<-i];rw[show aL G (.split<|E.length+2)=.tup [.str c6,ao<|E.length+2]from rfl,show aL G .gI=.tup [.str dr]from rfl,show aL G .iP=.tup [.str df]from rfl,(show∀O,aL G (.dg O)=.tup [.str c2,ao O]from λ_=>rfl)]at*;rw[aO (H:=Es) rfl rfl];simp[-List.append_assoc,Es,w.n,g,l.n,R,k.n,k.J,S,λI M=>CV I K (E++[aa.none]++[aa.none]) M E.length (by rw[X];show Nat.lt_of_succ_le<|Nat.le_succ _)<|d8 Z<|by simp+arith,v,r.n,h,u.n,XO,c.n,j,A.n,t,B.n,B.J,z▸jW D (z▸Nat.add_le_add_right (iq Z f<|by simp+arith) _),λI M=>CV I K D M (E.length+1) (Nat.lt_of_lt_of_le (Nat.add_lt_add_of_le_of_lt (Nat.le_add_right_of_le bD) iW)<|Nat.le_of_eq z.symm)<|Nat.succ_le_succ<|d8 Z<|by simp+arith]
theorem ac3{g:aj}(w:g.xC=true)(W X:Nat):(bz W g X).map (aL G)=[aL G<|kz g]:=by rw[OP w];rfl
def ac4{H I:aj}(w:(aj.bF H I).c8<=a+1)(E:(aj.bF H I).cE<=300)(J:(aj.bF H I).cp<=2000):∀G∈jx []<|fN<|.bF H I,G.c8<=a/\G.cE<=300/\G.cp<=2000:=by
 intro G V;have g:∀(F:List aj)(G:aj),G∈F->G.cE<=gy F/\G.cp<=gz F:=by intro F;induction F with|nil=>intro G w;contradiction|cons U F S=>
  intro G w;rcases gA.mp w with rfl|w;·show And.intro bD bD
  ·have:=S G w;show And.intro (AB this.1)<|AB this.2
 show fS ?_ (aq (aq (g _ G V).1<|aq (Ic (fN<|.bF H I) [])<|aq (bP lQ)<|Ia<|.bF H I) E)<|aq (aq (g _ G V).2<|bP<|Eq.trans (OL (fN<|.bF H I) [])<|Eq.trans lQ<|Ib<|.bF H I) J;rcases zw _ [] G V with Y|Y|⟨K,rfl⟩;·simp at Y
 ·have:=Cf Y;show fJ<|aq this w
 ·show fx
def ac5(H I:aj):2<=(gQ<|.bU H I).length:=by have g:=PV.mpr<|tD H;have W:=PV.mpr<|tD I;simp only[qt,List.length_append];show j1<|iq g W<|bP lQ
theorem ac6(s:4000<=J):∀(W H:Nat),xD G J (av J<|H+2*W+2) W:=by
 have XN:∀(W H:Nat)(h:aj)(L K:Nat)(E:List aa)(I:ag),h.xC=true->fE L K E I->E.length+8*h.cE<=3700->∃b,av J (H+2) 5 [.ref L,aD G h] I=some (.ai .none,b)/\fE L K (E++(bz W h E.length).map (aL G)) b/\bj [K] I b:=by intro W H h L K E I XO m e;show cO _ (acQ XO m<|d8 e<|by simp+arith) ?_<|eC (by simp);rw[ac3 XO];show m.pe _
 intro W;induction W with|zero=>intro H h L K E I O c o m e;show XN 0 H h L K E I ?_ m e;induction h<;>simp[Gy,Ce,zu,zv]at O<;>rfl|succ W S=>intro H h L K E I O c o m e;obtain C:=S<|H+1;rw[(by simp+arith:H+1+2*W+2=H+2*W+2+1)]at C;rw[show H+2*(W+1)+2=H+2*W+2+2from n6];induction h with
 |bF P U=>
 obtain⟨T,D,n,p,r,t⟩:=ON (E:=G) (G:=J) (H:=H+2*W+2) (N:=.xA) (K:=.bF P U) (b:=I) (aq c aR) s;have Y:=Ia<|.bF P U;obtain⟨v,XU,Q,q,u,XQ⟩:=(by intro G J H F z I i e o s;obtain⟨b,X8,n,p,r⟩:=acM (E:=G) (f:=av J<|H+1) (e:=J) (λh I=>acF) (a:=I.length) (r:=z) (d7<|bC i) F F [] [] (I++[.list []]) none J rfl (aq (cB<|aq e aR) s) ((gj<|bC i).trans i) eL (by simpa using e) (by simpa[gz]using o);show⟨b,I.length, ?_,p,aH,(fp.aC r).cZ<|by intro P XW e;simp at XW;lia-abstractProof⟩;rw[aO (H:=En) rfl rfl,acG];simp only[List.length_nil]at n;simp[n]:∀{G:aY}{J H:Nat}{F:List aj}{z:Nat}{I:ag}(i:I[z]?=some (.list<|F.map<|aD G))(e:F.length<=3000)(o:gz F<=4000)(s:4000<=J),qq (λb P=>av J (H+2) 2 [.ref z] I=some (.ai<|.ref P,b)) (λb P=>b[P]?=some (.list<|(jx [] F).map<|aD G)) (λb P=>I.length<=P) λb P=>bj [] I b) (G:=G) (J:=J) (H:=H+2*W+1) (F:=fN<|.bF P U) p (aq (Dj<|fN<|.bF P U)<|aq Y<|aq c aR) (aq (bP<|Ib<|.bF P U)<|aq o aR) s;have A:=ac4 O c o;have B:=Ic (fN<|.bF P U) [];simp only[oI]at B;have XX:XU≠K:=by have:=bC m.J;have:=t.aZ;show d7<|eI ‹_›<|aq this u
 obtain⟨x,X9,Z,XY,XZ⟩:=acR (r:=J) (y:=some<|aD G<|.bF P U) (D:=some<|.str ba) C (jx []<|fN<|.bF P U) (jx []<|fN<|.bF P U) [] E v none J rfl (aq (cB<|aq (Dj<|jx []<|fN<|.bF P U)<|aq B<|iq c Y<|by simp+arith) s) A q (m.aF (t.aC XQ) (by simp)<|by simp) XX<|aq (i8 (t8 _<|aq (aq B<|bP lQ) Y) _) e;show cO x ?_ XY<|(kg (t.aC XQ)<|by simp).aC XZ;rw[aO (H:=jd) rfl rfl];delta mr.str at n;simp only[List.length_nil]at Z;simp only[HH]at n Z;simp[jd,n,Q,Z]|bU P U=>
 obtain⟨T,D,n,p,r,t⟩:=ON (E:=G) (G:=J) (H:=H+2*W+2) (N:=.xB) (K:=.bU P U) (b:=I) (aq c aR) s;have A:=(by
  intro _ P U w c o;intro g V;obtain XR:∀(F:List aj)(g:aj),g∈F->g.cE<=gy F/\g.cp<=gz F:=by intro F;induction F with|nil=>intro g w;simp at w|cons X0 F S=>
   intro g w;rcases gA.mp w with rfl|w;·show And.intro bD bD
   ·have:=S g w;show And.intro (AB this.1)<|AB this.2
  have:=Cg V;show⟨fJ<|aq this w,aq (aq (XR _ g V).1<|acz<|.bU P U) c,aq (aq (XR _ g V).2<|bP<|OJ<|.bU P U) o⟩:∀{W P U}(w:(aj.bU P U).c8<=W+1)(c:(aj.bU P U).cE<=300)(o:(aj.bU P U).cp<=2000),∀g∈gQ<|.bU P U,g.c8<=W/\g.cE<=300/\g.cp<=2000) O c o;have y:fE L K E T:=m.aF t (by simp) (by simp);have X2:D≠K:=by have:=bC m.J;show d7<|eI this r
 have X3:=OQ<|.bU P U;have X4:=ac5 P U;rcases List.eq_nil_or_concat<|gQ<|.bU P U with j|⟨F,X0,j⟩;·show absurd j<|tD _
 ·replace j:=j.trans List.concat_eq_append;simp only[mr.tQ]at p;rw[j]at p A X3 X4;obtain⟨v,Q,q,u⟩:=ac1 (K:=J) (L:=H+2*W+1) (e:=D) (S H) s A y p X2 (by lia);show cO v ?_ ?_<|(kg t<|by simp).aC u;·rw[aO (H:=jd) rfl rfl];simp only[mr.str,HI]at n;simp[jd,n,Q,m.n]
  ·change fE L K (E++(iA (bz W) (gQ<|.bU P U) E.length).map (aL G)) v;show j▸q|de P=>simp only[zY]at c e;obtain⟨T,n,p,r⟩:=ac2 (J:=J) (H:=H+2*W+1) (P:=P) (S H) (fJ O) (ie c) o m<|d8 e (by simp+arith);show cO T ?_ p r;rw[aO (H:=jd) rfl rfl];simp[jd,n,m.n]|bZ F P X=>
 simp only[Ce]at O;simp only[zZ]at c e;simp only[OH]at o;obtain⟨T,XS,y,X5⟩:=tR (J:=J) (H:=H+2*W+2) m (aL G .gI)<|d8 e (by simp+arith);show cC (C P L K _ T (fJ O) (ie c) o y<|by simp;show aq (by simp+arith) e) λv n p r=> ?_;replace p:=(by simp:(E++[aL G .gI]).length=E.length+1)▸p;obtain⟨x,XT,X6,X7⟩:=tR (J:=J) (H:=H+2*W+2) p (aL G<|.bZ F X) (by simp;show iq e (r9 W P<|E.length+1)<|by simp+arith);show cO x ?_ ?_<|X5.aC<|r.aC X7;·rw[aO (H:=jd) rfl rfl];delta aL at XS;induction F<;>simp only[aL]at XT<;>simp[jd,m.n,XS,y.n,n,p.n,XT]
 ·have:E++[aL G .gI]++(bz W P<|E.length+1).map (aL G)++[aL G<|.bZ F X]=E++(bz (W+1) (.bZ F P X) E.length).map (aL G):=by simp[bz]
  show this▸X6|_=>show XN (W+1) (H+2*W+2) _ L K E I rfl m e
end
def mu:aU->Prop|.cW F=>F.Gi=true/\dh F|_=>True
noncomputable def jm:aU->Str|.cW _=>c1|.eG|.fj=>c5|.split _=>c6|.dg _=>c2|.gI=>dr|.bZ true _=>ax|.bZ false _=>dt|.iP=>df|.rG _=>⟨#[112,108,97,99,101]⟩|.nK _=>⟨#[97,115,107]⟩|.fA=>b1|.fail=>a9|.fH=>a7|.done=>cw
def Dn(Z:aY){S:aU}(w:mu S):∃L,aL Z S=.tup (.str (jm S)::L):=by induction S with
|cW F=>induction F<;>first|show⟨_,rfl⟩|(have:=w.1;show Bool.noConfusion this)
|bZ F L=>induction F<;>show⟨_,rfl⟩|_=>show⟨_,rfl⟩
noncomputable def aU.ac7:aU->Bool|.split _=>true|_=>false
def OT(S:aU):(jm S==c2)=S.rJ:=by induction S with|bZ F L=>induction F<;>rfl|_=>rfl
def ac8(S:aU):(jm S==c6)=S.ac7:=by induction S with|bZ F L=>induction F<;>rfl|_=>rfl
def ac9{E:aj}(w:dh E):∀G∈fN E,dh G:=by
 induction E with|bF H I g J=>
  intro G V;rw[tw,List.mem_append]at V;rcases V with V|V;·show g w.1 G V
  ·show J w.2 G V|_=>intro G V;rw[List.mem_singleton.mp V];show w
def ada{E:aj}(w:dh E):∀G∈gQ E,dh G:=by
 induction E with|bU H I g J=>
  intro G V;rw[qt,List.mem_append]at V;rcases V with V|V;·show g w.1 G V
  ·show J w.2 G V|_=>intro G V;rw[List.mem_singleton.mp V];show w
def OU:∀(F:List aj)(G:aj),G∈F->G.cp<=gz F:=by intro F;induction F with|nil=>intro G w;simp at w|cons U F S=>
intro G w;simp only[vH,rZ];rcases gA.mp w with rfl|w;·show bD
·have:=S G w;show AB this
def adb(W:aj->Nat->List aU):∀(F:List aj),(∀G∈F,∀X,∀S∈W G X,mu S)->∀X,∀S∈pA W F X,mu S:=by intro F;induction F with|nil=>intro _ X S w;cases w|cons G L g=>
intro w X S E;rw[zF,List.mem_append]at E;rcases E with E|E;·show w G cY X S E
·show g (λU Y=>w U<|dI Y) _ S E
def ade(W:aj->Nat->List aU):∀(F:List aj),(∀G∈F,∀X,∀S∈W G X,mu S)->∀X,∀S∈iA W F X,mu S:=by intro F;induction F with|nil=>intro _ X S w;cases w|cons G I g=>
rcases I with _|⟨U,L⟩;·intro w X S H;show w G cY X S H
·intro w X S H;have E:iA W (G::U::L) X=.split (X+1+(W G<|X+1).length+1)::(W G (X+1)++.dg (X+1+(W G<|X+1).length+1+(iA W (U::L)<|X+1+(W G<|X+1).length+1).length)::iA W (U::L) (X+1+(W G<|X+1).length+1)):=rfl;rcases gA.mp H with rfl|H;·trivial
 ·rcases oP.mp H with H|H;·show w G cY _ S H
  ·rcases gA.mp H with rfl|H;·trivial
   ·show g (λY Z=>w Y<|dI Z) _ S H
def adf:∀(W:Nat)(M:aj)(X:Nat),M.c8<=W->dh M->M.cp<=100->∀S∈bz W M X,mu S:=by
 obtain T:∀(W:Nat)(M:aj)(X:Nat),M.xC=true->dh M->∀S∈bz W M X,mu S:=by intro W M X N Q S J;rw[OP N,List.mem_singleton]at J;subst J;induction M<;>first|trivial|show⟨rfl,Q⟩|induction N
 intro W;induction W with|zero=>intro M X O Q _;show T 0 M X ?_ Q;induction M<;>simp[Gy,Ce,zu,zv]at O<;>rfl|succ W g=>intro M X O Q P;induction M with
 |bF H I=>
 show adb (bz W) _ (λG V Y=> ?_) X;obtain R:=Ib<|.bF H I;obtain E:=OL (fN<|.bF H I) [];obtain U:=OU _ G V;rcases zw _ [] G V with w|w|⟨K,rfl⟩;·contradiction
 ·show g G Y (by have:=Cf w;show fJ<|aq this O) (ac9 Q G w)<|aq (aq U<|bP<|Eq.trans (Eq.trans E lQ) R) P
 ·show T W _ Y rfl<|show K.length<=100 by show aq (aq U<|bP<|Eq.trans (Eq.trans E lQ) R) P|bU H I=>show ade (bz W) _ (λG V Y=> ?_) X;show g G Y (by have:=Cg V;show fJ<|aq this O) (ada Q G V)<|aq (aq (OU _ G V)<|bP<|OJ<|.bU H I) P|de H=>
 intro S J;replace J:S∈aU.split (X+2)::aU.dg (X+3+(bz W H<|X+3).length+2)::aU.gI::(bz W H (X+3)++[aU.iP,aU.dg X]):=J;simp only[List.mem_cons,List.mem_append,List.not_mem_nil,or_false]at J;rcases J with rfl|rfl|rfl|J|rfl|rfl;·trivial
 ·trivial
 ·trivial
 ·show g H _ (by show fJ O) Q P S J
 ·trivial
 ·trivial|bZ F H L=>
 intro S J;replace J:S∈aU.gI::(bz W H (X+1)++[aU.bZ F L]):=J;simp only[List.mem_cons,List.mem_append,List.not_mem_nil,or_false]at J;rcases J with rfl|J|rfl;·trivial
 ·show g H _ (by show fJ O) Q P S J
 ·trivial|_=>show T (W+1) _ X rfl Q
def OV{g:aj}(O:g.c8<=9)(X:dh g)(E:g.cp<=100):∀S∈lE g,mu S:=by
 intro S L;rcases oP.mp L with w|w;·show adf 9 g 0 O X E S w
 ·rw[List.mem_singleton.mp w];trivial
def adg{w:aj}(O:w.c8<=9)(X:dh w)(g:w.cp<=100):∀S∈dB w,mu S:=by intro S L;show aB (nU.mp L) ?_;clear L;rintro G V rfl;have:=OV O X g G V;clear V;induction G<;>show this
section
variable{G:aY}{H I:Nat}{E:ag}
noncomputable def Dp:au:=.d .aA (.c (.c (.ae 0)<|.ae 3)<|.int 0)<|.bE 3
noncomputable def Il:List bo:=[.assign (.ae 3)<|.c (.c (.ae 0)<|.ae 3)<|.int 1]
def tS:List bo:=[.b (.d .jD (.c (.ae 2)<|.int 0)<|.tup [.bE 3,.bE 2]) [.assign (.ae 3)<|.c (.ae 2)<|.int 1,.z Dp Il,.assign (.ae 2)<|.tup [.c (.ae 2)<|.int 0,.ae 3]] [],.expr<|.i .dj (.ae 1) [.ae 2]]
theorem adh:Et=⟨1,4,[.assign (.ae 1)<|.list [],.D 2 (.ae 0) tS,.ret<|.ae 1]⟩:=rfl
def OW{R:List aU}(J:E[a]?=some (.list<|R.map<|aL G))(I:R.length<=3900)(X:∀S∈R,mu S):∀{N O Y:Nat},tJ R N O Y->∀F,N+1<=F->gi aw f e Dp Il F [some<|.ref a,y,D,some<|ao O] E=some (.ai (.aK,[some<|.ref a,y,D,some<|ao Y]),E):=by
 intro N O Y w;have U:∀{O:Nat}{S:aU},R[O]?=some S->∃L,aL G S=.tup (.str (jm S)::L)/\jE (.ref a) (ao O) E=some (.ai<|.tup<|.str (jm S)::L,E):=by intro O S V;show lM (Dn G<|X S<|jC V) λL K=> ?_;show aX L K ?_;simp only[vy,J,mT _ _<|Nat.le_trans (Nat.le_of_lt<|(List.getElem?_eq_some_iff.mp V).1)<|Nat.le_trans I aR,List.getElem?_map,V];simp[K]
 induction N generalizing O with|zero=>intro F M;show w.1▸aB w.2 λS H W=> ?_;obtain⟨F,rfl⟩:=AW (a:=F)<|mz M;show aB (U H) λL K P=> ?_;simp only[jU];unfold Dp;simp[P,(OT S).trans W]|succ N g=>
 intro F M;show aB w λw H W=> ?_;obtain⟨F,rfl⟩:=AW (a:=F)<|eI (vQ _) M;show aB (U H) λL K P=> ?_;obtain T:L=[ao w]:=by have:aa.tup [.str c2,ao w]=.tup (.str (jm<|.dg w)::L):=K;injection this with this;injection this with _ this;show this.symm
 clear K;subst T;have Q:jE (.ref a) (ao O) E=some (.ai<|.tup [.str c2,ao w],E):=P;simp only[jU,<-g W F<|Nat.le_of_succ_le_succ M];conv=>lhs;delta Dp Il
 simp[Q];rfl
def adi{d:List aU}(v:4000<=e)(P:E[r]?=some (.list<|d.map<|aL G))(n:r≠a)(J:d.length<=3900)(h:∀S∈d,mu S)(U:l8 d 0 d.length<|d.length-1)(w:∀(O F:Nat),d[F]?=some (aU.split O)->O<d.length){S:aU}{X:Nat}(I:d[X]?=some S)(c:E[a]?=some (.list i))(T:i.length<=3900):∃k s,dw aw f e tS [some<|.ref r,some<|.ref a,some<|aL G S,y] E=some (.ai (.aK,[some<|.ref r,some<|.ref a,k,s]),E.set a<|.list<|i++[aL G<|mP d S]):=by
 have q:=(eD.mp I).1;obtain g:=λQ=>jl E a i Q<|cB<|aq T aR;have u:∀O,O<d.length->∃N,N<=d.length+1/\tJ d N O (nM d (d.length+1) O):=by intro O z;obtain⟨N,b,Z,V⟩:=Nd U (jB fx q) _ O aH z;have:=V.nM (d.length+1)<|aq Z<|cB kn;show this▸aX N (aq Z<|cB kn) V
 have t:(∀O,S≠.dg O)->(∀O,S≠.split O)->∃k s,dw aw f e tS [some<|.ref r,some<|.ref a,some<|aL G S,y] E=some (.ai (.aK,[some<|.ref r,some<|.ref a,k,s]),E.set a<|.list<|i++[aL G<|mP d S]):=by
  intro H W;obtain⟨L,K⟩:=Dn G<|h S<|jC I;have p:(jm S==c2)=false:=by rw[OT];induction S<;>first|rfl|show absurd rfl<|H _
  have o:(jm S==c6)=false:=by rw[ac8];induction S<;>first|rfl|show absurd rfl<|W _
  have m:mP d S=S:=by induction S<;>first|rfl|show absurd rfl<|H _|show absurd rfl<|W _
  rw[m,K];show qR (some<|.tup<|.str (jm S)::L) y ?_;unfold tS;simp[c,g,p,o]
 induction S with|dg O=>have A:=U X O fx q I;show aB (u O<|jB A.1<|Nat.sub_lt (jB fx q)<|vQ _) λN Z V=> ?_;have x:=λl j=>OW (G:=G) (f:=f) (e:=e) (y:=l) (D:=j) P J h V e<|aq (cB<|aq Z<|cB<|aq J aR) v;show qR (some<|aL G<|mP d<|.dg O) (some<|ao<|nM d (d.length+1) O) ?_;unfold tS;simp[aL,mP,c,g,x]|split O=>obtain⟨N,Z,V⟩:=u O<|w O X I;have x:=λl j=>OW (G:=G) (f:=f) (e:=e) (y:=l) (D:=j) P J h V e<|aq (cB<|aq Z<|cB<|aq J aR) v;show qR (some<|aL G<|mP d<|.split O) (some<|ao<|nM d (d.length+1) O) ?_;unfold tS;simp[aL,mP,c,g,x]|_=>show t λ_ Y=>by contradiction λ_ Y=>by contradiction
def adj{h:List aU}(n:4000<=r)(T:e≠a)(V:h.length<=3900)(X:∀S∈h,mu S)(U:l8 h 0 h.length<|h.length-1)(w:∀(O g:Nat),h[g]?=some (aU.split O)->O<h.length):∀(L m:List aU)(E:ag)(W l:Option aa)(P:Nat),h=m++L->L.length+1<=P->E[e]?=some (.list<|h.map<|aL G)->E[a]?=some (.list<|(m.map<|mP h).map<|aL G)->Ca (λJ o K=>pC aw f r 2 tS e P m.length [some<|.ref e,some<|.ref a,W,l] E=some (.ai (.aK,[some<|.ref e,some<|.ref a,o,K]),J)) (λJ o K=>J[a]?=some (.list<|(qx h).map<|aL G)) λJ o K=>bj [a] E J:=by
 intro L;induction L with|nil=>
 intro m E W l P H c b d;obtain⟨P,rfl⟩:∃N,P=N+1:=⟨P-1,Eq.symm<|iT c⟩
 have : qx h = m.map (mP h) := by unfold qx;conv=>lhs
                                  simp[H]
 show⟨E,W,l,CP _ _ _ _ _ _ _ _ _ _ _ b<|by rw[H];simp, ?_,bj.rfl⟩;show this▸d|cons S L F=>
 intro m E W l P H c b d;obtain⟨P,rfl⟩:∃N,P=N+1:=⟨P-1,Eq.symm<|iT<|aq aR c⟩;obtain Y:m.length+1+L.length=h.length:=by rw[H];simp;show gM
 have I:h[m.length]?=some S:=by rw[H];simp
 show pV (adi (G:=G) (f:=f) (e:=r) (y:=l) n b T V X U w I d<|by simp;show aq (aq (ie bD)<|bP Y) V) λZ p i=> ?_;obtain⟨J,o,K,Q,j,k⟩:=F (m++[S]) (E.set a<|.list<|(m.map<|mP h).map (aL G)++[aL G<|mP h S]) Z p P (by show H.trans ?_;simp) (fJ c) ((dQ<|Ne.symm T).trans b) (by show(dY<|bC d).trans ?_;simp);have:=CQ aw f r tS P [some<|.ref e,some<|.ref a,W,l] E (aL G S) 2 _ e m.length b (by rw[List.getElem?_map,I];rfl);show⟨J,o,K, ?_,j,(eC<|by simp).aC k⟩;simp only[List.set_cons_succ,List.set_cons_zero]at this;simp only[this,oF,i];simp only[List.length_append]at Q;show Q
theorem adk{e:List aU}:∀(a:aj){X Y:Nat},j7 e rR a X Y->∀G O,X<=G->G<Y->e[G]?=some (.split O)->O<=Y:=by intro a;induction a with
| bc K => intro X Y w G O P W Q;rcases w with⟨w,rfl⟩|⟨_,rfl⟩;· have:G=X:=i7 (i9 W) P;subst this;rw[w]at Q;simp at Q
          · lia|de H S=>
rintro X Y ⟨N,U,d,R,P,W,Q,c,h,j,n,T,o,E⟩ G O V f i;obtain b:=nN _ j;by_cases l:G=X;· cases l;rw[P]at i;injection i;show aq (gU<|aq (jb<|bP<|by lia) b)<|bP E.symm
by_cases k:G=X+1;· subst k;rw[Q]at i;simp at i
by_cases p:G=X+2;· subst p;rw[h]at i;simp at i
by_cases q:G<N;· have:=S j G O (by lia) q i;show aq (gU this)<|bP E.symm
by_cases Z:G=N;· clear b;subst Z;rw[n]at i;simp at i
have r:G=N+1:=by lia
subst r;rw[T]at i;show nomatch i|bZ F H L S=>
rintro X Y ⟨N,P,W,Q,E⟩ G O V f i;by_cases l:G=X;· subst l;rw[P]at i;simp at i
by_cases q:G<N;· have:=S W G O (by lia) q i;show aq (jb this)<|bP E.symm
have Z:G=N:=i7 (i9<|eI f<|bP E)<|sq q;subst Z;rw[Q]at i;simp at i|bF H I g J=>
rintro X Y ⟨N,P,W⟩ G O V f i;have:=nN _ W;by_cases M:G<N;· have:=g P G O V M i;show aq this ‹_›
· show J W G O (sq M) f i|bU H I g J=>
rintro X Y ⟨N,U,d,P,W,Q,c,h,j⟩ G O V f i;by_cases l:G=X;· subst l;replace i:=P.symm.trans i;cases i;show W▸nN _ j
by_cases q:G<N;· have:=g Q G O (by lia) q i;show aq (jb this)<|nN _ j
by_cases Z:G=N;· subst Z;rw[c]at i;show nomatch i
show J j G O (by lia) f i
| _ => intro X Y w G O P W Q;obtain⟨w,m⟩:=w;have:G=X:=by lia
       subst this;obtain Q:=w▸Q;simp at Q
def OX{Q:List<|Nat×aa}{E:ag}(w:Q.length<=900):nW (.ref E.length) a d (E++[.bt e Q])=some (.ai (),E++[.bt e<|lq a d Q]):=by simp only[zU,eL,jk _ _ _ _ _ _ w,vB]
def Im{Q:List<|Nat×aa}{E:ag}(w:Q.length<=900):nW (.ref E.length) a d (E++[.bt e Q]++[s])=some (.ai (),E++[.bt e<|lq a d Q]++[s]):=by rw[zU,gj<|by simp,eL,jk _ _ _ _ _ _ w,List.set_append_left _ _<|by simp,vB]
def OY(G:aa)(L:aa):af aa:=af.d4 (iH L)<|af.bg G
@[simp]theorem alW{E:ag}:OY d .none E=some (.ai d,E):=rfl
theorem xG{P:bu}(w:P.um a=some e):lu P f a i E=bM (OY<|.ref E.length) (f e (.ref E.length::i)<|E++[.bt a []]):=by unfold lu;rw[w];rfl
theorem OZ{e:aj}(L:4000<=H)(i:e.c8<=9)(X:dh e)(U:e.cE<=300)(l:e.cp<=100):qq (λJ P=>av H (I+22) 9 [aD G e] E=some (.ai<|.ref P,J)) (λJ P=>J[P]?=some (.list<|(dB e).map<|aL G)) (λJ P=>E.length<=P) λJ P=>bj [] E J:=by
 have x:fE E.length (E.length+1) []<|E++[.bt 0 [(0,.ref<|E.length+1)]]++[.list []]:=by
  show⟨by rw[gj<|by simp];show eL, ?_⟩;have:(E++[aM.bt 0 [(0,.ref<|E.length+1)]]).length=E.length+1:=by simp
  obtain w:=eL (b:=E++[aM.bt 0 [(0,.ref<|E.length+1)]]) (s:=.list []);rwa[this]at w
 show cC (ac6 (G:=G) (J:=H) L 9 (I+1) e _ _ _ _ i U (aq l aR) x<|by simp;lia) λr k m p=> ?_;obtain Y:=r9 9 e 0;obtain⟨u,Q,n,q⟩:=tR (J:=H) (H:=I+20) m (aL G .done) (by simp;show aq Y<|by lia);replace n:=(by simp[lE]:[]++(bz 9 e ([]:List aa).length).map (aL G)++[aL G .done]=(lE e).map (aL G))▸n;obtain S:=Co e;obtain z:=bC n.J;obtain⟨y,W,s,Z,t,v⟩:=adj (G:=G) (f:=av H<|I+20) (r:=H) (e:=E.length+1) (a:=u.length) (h:=lE e) L (gL z) (S▸cB (aq Y<|by lia)) (OV i X l) (Nf i) (λc K a=>by
  by_cases T:K<(bz 9 e 0).length;·have:=adk _ (GP i) K c fx T a;show eI (xV this)<|bP S.symm
  ·have:K=(bz 9 e 0).length:=i7 (i9<|eI ((eD.mp a).1)<|bP S)<|sq T;subst this;rw[GQ]at a;show nomatch a) (lE e) [] (u++[.list []]) none none H rfl (aq (cB<|S▸cB (aq Y<|by lia)) L) ((gj z).trans n.J) eL;show⟨y,u.length, ?_,t, ?_, ?_⟩
 ·obtain g:av H (I+21) 8 [.ref<|E.length+1] u=some (.ai<|.ref u.length,y):=by rw[aO (H:=Et) rfl rfl,adh];simp only[List.length_nil]at Z;simp[Z]
  rw[show aL G .done=.tup [.str cw]from rfl]at Q;rw[aO (H:=Eu) rfl rfl];simp[-List.append_assoc,Eu,(by intros;subst j;rw[xG (e:=3) rfl,aO (H:=Eo) rfl rfl];simp(disch:=exact by decide) [-List.append_assoc,-zU,Eo,Im]:∀{H I:Nat}{E:ag}{F:aW}(j:F=av H (I+1)),lu aw F 0 [] E=some (.ai<|.ref E.length,E++[.bt 0 [(0,.ref<|E.length+1)]]++[.list []])) (H:=H) (I:=I+20) (E:=E) rfl,x.n,k,m.n,Q,n.n,g]
 ·have:=p.aZ;show ie<|lJ z
 ·show((fp.aC fp).aC<|p.aC q).cZ (by intro P h b;simp at h;lia)|>.aC ((fp.aC v).cZ<|by intro P h b;simp at h;lia)
end
def tT(Z:aY)(F:dF):aa:=List.rec (motive:=λ_=>aa) .none (λX _ S=>.tup [S,.tup [.ref<|Z.cA X.1,.str X.2]]) F
theorem Io{Z:aY}:tT Z []=.none:=rfl
theorem adl{Z:aY}{X:bT×Str}{L:dF}:tT Z (X::L)=.tup [tT Z L,.tup [.ref<|Z.cA X.1,.str X.2]]:=rfl
def Dq(F:List Nat):aa:=List.rec (motive:=λ_=>aa) .none (λI _ S=>.tup [S,ao I]) F
theorem O3:Dq []=.none:=rfl
theorem Dr:Dq (a::h)=.tup [Dq h,ao a]:=rfl
def qD(F:List<|Nat×Nat):aa:=List.rec (motive:=λ_=>aa) .none (λX _ S=>.tup [S,.tup [.ref X.1,ao X.2]]) F
theorem O4:qD []=.none:=rfl
theorem Ip{X:Nat×Nat}:qD (X::t)=.tup [qD t,.tup [.ref X.1,ao X.2]]:=rfl
def bB(Z:aY)(w:Nat)(R:bN)(O:List<|Nat×Nat):aM:=.bt 6 [(0,.ref w),(6,ao R.bf),(7,ao R.bY),(8,tT Z R.lB),(9,Dq R.cK),(10,qD O)]
noncomputable def pG:aM:=.bt 6 [(0,.none),(6,.int 0),(7,.int 0),(8,.none),(9,.none),(10,.none)]
def mw(Z:aY)(g:ag)(H:Nat)(R:List aU):Prop:=g[H]?=some (.list<|R.map<|aL Z)
def pH(Z:aY)(w:List Nat)(g:ag):List (Nat×Nat)->List (List aU×Nat)->Prop|[],[]=>True|X::O,Y::G=>X.2=Y.2/\X.1∉w/\mw Z g X.1 Y.1/\pH Z w g O G|_,_=>False
inductive Ae(Z:aY)(X:List Nat)(g:ag)(F:Nat)(R:bN):Prop|mk (w:Nat) (O:List<|Nat×Nat) (H:g[F]?=some (bB Z w R O)) (W:w∉X) (G:mw Z g w R.fo) (E:pH Z X g O R.dA)
def qE(Z:aY)(X:List Nat)(g:ag):List Nat->List (Option bN)->Prop|[],[]=>True|H::E,none::w=>g[H]?=some pG/\qE Z X g E w|H::E,some R::w=>Ae Z X g H R/\qE Z X g E w|_,_=>False
inductive adm(Z:aY)(X:List Nat)(g:ag)(E L:Nat)(w:List<|Option bN):Prop|mk (I:List Nat) (H:g[E]?=some (.list (I.map aa.ref).reverse)) (W:qE Z X g I w) (F:I.Nodup) (G:L∉I) (J:I.length=w.length)
structure Ds(Z:aY)(X:List Nat)(g:ag)(E L:Nat)(w:List<|Option bN):Prop where C:adm Z X g E L w
section
variable{I:aY}{G H:List Nat}{E J:ag}
def nT(G H:List Nat)(E:ag):Prop:=∀g∈H,g∈G\/∃M Q,E[g]?=some (.bt M Q)
def mw.aF{R:List aU}(w:mw I E a R)(X:a∉G)(g:nT G H E)(N:bj H E J):mw I J a R:=by
 show N.at w λF=> ?_;rcases g a F with Y|⟨M,Q,Y⟩;·show X Y
 ·have:E[a]?=some (.list<|R.map<|aL I):=w;rw[this]at Y;simp at Y
def pH.aF:∀{F:List<|List aU×Nat},pH I G E t F->nT G H E->bj H E J->pH I G J t F:=by induction t with
|nil=>intro F w _ _;induction F with|nil=>trivial|cons=>show False.elim w
|cons X t S=>intro F w g N;induction F with|nil=>show False.elim w|cons Y F=>show kO w.1 w.2.1 (w.2.2.1.aF w.2.1 g N)<|S w.2.2.2 g N
def Ae.aF{R:bN}(w:Ae I G E a R)(F:nT G H E)(N:bj H E J)(T:a∉H):Ae I G J a R:=by obtain⟨M,O,g,W,K,L⟩:=w;show⟨M,O,N.at g T,W,K.aF W F N,L.aF F N⟩
def qE.aF:∀{w:List<|Option bN},qE I G E h w->nT G H E->bj H E J->(∀g∈h,g∉H)->qE I G J h w:=by induction h with
|nil=>intro w X _ _ _;induction w with|nil=>trivial|cons=>show False.elim X
|cons g h K=>intro w X F N Y;induction w with|nil=>show False.elim X|cons S w=>induction S with|none=>show⟨N.at X.1<|Y _ cY,K X.2 F N λg h=>Y g<|dI h⟩|some R=>show⟨X.1.aF F N<|Y _ cY,K X.2 F N λg h=>Y g<|dI h⟩
def qE.bt:∀{w:List<|Option bN},qE I G E h w->∀H∈h,∃Q,E[H]?=some (.bt 6 Q):=by induction h with|nil=>show λ_ _ N=>(t5 N).elim|cons g h J=>intro w X H N;induction w with|nil=>show False.elim X|cons S w=>
obtain Y:(∃Q,E[g]?=some (.bt 6 Q))/\qE I G E h w:=by
 rcases S with _|R;·show⟨⟨_,X.1⟩,X.2⟩
 ·show⟨X.1.rec λ_ _ F _ _ _=>⟨_,F⟩,X.2⟩
clear X;rcases gA.mp N with rfl|N;·show Y.1
·show J Y.2 H N
end
noncomputable def dC(w:cQ)(E:Nat):List Nat:=[E,w.e,w.m,w.k]
structure xH(w:cQ)(E:aS)(F U:Nat)(g:ag):Prop where cI:g[U]?=some (.bt 7 [(11,.str E.f),(12,.ref w.e),(13,.ref F)])
@[simp]theorem alX:aw.iV 6 4=some 47:=rfl
@[simp]theorem alY:aw.iV 7 5=some 49:=rfl
@[simp]theorem alZ:aw.iV 7 6=some 50:=rfl
@[simp]theorem al0:aw.iV 7 7=some 51:=rfl
@[simp]theorem al1:aw.iV 7 8=some 52:=rfl
@[simp]theorem al2:aw.iV 7 9=some 53:=rfl
@[simp]theorem al3:aw.iV 7 10=some 54:=rfl
@[simp]theorem al4:aw.iV 7 11=some 55:=rfl
@[simp]theorem al5:aw.iV 7 12=some 56:=rfl
section
variable{G H:Nat}{E:ag}{I:aY}
def Iq(F I g w W O:aa):lu aw (av G<|H+1) 6 [F,I,g,w,W,O] E=some (.ai<|.ref E.length,E++[.bt 6 [(0,F),(6,I),(7,g),(8,w),(9,W),(10,O)]]):=by rw[xG (e:=46) rfl,aO (H:=ER) rfl rfl];simp(disch:=exact Nat.le_of_ble_eq_true rfl) [-getElem?_pos,-i4,CL,ER,eL,jk,vB]
def O5{R:bN}(w:E[a]?=some (bB I e R t))(g:Nat):av G (H+2) 47 [.ref a,ao g] E=some (.ai<|.ref E.length,E++[bB I e {R with bf:=g} t]):=by rw[aO (H:=ET) rfl rfl];simp[ET,w,bB,Iq]
end
section
variable{I:cQ}{G:aY}{J:aS}{N:ay}{R L M H:Nat}{K:bN}{Q:List<|Option bN}{E T:ag}{O S:Nat}
structure ff(I:cQ)(G:aY)(J:aS)(N:ay)(R L M H:Nat)(K:bN)(Q:List<|Option bN)(E:ag):Prop where
e:bJ I G J N R E
j:xH I J L M E
y:Ae G (dC I L) E H K
K:Ds G (dC I L) E L H Q
abbrev adn(I:cQ)(G:aY)(J:aS)(R L M H:Nat)(g:Option<|aI aa×ag)(T:ag)(w:lD):Prop:=w.casesOn (λK Q N=>g=some (.ai<|.bool true,T)/\ff I G J N R L M H K Q T) (λQ N=>g=some (.ai<|.bool false,T)/\bJ I G J N R T/\xH I J L M T/\Ds G (dC I L) T L H Q) (λS N=>S.casesOn (λ_ _=>False) False False λO=>g=some (.cR O,T)/\bJ I G J N R T) False
def il(I:cQ)(G:aY)(J:aS)(R L M H:Nat)(E:ag)(w:lD)(g:Option<|aI aa×ag):Prop:=∃T,bj (H::dC I L) E T/\adn I G J R L M H g T w
def kh{R:aM}(Q:E[a]?=some s)(K:E[e]?=some R)(T:s≠R):a≠e:=by intro Y;rw[Y,K]at Q;obtain rfl:=bO Q;show T rfl
def Dt{Q:List<|Nat×aa}(W:bJ I G J N R E)(T:E[H]?=some (.bt 6 Q)):gK I G H:=⟨kh T W.e<|by simp[gS],kh T W.m<|by simp[pE],kh T W.k<|by simp,kh T W.q<|by simp,kh T W.s<|by simp,λg=>kh T (W.eK g)<|by simp⟩
def Du{Q:List<|Nat×aa}(T:E[H]?=some (.bt 6 Q)):nT (dC I L) [H] E:=by intro g w;show vS.mp w▸.inr (qR _ _ T)
def ff.xI{O:List<|Nat×Nat}(F:ff I G J N R L M H K Q E)(T:E[H]?=some (bB G e K O))(S:e∉dC I L)(V:mw G E e K.fo)(g:pH G (dC I L) E O K.dA) {h:bN}(W:a∉dC I L)(j:mw G E a h.fo)(i:pH G (dC I L) E t h.dA):ff I G J N R L M H h Q<|E.set H<|bB G a h t:=by obtain P:bj [H] E<|E.set H<|bB G a h t:=eC (by show cY);obtain⟨U,X,Z,c,d,f⟩:=F.K.C;show⟨F.e.gq (Dt F.e T) _,⟨P.at F.j.cI<|by simpa using kh F.j.cI T<|by simp[bB]⟩,⟨a,t,dY<|bC T,W,j.aF W (Du T) P,i.aF (Du T) P⟩,⟨U,P.at X<|by simpa using kh X T<|by simp[bB],Z.aF (Du T) P λw Y=>by simp;intro b;show d<|b▸Y,c,d,f⟩⟩
def ff.aF{X:List Nat}(F:ff I G J N R L M H K Q E)(P:∀X,bj X E T):ff I G J N R L M H K Q T:=by
 obtain⟨w,O,S,W,U,V⟩:=F.y;obtain⟨Z,a,b,c,d,e⟩:=F.K.C;obtain f:nT (dC I L) [] E:=λg Y=>by contradiction
 show⟨F.e.aF (P []) (by simp) (by simp) (by simp) (by simp) (by simp)<|by simp,⟨(P []).at F.j.cI<|by simp⟩,⟨w,O,(P []).at S<|by simp,W,U.aF W f<|P [],V.aF f<|P []⟩,⟨Z,(P []).at a<|by simp,b.aF f (P [])<|by simp,c,d,e⟩⟩
def ee(O S:Nat)(G:aY)(M H:Nat)(g:aU)(E:ag):Option<|aI aa×ag:=av O S 51 [.ref M,aL G g,.ref H] E
def oJ(w:ff I G J N R L M H K Q E)(T:E[H]?=some (bB G a K t))(F:a∉dC I L)(V:mw G E a K.fo)(g:pH G (dC I L) E t K.dA) {O:bN}{X:List<|Nat×Nat}(W:e∉dC I L)(S:mw G E e O.fo)(P:pH G (dC I L) E X O.dA):il I G J R L M H E (.dE O Q N)<|some (.ai<|.bool true,E.set H<|bB G e O X):=cO _ (eC<|by show cY) rfl<|w.xI T F V g W S P
def il.ml{w:lD}{g:Option<|aI aa×ag}(X:il I G J R L M H b w g)(N:bj (H::dC I L) E b):il I G J R L M H E w g:=by show aB X λT F Q=> ?_;show aX T (N.aC F) Q
def xJ{F:aj}(P:F.Gi=true){Y:aI aa}(w:av O S 52 [.ref M,aL G<|.cW F,.ref H] E=some (Y,b))(g:xH I J L M E):ee O (S+1) G M H (.cW F) E=some (Y,b):=by rw[ee,aO (H:=gD) rfl rfl];obtain Q:=g.cI;induction F with|bc K=>simp only[aL,lG]at w;induction Y<;>simp[gD,aL,lG,Q,w]|d5 N U=>simp only[aL,lG]at w;induction Y<;>simp[gD,aL,lG,Q,w]|gg N U=>simp only[aL,lG]at w;induction Y<;>simp[gD,aL,lG,Q,w]|fz=>simp only[aL,lG]at w;induction Y<;>simp[gD,aL,lG,Q,w]|_=>show Bool.noConfusion P
def tU(G:aY)(w:Nat)(K:bN)(O:List<|Nat×Nat)(H:Nat)(T:ag):Option Nat->aI aa×ag|some J=>(.ai<|.bool true,T.set H<|bB G w {K with bY:=J,bf:=K.bf+1} O)|none=>(.ai<|.bool false,T)
def Dv{c:Option Nat}(F:ff I G J N R L M H K Q E)(T:E[H]?=some (bB G a K t))(P:a∉dC I L)(V:mw G E a K.fo)(g:pH G (dC I L) E t K.dA) (O:∀U,bj U E b):il I G J R L M H E (zj (.cA c) K Q N)<|some<|tU G a K t H b c:=by
 have W:=F.aF (X:=[]) O;obtain Z:nT (dC I L) [] E:=λw Y=>by contradiction
 rcases c with _|S;·show sE b (O _) rfl W.e W.j W.K
 ·show(oJ (O:={K with bY:=S,bf:=K.bf+1}) W ((O []).at T<|by simp) P (V.aF P Z<|O []) (g.aF Z<|O []) P (V.aF P Z<|O [])<|g.aF Z<|O []).ml<|O _
theorem Dw(Y:Option Nat)(Q:Str)(W g:aa)(T:E[H]?=some (bB G a K t))(O:E[M]?=some (.bt 7 [(11,.str J.f),(12,.ref I.e),(13,.ref L)]))(N:∀X,bj X E b)(P:f 44 [.tup [.str Q,W],.str J.f,ao K.bY] b=some (.ai<|fB Y,b))(U F:Option aa):dv (dw aw f e [.assign (.ae 5)<|.call 44 [.tup [.c (.ae 1)<|.int 1,.ae 3],.attr (.ae 0) 11,.attr (.ae 2) 7],.b (.r<|.ae 5) [.ret<|.bool false] [],.assign (.attr (.ae 2) 7)<|.ae 5,.Z (.ae 2) 6 .cV<|.int 1,.ret<|.bool true] [some<|.ref M,some<|.tup [.str c1,.str Q,g],some<|.ref H,some W,U,F] b) fR=some (tU G a K t H b Y):=by
 have R:=(N []).at O (by simp);unfold bB at T;have S:=(N []).at T (by simp);obtain V:=bC S;rcases Y with _|w;·simp[R,S,P,tU]
 ·simp(disch:=first|omega|exact Nat.le_of_ble_eq_true rfl) [-getElem?_pos,R,S,P,jk,dY,bB,tU]
def ado{F:aj}(h:fD J)(q:oG N)(o:10<=O)(x:F.Gi=true)(l:dh F)(b:K.bY<=J.aJ)(P:ff I G J N R L M H K Q E):il I G J R L M H E (zj (hW J N K.bY F) K Q N)<|ee O (S+8) G M H (.cW F) E:=by
 obtain⟨w,j,T,Z,s,p⟩:=P.y
 have f:=P.j.cI;induction F with|bc U=>
 have g:=N2 (M:=G) (I:=O) (L:=S+3) (E:=E) (m:=U) h.aZ b<|aq l aR;have a:=Dw (e:=O) (f:=av O<|S+6) (jh J.f K.bY U) _ _ (.str U) T f (λ_=>bj.rfl) g none none;have n:av O (S+7) 52 [.ref M,aL G<|.cW<|.bc U,.ref H] E=some (tU G w K j H E<|jh J.f K.bY U):=by rw[aO (H:=ny) rfl rfl,<-a];simp[ny,aL,lG]
 simp only[xJ rfl n P.j];show Dv P T Z s p λ_=>bj.rfl|fz=>
 obtain g:=N3 (I:=O) (L:=S+4) (E:=E) (N:=K.bY) (i:=[.none]) h.aZ;have n:av O (S+7) 52 [.ref M,aL G<|.cW .fz,.ref H] E=some (tU G w K j H E<|some J.aJ):=by rw[aO (H:=ny) rfl rfl,<-Dw (e:=O) (f:=av O<|S+6) (some J.aJ) _ _ .none T f (λ_=>bj.rfl) g none none];simp[ny,aL,lG]
 simp only[xJ rfl n P.j];show Dv (c:=some J.aJ) P T Z s p λ_=>bj.rfl|d5 W U=>
 have g:=CZ (M:=G) (I:=O) (L:=S+2) (E:=E) h.aZ b o l;have n:av O (S+7) 52 [.ref M,aL G<|.cW<|.d5 W U,.ref H] E=some (tU G w K j H E<|gO J.f K.bY W U):=by rw[aO (H:=ny) rfl rfl,<-Dw (e:=O) (f:=av O<|S+6) (gO J.f K.bY W U) _ _ (jV U) T f (λ_=>bj.rfl) g none none];have:=HS U E;simp[ny,aL,lG,this]
 simp only[xJ rfl n P.j];show Dv P T Z s p λ_=>bj.rfl|gg W U=>
 have g:=Oc (I:=O) (L:=S+1) (N:=W) h q o P.e l;obtain m:=λc=>vz (E:=E) (J:=I) (G:=J) (H:=N) (U:=U) (h:=c);obtain y:=P.aF (X:=[]) m;simp only[MD];unfold C3 at g;rcases r:mL J N W U with _|Y|u
 ·replace g:=r▸g;simp only[zS]at g;have n:av O (S+7) 52 [.ref M,aL G<|.cW<|.gg W U,.ref H] E=some (.ai<|.bool false,(fO I J N U E).2):=by rw[aO (H:=ny) rfl rfl];simp[ny,aL,lG,f,g]
  simp only[xJ rfl n P.j];show sE _ (m _) rfl y.e y.j y.K
 ·replace g:=r▸g;simp only[zS,abx,HG,NJ,NK,HH,HI]at g;obtain n:av O (S+7) 52 [.ref M,aL G<|.cW<|.gg W U,.ref H] E=some (.cR Y,(fO I J N U E).2):=by rw[aO (H:=ny) rfl rfl];simp[ny,aL,lG,f,g]
  simp only[xJ rfl n P.j];show cO _ (m _) rfl y.e
 ·obtain g:=r▸g;obtain V:=CZ (M:=G) (I:=O) (L:=S+2) (E:=(fO I J N U E).2) h.aZ b o<|Og h q r;simp only[zS]at g V;have n:av O (S+7) 52 [.ref M,aL G<|.cW<|.gg W U,.ref H] E=some (tU G w K j H (fO I J N U E).2<|gO J.f K.bY W u):=by rw[aO (H:=ny) rfl rfl,<-Dw (e:=O) (f:=av O<|S+6) (gO J.f K.bY W u) _ _ (.tup [.str a4,fC U]) T f m V (some<|.tup [.str<|ik W,jV u]) none];simp[ny,aL,lG,f,g]
  rw[xJ rfl n P.j];show Dv P T Z s p m|_=>show Bool.noConfusion x
end
section
variable{K:cQ}{H:aY}{M:aS}{N:ay}{S J L I:Nat}{E:bN}{O:List<|Option bN}{G T:ag}{Q R:Nat}
def adp(w:ff K H M N S J L I E O G)(T:G[I]?=some (bB H a E t))(W:G[J]?=some (.list i))(X:i.length+1<=16000000)(F:Nat):ee Q (R+3) H L I (.split F) G=some (.ai<|.bool true,((G++[bB H a {E with bf:=F} t]).set J<|.list<|i++[.ref G.length]).set I<|bB H a {E with bf:=E.bf+1} t):=by obtain g:=O5 (G:=Q) (H:=R) T F;obtain V:=(gj (s:=bB H a {E with bf:=F} t)<|bC W).trans W;obtain P:=jl (G++[bB H a {E with bf:=F} t]) J i (.ref G.length) X;obtain U:((G++[bB H a {E with bf:=F} t]).set J<|.list<|i++[.ref G.length])[I]?=some (bB H a E t):=(dQ<|kh W T<|by simp[bB]).trans<|(gj (s:=bB H a {E with bf:=F} t)<|bC T).trans T;rw[ee,aO (H:=gD) rfl rfl];unfold bB at*;simp(disch:=exact Nat.le_of_ble_eq_true rfl) [-getElem?_pos,gD,aL,w.j.cI,T,W,g,(gj (s:=bB H a {E with bf:=F} t)<|bC w.j.cI).trans w.j.cI,V,P,U,jk]
theorem ff.gq{P:Option bN}(W:ff K H M N S J L I E O G)(F:gK K H J)(a:G[J]?=some (.list (h.map aa.ref).reverse))(b:qE H (dC K J) G h O)(d:h.Nodup)(R:I∉h)(i:h.length=O.length) (X:match P with|none=>s=pG|some l=>∃w Z,s=bB H w l Z/\w∉dC K J/\mw H G w l.fo/\pH H (dC K J) G Z l.dA):ff K H M N S J L I E (P::O) ((G++[s]).set J<|.list<|(h.map aa.ref).reverse++[.ref G.length])/\bj (dC K J) G ((G++[s]).set J<|.list<|(h.map aa.ref).reverse++[.ref G.length]):=by
 obtain⟨w,Z,T,m,j,g⟩:=W.y;have V:bj [J] G<|(G++[s]).set J<|.list<|(h.map aa.ref).reverse++[.ref G.length]:=fp.aC<|eC (by simp);have k:nT (dC K J) [J] G:=λU Y=>.inl (by rw[List.mem_singleton.mp Y];simp[dC]);obtain q:=bC a;have p:∀U∈h,U∉[J]:=λU Y=>by show lM (b.bt U Y) λQ c=> ?_;simpa using kh c a<|by simp
 show⟨⟨W.e.aF V ?_ ?_ ?_ ?_ ?_ ?_,⟨V.at W.j.cI<|by simpa using kh W.j.cI a<|by simp⟩,⟨w,Z,V.at T<|by simpa using kh T a<|by simp[bB],m,j.aF m k V,g.aF k V⟩,⟨G.length::h, ?_, ?_, ?_, ?_, ?_⟩⟩,(fp.aC (eC<|by simp[dC]):bj (dC K J) G<|(G++[s]).set J<|.list<|(h.map aa.ref).reverse++[.ref G.length])⟩;·simpa using Ne.symm F.x
 ·simpa using Ne.symm F.A
 ·simpa using Ne.symm F.I
 ·simpa using Ne.symm F.CW
 ·simpa using Ne.symm F.zV
 ·intro Y;simpa using Ne.symm<|F.CX Y
 ·show(dY<|by simp;show pO _ q).trans ?_;simp
 ·rcases P with _|l;·show⟨by rw[(dQ<|Nat.ne_of_lt q).trans eL,X],b.aF k V p⟩
  ·show lO X ?_;clear X;rintro n o rfl e c f;show⟨⟨n,o,(dQ<|gL q).trans eL,e,c.aF e k V,f.aF k V⟩,b.aF k V p⟩
 ·show I5.mpr ⟨λY=> ?_,d⟩;obtain⟨Q,c⟩:=b.bt _ Y;have:=bC c;lia
 ·intro Y;rcases gA.mp Y with Y|Y;·have:=bC T;lia
  ·show R Y
 ·simp[i]
def adq(Z:Nat)(F:gK K H J)(W:O.length+1<=16000000)(U:ff K H M N S J L I E O G):il K H M S J L I G (.dE {E with bf:=E.bf+1} (some {E with bf:=Z}::O) N)<|ee Q (R+3) H L I (.split Z) G:=by obtain⟨w,b,T,X,j,g⟩:=U.y;obtain⟨a,c,d,e,f,h⟩:=U.K.C;simp only[adp U T c (by simp;show Nat.le_trans (Nat.le_of_eq h)<|Nat.le_of_succ_le_succ W) Z];show eZ (U.gq (P:=some {E with bf:=Z}) (s:=bB H w {E with bf:=Z} b) F c d e f h<|nu w b rfl X j g) λi V=> ?_;obtain k:((G++[bB H w {E with bf:=Z} b]).set J<|.list<|(a.map aa.ref).reverse++[.ref G.length])[I]?=some (bB H w E b):=(dQ<|kh c T<|by simp[bB]).trans<|(gj<|bC T).trans T;obtain m:=j.aF X (λP Y=>.inl Y) V;obtain l:=g.aF (λP Y=>.inl Y) V;show(oJ (O:={E with bf:=E.bf+1}) i k X m l X m l).ml<|kg V λP Y=>dI Y
def ads(U:Nat)(F:ff K H M N S J L I E O G):il K H M S J L I G (.dE {E with bf:=U} O N)<|ee Q (R+1) H L I (.dg U) G:=by
 obtain⟨w,W,T,P,V,X⟩:=F.y;obtain g:ee Q (R+1) H L I (.dg U) G=some (.ai<|.bool true,G.set I<|bB H w {E with bf:=U} W):=by rw[ee,aO (H:=gD) rfl rfl];unfold bB at*;simp(disch:=exact Nat.le_of_ble_eq_true rfl) [-getElem?_pos,gD,aL,F.j.cI,T,jk]
 simp only[g];show oJ (O:={E with bf:=U}) F T P V X P V X
theorem adt(b:M.f.length<=4)(Z:E.bY<=4)(U:a<=4)(j:E.cK=a::h)(F:ff K H M N S J L I E O G):il K H M S J L I G (if a<E.bY then .dE {E with cK:=h,bf:=E.bf+1} O N else .w O N)<|ee Q (R+2) H L I .iP G:=by
 obtain⟨w,c,T,W,V,d⟩:=F.y;have e:=F.xI T W V d (h:={E with cK:=h}) W V d;obtain i:(G.set I<|bB H w {E with cK:=h} c)[I]?=some (bB H w {E with cK:=h} c):=dY<|bC T;obtain g:av Q (R+1) 53 [.ref L,.tup [.str df],.ref I] G=some (.ai<|.bool<|decide<|a<E.bY,G.set I<|bB H w {E with cK:=h} c):=by rw[aO (H:=ux) rfl rfl];unfold bB at*;obtain T:=j▸T;simp only[Dr]at T;simp(disch:=first|lia|exact Nat.le_of_ble_eq_true rfl) [-getElem?_pos,ux,F.j.cI,T,jk,e.j.cI,i]
 rcases pM<|a<E.bY with Y|Y
 ·rw[if_pos Y];obtain X:ee Q (R+2) H L I .iP G=some (.ai<|.bool true,(G.set I<|bB H w {E with cK:=h} c).set I<|bB H w {E with cK:=h,bf:=E.bf+1} c):=by rw[ee,aO (H:=gD) rfl rfl];rw[decide_eq_true Y]at g;unfold bB at*;simp(disch:=first|lia|exact Nat.le_of_ble_eq_true rfl) [-getElem?_pos,gD,aL,F.j.cI,g,i,jk]
  simp only[X];obtain P:bj [I] G<|G.set I<|bB H w {E with cK:=h} c:=eC (by simp);obtain f:=Du (I:=K) (L:=J) T;show(oJ (O:={E with cK:=h,bf:=E.bf+1}) e i W (V.aF W f P) (d.aF f P) W (V.aF W f P)<|d.aF f P).ml<|kg P<|by simp
 ·rw[if_neg Y];obtain X:ee Q (R+2) H L I .iP G=some (.ai<|.bool false,G.set I<|bB H w {E with cK:=h} c):=by rw[ee,aO (H:=gD) rfl rfl];rw[decide_eq_false Y]at g;simp[gD,aL,F.j.cI,g]
  simp only[X];show sE _ (eC<|by simp) rfl e.e e.j e.K
theorem adu{F:bT}(Z:M.f.length<=4)(Y:E.bY<=4)(U:a<=4)(f:E.cK=a::h)(P:ff K H M N S J L I E O G):il K H M S J L I G (.dE {E with cK:=h,lB:=(F,cF M.f a E.bY)::E.lB,bf:=E.bf+1} O N)<|ee Q (R+2) H L I (.bZ true F) G:=by
 obtain⟨w,b,T,W,V,c⟩:=P.y;obtain i:=bC T;obtain e:=(P.xI T W V c (h:={E with cK:=h}) W V c).j.cI;obtain d:(G.set I<|bB H w {E with cK:=h} b)[I]?=some (bB H w {E with cK:=h} b):=dY i;have g:av Q (R+1) 53 [.ref L,.tup [.str ax,.ref<|H.cA F],.ref I] G=some (.ai<|.bool true,G.set I<|bB H w {E with cK:=h,lB:=(F,cF M.f a E.bY)::E.lB} b):=by rw[aO (H:=ux) rfl rfl];unfold bB at*;replace T:=f▸T;simp only[Dr]at T;simp(disch:=first|lia|exact Nat.le_of_ble_eq_true rfl) [-getElem?_pos,ux,P.j.cI,T,jk,e,d,Io,adl]
 obtain X:ee Q (R+2) H L I (.bZ true F) G=some (.ai<|.bool true,G.set I<|bB H w {E with cK:=h,lB:=(F,cF M.f a E.bY)::E.lB,bf:=E.bf+1} b):=by rw[ee,aO (H:=gD) rfl rfl];delta bB at*;simp(disch:=first|lia|exact Nat.le_of_ble_eq_true rfl) [-getElem?_pos,gD,aL,P.j.cI,g,dY,jk]
 simp only[X];show oJ (O:={E with cK:=h,lB:=(F,cF M.f a E.bY)::E.lB,bf:=E.bf+1}) P T W V c W V c
def ff.Ir{d:ay}(U:ff K H M N S J L I E O G)(F:gK K H J)(q:∀P∈h,P=K.e\/P=K.m\/P=K.k)(Z:bj h G T)(W:bJ K H M d a T):ff K H M d a J L I E O T:=by
 obtain⟨w,f,e,p,V,g⟩:=U.y;obtain⟨c,i,j,l,R,m⟩:=U.K.C;obtain n:nT (dC K J) h G:=λP Y=>.inl (by rcases q P Y with rfl|rfl|rfl<;>simp[dC]);have r:∀P Q,G[P]?=some (.bt 6 Q)->P∉h:=λP Q Y k=>by
  have X:=Dt U.e Y;rcases q P k with rfl|rfl|rfl;·show X.x rfl
  ·show X.A rfl
  ·show X.I rfl
 have b:L∉h:=λk=>by
  rcases q L k with Y|Y|Y;·show kh U.j.cI U.e.e (by simp[gS]) Y
  ·show kh U.j.cI U.e.m (by simp[pE]) Y
  ·show kh U.j.cI U.e.k (by simp) Y
 have o:J∉h:=λk=>by
  rcases q J k with Y|Y|Y;·show F.x Y
  ·show F.A Y
  ·show F.I Y
 show⟨W,⟨Z.at U.j.cI b⟩,⟨w,f,Z.at e<|r _ _ e,p,V.aF p n Z,g.aF n Z⟩,⟨c,Z.at i o,j.aF n Z λP Y=>by obtain⟨Q,k⟩:=j.bt P Y;show r _ _ k,l,R,m⟩⟩
theorem adv{U:bT}(l:jX K H)(F:gK K H J)(y:N.bx.length+1<=16000000)(j:M.f.length<=4)(i:E.bY<=4)(c:a<=4)(z:E.cK=a::h)(W:ff K H M N S J L I E O G):il K H M S J L I G (ps M U (.str<|cF M.f a E.bY) {E with cK:=h} O N)<|ee Q (R+3) H L I (.bZ false U) G:=by
 obtain⟨w,m,T,e,V,n⟩:=W.y;have q:=W.xI T e V n (h:={E with cK:=h}) e V n;have v:(G.set I<|bB H w {E with cK:=h} m)[I]?=some (bB H w {E with cK:=h} m):=dY<|bC T;obtain⟨o,r,s,t⟩:=CY (M:=Q) (N:=R) l q.e U (.str<|cF M.f a E.bY) y;have A:=q.e.e;have p:=q.Ir F (by simp) t s;have g:av Q (R+2) 53 [.ref L,.tup [.str dt,.ref<|H.cA U],.ref I] G=some (.ai<|.bool (hZ M U (.str<|cF M.f a E.bY) N).isSome,o):=by rw[aO (H:=ux) rfl rfl];unfold bB gS at*;obtain T:=z▸T;simp only[Dr]at T;simp(disch:=first|lia|exact Nat.le_of_ble_eq_true rfl) [-getElem?_pos,ux,W.j.cI,T,jk,q.j.cI,v,A,r]
 have x:o[I]?=some (bB H w {E with cK:=h} m):=t.at v (by have b:=Dt q.e v;simp[b.A,b.I]);have Z:bj (I::dC K J) G o:=(kg (eC (h:=[I])<|by simp)<|by simp).aC<|kg t (by simp[dC]);unfold ps;clear v;clear A;clear t;clear q;clear r;rcases Y:hZ M U (.str<|cF M.f a E.bY) N with _|k
 ·rw[Y]at g p;obtain f:ee Q (R+3) H L I (.bZ false U) G=some (.ai<|.bool false,o):=by rw[ee,aO (H:=gD) rfl rfl];simp[gD,aL,W.j.cI,g]
  show f▸sE o Z rfl p.e p.j p.K
 ·obtain u:nT (dC K J) (I::dC K J) G:=λP Y=>by
   rcases gA.mp Y with rfl|Y;·show .inr<|qR _ _ T
   ·show .inl Y
  rw[Y]at g p;obtain f:ee Q (R+3) H L I (.bZ false U) G=some (.ai<|.bool true,o.set I<|bB H w {E with cK:=h,bf:=E.bf+1} m):=by rw[ee,aO (H:=gD) rfl rfl];unfold bB at*;simp(disch:=first|lia|exact Nat.le_of_ble_eq_true rfl) [-getElem?_pos,gD,aL,W.j.cI,g,x,jk]
  simp only[f];show(oJ (O:={E with cK:=h,bf:=E.bf+1}) p x e (V.aF e u Z) (n.aF u Z) e (V.aF e u Z)<|n.aF u Z).ml Z
theorem adw{U:bT}(e:jX K H)(F:gK K H J)(o:N.bx.length+1<=16000000)(Z:ff K H M N S J L I E O G):il K H M S J L I G (ps M U (.int E.bY) E O N)<|ee Q (R+2) H L I (.rG U) G:=by
 obtain⟨w,f,T,a,V,g⟩:=Z.y;have W:=Z.e.e;obtain⟨h,j,k,l⟩:=CY (M:=Q) (N:=R) e Z.e U (ao E.bY) o;obtain i:=Z.Ir F (by simp) l k;obtain n:h[I]?=some (bB H w E f):=l.at T (by obtain X:=Dt Z.e T;simp[X.A,X.I]);obtain m:nT (dC K J) [K.m,K.k] G:=λP Y=>.inl (by simp at Y;rcases Y with rfl|rfl<;>simp[dC]);change il K H M S J L I G (ps M U (ao E.bY) E O N) _;unfold ps;rcases Y:hZ M U (ao E.bY) N with _|c
 ·rw[Y]at j i;have b:ee Q (R+2) H L I (.rG U) G=some (.ai<|.bool false,h):=by rw[ee,aO (H:=gD) rfl rfl];unfold bB gS at*;simp[gD,aL,Z.j.cI,T,W,j]
  show b▸sE h (kg l<|by simp[dC]) rfl i.e i.j i.K
 ·rw[Y]at j i;obtain b:ee Q (R+2) H L I (.rG U) G=some (.ai<|.bool true,h.set I<|bB H w {E with bf:=E.bf+1} f):=by rw[ee,aO (H:=gD) rfl rfl];unfold bB gS at*;simp(disch:=first|lia|exact Nat.le_of_ble_eq_true rfl) [-getElem?_pos,gD,aL,Z.j.cI,T,W,j,n,jk]
  show b▸(oJ (O:={E with bf:=E.bf+1}) i n a (V.aF a m l) (g.aF m l) a (V.aF a m l)<|g.aF m l).ml (kg l<|by simp[dC])
end
section
variable{N:cQ}{H:aY}{M:aS}{Q:ay}{T O J I:Nat}{E:bN}{R:List<|Option bN}{G S:ag}{K L:Nat}
def Dx{S:aU}{Y:aI aa}(U:(jm S==c1)=false)(W:(jm S==c6)=false)(F:(jm S==c2)=false)(P:(jm S==dr)=false) (R:(jm S==ax)=false)(Z:(jm S==dt)=false)(T:(jm S==df)=false)(Q:(jm S==(⟨#[112,108,97,99,101]⟩:Str))=false)(X:mu S) (w:xH N M O J G)(E:av K L 54 [.ref J,aL H S,.ref I] G=some (Y,b)):ee K (L+1) H J I S G=some (Y,b):=by show lM (Dn H X) λg V=> ?_;rw[ee,aO (H:=gD) rfl rfl];rw[V]at E⊢;induction Y<;>simp[gD,U,W,F,P,R,Z,T,Q,w.cI,E]
def adx(F:gK N H O)(W:R.length+1<=16000000)(S:ff N H M Q T O J I E R G):il N H M T O J I G (.dE {E with bf:=E.bf+1} (none::R) Q)<|ee K (L+3) H J I .fA G:=by
 show eA λZ h=> ?_;obtain⟨w,c,b,U,m,g⟩:=S.y;obtain⟨a,e,f,i,j,k⟩:=S.K.C;obtain⟨l,V⟩:=S.gq (P:=none) (s:=pG) F e f i j k rfl;obtain q:((G++[pG]).set O<|.list<|(a.map aa.ref).reverse++[.ref G.length])[I]?=some (bB H w E c):=(dQ<|kh e b<|by simp[bB]).trans<|(gj<|bC b).trans b;obtain r:=(gj (s:=pG)<|bC e).trans e;obtain n:=jl (G++[pG]) O (a.map aa.ref).reverse (.ref G.length) (by simp;show aq (bP k)<|fJ W);obtain X:av K (L+2) 54 [.ref J,aL H .fA,.ref I] G=some (.ai<|.bool true,((G++[pG]).set O<|.list<|(a.map aa.ref).reverse++[.ref G.length]).set I<|bB H w {E with bf:=E.bf+1} c):=by rw[aO (H:=o5) rfl rfl];unfold bB at*;unfold pG at*;simp(disch:=exact Nat.le_of_ble_eq_true rfl) [-getElem?_pos,-List.map_reverse,-List.length_append,o5,aL,S.j.cI,b,e,Iq (G:=K) (H:=L) (E:=G) .none (.int 0) (.int 0) .none .none .none,r,n,q,jk]
 obtain p:nT (dC N O) (dC N O) G:=λP Y=>.inl Y;show h ?_;simp only[Dx (S:=.fA) rfl rfl rfl rfl rfl rfl rfl rfl trivial S.j X];show(oJ (O:={E with bf:=E.bf+1}) l q U (m.aF U p V) (g.aF p V) U (m.aF U p V)<|g.aF p V).ml<|kg V λP Y=>dI Y
theorem ady{d:List aU}{i:List<|List aU×Nat}(j:E.dA=(d,a)::i)(F:ff N H M Q T O J I E R G):il N H M T O J I G (.dE {E with fo:=d,bf:=a,dA:=i} R Q)<|ee K (L+2) H J I .done G:=by
 obtain⟨w,e,c,U,V,g⟩:=F.y;obtain S:=bC c;rw[j]at g;rcases e with _|⟨Y,e⟩;·show g.elim
 ·obtain⟨h,f⟩:=Y;show pU g λP W Z b=> ?_;simp only at P W Z;clear g;subst P;have X:av K (L+1) 54 [.ref J,aL H .done,.ref I] G=some (.ai<|.bool true,G.set I<|bB H h {E with fo:=d,bf:=f,dA:=i} e):=by rw[aO (H:=o5) rfl rfl];unfold bB at*;simp only[Ip]at c;simp(disch:=first|lia|exact Nat.le_of_ble_eq_true rfl) [-getElem?_pos,o5,aL,F.j.cI,c,dY,jk]
  simp only[Dx (S:=.done) rfl rfl rfl rfl rfl rfl rfl rfl trivial F.j X];show oJ (O:={E with fo:=d,bf:=f,dA:=i}) F c U V (by simp only[j];show kO rfl W Z b) W Z b
noncomputable def Dy:List bo:=[.assign (.ae 4)<|.h (.ae 1) 4 [.attr (.ae 1) 6],.assign (.attr (.ae 4) 7)<|.ae 3,.expr<|.i .dj (.attr (.ae 0) 13) [.ae 4]]
theorem O6:Ba=⟨3,5,[.b (.d .aA (.g .aZ [.ae 2])<|.int 0) [.ret<|.bool false] [],.Z (.ae 1) 6 .cV<|.int 1,.D 3 (.ud<|.ae 2) Dy,.assign (.attr (.ae 1) 7)<|.c (.ae 2)<|.int 0,.ret<|.bool true]⟩:=rfl
def adz(F:gK N H O):∀(U:List Nat)(R:List<|Option bN)(G:ag)(s Z:Option aa),R.length+U.length<=16000000->ff N H M Q T O J I E R G->Ca (λS B C=>jT aw (av K<|L+2) K 3 Dy (U.map ao) [some<|.ref J,some<|.ref I,y,s,Z] G=some (.ai (.aK,[some<|.ref J,some<|.ref I,y,B,C]),S)) (λS B C=>ff N H M Q T O J I E (U.reverse.map (λX=>some {E with bY:=X})++R) S) λS B C=>bj (dC N O) G S:=by intro U;induction U with|nil=>intro R G s Z _ P;show⟨G,s,Z,by simp,by simpa using P,bj.rfl⟩|cons X U Y=>
intro R G s Z W P;show eA λXN j=> ?_;obtain⟨c,h,i,l,p,r⟩:=P.K.C;obtain⟨w,f,e,a,u,n⟩:=P.y;obtain⟨t,V⟩:=P.gq (P:=some {E with bY:=X}) (s:=bB H w {E with bY:=X} f) F h i l p r ⟨w,f,rfl,a,u,n⟩;obtain g:=O5 (G:=K) (H:=L) e E.bf;obtain D:(G++[bB H w {E with bf:=E.bf} f])[G.length]?=some (bB H w {E with bf:=E.bf} f):=eL;obtain A:=(gj (s:=bB H w {E with bY:=X} f)<|bC P.j.cI).trans P.j.cI;obtain z:=(gj (s:=bB H w {E with bY:=X} f)<|bC h).trans h;obtain v:=jl (G++[bB H w {E with bY:=X} f]) O (c.map aa.ref).reverse (.ref G.length) (by simp;show aq (bP r)<|i9<|eI (xV bD) W);obtain⟨S,B,C,m,k,q⟩:=Y _ _ (some<|ao X) (some<|.ref G.length) (by show aq (bP gM) W) t;show j ?_;show⟨S,B,C, ?_, ?_,V.aC q⟩
·simp only[List.map_cons,rX,<-m];simp only[List.set_cons_succ,List.set_cons_zero];obtain b:dw aw (av K<|L+2) K Dy [some<|.ref J,some<|.ref I,y,some<|ao X,Z] G=some (.ai (.aK,[some<|.ref J,some<|.ref I,y,some<|ao X,some<|.ref G.length]),(G++[bB H w {E with bY:=X} f]).set O<|.list<|(c.map aa.ref).reverse++[.ref G.length]):=by unfold bB at*;unfold Dy;simp(disch:=exact Nat.le_of_ble_eq_true rfl) [-getElem?_pos,-List.map_reverse,-List.length_append,P.j.cI,e,g,D,jk,vB,A,z,v]
 simp only[oF,b,jS,zQ]
·simpa using k
theorem O7{S:aU}(F:gK N H O)(XN:R.length+10<=16000000)(A:h.length<=8)(P:ff N H M Q T O J I E R G)(XO:aL H S=.tup [.str c5,.str m])(v:jm S=c5)(XQ:mu S) (XR:av K (L+3) 45 [.str m,.str M.f,ao E.bY,.none] G=some (.ai<|.ref a,b))(W:∀XS,bj XS G b)(B:G.length<=a)(C:b[a]?=some (.list<|h.map ao)):il N H M T O J I G (ve h E R Q)<|ee K (L+5) H J I S G:=by
 have n:=P.aF (X:=[]) W;obtain⟨XT,XU,f,c,V,g⟩:=n.y;obtain⟨X6,X7,D,_,_,_⟩:=P.y;have o:(h.map ao).length<=16000000:=by simp;show aq A aR
 have s:∀Y l,av K (L+3) 55 [.ref J,.ref I,.ref a] b=some (Y,l)->ee K (L+5) H J I S G=some (Y,l):=by intro Y l XW;show Dx (by rw[v];rfl) (by rw[v];rfl) (by rw[v];rfl) (by rw[v];rfl) (by rw[v];rfl) (by rw[v];rfl) (by rw[v];rfl) (by rw[v];rfl) XQ P.j ?_;rw[aO (H:=o5) rfl rfl,XO];unfold bB at D;induction Y<;>simp[o5,P.j.cI,D,XR,XW]
 obtain q:=jW (h.map ao) o;obtain p:=Of (h.map ao) o;clear o;rcases h with _|⟨e,w⟩
 ·have XX:av K (L+3) 55 [.ref J,.ref I,.ref a] b=some (.ai<|.bool false,b):=by rw[aO (H:=Ba) rfl rfl,O6];rw[List.map_nil]at q C;simp[C,q]
  simp only[s _ _ XX];show sE b (W _) rfl n.e n.j n.K
 ·obtain XY:I≠a:=by have:=bC D;show gL<|eI this B
  obtain t:(b.set I<|bB H XT {E with bf:=E.bf+1} XU)[a]?=some (.list<|(e::w).map ao):=(dQ XY).trans C;obtain⟨Z,X8,X9,XZ,i,k⟩:=adz (K:=K) (L:=L) (y:=some<|.ref a) F w.reverse R _ none none (by simp;show aq (i8 (ie<|aq A aR) _) XN)<|n.xI f c V g (h:={E with bf:=E.bf+1}) c V g;have u:Z[a]?=some (.list<|(e::w).map ao):=by have X0:=bC P.e.m;obtain⟨Yb,X2,_⟩:=P.K.C;show k.at t ?_;simp[dC];show And.intro (d7<|eI (bC X2) B)<|And.intro (d7<|eI (bC P.e.e) B)<|And.intro (d7<|eI X0 B)<|d7<|eI (bC P.e.k) B
  obtain⟨X3,X4,x,U,z,y⟩:=i.y;rw[List.reverse_reverse]at i;obtain X5:av K (L+3) 55 [.ref J,.ref I,.ref a] b=some (.ai<|.bool true,Z.set I<|bB H X3 {E with bf:=E.bf+1,bY:=e} X4):=by rw[aO (H:=Ba) rfl rfl,O6];rw[(by simp:(((e::w).map ao).drop 1).reverse=w.reverse.map ao)]at p;rw[List.map_cons]at q p C t u;unfold bB at*;simp(disch:=first|lia|exact Nat.le_of_ble_eq_true rfl) [-getElem?_pos,-List.map_reverse,C,q,f,jk,t,p,XZ,u,x]
  simp only[s _ _ X5];show(oJ (O:={E with bf:=E.bf+1,bY:=e}) i x U z y U z y).ml<|(W _).aC<|(kg (eC (h:=[I])<|by simp)<|by simp).aC<|kg k λa Y=>dI Y
structure pI(M:aS):Prop where
qe:M.l.c8<=9
hV:dh M.l
fL:M.l.cE<=300
t:M.l.cp<=100
theorem adA{U:dM}(i:fD M)(s:pI M)(F:oG Q)(XU:4000<=K)(a:ff N H M Q T O J I E R G):il N H M T O J I G (wZ M dB E R Q<|fY M Q U)<|ee K (L+26) H J I (.nK U) G:=by
 have h:=a.j.cI;have W:=a.e.e;obtain f:=C0 (I:=K) (L:=L+22) a.e U;obtain n:=C1 (I:=K) (L:=L+22) i F a.e U;have A:∀Y r,av K (L+24) 56 [.ref J,fC U,.ref I] G=some (Y,r)->ee K (L+26) H J I (.nK U) G=some (Y,r):=by intro Y r XW;show Dx (S:=.nK U) rfl rfl rfl rfl rfl rfl rfl rfl trivial a.j ?_;rw[aO (H:=o5) rfl rfl];induction Y<;>simp[o5,aL,h,XW]
 have C:∀(P:aa)(w:aj),av K (L+23) 61 [.ref N.e,fC U] G=some (.ai P,G)->av K (L+23) 13 [P] G=some (.ai<|.bool false,G)->w.c8<=9->dh w->w.cE<=300->w.cp<=100->(∀S,bJ N H M Q T S->av K (L+23) 25 [P] S=some (.ai<|aD H w,S))->il N H M T O J I G (.dE {E with fo:=dB w,bf:=0,dA:=(E.fo,E.bf+1)::E.dA} R Q) (ee K (L+26) H J I (.nK U) G):=by
  intro P w f n XX XY XZ X0 X2;obtain⟨m,k,j,c,u,g⟩:=a.y;have t:=a.xI j c u g (a:=m) (t:=(m,E.bf+1)::k) (h:={E with dA:=(E.fo,E.bf+1)::E.dA}) c u<|kO rfl c u g;obtain y:(G.set I<|bB H m {E with dA:=(E.fo,E.bf+1)::E.dA}<|(m,E.bf+1)::k)[I]?=some (bB H m {E with dA:=(E.fo,E.bf+1)::E.dA}<|(m,E.bf+1)::k):=dY<|bC j;obtain V:=X2 _ t.e;obtain⟨r,Z,p,l,q,v⟩:=OZ (G:=H) (H:=K) (I:=L+1) (e:=w) (E:=G.set I<|bB H m {E with dA:=(E.fo,E.bf+1)::E.dA}<|(m,E.bf+1)::k) XU XX XY XZ X0;have XN:=t.aF (T:=r) (X:=[]) λX3=>kg v (by simp);have z:=v.at y (by simp);obtain Yb:=bC z;have XO:Z∉dC N O:=by obtain b:=bC t.e.e;obtain⟨XO,X4,_⟩:=t.K.C;simp only[dC,List.mem_cons,List.not_mem_nil,or_false,not_or];show⟨d7<|eI (bC X4) q,d7<|eI b q,d7<|eI (bC t.e.m) q,d7<|eI (bC t.e.k) q⟩
  obtain⟨X5,XQ,D,X6,X7,XR⟩:=XN.y;obtain X8:X5=m/\qD XQ=qD ((m,E.bf+1)::k):=by rw[z]at D;simp[bB]at D;show⟨D.1.symm,D.2.symm⟩
  obtain x:av K (L+24) 56 [.ref J,fC U,.ref I] G=some (.ai<|.bool true,r.set I<|bB H Z {E with fo:=dB w,bf:=0,dA:=(E.fo,E.bf+1)::E.dA} XQ):=by rw[aO (H:=yz) rfl rfl];unfold bB gS at*;rw[X8.2];simp only[Ip]at y V p z⊢;simp(disch:=first|lia|exact Nat.le_of_ble_eq_true rfl) [-getElem?_pos,yz,h,W,j,f,n,jk,V,p,z,dY,show aa.int 0=ao 0from rfl,O4,Ip]
  simp only[A _ _ x];show(oJ (O:={E with fo:=dB w,bf:=0,dA:=(E.fo,E.bf+1)::E.dA}) XN D X6 X7 XR XO l XR).ml ?_;show(kg (eC (h:=[I])<|by simp)<|by simp).aC<|kg v<|by simp
 rcases e:fY M Q U with _|_|P
 ·rw[e]at n;have B:=a.aF (X:=[]) (T:=(fO N M Q U G).2) λX3=>vz;obtain x:av K (L+24) 56 [.ref J,fC U,.ref I] G=some (.ai<|.bool false,(fO N M Q U G).2):=by rw[aO (H:=yz) rfl rfl];unfold gS at W;simp[yz,h,W,f,n]
  simp only[A _ _ x];show sE _ vz rfl B.e B.j B.K
 ·have b:fO N M Q U G=(.ref N.s,G):=by unfold fO;rw[e]
  rw[b]at f;rw[b,e]at n;show C (.ref N.s) M.l f n s.qe s.hV s.fL s.t λS X9=>N7 X9
 ·have b:fO N M Q U G=(P,G):=by unfold fO;rw[e]
  have XS:=vA i F e;have XT:(j6 P).length<=100:=by induction XS with|gu Yc=>show show 1<=100 by lia|cW=>show show 1<=100 by lia|fL p l=>show aq p<|show 4<=100 by lia
  rw[b]at f;rw[b,e]at n;show C P (.bc<|j6 P) f n fx XT (show 1<=300 by lia) XT λS _=>N6 (L:=L+20) (by lia) XS
end
section
set_option tactic.hygienic true
def vI(R:List aU):Prop:=gV (∀S∈R,mu S)<|R.length<=4000
theorem It{g:aj}(O:g.c8<=9)(X:dh g)(w:g.cE<=300)(E:g.cp<=100):vI<|dB g:=by
 show⟨adg O X E, ?_⟩;have W:(dB g).length=(lE g).length:=by delta dB qx;rw[List.length_map]
 show aq (bP W)<|aq (bP<|Co g)<|cB<|aq (r9 9 g 0)<|by lia-abstractProof
structure oK(E:aS)(R:bN):Prop where
u:R.bY<=E.aJ
cK:∀I∈R.cK,I<=E.aJ
P:vI R.fo
dA:∀Y∈R.dA,vI Y.1
def qF(E:aS)(w:List<|Option bN):Prop:=∀R,some R∈w->oK E R
def qG(E:aS)(w:List<|Option bN)(V:ay):lD->Prop|.dE R K I=>oK E R/\qF E K/\K.length<=w.length+4/\di I/\V.bx.length<=I.bx.length|.w K I=>K=w/\di I/\V.bx.length<=I.bx.length|.F _ I=>di I/\V.bx.length<=I.bx.length|.qo=>True
section
variable{E:aS}{G:bN}{I:List<|Option bN}{H:ay}
def qF.cons{G:bN}(T:oK E G)(W:qF E I):qF E<|some G::I:=by
 intro g N;rcases gA.mp N with Y|Y;·obtain rfl:=bO Y;show T
 ·show W g Y
def O8{L:bT}{J:bN}(w:di H)(W:qF E I)(T:gJ d)(F:oK E {J with bf:=J.bf+1}):qG E I H<|ps E L d J I H:=by
 unfold ps;rcases Y:hZ E L d H with _|g;·show fS rfl w aH
 ·show gC F W bD (De w T Y).1 (De w T Y).2
def O9(w:di H)(W:qF E I)(T:oK E G)(K:∀J∈h,J<=E.aJ)(F:h.length<=5):qG E I H<|ve h G I H:=by
 rcases h with _|⟨J,L⟩;·show fS rfl w aH
 ·show gC ⟨K J cY,T.cK,T.P,T.dA⟩ ?_ ?_ w aH
  ·intro P O;rcases oP.mp O with Y|Y;·show aB (nU.mp Y) λN g M=> ?_;rw[<-bO M];show⟨K N<|dI g,T.cK,T.P,T.dA⟩
   ·show W P Y
  ·simp only[List.length_append,List.length_map]at F⊢;show d8 F<|by simp+arith
theorem Pa(d:fD E)(K:pI E)(w:di H)(f:oK E G)(W:qF E I):qG E I H<|iy E dB G I H:=by have r:∀q,oK E {G with bf:=q}:=λq=>⟨f.u,f.cK,f.P,f.dA⟩;induction a:G.fo[G.bf]?with
|none=>rw[show iy E dB G I H=.qo by show congrArg _ a];trivial
|some S=>rw[fe a];induction S with|done=>
change qG E I H<|B8 G I H G.dA;rcases e:G.dA with _|⟨M,m⟩;·show⟨w,aH⟩
·show gC ⟨f.u,f.cK,f.dA M<|by rw[e];show cY,λY R=>f.dA Y<|by rw[e];show dI R⟩ W bD w aH|fH=>show⟨w,aH⟩|cW F=>show(by intro S _ w W f a;induction S with|dq=>show fS rfl w aH|dG O=>show⟨w,aH⟩|«at» J=>show gC ⟨a J rfl,f.cK,f.P,f.dA⟩ W bD w aH:∀{S l}(w:di H)(W:qF E I)(f:oK E G)(a:∀J,S=.at J->J<=E.aJ),qG E I H<|zj S G I H) (l:=G) w W f λJ j=>(kZ f.u j).2|split b=>show gC (r _) (.cons (r _) W) (by simp) w aH|dg b=>show gC (r _) W bD w aH|gI=>show gC ⟨f.u,λP X=>by rcases gA.mp X with rfl|X<;>first|show f.u|show f.cK P X,f.P,f.dA⟩ W bD w aH|bZ F L=>
change qG E I H<|B6 E F L G I H G.cK;rcases N:G.cK with _|⟨P,Z⟩;·trivial
·obtain o:∀g∈Z,g<=E.aJ:=λg V=>f.cK g (by rw[N];show dI V);rcases F with _|_;·show O8 w W (HT d _ _) ⟨f.u,o,f.P,f.dA⟩
 ·show gC ⟨f.u,o,f.P,f.dA⟩ W bD w aH|iP=>
change qG E I H<|B7 G I H G.cK;rcases N:G.cK with _|⟨P,Z⟩;·trivial
·by_cases X:P<G.bY;·change qG E I H<|if P<G.bY then _ else _;rw[if_pos X];show gC ⟨f.u,λg V=>f.cK g<|by rw[N];show dI V,f.P,f.dA⟩ W bD w aH
 ·change qG E I H<|if P<G.bY then _ else _;rw[if_neg X];show fS rfl w aH|rG L=>show O8 w W (.gu (O:=G.bY)<|aq f.u<|aq d.aZ aR)<|r _|fail=>show⟨rfl,w,aH⟩|eG=>show O9 w W f (λJ j=>(Gu f.u J j).2)<|by simp[jP];show gU<|cB d.aZ|fj=>show O9 w W f (λJ j=>(w5 _ _ f.u J j).2)<|by have:=C5 E.f (E.aJ+1-G.bY) G.bY;show aq this<|vT<|gU<|cB d.aZ|nK U=>
have p:∀Y∈(G.fo,G.bf+1)::G.dA,vI Y.1:=λY R=>by
 rcases gA.mp R with rfl|R;·show f.P
 ·show f.dA Y R
change qG E I H<|wZ E dB G I H<|fY E H U;rcases T:fY E H U with _|_|Q;·show⟨rfl,w,aH⟩
·show gC ⟨f.u,f.cK,It K.qe K.hV K.fL K.t,p⟩ W bD w aH
·show gC ⟨f.u,f.cK, ?_,p⟩ W bD w aH;obtain h:(j6 Q).length<=100:=by induction vA d w.N T with|gu c=>show show 1<=100 by lia|cW=>show show 1<=100 by lia|fL k i=>show aq k<|show 4<=100 by lia
 show It (g:=.bc<|j6 Q) fx h (show 1<=300 by lia) h|fA=>
show gC (r _) ?_ (by simp) w aH;intro l N;rcases gA.mp N with Y|Y;·contradiction
·show W l Y
def adB(P:fD E)(b:pI E):∀O G I H S Q,jQ E dB O G I H=some (S,Q)->oK E G->qF E I->di H->H.bx.length<=Q.bx.length/\di Q:=by intro O;induction O with|zero=>intro G I H S Q Y;show bQ Y|succ O F=>
intro G I H S Q Y T W w;obtain J:=Pa P b w T W;simp only[B9]at Y;rcases N:iy E dB G I H with⟨c,K,U⟩|⟨K,U⟩|⟨a,U⟩|_;·rw[N]at Y J;show AX J λM V X R Z=> ?_;have:=F c K U S Q Y M V R;show⟨aq Z this.1,this.2⟩
·rw[N]at Y J;obtain⟨rfl,R,Z⟩:=J;rcases K with _|⟨g,L⟩;·obtain⟨rfl,rfl⟩:=dT Y;show⟨Z,R⟩
 ·induction g with|none=>obtain⟨rfl,rfl⟩:=dT Y;show⟨Z,R⟩|some c=>have:=F c L U S Q Y (W c cY) (λd e=>W d<|dI e) R;show⟨aq Z this.1,this.2⟩
·rw[N]at Y J;show eZ (dT Y) ?_;rintro rfl rfl;show⟨J.2,J.1⟩
·show bQ<|N▸Y
end
section
variable{O:cQ}{H:aY}{G:aS}{N:ay}{R Q L K:Nat}{E:bN}{M:List<|Option bN}{I T:ag}{S J:Nat}
theorem adC{c:aU}(l:fD G)(v:pI G)(B:di N)(m:jX O H)(r:gK O H Q)(t:4000<=S)(T:oK G E)(W:M.length+10<=16000000)(A:N.bx.length+1<=16000000)(f:E.fo[E.bf]?=some c)(b:ff O H G N R Q L K E M I) (z:∀a,c=.done->E.dA≠[]\/a)(x:c≠.fH)(D:iy G dB E M N≠.qo):il O H G R Q L K I (iy G dB E M N)<|ee S (J+26) H L K c I:=by have j:E.bY<=4:=aq T.u l.aZ;have q:=T.P.1 c<|jC f;induction c with
|cW F=>rw[fe f];show ado (S:=J+18) l B.N (by lia) q.1 q.2 T.u b|eG=>rw[fe f];show(by intro _ _ _ _ _ _ _ _ _ _ _ _ J l j r W b;show O7 (S:=.eG) r W (by simp[jP];show gU<|cB<|aq l.aZ aR) b rfl rfl trivial (abX (K:=J+1) l.aZ j) (λ_=>fp) aH eL:∀{O:cQ}{H:aY}{G:aS}{N:ay}{R Q L K:Nat}{E:bN}{M:List<|Option bN}{I:ag}{S J:Nat}(l:fD G)(j:E.bY<=G.aJ)(r:gK O H Q)(W:M.length+10<=16000000)(b:ff O H G N R Q L K E M I),il O H G R Q L K I (ve (jP G E.bY) E M N)<|ee S (J+5) H L K .eG I) (J:=J+21) l T.u r W b|fj=>rw[fe f];show(by intro _ _ G _ _ _ _ _ E _ _ _ J l j t r W b;have:=C5 G.f (G.aJ+1-E.bY) E.bY;show O7 (S:=.fj) r W (aq this<|vT<|gU<|cB<|aq l.aZ aR) b rfl rfl trivial (abY (K:=J) l.aZ j t) (λ_=>fp) aH eL:∀{O:cQ}{H:aY}{G:aS}{N:ay}{R Q L K:Nat}{E:bN}{M:List<|Option bN}{I:ag}{S J:Nat}(l:fD G)(j:E.bY<=G.aJ)(t:10<=S)(r:gK O H Q)(W:M.length+10<=16000000)(b:ff O H G N R Q L K E M I),il O H G R Q L K I (ve (ji G.f (G.aJ+1-E.bY) E.bY) E M N)<|ee S (J+5) H L K .fj I) (J:=J+21) l T.u (by lia) r W b
|split i=>rw[fe f];show adq (R:=J+23) i r (by lia) b|dg i=>rw[fe f];show ads (R:=J+25) i b|gI=>rw[fe f];show(by
  intro _ H _ _ _ _ L K E _ I S J b;obtain⟨s,p,T,f,V,u⟩:=b.y;obtain C:=bC T;obtain g:ee S (J+1) H L K .gI I=some (.ai<|.bool true,I.set K<|bB H s {E with cK:=E.bY::E.cK,bf:=E.bf+1} p):=by rw[ee,aO (H:=gD) rfl rfl];unfold bB at*;simp(disch:=first|lia|exact Nat.le_of_ble_eq_true rfl) [-getElem?_pos,gD,aL,b.j.cI,T,jk,dY,O3,Dr]
  simp only[g];show oJ (O:={E with cK:=E.bY::E.cK,bf:=E.bf+1}) b T f V u f V u:∀{O:cQ}{H:aY}{G:aS}{N:ay}{R Q L K:Nat}{E:bN}{M:List<|Option bN}{I:ag}{S J:Nat}(b:ff O H G N R Q L K E M I),il O H G R Q L K I (.dE {E with cK:=E.bY::E.cK,bf:=E.bf+1} M N)<|ee S (J+1) H L K .gI I) (J:=J+25) b|bZ F a=>
rw[fe f]at D⊢;change il O H G R Q L K I (B6 G F a E M N E.cK) _;replace D:B6 G F a E M N E.cK≠.qo:=D;rcases k:E.cK with _|⟨P,Z⟩;· rw[k]at D;show absurd rfl D
· have e:P<=4:=aq (T.cK P<|by show k▸cY) l.aZ;rcases F with _|_;· show adv (R:=J+23) m r A l.aZ j e k b
  · show adu (R:=J+24) l.aZ j e k b|iP=>rw[fe f]at D⊢;change il O H G R Q L K I (B7 E M N E.cK) _;replace D:B7 E M N E.cK≠.qo:=D;induction k:E.cK with|nil=>rw[k]at D;show absurd rfl D|cons P Z=>show adt (R:=J+24) l.aZ j (aq (T.cK P<|by show k▸cY) l.aZ) k b
|rG a=>rw[fe f];show adw (R:=J+24) m r A b|nK U=>rw[fe f];show adA l v B.N t b|fA=>rw[fe f];show adx (L:=J+23) r (by lia) b|fail=>rw[fe f];show(by
  intro _ H _ _ _ _ L K _ _ I S J b;obtain g:av S (J+1) 54 [.ref L,.tup [.str a9],.ref K] I=some (.ai<|.bool false,I):=by rw[aO (H:=o5) rfl rfl];simp[o5]
  obtain h:ee S (J+2) H L K .fail I=some (.ai<|.bool false,I):=by rw[ee,aO (H:=gD) rfl rfl];simp[gD,aL,b.j.cI,g]
  simp only[h];show sE I bj.rfl rfl b.e b.j b.K:∀{O:cQ}{H:aY}{G:aS}{N:ay}{R Q L K:Nat}{E:bN}{M:List<|Option bN}{I:ag}{S J:Nat}(b:ff O H G N R Q L K E M I),il O H G R Q L K I (.w M N)<|ee S (J+2) H L K .fail I) (J:=J+24) b|fH=>show absurd rfl x|done=>rw[fe f];change il O H G R Q L K I (B8 E M N E.dA) _;induction w:E.dA with
| nil => rcases z False rfl with Y|Y;· show absurd w Y
         · show Y.elim| cons Y y => obtain n:=Y.1;obtain X:=Y.2;show ady (L:=J+24) w b
end
end
noncomputable def ic:List bo:=[.expr<|.h (.attr (.ae 0) 12) 15 [],.assign (.ae 4)<|.c (.attr (.ae 3) 0)<|.attr (.ae 3) 6,.b (.and [.d .aA (.c (.ae 4)<|.int 0)<|.bE 14,.r<|.attr (.ae 3) 10]) [.ret<|.tup [.bE 23,.ae 3]] [],.b (.d .aA (.c (.ae 4)<|.int 0)<|.bE 12) [.ret<|.tup [.bE 25,.none]] [],.b (.not<|.h (.ae 0) 7 [.ae 4,.ae 3]) [.assign (.ae 3)<|.h (.ae 0) 6 [],.b (.and [.o<|.ae 3,.r<|.attr (.ae 3) 0]) [.ret<|.tup [.bE 25,.none]] []] []]
theorem adD:EV=⟨3,5,[.assign (.ae 3)<|.mk 6 [.ae 1,.int 0,.ae 2,.none,.none,.none],.z (.o<|.ae 3) ic,.ret<|.tup [.bE 24,.none]]⟩:=rfl
noncomputable def aU.adE:aU->Bool|.done=>true|_=>false
noncomputable def aU.adF:aU->Bool|.fH=>true|_=>false
def Iu(S:aU):(jm S==cw)=S.adE:=by induction S with|bZ F L=>induction F<;>rfl|_=>rfl
def Pb(S:aU):(jm S==a7)=S.adF:=by induction S with|bZ F L=>induction F<;>rfl|_=>rfl
noncomputable def oN:bo:=.b (.not<|.h (.ae 0) 7 [.ae 4,.ae 3]) [.assign (.ae 3)<|.h (.ae 0) 6 [],.b (.and [.o<|.ae 3,.r<|.attr (.ae 3) 0]) [.ret<|.tup [.bE 25,.none]] []] []
abbrev adG(Z:aY)(G:Option<|aI (aV×ak)×ag)(g:ag)(S:lC):Prop:=S.casesOn (λJ Y=>∃F E w R H,G=some (.ai (.ret<|.tup [.int 0,.ref E],F),g)/\g[E]?=some (bB Z w R H)/\R.bY=J/\R.lB=Y) (∃F,G=some (.ai (.aK,F),g)) (∃F,G=some (.ai (.ret<|.tup [.int 2,.none],F),g)) λO=>G=some (.cR O,g)
def pJ(w:cQ)(Z:aY)(E:aS)(V:ay)(K H:Nat)(g:ag)(S:lC)(G:Option<|aI (aV×ak)×ag):Prop:=∃F I,I<=K/\bJ w Z E V I F/\g.length<=F.length/\(∀J,J<g.length->J∉dC w H->(∀Q,g[J]?≠some (.bt 6 Q))->F[J]?=g[J]?)/\adG Z G F S
section
variable{K:cQ}{N:aY}{M:aS}{O:ay}{Q J G H:Nat}{I:bN}{L:List<|Option bN}{E R:ag}{T S:Nat}
def pK(K:cQ)(J:Nat)(E R:ag):Prop:=gV (E.length<=R.length)<|∀g,g<E.length->g∉dC K J->(∀Q,E[g]?≠some (.bt 6 Q))->R[g]?=E[g]?
def Pc{Q:List<|Nat×aa}(T:E[H]?=some (.bt 6 Q))(N:bj (H::dC K J) E R):pK K J E R:=⟨N.aZ,λg S V w=>N.gW g S λY=>by
clear N;rcases gA.mp Y with rfl|Y;·show w Q T
·show V Y⟩
def pK.aC(H:pK K J E R)(I:pK K J R b):pK K J E b:=⟨aq H.1 I.1,λg S V w=>by show(I.2 g (eI S H.1) V λQ Y=>w Q<|H.2 g S V w▸Y).trans<|H.2 g S V w⟩
def pK.rfl:pK K J E E:=⟨aH,λ_ _ _ _=>Eq.refl _⟩
def pJ.vJ{S:lC}{G:Option<|aI (aV×ak)×ag}(L:pJ K N M O a J R S G)(w:pK K J E R):pJ K N M O a J E S G:=by show sF L λU g H W F I T=> ?_;obtain⟨P,Q⟩:=w.aC ⟨F,I⟩;show yo U g H W P Q T
def adH(K:cQ)(N:aY)(M:aS)(O:ay)(Q J G H:Nat)(L:List<|Option bN)(R:ag):Option bN->Prop|none=>R[H]?=some pG|some I=>ff K N M O Q J G H I L R
def adI{w:Option bN}(a:xH K M J G E)(W:bJ K N M O Q E)(F:gK K N J)(Z:Ds N (dC K J) E J H<|w::L)(n:L.length+1<=16000000):qq (λP R=>av T (S+1) 50 [.ref G] E=some (.ai<|.ref P,R)) (λP R=>bj [J] E R) (λP R=>bJ K N M O Q R) λP R=>adH K N M O Q J G P L R w:=by
 obtain⟨b,d,e,h,j,k⟩:=Z.C;clear j;clear Z;rcases b with _|⟨P,b⟩;·simp at k
 ·obtain g:E[J]?=some (.list<|(b.map aa.ref).reverse++[.ref P]):=by rw[d];simp
  obtain l:((b.map aa.ref).reverse++[aa.ref P]).length=b.length+1:=by simp
  have o:∀U∈P::b,U∉[J]:=λU Y=>by obtain⟨c,f⟩:=e.bt U Y;simpa using kh f d<|by simp
  obtain X:=jW ((b.map aa.ref).reverse++[aa.ref P]) (by rw[l];show aq (bP k) n);have V:bj [J] E<|E.set J<|.list (b.map aa.ref).reverse:=eC (by simp);have p:=a.cI;have m:nT (dC K J) [J] E:=λP Y=>.inl (by rw[List.mem_singleton.mp Y];simp[dC]);show⟨P,_, ?_,V,W.gq F _, ?_⟩;·rw[aO (H:=yy) rfl rfl];simp[yy,p,g,X,CS E J (b.map aa.ref).reverse (.ref P)<|by simp;show Nat.le_of_succ_le_succ<|Nat.le_trans (Nat.le_of_eq k) n]
  ·rcases w with _|I;·obtain⟨i,f⟩:=e;show V.at i<|o P cY
   ·show⟨W.gq F _,⟨V.at p<|by simpa using kh p d<|by simp⟩,e.1.aF m V<|o P cY,⟨b,dY<|bC d,e.2.aF m V λU Y=>o U<|dI Y,(I5.mp h).2,(I5.mp h).1,by simpa using k⟩⟩
def adJ(w:xH K M J G E)(g:Ds N (dC K J) E J H []):av T (S+1) 50 [.ref G] E=some (.ai .none,E):=by obtain⟨F,L,O,I,R,P⟩:=g.C;have:F=[]:=List.eq_nil_of_length_eq_zero P;subst this;rw[aO (H:=yy) rfl rfl];simp[yy,w.cI,L,jW]
noncomputable def kE(Q X:Option aa)(G H:Nat)(Z:Option aa):ak:=[some<|.ref G,Q,X,some<|.ref H,Z]
section walk
variable{U:aW}{V WM W3 WW WV:Nat}{WY:Int}{X Y WQ:Option aa}{WZ:aa}{WX:List<|Nat×aa}{WT:List<|Nat×Nat}{Z:Str}{WL:List aa}{W2 WN WU:ag}{WR:aa}{W0 WS:ak}
noncomputable def fP(X Y:Option aa)(G:Nat)(WR:aa)(Z:Str)(WL:List aa):ak:=[some<|.ref G,X,Y,some WR,some<|.tup<|.str Z::WL]
variable{WO:aV×ak->Mine.Internal.af (aV×ak)}
def adK(T:E[H]?=some (bB N WW I WT))(O:(Z==cw)=true->iH (qD WT)=false)(w:(Z==a7)=false):dX aw U V (ic.drop 2) (fP X Y G (.ref H) Z WL) WO E=iR aw U V oN (fP X Y G (.ref H) Z WL) (iF aw U V [] WO) E:=by
 have S:jr aw U V (.b (.and [.d .aA (.c (.ae 4)<|.int 0)<|.bE 14,.r<|.attr (.ae 3) 10]) [.ret<|.tup [.bE 23,.ae 3]] []) (fP X Y G (.ref H) Z WL) E=some (.ai (.aK,fP X Y G (.ref H) Z WL),E):=by
  unfold bB at T;induction g:Z==cw;·simp[fP,g]
  ·simp[fP,g,T,O g]
 have F:jr aw U V (.b (.d .aA (.c (.ae 4)<|.int 0)<|.bE 12) [.ret<|.tup [.bE 25,.none]] []) (fP X Y G (.ref H) Z WL) E=some (.ai (.aK,fP X Y G (.ref H) Z WL),E):=by simp[fP,w]
 change dX aw U V [_,_,oN] _ WO E=_;simp only[k8,kA,S,jS,i4,k8,kA,F,jS,i4,k8]
section
variable(W5:E[G]?=some (.bt 7 WX))
include W5
variable{W8:List<|Nat×aa}(W7:U 51 [.ref G,.tup<|.str Z::WL,.ref H] E=some (.ai<|.bool false,WN))(W6:WN[G]?=some (.bt 7 W8))
include W7 W6
theorem adL(W4:U 50 [.ref G] WN=some (.ai .none,WN)):iR aw U V oN (fP X Y G (.ref H) Z WL) WO E=WO (.aK,fP X Y G .none Z WL) WN:=by simp[oN,fP,W5,W7,W6,W4]
variable(W4:U 50 [.ref G] WN=some (.ai<|.ref WV,WU))
include W4
theorem adM(S:WU[WV]?=some (bB N WW I WT)):iR aw U V oN (fP X Y G (.ref H) Z WL) WO E=WO (.aK,fP X Y G (.ref WV) Z WL) WU:=by unfold bB at S;simp[oN,fP,W5,W7,W6,W4,S]
end
def Iv:gi aw U V (.o<|.ae 3) ic (WM+1) (kE X Y G H WQ) E=dX aw U V ic (kE X Y G H WQ) (kf aw U V (.o<|.ae 3) ic WM) E:=by simp only[jU];simp[kE]
theorem Iw(L:dX aw U V ic (kE X Y G H WQ) (kf aw U V (.o<|.ae 3) ic WM) E=kf aw U V (.o<|.ae 3) ic WM (.aK,WS) WN):gi aw U V (.o<|.ae 3) ic (WM+1) (kE X Y G H WQ) E=gi aw U V (.o<|.ae 3) ic WM WS WN:=Iv.trans L
theorem Iy(L:dX aw U V ic (kE X Y G H WQ) (kf aw U V (.o<|.ae 3) ic WM) E=kf aw U V (.o<|.ae 3) ic WM (.ret WR,WS) WN):gi aw U V (.o<|.ae 3) ic (WM+1) (kE X Y G H WQ) E=some (.ai (.ret WR,WS),WN):=Iv.trans L
theorem adN:gi aw U V (.o<|.ae 3) ic (WM+1) (fP X Y G .none Z WL) E=some (.ai (.aK,fP X Y G .none Z WL),E):=rfl
end walk
def Dz{H I:c}{M S:A}(L:some (H,M)=some (I,S)):H=I/\M=S:=vN<|jZ L
def adO(Y:I.fo[I.bf]?=none):iy M dB I L O=.qo:=by unfold iy;show congrArg _ Y
theorem adP(Y:I.fo[I.bf]?=some .fH):iy M dB I L O=.F .uE O:=fe Y
theorem adQ(X3:fD M)(X4:pI M)(Yj:jX K N)(X5:gK K N J)(Yx:4000<=T):∀(b:Nat)(I:bN)(L:List<|Option bN)(O:ay)(c:lC)(m:ay)(Q H:Nat)(E:ag)(f:Nat)(Z:Option aa),jQ M dB b I L O=some (c,m)->oK M I->qF M L->di O->m.bx.length<=1000000->L.length+4*b<=15000000->Q+b<=1000000000->b+1<=f->ff K N M O Q J G H I L E->pJ K N M m (Q+b) J E c (gi aw (av T<|S+27) T (.o<|.ae 3) ic f (kE y D G H Z) E):=by intro b;induction b with|zero=>intro I L O c m Q H E f Z Y;show bQ Y|succ b Yk=>
intro I L O c m Q H E f Z Y o W X6 X7 X X8 k U;obtain⟨f,rfl⟩:∃a,f=a+1:=⟨f-1,Eq.symm<|iT<|aq aR k⟩;have Yy:=(adB X3 X4 _ _ _ _ _ _ Y o W X6).1;replace Y:vg (jQ M dB b) (iy M dB I L O)=some (c,m):=Y;obtain⟨r,XT,X9,Yl⟩:=N1 (M:=T) (N:=S+26) Yj U.e<|aq (cB bD) X8;have Yb:=U.Ir X5 (by simp) Yl X9;obtain⟨q,p,C,YS,Yz,XU⟩:=Yb.y;obtain⟨YT,YU,YA,_,_,_⟩:=U.y;have z:=Yb.j.cI;have Yc:pK K J E r:=Pc YA<|kg Yl (by simp[dC]);obtain i:=Pa X3 X4 X6 o W;rcases B:I.fo[I.bf]?with-|t;·replace Y:=adO B▸Y;show bQ Y
show lM (Dn N<|o.P.1 t<|jC B) λV Ym=> ?_;have XW:jE (.ref q) (ao I.bf) r=some (.ai<|.tup<|.str (jm t)::V,r):=by simp only[vy,show r[q]?=some (.list<|I.fo.map<|aL N)from Yz,mT _ _<|Nat.le_trans (Nat.le_of_lt<|(List.getElem?_eq_some_iff.mp B).1) o.P.2,List.getElem?_map,B];show congrArg (λYB=>some (aI.ai YB,r)) Ym
have XX:=(by
 intro _ _ G H _ E e j _ _ y D Z _ _ _ a V r _ k W XT o XW;obtain g:jr aw e j (.expr<|.h (.attr (.ae 0) 12) 15 []) (kE y D G H Z) E=some (.ai (.aK,kE y D G H Z),r):=by simp[kE,k,W,XT]
 obtain R:jr aw e j (.assign (.ae 4)<|.c (.attr (.ae 3) 0)<|.attr (.ae 3) 6) (kE y D G H Z) r=some (.ai (.aK,fP y D G (.ref H) a V),r):=by unfold bB at o;simp[kE,fP,o,XW]
 unfold ic;rw[k8,kA,g,jS,i4,k8,kA,R,jS,i4];rfl:∀{N:aY}{J G H:Nat}{I:bN}{E:ag}{e:aW}{j Yd q:Nat}{y D Z:Option aa}{YC:aa}{n:List<|Nat×aa}{p:List<|Nat×Nat}{a:Str}{V:List aa}{r:ag}{h:aV×ak->Mine.Internal.af (aV×ak)}(k:E[G]?=some (.bt 7 [(11,YC),(12,.ref Yd),(13,.ref J)]))(W:E[Yd]?=some (.bt 8 n))(XT:e 63 [.ref Yd] E=some (.ai .none,r))(o:r[H]?=some (bB N q I p))(XW:jE (.ref q) (ao I.bf) r=some (.ai<|.tup<|.str a::V,r)),dX aw e j ic (kE y D G H Z) h E=dX aw e j (ic.drop 2) (fP y D G (.ref H) a V) h r) (j:=T) (h:=kf aw (av T<|S+27) T (.o<|.ae 3) ic f) (y:=y) (D:=D) (Z:=Z) U.j.cI U.e.e XT C XW;by_cases A:t=.done/\I.dA=[]
·have w:qD p=.none:=by
  rw[A.2]at XU;rcases p with-|_;·rfl
  ·show XU.elim
 rw[(by intro Y w;rw[fe Y];change B8 I L O I.dA=_;rw[w];rfl:∀(Y:I.fo[I.bf]?=some .done)(w:I.dA=[]),iy M dB I L O=.F (.vd I.bY I.lB) O) (A.1▸B) A.2]at Y;obtain⟨g,R⟩:=Dz Y;show g.symm▸R.symm▸pJ.vJ ⟨r,Q+1,cB bD,X9,aH,λ_ _ _ _=>rfl,_,H,q,I,p,Iy<|XX.trans<|(by intro _ _ _ _ _ _ _ _ _ _ _ _ _ _ o l w;unfold bB at o;rw[w]at o;simp[ic,fP,o,l]:∀{N:aY}{G H:Nat}{I:bN}{E:ag}{e:aW}{j q:Nat}{y D:Option aa}{p:List<|Nat×Nat}{a:Str}{V:List aa}{h:aV×ak->Mine.Internal.af (aV×ak)}(o:E[H]?=some (bB N q I p))(l:(a==cw)=true)(w:qD p=.none),dX aw e j (ic.drop 2) (fP y D G (.ref H) a V) h E=h (.ret<|.tup [.int 0,.ref H],fP y D G (.ref H) a V) E) C ((Iu t).trans<|by rw[A.1];rfl) w,C,rfl,rfl⟩ Yc
by_cases XN:t=.fH;·rw[adP<|XN▸B]at Y;obtain⟨rfl,rfl⟩:=dT Y;show pJ.vJ ⟨r,Q+1,cB bD,X9,aH,λ_ _ _ _=>rfl,_,Iy<|XX.trans<|(by intro _ _ _ _ _ _ _ _ _ _ l Yn;simp[ic,fP,l,Yn]:∀{G H:Nat}{E:ag}{e:aW}{j:Nat}{y D:Option aa}{a:Str}{V:List aa}{h:aV×ak->Mine.Internal.af (aV×ak)}(l:(a==cw)=false)(Yn:(a==a7)=true),dX aw e j (ic.drop 2) (fP y D G (.ref H) a V) h E=h (.ret<|.tup [.int 2,.none],fP y D G (.ref H) a V) E) ((Iu t).trans<|by rw[XN];rfl)<|(Pb t).trans<|by rw[XN];rfl⟩ Yc
have Yo:iy M dB I L O≠.qo:=by intro YD;rw[YD]at Y;show bQ Y
show aB (show il K N M (Q+1) J G H r (iy M dB I L O)<|av T (S+27) 51 [.ref G,aL N t,.ref H] r from adC (S:=T) (J:=S+1) X3 X4 X6 Yj X5 Yx o (fI (d8 X<|by simp+arith) _) (cB<|aq Yy<|aq X7 aR) B Yb (λYp YE=>.inl λw=>A ⟨YE,w⟩) XN Yo) λs YF u=> ?_;have XO:pK K J E s:=Yc.aC<|Pc C YF;replace u:=Ym▸u;have XQ:(jm t==cw)=true->iH (qD p)=false:=by
 intro XQ;rw[Iu]at XQ;have YG:t=.done:=by induction t<;>first|rfl|show Bool.noConfusion XQ
 rcases Yq:I.dA with-|_;·show absurd ⟨YG,Yq⟩ A
 ·rw[Yq]at XU;rcases p with-|_;·show XU.elim
  ·rfl
have x:=XX.trans<|adK (U:=av T<|S+27) (V:=T) (X:=y) (Y:=D) (G:=G) (WL:=V) C XQ<|(Pb t).trans (by clear XQ;induction t<;>first|rfl|show absurd rfl XN);have XY:Q+1+b=Q+(b+1):=gM;clear XX;rcases XZ:iy M dB I L O with⟨YH,Ye,X0⟩|⟨Ye,X0⟩|⟨YI,X0⟩|-;·rw[XZ]at Y i u;rw[(by intro _ _ _ _ _ _ _ _ _ _ _ _ k P;simp[oN,fP,k,P]:∀{G H:Nat}{E:ag}{e:aW}{j:Nat}{y D:Option aa}{n:List<|Nat×aa}{a:Str}{V:List aa}{s:ag}{h:aV×ak->Mine.Internal.af (aV×ak)}(k:E[G]?=some (.bt 7 n))(P:e 51 [.ref G,.tup<|.str a::V,.ref H] E=some (.ai<|.bool true,s)),iR aw e j oN (fP y D G (.ref H) a V) h E=h (.aK,fP y D G (.ref H) a V) s) z u.1,i4,Nz]at x;rw[Iw x,<-XY];show pJ.vJ (Yk YH Ye X0 c m (Q+1) H s f _ Y i.1 i.2.1 i.2.2.2.1 X7 (by have:=i.2.2.1;show aq (d8 this<|by simp+arith) X) (XY▸X8) (fJ k) u.2) XO
·rw[XZ]at Y i u;obtain⟨Yg,Yr,XR,Yh⟩:=u;obtain X2:=i.1;rcases Ye with-|⟨YJ,Yp⟩;·obtain⟨g,R⟩:=Dz Y;obtain⟨f,rfl⟩:∃a,f=a+1:=⟨f-1,Eq.symm<|iT<|fJ<|aq aR k⟩;show g.symm▸R.symm▸ ?_;simp only[adL z Yg XR.cI<|adJ (T:=T) (S:=S+26) XR Yh,i4,Nz]at x;show pJ.vJ ⟨s,Q+1,cB bD,Yr,aH,λ_ _ _ _=>rfl,_,(Iw x).trans adN⟩ XO
 obtain⟨XS,v,Ys,Yt,YK,Yi⟩:=adI (T:=T) (S:=S+26) XR Yr X5 Yh (by rw[<-X2]at X;simp at X;show cB<|d8 X<|by simp+arith);have Yu:pK K J s v:=⟨Yt.aZ,λYL i YM _=>Yt.gW YL i λY=>YM<|by rw[List.mem_singleton.mp Y];simp[dC]⟩;clear Yh;rcases YJ with-|Yv;·obtain⟨g,R⟩:=Dz Y;rw[<-g,<-R];simp only[(by intro _ _ _ _ _ _ _ _ _ _ _ _ _ _ k _ P Yw U S;unfold pG at S;simp[oN,fP,k,P,Yw,U,S]:∀{G H:Nat}{E:ag}{e:aW}{j XS:Nat}{y D:Option aa}{n:List<|Nat×aa}{a:Str}{V:List aa}{s v:ag}{h:aV×ak->Mine.Internal.af (aV×ak)}(k:E[G]?=some (.bt 7 n)){YN:List<|Nat×aa}(P:e 51 [.ref G,.tup<|.str a::V,.ref H] E=some (.ai<|.bool false,s))(Yw:s[G]?=some (.bt 7 YN))(U:e 50 [.ref G] s=some (.ai<|.ref XS,v))(S:v[XS]?=some pG),iR aw e j oN (fP y D G (.ref H) a V) h E=h (.ret<|.tup [.int 2,.none],fP y D G (.ref XS) a V) v) z Yg XR.cI Ys Yi]at x;show pJ.vJ ⟨v,Q+1,by lia,YK,aH,λ_ _ _ _=>rfl,_,Iy x⟩<|XO.aC Yu
 ·obtain⟨YV,YW,YO,_⟩:=ff.y Yi;simp only[adM z Yg XR.cI Ys YO]at x;simp only[Iw x,<-XY];show pJ.vJ (Yk Yv Yp X0 c m (Q+1) XS v f _ Y (W Yv<|X2▸cY) (λYQ YR=>W YQ<|X2▸dI YR) i.2.1 X7 (by rw[<-X2]at X;show aq (ip bD bD) X) (XY▸X8) (fJ k) Yi)<|XO.aC Yu
·rw[XZ]at Y u;obtain⟨g,R⟩:=Dz Y;show g.symm▸R.symm▸ ?_;clear g;clear Y;rcases YI with⟨_,_⟩|_|_|YX;·show u.elim
 ·show u.elim
 ·show u.elim
 ·show pJ.vJ (yo s (Q+1) (by lia) u.2 aH (λ_ _ _ _=>rfl)<|(by intro _ _ _ _ _ _ _ _ _ _ _ L;show Iv.trans L:∀{G H:Nat}{E:ag}{e:aW}{j f:Nat}{b:Int}{y D Z:Option aa}{s:ag}(L:dX aw e j ic (kE y D G H Z) (kf aw e j (.o<|.ae 3) ic f) E=some (.cR b,s)),gi aw e j (.o<|.ae 3) ic (f+1) (kE y D G H Z) E=some (.cR b,s))<|x.trans<|(by intro _ _ _ _ _ _ _ _ _ _ _ _ _ k P;simp[oN,fP,k,P]:∀{G H:Nat}{E:ag}{e:aW}{j:Nat}{b:Int}{y D:Option aa}{n:List<|Nat×aa}{a:Str}{V:List aa}{s:ag}{h:aV×ak->Mine.Internal.af (aV×ak)}(k:E[G]?=some (.bt 7 n))(P:e 51 [.ref G,.tup<|.str a::V,.ref H] E=some (.cR b,s)),iR aw e j oN (fP y D G (.ref H) a V) h E=some (.cR b,s)) z u.1) XO
·show absurd XZ Yo
end
@[simp]theorem al6:dO .nf [.ref a] b=Eb b[a]? a b:=rfl
theorem adR(F:List aa)(J:Nat)(g:ag)(w:F.length<=16000000):Eb (some<|.list F) J g=some (.ai .none,g.set J<|.list F.reverse):=congrFun (tL<|kB w) g
section
variable{H:cQ}{G:aY}{K:aS}{I J:Nat}{E:ag}
def lg(G:aY)(X:bT×Str):aa:=.tup [.ref<|G.cA X.1,.str X.2]
noncomputable def Iz:List bo:=[.assign (.tup [.ae 0,.ae 2])<|.ae 0,.expr<|.i .dj (.ae 1) [.ae 2]]
theorem adS:EW=⟨1,3,[.assign (.ae 1)<|.list [],.z (.o<|.ae 0) Iz,.expr<|.i .nf (.ae 1) [],.ret<|.ae 1]⟩:=rfl
theorem adT{K:dF}(P:K.length+1<=I)(w:K.length<=15000000):av I (J+1) 57 [tT G K] E=some (.ai<|.ref E.length,E++[.list<|K.reverse.map<|lg G]):=by
 show lM ((by intro G E _ _;intro K;induction K with|nil=>intro T g W M _;obtain⟨g,rfl⟩:∃N,g=N+1:=⟨g-1,Eq.symm<|iT M⟩;show⟨W, ?_⟩;rw[jU];simp[Io]|cons X L S=>
 intro T g W M w;obtain⟨g,rfl⟩:∃N,g=N+1:=⟨g-1,Eq.symm<|iT<|aq aR M⟩;obtain⟨Z,O⟩:=S (T++[lg G X]) g (some<|lg G X) (fJ M) (by simp;show aq (bP gM) w);show⟨Z, ?_⟩;rw[jU];rw[show tT G (X::L)=.tup [tT G L,lg G X]from rfl];simp only[(by simp:T++(X::L).map (lg G)=T++[lg G X]++L.map (lg G)),<-O];conv=>lhs;unfold Iz
 simp[jl (E++[.list T]) E.length T (lg G X)<|Nat.le_trans (Nat.succ_le_succ bD) w];rfl:∀{G:aY}{E:ag}(F:aW)(Q:Nat),∀(K:dF)(T:List aa)(g:Nat)(W:Option aa),K.length+1<=g->T.length+K.length<=16000000->∃Z,gi aw F Q (.o<|.ae 0) Iz g [some<|tT G K,some<|.ref E.length,W] (E++[.list T])=some (.ai (.aK,[some .none,some<|.ref E.length,Z]),E++[.list<|T++K.map (lg G)])) (G:=G) (E:=E) (av I J) I K [] I none P<|by simp;lia) λZ O=> ?_;obtain U:(K.map<|lg G).length<=16000000:=by simp;lia
 rw[aO (H:=EW) rfl rfl,adS];simp[O,adR (K.map<|lg G) E.length (E++[.list<|K.map<|lg G]) U]
def adU:lu aw (av I<|J+1) 7 [d,v] E=some (.ai<|.ref E.length,E++[.bt 7 [(11,d),(12,v),(13,.ref<|E.length+1)]]++[.list []]):=by rw[xG (e:=48) rfl,aO (H:=EU) rfl rfl];simp(disch:=exact Nat.le_of_ble_eq_true rfl) [-List.append_assoc,-zU,EU,OX,Im]
def jn(H:cQ)(E g:ag):Prop:=gV (E.length<=g.length)<|∀J,J<E.length->J∉[H.e,H.m,H.k]->(∀Q,E[J]?≠some (.bt 6 Q))->g[J]?=E[J]?
def jn.aC(g:jn H E b)(I:jn H b u):jn H E u:=⟨aq g.1 I.1,λJ S V w=>by show(I.2 J (eI S g.1) V λQ Y=>w Q<|g.2 J S V w▸Y).trans<|g.2 J S V w⟩
def jn.rfl:jn H E E:=⟨aH,λ_ _ _ _=>Eq.refl _⟩
def jn.cA(N:bj h E b)(X:∀g∈h,g∈[H.e,H.m,H.k]):jn H E b:=⟨N.aZ,λJ S V _=>N.gW J S λY=>V<|X J Y⟩
def jn.at(N:jn H E b)(w:E[a]?=some s)(V:a∉[H.e,H.m,H.k])(g:∀Q,s≠.bt 6 Q):b[a]?=some s:=(N.2 a (bC w) V λQ Y=>by rw[w]at Y;obtain rfl:=bO Y;show g Q<|Eq.refl _).trans w
def xK(G:aY)(E:ag)(g:Option<|aI aa×ag):lC->Prop|.Gp=>g=some (.ai<|.tup [.int 1,.none],E)|.uE=>g=some (.ai<|.tup [.int 2,.none],E)|.dG O=>g=some (.cR O,E)|.vd J Y=>∃F w R H,g=some (.ai<|.tup [.int 0,.ref F],E)/\E[F]?=some (bB G w R H)/\R.bY=J/\R.lB=Y
end
section
variable{H:cQ}{K:aY}{I:aS}{G J:Nat}{E:ag}
abbrev IA(H:cQ)(K:aY)(I:aS):=HW H K I<|jn H
noncomputable def Af:List bo:=[.b (.d .aA (.ae 5)<|.bE 23) [.ret<|.tup [.ae 4,.attr (.ae 6) 7,.call 57 [.attr (.ae 6) 8]]] [],.b (.d .aA (.ae 5)<|.bE 25) [.ret<|.none] []]
def pL:List bo:=.assign (.tup [.ae 5,.ae 6]) (.h (.mk 7 [.ae 1,.ae 3]) 5 [.ae 0,.ae 4])::Af
theorem adV:EX=⟨4,7,[.uf 4 (.b (.ae 2) (.int 1)<|.bin .cV (.g .aZ [.ae 1])<|.int 1) pL,.ret<|.none]⟩:=rfl
noncomputable def sg(E:ag)(W:Str)(L:Nat):ag:=E++[.bt 7 [(11,.str W),(12,.ref L),(13,.ref<|E.length+1)]]++[.list []]
def mZ(w:Nat)(W:Str)(I:Bool)(L J:Nat)(K O:Option aa):ak:=[some<|.ref w,some<|.str W,some<|.bool I,some<|.ref L,some<|ao J,K,O]
section
variable{L:Str}{M N O X:Nat}{Q:Bool}{U T:Option aa}{S:ag}{V:Type}(R:aV×ak->af V)
def DA:dX aw (av G<|J+29) G pL (mZ N L Q M O U T) R E=l9 (zM aw (av G<|J+29) (.tup [.ae 5,.ae 6]) (mZ N L Q M O U T)<|iF aw (av G<|J+29) G Af R) (av G (J+29) 49 [.ref E.length,.ref N,ao O]<|sg E L M):=by simp[pL,mZ,show _=some (_,sg E L M)from adU (I:=G) (J:=J+28) (E:=E) (d:=.str L) (v:=.ref M),show(sg E L M)[E.length]?=some (.bt 7 [(11,.str L),(12,.ref M),(13,.ref<|E.length+1)])from(gj<|by simp).trans eL]
def adW(g:av G (J+29) 49 [.ref E.length,.ref N,ao O] (sg E L M)=some (.ai<|.tup [.int 1,.none],S)):dX aw (av G<|J+29) G pL (mZ N L Q M O U T) R E=R (.aK,mZ N L Q M O (some<|.int 1)<|some .none) S:=by simp only[DA,g];simp[mZ,Af]
def adX(g:av G (J+29) 49 [.ref E.length,.ref N,ao O] (sg E L M)=some (.ai<|.tup [.int 2,.none],S)):dX aw (av G<|J+29) G pL (mZ N L Q M O U T) R E=R (.ret .none,mZ N L Q M O (some<|.int 2)<|some .none) S:=by simp only[DA,g];simp[mZ,Af]
end
theorem adY{w:aj}(L:fD I)(q:pI I)(u:vI<|dB w)(i:jX H K)(n:4000000<=G){S:d6}{V U:ay}(C:a∉[H.e,H.m,H.k])(b:e<=I.aJ)(t:di V)(v:U.bx.length<=1000000)(p:r+3106995<=1000000000)(W:bJ H K I V r E)(A:mw K E a<|dB w)(y:qA I w e V S U):qq (λg c=>c<=r+3106995) (λg c=>bJ H K I U c g) (λg _=>jn H E g) λg _=>xK K g (av G (J+29) 49 [.ref E.length,.ref a,ao e]<|sg E I.f H.e)<|rK S:=by show lO y λYi Yj j l Yk x=> ?_;obtain x:=x 0;rw[Nat.zero_add]at x;obtain⟨g,c,M,XN,XO,XQ⟩:=(by
intro H K I G J E V h S w e O r a L q u i n b f Y B v p W A C;have j:∀X,bj X E<|E++[aM.bt 7 [(11,.str I.f),(12,.ref H.e),(13,.ref<|E.length+1)]]++[aM.list []]:=λX=>fp.aC fp;obtain XR:=(W.lb<|.bt 7 [(11,.str I.f),(12,.ref H.e),(13,.ref<|E.length+1)]).lb<|.list [];obtain XS:(E++[aM.bt 7 [(11,.str I.f),(12,.ref H.e),(13,.ref<|E.length+1)]]++[aM.list []])[E.length]?=some (.bt 7 [(11,.str I.f),(12,.ref H.e),(13,.ref<|E.length+1)]):=(gj<|by simp).trans eL;obtain XT:(E++[aM.bt 7 [(11,.str I.f),(12,.ref H.e),(13,.ref<|E.length+1)]]++[aM.list []])[E.length+1]?=some (.list []):=by
 obtain XU:=eL (b:=E++[aM.bt 7 [(11,.str I.f),(12,.ref H.e),(13,.ref<|E.length+1)]]) (s:=.list []);have:(E++[aM.bt 7 [(11,aa.str I.f),(12,aa.ref H.e),(13,aa.ref<|E.length+1)]]).length=E.length+1:=by simp
 rwa[this]at XU
obtain XW:gK H K<|E.length+1:=by simpa using(W.lb<|.list []).dS
have s:(E++[aM.bt 7 [(11,.str I.f),(12,.ref H.e),(13,.ref<|E.length+1)]]++[aM.list []]).length=E.length+2:=by simp
generalize Yl:E++[aM.bt 7 [(11,.str I.f),(12,.ref H.e),(13,.ref<|E.length+1)]]++[aM.list []]=T at*;obtain XX:a∉dC H (E.length+1):=by simp only[dC,List.mem_cons,not_or]at C⊢;show kO (gL<|pO _<|bC A) C.1 C.2.1 C.2.2
obtain XY:mw K T a<|dB w:=(j []).at A (by simp);obtain l:bj [] T<|T++[bB K a ⟨dB w,0,e,[],[],[]⟩ []]:=fp;obtain XZ:ff H K I V r (E.length+1) E.length T.length ⟨dB w,0,e,[],[],[]⟩ []<|T++[bB K a ⟨dB w,0,e,[],[],[]⟩ []]:=by show⟨XR.lb _,⟨l.at XS<|by simp⟩,⟨a,[],eL,XX,l.at XY<|by simp,trivial⟩,⟨[], ?_,trivial,List.nodup_nil,by simp,rfl⟩⟩;show l.at XT<|by simp
obtain k:oK I ⟨dB w,0,e,[],[],[]⟩:=⟨b,λYm X0=>by simp at X0,u,λY X2=>by simp at X2⟩;show sF (adQ (T:=G) (S:=J) (y:=some<|.ref a) (D:=some<|ao e) L q i XW (aq aR n) O _ [] V S h r T.length _ G none Y k (λR k=>by simp at k) B v (by simp;lia) p (aq (cB<|aq f aR) n) XZ) λg c X3 X4 X5 X6 D=> ?_;have X7:jn H E g:=by
 have z:(T++[bB K a ⟨dB w,0,e,[],[],[]⟩ []]).length=E.length+3:=by simp;show s
 show⟨aq (aq bD<|bP z.symm) X5,λZ m Q f=> ?_⟩;have P:(T++[bB K a ⟨dB w,0,e,[],[],[]⟩ []])[Z]?=E[Z]?:=(l.gW Z (eI (pO _ m)<|bP s.symm)<|by simp).trans<|(j []).gW Z m (by simp);show(X6 Z (eI (pO _ m)<|bP z.symm) ?_ λX8 Y=>f X8<|P▸Y).trans P;simp only[dC,List.mem_cons,not_or]at Q⊢;show kO (gL<|pO _ m) Q.1 Q.2.1 Q.2.2
show⟨g,c,X3,X4,X7, ?_⟩;have X9:av G (J+28) 49 [.ref E.length,.ref a,ao e] T=bM (iF aw (av G<|J+27) G [.ret<|.tup [.bE 24,.none]] fR) (gi aw (av G<|J+27) G (.o<|.ae 3) ic G (kE (some<|.ref a) (some<|ao e) E.length T.length none)<|T++[bB K a ⟨dB w,0,e,[],[],[]⟩ []]):=by rw[aO (H:=EV) rfl rfl,adD];simp[Iq (G:=G) (H:=J+26) (E:=T) (.ref a) (.int 0) (ao e) .none .none .none,kE,bB,Io,O3,O4,show ao 0=aa.int 0from rfl]
rw[X9];clear Y;rcases S with⟨e,Yn⟩|_|_|O;·obtain⟨F,Yb,Yc,R,Yd,D,Ye,Yg,Yh⟩:=D;show JU Yb Yc R Yd ?_ Ye Yg Yh;simp only[D];simp
·obtain⟨F,D⟩:=D;rw[D];simp[xK]
·obtain⟨F,D⟩:=D;rw[D];simp[xK]
·rw[D];simp[xK]:∀{H:cQ}{K:aY}{I:aS}{G J:Nat}{E:ag}{V h:ay}{S:lC}{w:aj}{e O r a:Nat}(L:fD I)(q:pI I)(u:vI<|dB w)(i:jX H K)(n:4000000<=G)(b:e<=I.aJ)(f:O<=3106995)(Y:jQ I dB O ⟨dB w,0,e,[],[],[]⟩ [] V=some (S,h))(B:di V)(v:h.bx.length<=1000000)(p:r+O<=1000000000)(W:bJ H K I V r E)(A:mw K E a<|dB w)(C:a∉[H.e,H.m,H.k]),qq (λg c=>c<=r+O) (λg c=>bJ H K I h c g) (λg c=>jn H E g) λg c=>xK K g (av G (J+28) 49 [.ref E.length,.ref a,ao e]<|E++[.bt 7 [(11,.str I.f),(12,.ref H.e),(13,.ref<|E.length+1)]]++[.list []]) S) (G:=G) (J:=J+1) L q u i n b l x t v (aq (i8 l _) p) W A C;show⟨g,c,aq M<|i8 l _,XN,XO,XQ⟩
def DB(G J w:Nat)(W:Str)(I:Bool)(L:Nat)(F:List Nat)(X:Option aa×Option aa×Option aa)(E:ag):Option<|aI aa×ag:=bM (iF aw (av G<|J+29) G [.ret .none] fR)<|jT aw (av G<|J+29) G 4 pL (F.map ao) [some<|.ref w,some<|.str W,some<|.bool I,some<|.ref L,X.1,X.2.1,X.2.2] E
def DC{X:Option aa×Option aa×Option aa}{E:ag}:DB G J a m n e (r::h) X E=bM (iF aw (av G<|J+29) G [.ret .none] fR) (dX aw (av G<|J+29) G pL (mZ a m n e r X.2.1 X.2.2) (xq aw (av G<|J+29) G 4 pL<|h.map ao) E):=congrArg (bM _)<|rX _ _ _ _ _ _ _ _ _
def adZ{k:Nat}{j:Option aa×Option aa×Option aa}{E:ag}{S:d6}{P:ag->Prop}{U:ay}(p:4000000<=G)(V:∀c f,S=.lV c f->2*f.length<=1035665)(M:r<=k)(m:bJ H K I U r b)(o:jn H E b)(Q:P b)(i:xK K b (av G (J+29) 49 [.ref E.length,.ref e,ao a]<|sg E I.f H.e)<|rK S):Oq H K I (jn H) P (DB G J e I.f n H.e) a h j U k E S:=by
 rcases S with _|⟨c,f⟩|_|O;·show⟨b,r,M,m,o,λ_=>⟨Q,(some<|ao a,some<|.int 1,some .none),by rw[DC,adW _ i,zQ];rfl⟩,λw=>absurd rfl w⟩
 ·show A4 i ?_;clear i;rintro F y g l q t rfl x;obtain V:=V _ f rfl;show⟨b++[.list<|f.map<|lg K],r,M,m.lb _,o.aC<|jn.cA (h:=[]) fp nofun,λw=>d6.noConfusion w,λ_=>cO b.length (by rw[DC,(by intro K G J E _ _ _ _ _ _ _ _ b _ _ _ _ _ f i t V Y W;unfold bB at t;rw[V]at t;simp only[DA,i];simp[mZ,Af,t,adT (G:=K) (I:=G) (J:=J+28) (E:=b) (K:=f.reverse) (by simp;show Y)<|by simp;show W]:∀{K:aY}{G J:Nat}{E:ag}{v:Str}{L e a F:Nat}{n:Bool}{s u:Option aa}{b:ag}{Z:Type}(T:aV×ak->af Z){y:Nat}{g:bN}{l:List<|Nat×Nat}{f:dF}(i:av G (J+29) 49 [.ref E.length,.ref e,ao a] (sg E v L)=some (.ai<|.tup [.int 0,.ref F],b))(t:b[F]?=some (bB K y g l))(V:g.lB=f.reverse)(Y:f.length+1<=G)(W:f.length<=15000000),dX aw (av G<|J+29) G pL (mZ e v n L a s u) T E=T (.ret<|.tup [ao a,ao g.bY,.ref b.length],mZ e v n L a (some<|.int 0)<|some<|.ref F) (b++[.list<|f.map<|lg K])) _ q t x (iq p V<|by simp+arith)<|d8 V<|by simp+arith];rfl) o.1 eL⟩
 ·show⟨b,r,M,m,o,λw=>d6.noConfusion w,λ_=>by rw[DC,adX _ i];rfl⟩
 ·show⟨b,r,M,m,o,λw=>d6.noConfusion w,λ_=>by rw[DC,(by intro _ _ _ _ _ _ _ _ _ _ _ _ T _ i;show(DA T).trans<|by show i▸NA:∀{G J:Nat}{E:ag}{v:Str}{L e a:Nat}{n:Bool}{s u:Option aa}{b:ag}{Z:Type}(T:aV×ak->af Z){O}(i:av G (J+29) 49 [.ref E.length,.ref e,ao a] (sg E v L)=some (.cR O,b)),dX aw (av G<|J+29) G pL (mZ e v n L a s u) T E=some (.cR O,b)) _ i];rfl⟩
def ad0{P:aj}(k:Bool)(Z:fD I)(l:pI I)(n:vI<|dB P)(r:dh P)(N:jX H K)(j:4000000<=G)(q:a∉[H.e,H.m,H.k]){W:i6}{e:ay}(Y:e.bx.length<=1000000):∀(V:ay)(E:ag)(b:Nat)(X:Option aa×Option aa×Option aa),mm I P h V W e->(∀g∈h,g<=I.aJ)->di V->b+h.length*3106995<=1000000000->bJ H K I V b E->mw K E a (dB P)->IA H K I e (b+h.length*3106995) E W (DB G J a I.f k H.e h X E):=Ot Z l.hV r (λ_=>jn.rfl) jn.aC (λw=>w.1) (λ_ _=>rfl) (λg L V S U E b X Q m Y F c p o=>by obtain⟨O,T,M,f,i,R⟩:=adY (J:=J) Z l n N j q Q m Y F c p o;show adZ j (Dg Z l.hV r Q m o).2.2 M f i (i.at p q nofun) R) Y
theorem ad1{i:aj}{V m:ay}{W:i6}{E:ag}(L:fD I)(t:pI I)(X:dh i)(O:i.c8<=9)(v:i.cE<=300)(p:i.cp<=100)(o:jX H K)(r:4000000<=G)(w:mm I i (mq n I) V W m)(U:di V)(x:m.bx.length<=1000000)(F:a+16000000<=1000000000)(l:bJ H K I V a E):IA H K I m (a+16000000) E W<|av G (J+31) 59 [aD K i,.str I.f,.bool n,.ref H.e] E:=by
 have u:=Ov (n:=n) L.aZ;obtain⟨s,Q,M,S,A,C⟩:=OZ (G:=K) (H:=G) (I:=J+8) (E:=E) (aq aR r) O X v p;obtain⟨b,j,c,e,h,k⟩:=ad0 (G:=G) (J:=J) n L t (It O X v p) X o r (a:=Q) (by simp;show And.intro (d7<|eI (bC l.e) A)<|And.intro (d7<|iq A (bC l.m)<|by simp+arith)<|d7<|iq A (bC l.k)<|by simp+arith) x V s a (none,none,none) w xy U (aq (by lia) F) (l.aF C (by simp) (by simp) (by simp) (by simp) (by simp)<|by simp) S;obtain g:av G (J+30) 58 [.ref Q,.str I.f,.bool n,.ref H.e] s=bM (iF aw (av G<|J+29) G [.ret .none] fR) (jT aw (av G<|J+29) G 4 pL ((mq n I).map ao) [some<|.ref Q,some<|.str I.f,some<|.bool n,some<|.ref H.e,none,none,none] s):=by
  rw[aO (H:=EX) rfl rfl,adV];have f:I.f.length<=4:=L.aZ;clear w;clear c;clear u;induction n;·simp(disch:=lia) [HZ,mq];rfl
  ·simp[Ow,mq]
 replace k:=(show DB G J Q I.f n H.e (mq n I) (none,none,none) s=_ from g.symm)▸k;have B:∀Y T,av G (J+30) 58 [.ref Q,.str I.f,.bool n,.ref H.e] s=some (Y,T)->av G (J+31) 59 [aD K i,.str I.f,.bool n,.ref H.e] E=some (Y,T):=by intro Y T q;rw[aO (H:=EY) rfl rfl];induction Y<;>simp[EY,M,q]
 show⟨b,j,aq c<|by lia,e,(jn.cA C<|by simp).aC h, ?_⟩;clear w;rcases W with _|⟨Z,XN,XO⟩|XQ;·show B _ _ k
 ·show cC k λP z y D=> ?_;show cO P (B _ _ z) (aq C.aZ y) D
 ·show B _ _ k
end
section
variable(E:ag)(J N:Nat)(L:List aa)(G H I K M O:aa)
@[simp]theorem al7{E:ag}:la 1 E (some<|.list<|G::H::L)=some (.ai H,E):=rfl
@[simp]theorem al8{E:ag}:la 2 E (some<|.list<|G::H::I::L)=some (.ai I,E):=rfl
@[simp]theorem al9{E:ag}:la 3 E (some<|.list<|G::H::I::K::L)=some (.ai K,E):=rfl
theorem Pd:CU N 1 M E (some<|.list [G,H,I,K])=some (.ai (),E.set N<|.list [G,M,I,K]):=rfl
theorem DD:CU N 2 M E (some<|.list [G,H,I,K])=some (.ai (),E.set N<|.list [G,H,M,K]):=rfl
theorem ad2:CU N 3 M E (some<|.list [G,H,I,K])=some (.ai (),E.set N<|.list [G,H,I,M]):=rfl
def Pe(J:Nat)(E:ag)(S:Option aM):=JE S J E
@[simp]theorem ama:dO .qL [.ref J] E=Pe J E E[J]?:=rfl
theorem ad3(w:L.length+1<=16000000):Pe J E (some<|.list<|O::L)=some (.ai O,E.set J<|.list L):=congrFun (tL<|kB w) E
end
section
variable{E H G:Int}
theorem Pf(w:0<G):f9 .m9 (.int E) (.int G)=some (ao (E %G).toNat):=by change eJ (decide<|0<G) (aa.int<|E %G)=_;rw[decide_eq_true w];change some (aa.int<|E %G)=_;congr 2;show(Int.toNat_of_nonneg<|Int.emod_nonneg _<|by lia-abstractProof).symm
def DE(w:E.natAbs<=1000000000000):pQ E=true:=decide_eq_true<|xV<|aq w aR
def Pg(w:E.natAbs<=1000000000000)(W:H.natAbs<=1000000000000):f9 .oU (.int E) (.int H)=some (.int<|E*H):=by change eJ (pQ E&&pQ H) _=_;rw[DE w,DE W];rfl
theorem Ph:f9 .cV (.int E) (.int H)=some (.int<|E+H):=rfl
theorem ad4:f9 .qK (.int E) (.int 8)=some (.int<|E/8):=rfl
end
inductive ad5(I K U:Nat)(O:Int)(g:ag):Prop|mk (w:Int) (F:List Int) (H:0<=w) (W:w<1000003) (G:g[I]?=some (.list [.ref K,.int w,.int O,.ref U])) (E:g[K]?=some (.list<|F.map .int)) (J:F.length<=1000)
structure dN(w K U:Nat)(O:Int)(E:List aa)(g:ag):Prop where
C:ad5 w K U O g
ig:g[U]?=some (.list E)
x:w≠K
A:w≠U
I:K≠U
section
variable{I H J N O:Nat}{K:Int}{L:List aa}{E G:ag}{M:List Nat}
def dN.aF(w:dN I H J K L E)(N:bj M E G)(T:I∉M)(R:H∉M)(S:J∉M):dN I H J K L G:=by obtain⟨U,F,g,W,O,P,Q⟩:=w.C;show⟨⟨U,F,g,W,N.at O T,N.at P R,Q⟩,N.at w.ig S,w.x,w.A,w.I⟩
theorem lH(X:dN I H J K L E)(W:Int)(Y:0<W):qq (λ(Q:Nat)(G:ag)=>(Q:Int)<W) (λ(Q:Nat)(G:ag)=>av N (O+1) 72 [.ref I,.int W] E=some (.ai<|ao Q,G)) (λ(Q:Nat)(G:ag)=>dN I H J K L G) λ(Q:Nat)(G:ag)=>bj [I,H] E G:=by
 obtain⟨h,F,M,a,c,R,d⟩:=X.C;have k:∀P:Int,(((P %W).toNat:Nat):Int)<W:=λP=>by rw[Int.toNat_of_nonneg<|Int.emod_nonneg _<|by lia];show PW _ Y
 rw[aO (H:=Bc) rfl rfl];show eA λT b=> ?_;rcases F with _|⟨P,F⟩
 ·show b ?_;have g:∀E,CT E (some<|.list<|List.map aa.int [])=some (.ai<|ao 0,E):=jW (M:=[]) (by simp);generalize i:(h*4093+12289) %1000003=j;have Z:0<=j:=by subst i;show Int.emod_nonneg _<|by decide
  have e:j<1000003:=by subst i;show PW _<|by decide
  have V:f9 .oU (.int h) (.int 4093)=some (.int<|h*4093):=Pg (by lia) (by decide);have w:f9 .m9 (.int<|h*4093+12289) (.int 1000003)=some (.int j):=by change some (aa.int<|(h*4093+12289) %1000003)=_;rw[i]
  show⟨(j/8 %W).toNat,E.set I<|.list [.ref H,.int j,.int K,.ref J],k _, ?_, ?_,eC<|by simp⟩;·have U:=bC c;simp(disch:=omega) [-getElem?_pos,Bc,c,R,g,V,w,Ph,Pd,dY,ad4,Pf,Y,-List.map_nil]
  ·show⟨⟨j,[],Z,e,dY<|bC c, ?_,by simp⟩, ?_,X.x,X.A,X.I⟩;·show(dQ X.x).trans R
   ·show(dQ X.A).trans X.ig
 ·show b ?_;show⟨(P %W).toNat,E.set H<|.list<|F.map .int,k P, ?_, ?_,eC<|by simp⟩
  ·have S:(F.map aa.int).length+1<=16000000:=by simp at d⊢;show aq d aR
   have f:(F.map aa.int).length+1<=16000000:=S;replace R:=List.map_cons▸R;have g:∀E,CT E (some<|.list<|aa.int P::F.map aa.int)=some (.ai<|ao<|F.length+1,E):=by intro E;have:=jW (M:=aa.int P::F.map aa.int) S E;show this.trans ?_;simp
   simp(disch:=omega) [-getElem?_pos,Bc,c,R,g,ad3,S,Pf,Y]
  ·show⟨⟨h,F,M,a, ?_,dY<|bC R,by simp at d;show jb d⟩, ?_,X.x,X.A,X.I⟩;·show(dQ<|Ne.symm X.x).trans c
   ·show(dQ X.I).trans X.ig
end
@[simp]theorem amb:dK .dS (ao a) (.int p) b=some (decide<|(a:Int)<p):=rfl
@[simp]theorem amc:dK .fQ (ao a) (.int p) b=some (decide<|p<(a:Int)):=rfl
@[simp]theorem amd:dK .aA (ao a) (.int p) b=some (decide<|(a:Int)=p):=rfl
section
variable{N M G K O:Nat}{I:Int}{E:List aa}{H J:ag}{L:List Nat}
end
section
variable{I L H J K:Nat}{O:Int}{M:List aa}{E G:ag}{Q:List Nat}{N:aY}
structure ad6(N:aY)(g:bX)(G:aa)(w:aj):Prop where
v:aD N w=.tup [.str<|ik g,G]
ad7:qv w=true
hV:dh w
ad8:w.cp=0
def ad9:∀{Q:Nat},Q<3->∃R:Str,([.str b2,.str a8,.str aT]:List aa)[Q]?=some (.str R)/\∃H:dM,H≠.P/\fC H=.tup [.str ax,.str R]:=by
 intro Q w;show zy (P:=λQ=>∃R:Str,([.str b2,.str a8,.str aT]:List aa)[Q]?=some (.str R)/\∃H:dM,H≠.P/\fC H=.tup [.str ax,.str R]) ?_ ?_ ?_ w;·show⟨_,rfl,.N,nofun,rfl⟩
 ·show⟨_,rfl,.S,nofun,rfl⟩
 ·show⟨_,rfl,.bV,nofun,rfl⟩
def aea:∀{Q:Nat},Q<4->∃R:Str,([.str cz,.str cn,.str c0,.str ⟨#[97,40]⟩]:List aa)[Q]?=some (.str R):=by intro Q w;show(by intro P E H W g Q;show gR (P:=P) E (gR (P:=λQ=>P<|Q+1) H<|gR (P:=λQ=>P<|Q+2) W<|gR (P:=λQ=>P<|Q+3) g λ_ w=>absurd w<|AA _) Q:∀{P}(E:P 0)(H:P 1)(W:P 2)(g:P 3){Q},Q<4->P Q) (P:=λQ=>∃R:Str,([.str cz,.str cn,.str c0,.str ⟨#[97,40]⟩]:List aa)[Q]?=some (.str R)) ?_ ?_ ?_ ?_ w<;>show⟨_,rfl⟩
def aeb(N:bX):jo (ik N) [.str b3,.str b4,.str b5,.str b6,.str b7]=some N.rC:=by induction N using bX.casesOn<;>decide
def dN.dS(Q:dN I L H O M E):gV (I<E.length)<|gV (L<E.length)<|H<E.length:=by obtain⟨w,F,g,N,G,R,T⟩:=Q.C;show⟨bC G,bC R,bC Q.ig⟩
def IB(P:dN I L H O M E)(R:List aa)(F:Int)(g:0<F):rH (λ(Q:Nat)(G:ag)=>(Q:Int)<F) (λ(Q:Nat)(G:ag)=>av J (K+1) 72 [.ref I,.int F] (E++[.list R])=some (.ai<|ao Q,G)) (λ(Q:Nat)(G:ag)=>G[E.length]?=some (.list R)) (λ(Q:Nat)(G:ag)=>dN I L H O M G) λ(Q:Nat)(G:ag)=>bj [I,L] E G:=by obtain⟨Q,U,T,w,S,Y⟩:=lH (N:=J) (O:=K) (P.aF (M:=[]) (G:=E++[.list R]) fp (by simp) (by simp)<|by simp) F g;have:=P.dS;show⟨Q,U,T,w,Y.at eL<|by simp;show And.intro (d7 this.1)<|d7 this.2.1,S,fp.aC Y⟩
theorem aec(Q:dN I L H O M E)(U:bX):Gr (λ(P:aa)(w:aj)(G:ag)=>ad6 N U P w) (λ(P:aa)(w:aj)(G:ag)=>av J (K+2) 75 [.ref I,.str<|ik U] E=some (.ai P,G)) (λ(P:aa)(w:aj)(G:ag)=>dN I L H O M G) λ(P:aa)(w:aj)(G:ag)=>bj [I,L] E G:=by
 rw[aO (H:=wj) rfl rfl];obtain⟨i,f,p,n,o,V⟩:=lH (N:=J) (O:=K) Q 4 (by decide);obtain r:=aeb U;by_cases W:i=0
 ·subst W;obtain⟨X,h,j,l,u,S,b⟩:=IB (J:=J) (K:=K) o [.str b2,.str a8,.str aT] 3 (by decide);have g:∀E,la (X:Int) E (some<|.list [.str b2,.str a8,.str aT])=qz E _:=mT _ X<|lJ<|eI (iB (J:=3) j) aR;show eA λT e=> ?_;obtain⟨s,Z,z,t,x,F⟩:=lH (N:=J) (O:=K) S 3 (by decide);obtain⟨R,a,m,c,y⟩:=ad9 (Q:=X)<|iB (J:=3) j;show e ?_;rcases pM<|0<s with q|q;·show⟨.tup [.str a4,fC m],.gg U m,Z,⟨by simp only[zS],rfl,c,rfl⟩, ?_,x,V.aC<|b.aC F⟩;rw[y];simp(disch:=first|lia|exact aH) [-getElem?_pos,wj,r,n,l,u,g,a,t,q]
  ·obtain q:s=0:=PU<|sq q;subst q;show⟨.tup [.str a4,fC .iD],.gg U .iD,Z,⟨by simp only[zS],rfl,nofun,rfl⟩, ?_,x,V.aC<|b.aC F⟩;simp(disch:=first|lia|exact aH) [-getElem?_pos,wj,r,n,l,u,g,a,t,fC]
 ·cases Y:U.rC;·obtain⟨X,h,j,l,u,S,b⟩:=IB (J:=J) (K:=K) o [.str cz,.str cn,.str c0,.str ⟨#[97,40]⟩] 4 (by decide);obtain⟨R,a⟩:=aea (Q:=X)<|iB (J:=4) j;show⟨.str R,.d5 U<|.fL R,h,⟨rfl,rfl,Y,rfl⟩, ?_,S,V.aC b⟩;simp[-getElem?_pos,wj,r,Y,n,l,u,mT _ X<|Nat.le_of_lt<|Nat.lt_of_lt_of_le (iB (J:=4) j) aR,a,W]
  ·obtain⟨X,h,j,l,S,b⟩:=lH (N:=J) (O:=K) o 4 (by decide);show⟨ao X,.d5 U<|.gu X,h,⟨rfl,rfl,⟨Y,lJ<|eI (iB (J:=4) j) aR⟩,rfl⟩, ?_,S,V.aC b⟩;simp[-getElem?_pos,wj,r,Y,n,l,W]
def aed(O:aj)(E:ag):qp (λI=>I=ku O) λI=>av J (K+1) 20 [aD N O] E=some (.ai<|.bool I,E):=by
 show⟨_,rfl, ?_⟩;have P:∀(Y:Str)(L:List aa),eY Y ab=false->dK .aA (.tup<|.str Y::L) (.tup [.str ab,.str ⟨#[]⟩]) E=some false:=by intro Y L w;change yf (eY Y ab) L ⟨#[]⟩=_;rw[w];rfl
 rw[aO (H:=EB) rfl rfl];obtain Z:dK .aA (aD N O) (.tup [.str ab,.str ⟨#[]⟩]) E=some (ku O):=by induction O with|bc G=>show congrArg some<|sC G ⟨#[]⟩|d5 M H=>show P _ _<|by induction M using bX.casesOn<;>rfl|gg M H=>show P _ _<|by induction M using bX.casesOn<;>rfl|bZ F g L=>induction F<;>show P _ _ rfl|_=>show P _ _ rfl
 simp[EB,Z,(rfl:aw.p[19]?=some (.tup [.str ab,.str ⟨#[]⟩]))]
end
section
set_option tactic.hygienic true
section
variable{J L K G H:Nat}{N:Int}{M:List aa}{E O:ag}{Q:List Nat}{I:aY}
theorem Pj(G U:Str):(G++U).length=G.length+U.length:=by rw[rM,tC,List.length_append];rfl
def ID{E:aj}(w:qw E=none):Gq (λY g=>aD I E=.tup (.str Y::g)) λY g=>(Y==ab)=false:=by induction E with|bc L=>show nomatch w|d5 N K|gg N K=>show⟨_,_,rfl,by induction N using bX.casesOn<;>rfl⟩|bZ F H g=>induction F<;>show⟨_,_,rfl,rfl⟩|_=>show⟨_,_,rfl,rfl⟩
def vK{F:aj}{J:Bool}(w:ku F=J)(E:ag):av G (H+1) 20 [aD I F] E=some (.ai<|.bool J,E):=by obtain⟨M,g,W⟩:=aed (J:=G) (K:=H) (N:=I) F E;show g.trans w▸W
section
variable{R S:aa}{U:Str}{V:List aa}
def aee(w:av G (H+1) 20 [R] E=some (.ai<|.bool true,E)):av G (H+2) 23 [R,S] E=some (.ai S,E):=by rw[aO (H:=oZ) rfl rfl];simp[oZ,w]
variable(T:av G (H+1) 20 [R] E=some (.ai<|.bool false,E))
include T
theorem aef(W:av G (H+1) 20 [S] E=some (.ai<|.bool true,E)):av G (H+2) 23 [R,S] E=some (.ai R,E):=by rw[aO (H:=oZ) rfl rfl];simp[oZ,T,W]
def Pk(w:av G (H+1) 20 [S] E=some (.ai<|.bool false,E))(g:R=.tup (.str U::V))(W:(U==ab)=false):av G (H+2) 23 [R,S] E=some (.ai<|.tup [.str ba,R,S],E):=by rw[aO (H:=oZ) rfl rfl];subst g;simp[oZ,T,w,W]
end
theorem aeg(K U:aj)(E:ag)(V:K.cp<=1000)(e:U.cp<=1000):av G (H+2) 23 [aD I K,aD I U] E=some (.ai<|aD I<|pz K U,E):=by
 show M9 (λa=>av G (H+2) 23 [aD I K,aD I U] E=some (.ai<|aD I a,E)) (λw=>aee<|vK w E) (λT X=>aef (vK T E)<|vK X E) (λT X c S g Z=> ?_) λT X w=> ?_;·obtain M:=vK (G:=G) (H:=H) (I:=I) T E;obtain b:=vK (G:=G) (H:=H) (I:=I) X E;subst g Z;simp only[abr,Di]at M b V e;rw[aO (H:=oZ) rfl rfl];simp(disch:=lia) [oZ,M,b]
 ·have M:=vK (G:=G) (H:=H) (I:=I) T E;have b:=vK (G:=G) (H:=H) (I:=I) X E;rcases w with w|w;·show(ID w).rec λ_ _ J W=>Pk M b J W
  ·rcases Y:qw K with _|c;·show(ID Y).rec λ_ _ J W=>Pk M b J W
   ·show(ID w).rec λ_ _ J W=>(by intro _ _ _ _ _ _ _ T c _ X O J W;rw[aO (H:=oZ) rfl rfl];subst J O;induction Y:c==ab<;>simp[oZ,T,X,W,Y]:∀{G H:Nat}{E:ag}{Q S:aa}{P:Str}{L:List aa}(T:av G (H+1) 20 [Q] E=some (.ai<|.bool false,E)){c F}(X:av G (H+1) 20 [S] E=some (.ai<|.bool false,E))(O:Q=.tup (.str c::F))(J:S=.tup (.str P::L))(W:(P==ab)=false),av G (H+2) 23 [Q,S] E=some (.ai<|.tup [.str ba,Q,S],E)) M b (congrArg (aD I)<|GH Y) J W
def aeh(g U:aj)(E:ag):av G (H+1) 24 [aD I g,aD I U] E=some (.ai<|aD I<|.bU g U,E):=by rw[aO (H:=EC) rfl rfl];simp[EC]
def aei(G U:aj):(pz G U).cp<=G.cp+U.cp:=by show xg (·.cp<=_) (λ_=>aR) (λ_=>bD) (λI Q g T=> ?_) (by simp[H0]);simp[g,T,Di,Pj]
def aej(G U:aj):(pz G U).cE<=G.cE+U.cE+1:=by show xg (·.cE<=_) (λ_=>jb aR) (λ_=>jb bD) λI Q g T=>by simp[g,T,Dh] (by simp[z0])
def aek{G U:aj}(H:dh G)(W:dh U)(w:G.cp+U.cp<=100):dh<|pz G U:=by show xg dh (λ_=>W) (λ_=>H) (λI Q g T=> ?_) ⟨H,W⟩;change(_:Str).length<=100;rw[Pj];simpa only[g,T,Di]using w
end
end
noncomputable def Ag:List bo:=[.b (.d .aA (.ae 3)<|.int 19) [.ret<|.call 23 [.ae 6,.ae 7]] [],.ret<|.b (.d .aA (.ae 3)<|.int 20) (.tup [.str ba,.ae 6,.ae 7])<|.call 24 [.ae 6,.ae 7]]
def tV:List bo:=.b (.d .aA (.ae 3)<|.int 16) [.ret<|.tup [.str cx,.ae 6]] []::.b (.d .dS (.ae 3)<|.int 19) [.ret<|.tup [.c (.list [.str cv,.str cy])<|.bin .cg (.ae 3)<|.int 17,.ae 6,.c (.ae 2)<|.call 72 [.ae 0,.int 3]]] []::.assign (.ae 7) (.call 76 [.ae 0,.bin .cg (.ae 1)<|.int 1,.ae 2])::Ag
def lh:List bo:=.b (.d .dS (.ae 3)<|.int 3) [.ret<|.tup [.str ab,.call 74 [.ae 0]]] []::.b (.d .dS (.ae 3)<|.int 12) [.assign (.ae 4)<|.c (.list [.str b3,.str b4,.str b5,.str b6,.str b7,.str b9,.str cb,.str cj,.str ct])<|.bin .cg (.ae 3)<|.int 3,.ret<|.tup [.ae 4,.call 75 [.ae 0,.ae 4]]] []::.b (.d .dS (.ae 3)<|.int 15) [.assign (.ae 5)<|.c (.list [.list [.str a3,.str b8,.str a6],.list [.str a3,.str b1,.str a6],.list [.str a9,.str a7,.str a3]])<|.bin .cg (.ae 3)<|.int 12,.ret<|.tup [.c (.ae 5)<|.call 72 [.ae 0,.int 3]]] []::.b (.d .aA (.ae 3)<|.int 15) [.b (.d .aA (.call 72 [.ae 0,.int 2])<|.int 0) [.ret<|.tup [.str c3,.c (.ae 2)<|.call 72 [.ae 0,.int 3]]] [],.ret<|.tup [.str a4,.c (.c (.ae 0)<|.int 3)<|.call 72 [.ae 0,.int 4]]] []::.assign (.ae 6) (.call 76 [.ae 0,.bin .cg (.ae 1)<|.int 1,.ae 2])::tV
theorem ael:E6=⟨3,8,.assign (.c (.ae 0)<|.int 2) (.bin .cg (.c (.ae 0)<|.int 2)<|.int 1)::.assign (.ae 3) (.call 72 [.ae 0,.b (.and [.d .fQ (.ae 1)<|.int 0,.d .fQ (.c (.ae 0)<|.int 2)<|.int 0]) (.int 22)<|.int 16])::lh⟩:=rfl
section
variable{I K L R Q T H G E:Nat}{N:List aa}{J M:ag}{U:List Nat}{O:aY}{S:Bool}
def aem(w:3<=E):f9 .cg (ao E) (.int 3)=some (ao<|E-3):=by change some (aa.int<|(E:Int)-3)=some (aa.int ((E-3:Nat):Int));congr 2;show Ej w
def IE(w:12<=E):f9 .cg (ao E) (.int 12)=some (ao<|E-12):=by change some (aa.int<|(E:Int)-12)=some (aa.int ((E-12:Nat):Int));congr 2;show Ej w
def Pl(w:17<=E):f9 .cg (ao E) (.int 17)=some (ao<|E-17):=by change some (aa.int<|(E:Int)-17)=some (aa.int ((E-17:Nat):Int));congr 2;show Ej w
theorem Pm(P:dN I K L (((G+1:Nat):Int)-16) N J):rH (λ(E:Nat)(i:ag)=>0<H/\17<=G\/E<16) (λ(E:Nat)(i:ag)=>E<22) (λ(E:Nat)(i:ag)=>dN I K L ((G:Int)-16) N i) (λ(E:Nat)(i:ag)=>bj [I,K] J i) λ(E:Nat)(i:ag)=>av Q (T+2) 76 [.ref I,ao H,.ref R] J=dv (dw aw (av Q<|T+1) Q lh [some<|.ref I,some<|ao H,some<|.ref R,some<|ao E,none,none,none,none] i) fR:=by
 rw[aO (H:=E6) rfl rfl];obtain⟨m,F,M,c,f,h,j⟩:=P.C;have g:f9 .cg (.int<|((G+1:Nat):Int)-16) (.int 1)=some (.int<|(G:Int)-16):=by change some (aa.int _)=some (aa.int _);congr 2;simp+arith
 have n:dN I K L ((G:Int)-16) N<|J.set I<|.list [.ref K,.int m,.int<|(G:Int)-16,.ref L]:=⟨⟨m,F,M,c,dY<|bC f,(dQ P.x).trans h,j⟩,(dQ P.A).trans P.ig,P.x,P.A,P.I⟩;obtain e:∀(E:Nat),(E:Int)<(if 0<H/\17<=G then 22 else 16)->(0<H/\17<=G\/E<16)/\E<22:=by
  intro E V;split at V;·rename_i Y;show⟨.inl Y,iB (J:=22) V⟩
  ·show⟨.inr<|iB (J:=16) V,eI (iB (J:=16) V) aR⟩
 have r:(0:Int)<if 0<H/\17<=G then 22 else 16:=by split<;>decide
 obtain⟨E,i,V,w,o,b⟩:=lH (N:=Q) (O:=T) n _ r;show⟨E,i,(e E V).1,(e E V).2,o,(eC<|cY).aC b, ?_⟩;obtain U:=bC f;generalize Z:((G+1:Nat):Int)-16=W at*;generalize a:(G:Int)-16=O at*;generalize q:[some<|aa.ref I,some<|ao H,some<|.ref R,some<|ao E,none,none,none,none]=X;simp only[ael];by_cases l:0<H
 ·by_cases S:17<=G
  ·rw[if_pos ⟨l,S⟩]at w;have p:(0:Int)<O:=by lia
   simp(disch:=lia) [-getElem?_pos,f,g,DD,dY,l,p,w,<-q]
  ·rw[if_neg λY=>S Y.2]at w;have p:¬(0:Int)<O:=by lia
   simp(disch:=lia) [-getElem?_pos,f,g,DD,dY,l,p,w,<-q]
 ·rw[if_neg λY=>l Y.1]at w;simp[-getElem?_pos,f,g,DD,dY,l,w,<-q]
inductive DF(S:Bool)(O:aY)(I K L:Nat)(N:List aa)(H G:Nat)(J:ag)(g:Option<|aI aa×ag):Prop|mk (w:aj) (R:Nat) (M:ag) (F:gw S H G w R) (W:dh w) (P:w.cp<=2^(H+1)) (E:w.cE+1<=2^(H+1)) (Q:g=some (.ai<|aD O w,M)) (T:dN I K L ((R:Int)-16) N M) (U:bj [I,K] J M)
def DG(H:Nat):2<=2^(H+1):=by simp only[Nat.pow_succ];have:=Nat.one_le_two_pow (n:=H);show j1<|iq this this<|by simp+arith
def DF.GJ{w:aj}{g:Option<|aI aa×ag}(E:qv w=true)(X:dh w)(P:w.cp<=2)(F:g=some (.ai<|aD O w,M))(Q:dN I K L ((G:Int)-16) N M)(V:bj [I,K] J b)(Y:bj [I,K] b M):DF S O I K L N H (G+1) J g:=by
 have:=DG H;show⟨w,G,M,.GJ E,X,aq P this, ?_,F,Q,V.aC Y⟩;have:w.cE=1:=by clear X;clear P;clear F;rcases w with-|-<;>first|rfl|show nomatch show false=true from E
 show aq (cB<|bP this) ‹_›
noncomputable def xM:List aa:=[.str b3,.str b4,.str b5,.str b6,.str b7,.str b9,.str cb,.str cj,.str ct]
def aen:∀{E:Nat},E<9->∃N,xM[E]?=some (.str<|ik N):=by
 intro E w;show(by intro P I H W g F G L U T E;show gR (P:=P) I (gR (P:=λE=>P<|E+1) H<|gR (P:=λE=>P<|E+2) W<|gR (P:=λE=>P<|E+3) g<|gR (P:=λE=>P<|E+4) F<|gR (P:=λE=>P<|E+5) G<|gR (P:=λE=>P<|E+6) L<|gR (P:=λE=>P<|E+7) U<|gR (P:=λE=>P<|E+8) T λ_ w=>absurd w<|AA _) E:∀{P}(I:P 0)(H:P 1)(W:P 2)(g:P 3)(F:P 4)(G:P 5)(L:P 6)(U:P 7)(T:P 8){E},E<9->P E) (P:=λE=>∃N,xM[E]?=some (.str<|ik N)) ?_ ?_ ?_ ?_ ?_ ?_ ?_ ?_ ?_ w;·show⟨.aZ,rfl⟩
 ·show⟨.uV,rfl⟩
 ·show⟨.uW,rfl⟩
 ·show⟨.uX,rfl⟩
 ·show⟨.uY,rfl⟩
 ·show⟨.wO,rfl⟩
 ·show⟨.wQ,rfl⟩
 ·show⟨.wR,rfl⟩
 ·show⟨.brk,rfl⟩
noncomputable def kF:Nat->List aa|0=>[.str a3,.str b8,.str a6]|1=>[.str a3,.str b1,.str a6]|_=>[.str a9,.str a7,.str a3]
theorem vL(F:List aM)(g:Nat):(J++F)[J.length+g]?=F[g]?:=by rw[List.getElem?_append_right<|by lia-abstractProof];congr 1;lia-abstractProof
theorem aeo(F:List aM):(J++F)[J.length]?=F[0]?:=vL F 0
def vM{F:List aM}:bj U J<|J++F:=⟨by simp,λ_ g _=>sm g⟩
end
section
variable{H K L Q J N T U E:Nat}{O:Int}{M:List aa}{G R:ag}{V:List Nat}{I:aY}{S:Bool}
def lI(H Q T E:Nat):ak:=[some<|.ref H,some<|ao T,some<|.ref Q,some<|ao E,none,none,none,none]
noncomputable def qH(I:aY):aM:=.list [.ref I.iZ,.ref I.fX,.ref I.jw]
theorem Pn(I:aY){E:Nat}(w:E<3):∃N,([.ref I.iZ,.ref I.fX,.ref I.jw]:List aa)[E]?=some (.ref<|I.cA N):=by match E,w with|0,_=>show⟨.bV,rfl⟩|1,_=>show⟨.B,rfl⟩|2,_=>show⟨.C,rfl⟩|U+3,w=>lia-abstractProof
inductive Ah(S:Bool)(I:aY)(H K L:Nat)(O:Int)(M:List aa)(G:ag)(g:Option<|aI aa×ag):Prop|mk (w:aj) (R:ag) (F:qv w=true\/∃L,w=.fM L/\(L=.P->S=true)) (W:dh w) (J:w.cp<=2) (E:g=some (.ai<|aD I w,R)) (N:dN H K L O M R) (P:bj [H,K] G R)
theorem aep(i:12<=E)(u:E<15)(h:dN H K L O M G):Ah S I H K L O M G<|dv (dw aw (av J<|N+2) J lh (lI H Q T E) G) fR:=by
 obtain⟨c,t,q,p,Z,V⟩:=lH (N:=J) (O:=N+1) (h.aF (M:=[]) (G:=G++[.list<|kF 0,.list<|kF 1,.list<|kF 2,.list [.ref G.length,.ref<|G.length+1,.ref<|G.length+1+1]]) vM (by simp) (by simp)<|by simp) 3 (by decide);obtain⟨Y,n,f,W,m,o,r⟩:=(by
 intro I l c s q;show have x:∀{l c:Nat}{Y:Str}(n:aj),(kF l)[c]?=some (.str Y)->aD I n=.tup [.str Y]->qv n=true->dh n->n.cp=0->rH (λY n=>(kF l)[c]?=some (.str Y)) (λY n=>aD I n=.tup [.str Y]) (λ_ n=>qv n=true) (λ_ n=>dh n) λ_ n=>n.cp=0:=λn a H b N XN=>⟨_,n,a,H,b,N,XN⟩
 zy (P:=λl=>rH (λY _=>(kF l)[c]?=some (.str Y)) _ _ _ _) (zy (P:=λc=>rH (λY _=>(kF 0)[c]?=some (.str Y)) _ _ _ _) (x .eG rfl rfl rfl trivial rfl) (x .fz rfl rfl rfl trivial rfl) (x .fj rfl rfl rfl trivial rfl) q) (zy (P:=λc=>rH (λY _=>(kF 1)[c]?=some (.str Y)) _ _ _ _) (x .eG rfl rfl rfl trivial rfl) (x .fA rfl rfl rfl trivial rfl) (x .fj rfl rfl rfl trivial rfl) q) (zy (P:=λc=>rH (λY _=>(kF 2)[c]?=some (.str Y)) _ _ _ _) (x .fail rfl rfl rfl trivial rfl) (x .fH rfl rfl rfl trivial rfl) (x .eG rfl rfl rfl trivial rfl) q) s:∀{I:aY}{l c:Nat}(s:l<3)(q:c<3),rH (λY n=>(kF l)[c]?=some (.str Y)) (λY n=>aD I n=.tup [.str Y]) (λY n=>qv n=true) (λY n=>dh n) λY n=>n.cp=0) (I:=I) (l:=E-12) (c:=c) (I9 i u)<|iB (J:=3) q;show .mk n t (.inl m) o (r▸fx) ?_ Z<|vM.aC V;rw[W];have y:∀l,l<3->t[G.length+l]?=some (.list<|kF l):=by intro l s;show V.at ?_ (by simp;show And.intro (n0 h.dS.1)<|n0 h.dS.2.1);rw[vL];match l,s with|0,_=>rfl|1,_=>rfl|2,_=>rfl|U+3,XT=>lia
 obtain g:∀F:List aa,∀G,la (c:Int) G (some<|.list F)=qz G F[c]?:=λF=>mT _ _<|lJ<|eI (iB (J:=3) q) aR;have A:t[G.length]?=_:=y 0<|vQ _;have B:=y 1 (by decide);obtain C:t[G.length+1+1]?=_:=y 2 iW;simp only[kF]at A B C p;obtain D:∀XO XQ XR z:aM,(G++[XO,XQ,XR,z])[G.length+1+1+1]?=some z:=λ_ _ _ _=>vL _ 3;rcases(by lia:E=12\/E=13\/E=14)with rfl|rfl|rfl;·replace f:(kF 0)[c]?=_:=f;simp only[kF]at f;have XS:∀e:Option aM,AN e ((12-12:Nat):Int)=AN e 0:=λ_=>rfl;simp[-getElem?_pos,lh,lI,IE,g,p,A,f,D,XS]
 ·replace f:(kF 1)[c]?=_:=f;simp only[kF]at f;simp[-getElem?_pos,lh,lI,IE,g,p,B,f,D,λ_=>rfl]
 ·replace f:(kF 2)[c]?=_:=f;simp only[kF]at f;simp[-getElem?_pos,lh,lI,IE,g,p,C,f,D,λ_=>rfl]
theorem aeq(e:E<16)(c:dN H K L O M G)(l:G[Q]?=some (qH I))(C:Q∉[H,K])(D:∀E,E<4->∃z,M[E]?=some (fC z)/\(z=.P->S=true)):Ah S I H K L O M G<|dv (dw aw (av J<|N+2) J lh (lI H Q T E) G) fR:=by
 rcases sy E<|3with b|b;·show(by intro e c;obtain⟨F,s,V,j,Z,m⟩:=(by
   intro _ _ _ J N _ _ G c;rw[aO (H:=E5) rfl rfl];obtain⟨XR,XS,XT,XU,o,q,XW⟩:=c.C;generalize t:([.str cz,.str cn,.str c0,.str ⟨#[40]⟩,.str ⟨#[41]⟩,.str ⟨#[]⟩,.str ⟨#[98,97]⟩,.str ⟨#[97,97]⟩]:List aa)=p;obtain⟨E,u,e,j,A,Y⟩:=lH (N:=J) (O:=N) (c.aF (M:=[]) fp (by simp) (by simp)<|by simp) 8 (by simp);obtain XX:∀{E},E<8->∃F:Str,p[E]?=some (.str F)/\F.length<=2:=by intro E w;subst t;show(by intro P r b W f h n XN XO E;show gR (P:=P) r (gR (P:=λE=>P<|E+1) b<|gR (P:=λE=>P<|E+2) W<|gR (P:=λE=>P<|E+3) f<|gR (P:=λE=>P<|E+4) h<|gR (P:=λE=>P<|E+5) n<|gR (P:=λE=>P<|E+6) XN<|gR (P:=λE=>P<|E+7) XO λ_ w=>absurd w<|AA _) E:∀{P}(r:P 0)(b:P 1)(W:P 2)(f:P 3)(h:P 4)(n:P 5)(XN:P 6)(XO:P 7){E},E<8->P E) (P:=λE=>∃F:Str,(_:List aa)[E]?=some (aa.str F)/\F.length<=2) ?_ ?_ ?_ ?_ ?_ ?_ ?_ ?_ w<;>show aX _ rfl<|j0 rfl
   show aB (XX<|iB (J:=8) e) λF V XY=> ?_;obtain XZ:u[G.length]?=some (.list p):=Y.at eL (by simp;have:=bC o;have:=bC q;show And.intro (d7 ‹_›)<|d7 this);show⟨F,u,XY, ?_,A,(fp).aC Y⟩;simp(disch:=first|lia|exact Nat.le_of_ble_eq_true rfl) [-getElem?_pos,E5,t,j,XZ,mT p E<|Nat.le_trans (Nat.le_of_lt<|iB (J:=8) e) aR,V]:∀{H K L J N:Nat}{U:Int}{M:List aa}{G:ag}(c:dN H K L U M G),qq (λ(F:Str)(R:ag)=>F.length<=2) (λ(F:Str)(R:ag)=>av J (N+2) 74 [.ref H] G=some (.ai<|.str F,R)) (λ(F:Str)(R:ag)=>dN H K L U M R) λ(F:Str)(R:ag)=>bj [H,K] G R) (J:=J) (N:=N) c;show .mk (.bc F) s (.inl rfl) (by show aq V aR) V ?_ Z m;simp[lh,lI,show(E:Int)<3from Int.ofNat_lt.mpr e,j]:∀(e:E<3)(c:dN H K L O M G),Ah S I H K L O M G<|dv (dw aw (av J<|N+2) J lh (lI H Q T E) G) fR) b c
 ·rcases sy E<|12with W|W;·show(by intro e x c;show lM (aen (E:=E-3)<|I9 e x) λa i=> ?_;obtain⟨F,X0,s,B,j,Z,m⟩:=aec (J:=J) (K:=N) (N:=I) (c.aF (M:=[]) (G:=G++[.list xM]) fp (by simp) (by simp)<|by simp) a;show .mk X0 s (.inl B.ad7) B.hV (by have:=B.ad8;show aq (bP this) fx) ?_ Z<|fp.aC m;obtain g:∀G,la ((E-3:Nat):Int) G (some<|.list xM)=qz G xM[E-3]?:=mT _ _<|vT<|aq (lJ x) aR;unfold xM at g i j;rw[B.v];simp(disch:=first|lia|exact Nat.le_of_ble_eq_true rfl) [-getElem?_pos,lh,lI,(Int.not_lt.mpr (Int.ofNat_le.mpr e):¬(E:Int)<3),show(E:Int)<12from Int.ofNat_lt.mpr x,aem,g,i,j,eL]:∀(e:3<=E)(x:E<12)(c:dN H K L O M G),Ah S I H K L O M G<|dv (dw aw (av J<|N+2) J lh (lI H Q T E) G) fR) b W c
  ·rcases sy E<|15with f|f;·show aep W f c
   ·have:E=15:=i7 (i9 e) f;subst this;show(by
   intro c l C D;obtain⟨X2,s,X5,j,Z,m⟩:=lH (N:=J) (O:=N+1) c 2 (by decide);by_cases XQ:X2=0;·subst XQ;obtain⟨F,u,V,y,A,Y⟩:=lH (N:=J) (O:=N+1) Z 3 (by decide);obtain⟨a,i⟩:=Pn I (E:=F)<|iB (J:=3) V;obtain g:∀G,la (F:Int) G (some<|qH I)=qz G _:=mT _ F<|lJ<|eI (iB (J:=3) V) aR;show .mk (.iO a) u (.inl rfl) trivial fx ?_ A<|m.aC Y;simp(disch:=first|lia|exact Nat.le_of_ble_eq_true rfl) [-getElem?_pos,lh,lI,j,y,(m.aC Y).at l C,g,i]
   ·obtain⟨F,u,V,y,A,Y⟩:=lH (N:=J) (O:=N+1) Z 4 (by decide);show aB (D F<|iB (J:=4) V) λz X3 X4=> ?_;obtain⟨XR,XS,XT,XU,o,q,XW⟩:=Z.C;show .mk (.fM z) u (.inr ⟨z,rfl,X4⟩) trivial fx ?_ A<|m.aC Y;simp(disch:=first|lia|exact Nat.le_of_ble_eq_true rfl) [-getElem?_pos,lh,lI,j,y,XQ,o,A.ig,mT _ F<|Nat.le_of_lt<|Nat.lt_of_lt_of_le (iB (J:=4) V) aR,X3]:∀(c:dN H K L O M G)(l:G[Q]?=some (qH I))(C:Q∉[H,K])(D:∀E,E<4->∃z,M[E]?=some (fC z)/\(z=.P->S=true)),Ah S I H K L O M G<|dv (dw aw (av J<|N+2) J lh (lI H Q T 15) G) fR) c l C D
end
section
variable{K Q U J I O G M E:Nat}{T:Int}{R:List aa}{H N:ag}{V:List Nat}{L:aY}{S:Bool}
theorem Ai(g:bj [K,Q] H N)(w:H[J]?=some (qH L))(S:J∉[K,Q]):N[J]?=some (qH L):=g.at w S
def Po(T:E<16)(F:dN K Q U ((M:Int)-16) R N)(V:bj [K,Q] H N)(P:H[J]?=some (qH L))(a:J∉[K,Q])(c:∀E,E<4->∃g,R[E]?=some (fC g)/\(g=.P->S=true)):DF S L K Q U R G (M+1) H<|dv (dw aw (av I<|O+2) I lh (lI K J G E) N) fR:=by
 obtain⟨w,Z,W,X,b,Y,e,f⟩:=aeq (J:=I) (N:=O) (T:=G) (S:=S) (E:=E) T F (Ai V P a) a c;rcases W with W|⟨g,rfl,W⟩;·show .GJ W X b Y e V f
 ·show .mk _ M Z (.fM W) trivial fx (DG _) Y e<|V.aC f
theorem Pp(t:J∉[K,Q])(XR:∀E,E<4->∃XS,R[E]?=some (fC XS)/\(XS=.P->S=true)):∀(G c M:Nat)(H:ag),G<=3->2^(G+1)<=M+1->dN K Q U ((M:Int)-16) R H->H[J]?=some (qH L)->DF S L K Q U R G M H (av I (c+G+3) 76 [.ref K,ao G,.ref J] H):=by intro G;induction G with|zero=>intro c M H _ j f l;obtain⟨M,rfl⟩:∃p,M=p+1:=⟨M-1,Eq.symm<|iT<|fJ j⟩;obtain⟨E,XT,h,XU,r,Y,w⟩:=Pm (Q:=I) (T:=c+1) (H:=0) (R:=J) f;show w▸Po (h.resolve_left λX4=>tY _ X4.1) r Y l t XR|succ G XW=>
intro c M H XX j f l;obtain⟨M,rfl⟩:∃p,M=p+1:=⟨M-1,by have:=DG<|G+1;show Eq.symm<|iT<|fJ<|aq this j⟩;obtain⟨E,XT,h,XU,r,Y,w⟩:=Pm (Q:=I) (T:=c+G+2) (H:=G+1) (R:=J) f;rw[show c+(G+1)+3=c+G+2+2 by lia,w];clear w;clear j;rcases sy E 16with C|C;·show Po C r Y l t XR
obtain Ye:=DG G;have B:2^(G+1)<=8:=aq (Nat.pow_le_pow_right (by lia)<|show G+1<=3 by lia) (by decide);have A:17<=M:=(h.resolve_right<|Aw.mpr C).2;obtain⟨a,T,Z,m,n,o,X5,X6,s,x⟩:=XW c M XT (ie XX) (aq B<|cB<|aq aR A) r<|Ai Y l t;have q:=vo m;have XY:=Ai x (Ai Y l t) t;obtain XZ:=(by intro _ _ _ _ _ E _ _ _ h i;simp[lh,lI,(Int.not_lt.mpr (Int.ofNat_le.mpr<|Nat.le_trans aR h):¬(E:Int)<3),(Int.not_lt.mpr (Int.ofNat_le.mpr<|Nat.le_trans aR h):¬(E:Int)<12),(Int.not_lt.mpr (Int.ofNat_le.mpr<|Nat.le_of_succ_le h):¬(E:Int)<15),show¬(E:Int)=15from El<|Nat.ne_of_gt<|Nat.lt_of_succ_le h,i]:∀{K J I O G E:Nat}{H N:ag}{P}(h:16<=E)(i:av I (O+1) 76 [.ref K,ao G,.ref J] H=some (.ai P,N)),dv (dw aw (av I<|O+1) I lh (lI K J (G+1) E) H) fR=dv (dw aw (av I<|O+1) I tV [some<|.ref K,some<|ao<|G+1,some<|.ref J,some<|ao E,none,none,some P,none] N) fR) C X6;show(show([some<|aa.ref K,some<|ao<|G+1,some<|.ref J,some<|ao E,none,none,none,none]:ak)=lI K J (G+1) E from rfl)▸XZ▸ ?_;clear h;clear XZ;rcases PX C with rfl|X7;·show .mk (.de a) T Z (.de A q m) n (aq o<|lJ<|by omega) (by simp only[zY];show j1<|jB X5<|by omega) (by simp[tV]) s<|Y.aC x
clear C;rcases sy E 19with D|D;·obtain⟨P,u,V,X8,X9,X0⟩:=lH (N:=I) (O:=c+G+2) (s.aF (M:=[]) (G:=Z++[.list [.str cv,.str cy]]) fp (by simp) (by simp)<|by simp) 3 (by decide);obtain⟨b,g⟩:=Pn L (E:=P)<|iB (J:=3) V;show .mk (.bZ (E==17) a b) T u (.bZ A q m) n (by simp only[OH];show aq o<|by lia) (by simp only[zZ];lia) ((by
intro _ _ _ _ _ _ H _ L _ _ P h w l V g;obtain X2:∀H,la (P:Int) H (some<|qH L)=qz H _:=mT _ P<|lJ<|eI V aR;rcases h with rfl|rfl;·have z:∀(e:Option aM) H,la ((17-17:Nat):Int) H e=la 0 H e:=λ_ _=>rfl;simp(disch:=first|lia|exact Nat.le_of_ble_eq_true rfl) [-getElem?_pos,tV,Pl,eL,z,w,l,X2,g]
·have z:∀(e:Option aM) H,la ((18-17:Nat):Int) H e=la 1 H e:=λ_ _=>rfl;simp(disch:=first|lia|exact Nat.le_of_ble_eq_true rfl) [-getElem?_pos,tV,Pl,eL,z,w,l,X2,g]:∀{K J I O G E:Nat}{H N:ag}{L:aY}{a b P}(h:E=17\/E=18)(w:av I (O+1) 72 [.ref K,.int 3] (H++[.list [.str cv,.str cy]])=some (.ai<|ao P,N))(l:N[J]?=some (qH L))(V:P<3)(g:([.ref L.iZ,.ref L.fX,.ref L.jw]:List aa)[P]?=some (.ref<|L.cA b)),dv (dw aw (av I<|O+1) I tV [some<|.ref K,some<|ao<|G+1,some<|.ref J,some<|ao E,none,none,some<|aD L a,none] H) fR=some (.ai<|aD L<|.bZ (E==17) a b,N)) (by lia) X8 (Ai (fp.aC X0) XY t) (iB (J:=3) V) g) X9<|Y.aC<|x.aC<|fp.aC X0
obtain⟨y,F,u,W,XN,Yb,Yg,Yc,XO,XQ⟩:=XW c T Z (ie XX) (aq B<|yr B A (GS m)<|by simp+arith) s XY;show(by intro _ _ _ _ _ E _ _ _ _ h i;simp[tV,(Int.not_lt.mpr (Int.ofNat_le.mpr h):¬(E:Int)<19),show¬(E:Int)=16from El<|Nat.ne_of_gt<|Nat.lt_of_lt_of_le (Nat.lt_add_left 2 iW) h,i]:∀{K J I O G E:Nat}{H N:ag}{P X3}(h:19<=E)(i:av I (O+1) 76 [.ref K,ao G,.ref J] H=some (.ai X3,N)),dv (dw aw (av I<|O+1) I tV [some<|.ref K,some<|ao<|G+1,some<|.ref J,some<|ao E,none,none,some P,none] H) fR=dv (dw aw (av I<|O+1) I Ag [some<|.ref K,some<|ao<|G+1,some<|.ref J,some<|ao E,none,none,some P,some X3] N) fR) D Yc▸ ?_;clear s;rcases PX D with rfl|D;·show .mk (pz a y) F u (.rd (.inl rfl) A q (vo W) m W) (aek n XN<|by lia) (by have:=aei a y;show aq this<|by omega) (by have:=aej a y;show j1<|m6<|by lia) (by simp[Ag,aeg (G:=I) (H:=c+G+1) (I:=L) a y u (Nat.le_trans o<|Nat.le_trans B aR)<|Nat.le_trans Yb<|Nat.le_trans B aR]) XO<|Y.aC<|x.aC XQ
clear X7;rcases PX D with rfl|Yd;·show .mk (.bF a y) F u (.rd (.inr<|.inl rfl) A q (vo W) m W) ⟨n,XN⟩ (by simp only[H0];omega) (by simp only[z0];lia) (by simp[Ag]) XO<|Y.aC<|x.aC XQ
clear D;obtain rfl:=i7 (i9 XU) Yd;show .mk (.bU a y) F u (.rd (.inr<|.inr rfl) A q (vo W) m W) ⟨n,XN⟩ (by simp only[OI];lia) (by simp only[z7];lia) (by simp[Ag,aeh (G:=I) (H:=c+G+2) (I:=L) a y u]) XO<|Y.aC<|x.aC XQ
end
def gr(P:bu)(F:aW)(U:au)(w:Nat)(g:List<|Option aa)(J:aa)(Q:aa):af aa:=af.aN (nk w g Q) λR=>af.aN (cG P F U R) λG=>nY J G
def DH(J:aa)(_:Unit):af aa:=af.bg J
def tW(P:bu)(w:aW)(U:au)(E:Nat)(O:List Nat)(F:ak)(K:aa):af aa:=λg=>dv (kL (uo (gr P w U E (O.map λJ=>(F[J]?).join)<|.ref g.length) K)<|g++[.list []])<|DH<|.ref g.length
def Pq(P:bu)(w:aW)(U:au)(O:List Nat)(F:ak)(K:aa):af aa:=kJ K λN=>af.d4 (decide (0<=N)&&decide (N<=1000)) λg=>dv (kL (kK (gr P w U 1 (O.map λJ=>(F[J]?).join)<|.ref g.length)<|jF N)<|g++[.list []])<|DH<|.ref g.length
section
variable{P:bu}{G:aW}{H:ak}{E:ag}{I:Nat}
@[simp]theorem ame(U:au)(F:Nat)(O:List Nat)(K:aa):Cq P G U F O H K E=tW P G U F O H K E:=rfl
@[simp]theorem amf(U:au)(O:List Nat)(K:aa):Cr P G U O H K E=Pq P G U O H K E:=by cases K<;>rfl
@[simp]theorem amg(J:aa)(I:Unit):DH J I E=some (.ai J,E):=rfl
theorem IF(w:i.length+1<=16000000):nY (.ref E.length) d (E++[.list i])=some (.ai .none,E++[.list<|i++[d]]):=by simp only[abG,eL,jl _ _ _ _ w];simp
def aer{M:aa->af aa}{O:aa->aa}:∀(Y J:List aa),J.length+Y.length<=16000000->(∀Q∈Y,∀J:List aa,J.length+1<=16000000->M Q (E++[.list J])=some (.ai .none,E++[.list<|J++[O Q]]))->kK M Y (E++[.list J])=some (.ai (),E++[.list<|J++Y.map O]):=by intro Y;induction Y with|nil=>intro J _ _;simp[JL]|cons Q L S=>intro J g w;simp only[Ee,zP,w Q (by show List.mem_cons_self) J<|by show Nat.le_trans (Nat.succ_le_succ bD) g,xn,S (J++[O Q]) (by simp at g⊢;show Nat.le_trans (Nat.le_of_eq gM) g) λQ T=>w Q<|dI T,List.append_assoc];rfl
theorem aes{M:aa->af aa}{F:aa->aa}(I:E[a]?=some (.list i)):∀(O J:Nat)(H:List aa),i.length-J+1<=O->H.length+(i.length-J)<=16000000->(∀Q∈i,∀H:List aa,H.length+1<=16000000->M Q (E++[.list H])=some (.ai .none,E++[.list<|H++[F Q]]))->v9 M a O J (E++[.list H])=some (.ai (),E++[.list<|H++(i.drop J).map F]):=by intro O;induction O with|zero=>intro J H w;lia|succ O S=>
intro J H V g w;change gX (E++[aM.list H])[a]? (λi=>Option.casesOn (motive:=λ_=>af Unit) i[J]? (af.bg ()) λQ=>af.aN (M Q) λ_=>v9 M a O<|J+1) _=_;rw[(gj<|bC I).trans I];dsimp only[gX];rcases sy J<|i.length with G|G;·rw[List.getElem?_eq_getElem G];simp only[zP,w i[J] (List.getElem_mem G) H<|Nat.le_trans (Nat.add_le_add_left (Nat.le_sub_of_add_le<|d8 G<|by simp+arith) _) g,xn,S (J+1) (H++[F i[J]]) (Nat.succ_le_of_lt<|Nat.sub_lt_right_of_lt_add (Nat.succ_le_of_lt G)<|by lia) (by simp;show JW G g) w,List.drop_eq_getElem_cons G,List.map_cons,List.append_assoc];rfl
·rw[List.getElem?_eq_none G,List.drop_eq_nil_of_le G];simp
def Pr{O:aa->aa}(g:i.length<=16000000)(w:∀Q∈i,∀I:List aa,I.length+1<=16000000->gr P G k a (h.map λJ=>(H[J]?).join) (.ref E.length) Q (E++[.list I])=some (.ai .none,E++[.list<|I++[O Q]])):tW P G k a h H (.cM i) E=some (.ai<|.ref E.length,E++[.list<|i.map O]):=by have:=aer (E:=E) (M:=gr P G k a (h.map λJ=>(H[J]?).join)<|.ref E.length) i [] (by simpa using g) w;change dv (kL (af.aN (af.dZ<|some i) λi=>kK _ i)<|E++[.list []]) _=_;unfold kL;simp only[zP,NB,xn,this];rfl
end
section
variable{H J I T L O S Q M:Nat}{K:Int}{N:List aa}{E G:ag}{V:List Nat}{R:aY}{U:Bool}
def sh:List aa:=[fC .P,fC .bV,fC .iD,fC .fX]
def xN:List aa:=[fC .S,fC .bV,fC .iD,fC .fX]
noncomputable def IG:List bo:=[.assign (.c (.ae 1)<|.int 1)<|.bin .m9 (.bin .cV (.bin .oU (.c (.ae 1)<|.int 1)<|.int 31)<|.ae 2)<|.int 1000003]
theorem aet(Y:aW)(Z:aa):∀(e:List Int)(E:ag)(g:Option aa),dN H J I K N E->Gq (λG U=>jT aw Y L 2 IG (e.map .int) [some Z,some<|.ref H,g] E=some (.ai (.aK,[some Z,some<|.ref H,U]),G)) λG U=>dN H J I K N G:=by intro e;induction e with|nil=>intro E g Q;show⟨E,g,rfl,Q⟩|cons O P S=>
intro E g Q;obtain⟨f,F,M,a,b,R,T⟩:=Q.C;generalize h:(f*31+O) %1000003=i;obtain c:0<=i:=by subst h;show Int.emod_nonneg _<|by decide
obtain d:i<1000003:=by subst h;show PW _<|by simp
obtain w:f9 .m9 (.int<|f*31+O) (.int 1000003)=some (.int i):=by change some (aa.int<|(f*31+O) %1000003)=_;rw[h]
have V:dN H J I K N<|E.set H<|.list [.ref J,.int i,.int K,.ref I]:=⟨⟨i,F,c,d,dY<|bC b,(dQ Q.x).trans R,T⟩,(dQ Q.A).trans Q.ig,Q.x,Q.A,Q.I⟩;obtain⟨G,U,X,W⟩:=S _ (some<|.int O) V;show⟨G,U, ?_,W⟩;simp only[List.map_cons,rX];conv=>lhs;unfold IG
simp(disch:=first|lia|exact Nat.le_of_ble_eq_true rfl) [-getElem?_pos,b,(Pg (by lia)<|by simp:f9 .oU (.int f) (.int 31)=some (.int<|f*31)),w,Ph,Pd];show X
theorem aeu:E4=⟨1,3,[.assign (.ae 1)<|.list [.iU (.g .int [.ae 0]) 1 []<|.S (.ae 0)<|.int 40,.int 7,.int 6,.list [.tup [.str ax,.str cm],.tup [.str ax,.str aT],.tup [.str da],.tup [.str ⟨#[116,101,120,116]⟩,.str cn]]],.D 2 (.S (.ae 0)<|.int 40) IG,.ret<|.ae 1]⟩:=rfl
theorem aev(X:List Int)(V:X.length<=63):MI (λH J I G=>av L (O+1) 73 [.cM<|X.map .int] E=some (.ai<|.ref H,G)) λH J I G=>dN H J I 6 sh G:=by
 rw[aO (H:=E4) rfl rfl];obtain c:km (.cM<|X.map .int) none (some<|.int 40)=af.bg (.cM<|(X.take 40).map .int):=by obtain Q:j2 40=true:=vv (K:=40) aR;obtain W:eN (X.map aa.int).length=true:=kB (by simp;show aq V aR);change af.dZ (eJ (j2 40&&eN (X.map aa.int).length)<|aa.cM<|(X.map aa.int).take 40)=_;rw[Q,W,<-List.map_take];rfl
 generalize Y:X.take 40=Z at*;have a:Z.length<=40:=by rw[<-Y];simp;show Nat.min_le_left _ _
 have d:∀F,tW aw F (.g .int [.ae 0]) 1 [] [some<|.cM<|X.map .int,none,none] (.cM<|Z.map .int) E=some (.ai<|.ref E.length,E++[.list<|Z.map .int]):=by intro F;have:=Pr (P:=aw) (G:=F) (H:=[some<|.cM<|X.map .int,none,none]) (E:=E) (k:=.g .int [.ae 0]) (a:=1) (h:=[]) (i:=Z.map .int) (O:=λM=>M) (by simp;show aq a aR) (by intro M T S R;show aB (nU.mp T) ?_;rintro K _ rfl;have w:∀E,dO .int [.int K] E=some (.ai<|.int K,E):=λ_=>rfl;simp only[gr,List.map_nil,show nk 1 [] (.int K)=af.bg [some<|.int K]from rfl];simp[w,IF R]);obtain this:=List.map_map▸this;show this
 obtain⟨G,U,Q,W⟩:=aet (L:=L) (H:=(E++[aM.list<|Z.map .int]++[aM.list sh]).length) (J:=E.length) (I:=(E++[aM.list<|Z.map .int]).length) (K:=6) (N:=sh) (av L O) (.cM<|X.map .int) Z (E++[aM.list<|Z.map .int]++[aM.list sh]++[aM.list [.ref E.length,.int 7,.int 6,.ref (E++[aM.list<|Z.map .int]).length]]) none ⟨⟨7,Z,by decide,by decide,eL,by simp,aq a aR⟩,by simp,by simp,by simp,by simp⟩;show⟨_,_,_,G, ?_,W⟩;simp only[aeu];simp only[sh,fC]at Q;simp only[List.length_append,List.length_cons,List.length_nil,List.append_assoc,List.cons_append,List.nil_append,Nat.zero_add]at Q⊢;simp(disch:=first|lia|exact Nat.le_of_ble_eq_true rfl) [-getElem?_pos,c,d,Q]
end
section
variable{G H:Nat}{E:ag}{I:aY}
def aew(g I M:aa):lu aw (av G<|H+1) 5 [g,I,M] E=some (.ai<|.ref E.length,E++[.bt 5 [(3,g),(4,I),(5,M)]]):=by rw[xG (e:=12) rfl,aO (H:=Ex) rfl rfl];simp(disch:=exact Nat.le_of_ble_eq_true rfl) [-getElem?_pos,-i4,CL,Ex,eL,jk,vB]
def aex(g:aa):lu aw (av G<|H+1) 3 [g] E=some (.ai<|.ref E.length,E++[.bt 3 [(1,g)]]):=by rw[xG (e:=10) rfl,aO (H:=Ew) rfl rfl];simp(disch:=exact Nat.le_of_ble_eq_true rfl) [-getElem?_pos,-i4,CL,Ew,eL,jk,vB]
def aey{M:aa}:lu aw (av G<|H+1) 8 [d,v,M] E=some (.ai<|.ref E.length,E++[.bt 8 [(14,d),(15,v),(16,M),(17,ao 0),(18,.ref<|E.length+1)]]++[.list []]):=by rw[xG (e:=60) rfl,aO (H:=EZ) rfl rfl];simp(disch:=exact Nat.le_of_ble_eq_true rfl) [-List.append_assoc,-zU,-i4,CL,EZ,OX,Im,show aa.int 0=ao 0from rfl]
end
def oO(X:bT×Str):aa:=.tup [.str<|c7 X.1,.str X.2]
def Aj(V:ay):aa:=.cM [.tup [.str<|c7 .bV,V.iZ],.tup [.str<|c7 .B,V.fX],.tup [.str<|c7 .C,V.jw]]
def tX(W:i6)(V:ay):aa:=match W with|.none=>.tup [.none,.cM<|V.bx.map nP,Aj V]|.xt I J H=>.tup [.tup [ao I,ao J,.cM<|H.map oO],.cM<|V.bx.map nP,Aj V]|.dG O=>.tup [.str ⟨#[101,114,114,111,114]⟩,.int O,.cM<|V.bx.map nP]
theorem aez:fu b (a+1) .none=some .none:=rfl
theorem IH(w:a<=1000):fu b (e+1) (ao a)=some (ao a):=by change eJ (pQ (a:Int)) (aa.int a)=_;rw[DE<|by omega];rfl
def aeA(w:p.natAbs<=1000):fu b (a+1) (.int p)=some (.int p):=by change eJ (pQ p) _=_;rw[DE<|Nat.le_trans w aR];rfl
theorem DI(w:uj m=true):fu b (a+1) (.str m)=some (.str m):=by change eJ (uj m) _=_;rw[w];rfl
def Pt{W:aa->Option aa}(F:List aa)(w:∀Q∈F,W Q=some Q):gY W F=some F:=by have:=(by intro _ _;intro F;induction F with|nil=>intro _;show rfl|cons Q L S=>intro w;have:=S λQ T=>w Q<|dI T;simp only[Jp,w Q List.mem_cons_self,this];rfl:∀{W O},∀F:List aa,(∀Q∈F,W Q=some (O Q))->gY W F=some (F.map O)) (O:=λQ=>Q) F w;simpa using this
def Ak{R:List aa}(w:gY (fu b a) i=some R):fu b (a+1) (.tup i)=some (.tup R):=by change(gY (fu b a) i).map aa.tup=_;rw[w];rfl
def DJ{R:List aa}(S:b[e]?=some (.list i))(w:gY (fu b a) i=some R):fu b (a+1) (.ref e)=some (.cM R):=by change AE b[e]? (λi=>(gY (fu b a) i).map aa.cM)=_;rw[S];change(gY (fu b a) i).map aa.cM=_;rw[w];rfl
def Pu(w:gJ<|.str m):uj m=true:=by generalize T:aa.str m=Q at w;induction w with|gu _=>contradiction|cW=>obtain rfl:=aa.str.inj T;rfl|fL H W=>obtain rfl:=aa.str.inj T;show gB.mpr ?_;intro M g;rcases W M g with rfl|rfl|rfl|rfl<;>rfl
def FF(w:gJ d):fu b (a+1) d=some d:=by induction w with| @gu N g=>show IH<|aq g aR|cW=>show DI<|Pu .cW|fL H W=>show DI<|Pu<|.fL H W
theorem Al(N:bT):uj (c7 N)=true:=by induction N using bT.casesOn<;>rfl
theorem kG{W:aa->Option aa}{Y:List aa}(H:W d=some v)(g:gY W i=some Y):gY W (d::i)=some (v::Y):=by rw[Jp,H,g];rfl
def Am(H:uj m=true)(W:gJ d):fu b (a+2) (.tup [.str m,d])=some (.tup [.str m,d]):=Ak<|kG (DI H)<|kG (FF W) rfl
def II{V:ay}(w:di V)(S:b[a]?=some (.list<|V.bx.map nP)):fu b (e+3) (.ref a)=some (.cM<|V.bx.map nP):=by show DJ S<|Pt _ ?_;intro Q T;show aB (nU.mp T) ?_;rintro X I rfl;show Am (Al _)<|w.bx X I
def aeB{H:dF}(w:∀X∈H,gJ<|.str X.2)(S:b[a]?=some (.list<|H.map oO)):fu b (e+3) (.ref a)=some (.cM<|H.map oO):=by show DJ S<|Pt _ ?_;intro Q T;show aB (nU.mp T) ?_;rintro X I rfl;show Am (Al _)<|w X I
def Pw{V:ay}(w:oG V)(S:b[a]?=some (.list [.tup [.str<|c7 .bV,V.iZ],.tup [.str<|c7 .B,V.fX],.tup [.str<|c7 .C,V.jw]])):fu b (e+3) (.ref a)=some (Aj V):=DJ S<|kG (Am (Al _) w.iZ)<|kG (Am (Al _) w.fX)<|kG (Am (Al _) w.jw) rfl
def Bd{S:Option aM}{W:List aa->Option c}{H:c}(w:AE S W=some H):qp (λF=>S=some (.list F)) λF=>W F=some H:=by
 rcases S with-|(F|_|_);·show bQ w
 ·show⟨F,rfl,w⟩
 ·show bQ w
 ·show bQ w
def aeC(w:∀(J:Nat)(F:List aa),b[J]?=some (aM.list F)->u[J]?=some (aM.list F)):∀(O:Nat)(Q R:aa),fu b O Q=some R->fu u O Q=some R:=by intro O;induction O with|zero=>intro Q R w;show bQ w|succ O S=>
have N:∀F I,gY (fu b O) F=some I->gY (fu u O) F=some I:=by intro F;induction F with|nil=>intro I w;show w|cons Q L M=>intro I G;show aB (D3.mp G) λR g G=> ?_;show aB (kI.mp G) λY H G=> ?_;show kG (S _ _ g) (M _ H)|>.trans (congrArg some G)
intro Q R T;cases Q with|tup F=>
replace T:(gY (fu b O) F).map aa.tup=some R:=T;change(gY (fu u O) F).map aa.tup=some R;rcases E:gY (fu b O) F with _|Y;·rw[E]at T;show bQ T
·rw[E]at T;rw[N _ _ E];show T|ref J=>obtain⟨F,K,T⟩:=Bd T;show aB (kI.mp T) λY E T=> ?_;show(DJ (w J F K)<|N _ _ E).trans<|congrArg some T|_=>show T
def kH(g w:ag):Prop:=gV (g.length<=w.length)<|∀J,J<g.length->(∀Q,g[J]?≠some (.bt 6 Q))->w[J]?=g[J]?
def kH.at(N:kH b u)(w:b[a]?=some s)(V:∀Q,s≠.bt 6 Q):u[a]?=some s:=(N.2 a (bC w) λQ Y=>V Q<|by rw[w]at Y;obtain rfl:=bO Y;rfl).trans w
def kH.lb(N:kH b u)(F:List aM):kH b<|u++F:=⟨aq N.1<|by simp,λJ S V=>(sm<|eI S N.1).trans<|N.2 J S V⟩
def qI(S:Nat)(E:aS)(V:ay):aM:=.dict [(b2,ao E.wU),(a8,.str E.wV),(aT,V.iZ),(ck,V.fX),(a5,V.jw),(cm,.ref S)]
structure An(Z:aY)(E:aS)(V:ay)(w H S:Nat)(g:ag):Prop where
ml:g[w]?=some (qI S E V)
q:g[H]?=some (.list<|if E.uZ then [.str a5]else [])
s:g[S]?=some (.bt 3 [(1,aD Z E.l)])
eK:∀N,g[Z.cA N]?=some (.bt 5 [(3,.str c4),(4,.none),(5,.str<|c7 N)])
def An.gc{Z:aY}{E:aS}{V:ay}(w:An Z E V a e r b)(N:kH b u):An Z E V a e r u:=⟨N.at w.ml<|by intro Q Y;contradiction,N.at w.q<|by intro Q Y;contradiction,N.at w.s<|by intro Q Y;simp at Y,λJ=>N.at (w.eK J)<|by intro Q Y;simp at Y⟩
section
variable{R S:Nat}{E:ag}{H:aY}{I:cQ}{J:aS}{G U:ay}{L M Q K:Nat}{O:aj}{N:Bool}{T:i6}
@[simp]theorem amh(J:Nat):dO .dict [.ref J] E=AR E[J]? E:=rfl
theorem ami:AR (some<|qI K J G)=af.ll (qI K J G):=rfl
theorem aeD:f9 .vV (.int 10) (.int 9)=some (.int 1000000000):=rfl
def Px{N:af<|aV×ak}{w:Int->af (aV×ak)}{H:aV×ak}(Y:N E=some (.ai H,b)):pT N w E=some (.ai H,b):=by unfold pT;rw[Y]
def aeE{N:af<|aV×ak}{w:Int->af (aV×ak)}(Y:N E=some (.cR p,b)):pT N w E=w p b:=by unfold pT;rw[Y]
def IJ(G:ay)(Q:aa):aa:=.tup [Q,match Q with|.str K=>if K=c7 .bV then G.iZ else if K=c7 .B then G.fX else G.jw|_=>.none]
def aeF{e M Z K j:Option aa}(w:bJ I H J G L E):tW aw f (.tup [.ae 0,.c (.attr (.ae 1) 14)<|.ae 0]) 1 [6] [y,D,e,M,Z,K,some<|.ref I.e,j] (.tup [.str<|c7 .bV,.str<|c7 .B,.str<|c7 .C]) E=some (.ai<|.ref E.length,E++[.list [.tup [.str<|c7 .bV,G.iZ],.tup [.str<|c7 .B,G.fX],.tup [.str<|c7 .C,G.jw]]]):=by
 show(by intro _ _ _ _ _ _ _ _ _ V w;show Pr V w:∀{P:bu}{f:aW}{F:ak}{E:ag}{U:au}{h:Nat}{c:List Nat}{Y:List aa}{O:aa->aa}(V:Y.length<=16000000)(w:∀Q∈Y,∀d:List aa,d.length+1<=16000000->gr P f U h (c.map λS=>(F[S]?).join) (.ref E.length) Q (E++[.list d])=some (.ai .none,E++[.list<|d++[O Q]])),tW P f U h c F (.tup Y) E=some (.ai<|.ref E.length,E++[.list<|Y.map O])) (O:=IJ G) (by decide) ?_;intro Q T d b;obtain W:=w.lb<|.list d;obtain R:∀Q,nk 1 [some<|.ref I.e] Q=af.bg [some Q,some<|.ref I.e]:=λ_=>rfl;obtain X:=W.e;obtain a:=W.m;unfold gS at X;unfold pE at a;have i:∀N:bT,gr aw f (.tup [.ae 0,.c (.attr (.ae 1) 14)<|.ae 0]) 1 [some<|.ref I.e] (.ref E.length) (.str<|c7 N) (E++[.list d])=some (.ai .none,E++[.list<|d++[IJ G<|.str<|c7 N]]):=by intro N;rw[<-IF b];unfold gr;rw[R];induction N using bT.casesOn<;>simp[-getElem?_pos,X,a,c7,IJ]
 simp only[List.mem_cons,List.not_mem_nil,or_false]at T;rcases T with rfl|rfl|rfl;·show i .bV
 ·show i .B
 ·show i .C
def IK(E:ag)(Q:aa):aa:=match Q with|.tup [.ref L,K]=>.tup [match E[L]?with|some<|.bt _ g=>(nh g 5).getD .none|_=>.none,K]|_=>.none
def aeG{W:dF}(w:bJ I H J G L E)(b:E[a]?=some (.list<|W.map<|lg H))(V:W.length<=16000000):tW aw f (.tup [.attr (.ae 0) 5,.ae 1]) 2 [] j (.ref a) E=some (.ai<|.ref E.length,E++[.list<|W.map oO]):=by
 have i:∀X,IK E (lg H X)=oO X:=by intro X;delta lg IK oO;simp only[w.eK X.1];rfl
 have:=(by
 intro P f j E U h c e Y _ M S w;have R:yj e (E++[aM.list []])=Y.length:=by unfold yj;rw[(gj<|bC M).trans M]
 have:=aes (E:=E) (M:=gr P f U h (c.map λK=>(j[K]?).join)<|.ref E.length) M (Y.length+1) 0 [] aH (by simpa using S) w;change dv (kL (λN=>v9 _ e (yj e N+1) 0 N)<|E++[.list []]) _=_;unfold kL;dsimp only;rw[R,this];rfl:∀{P:bu}{f:aW}{j:ak}{E:ag}{U h c e Y O}(M:E[e]?=some (.list Y))(S:Y.length<=16000000)(w:∀Q∈Y,∀d:List aa,d.length+1<=16000000->gr P f U h (c.map λK=>(j[K]?).join) (.ref E.length) Q (E++[.list d])=some (.ai .none,E++[.list<|d++[O Q]])),tW P f U h c j (.ref e) E=some (.ai<|.ref E.length,E++[.list<|Y.map O])) (P:=aw) (f:=f) (j:=j) (E:=E) (U:=.tup [.attr (.ae 0) 5,.ae 1]) (h:=2) (c:=[]) (e:=a) (Y:=W.map<|lg H) (O:=IK E) b (by simpa using V) (by intro Q T d k;show aB (nU.mp T) ?_;clear T;rintro X Z rfl;rw[i,<-IF k];unfold gr;simp only[List.map_nil,show nk 2 [] (lg H X)=af.bg [some<|.ref<|H.cA X.1,some<|.str X.2]from rfl];simp[-getElem?_pos,(w.lb<|.list d).eK X.1,oO]);rw[this,List.map_map];congr 5;apply List.map_congr_left;intro X _;show i X
end
section
variable{K R:Nat}{H:ag}{J:aY}{G:cQ}{I:aS}{E U:ay}{L M Q S:Nat}{O:aj}{N:Bool}{T:i6}
noncomputable def xO:List bo:=[.b (.ae 0) [.assign (.ae 7)<|.call 59 [.ae 1,.ae 2,.ae 3,.ae 6]] [.assign (.ae 7)<|.call 64 [.ae 1,.ae 2,.ae 3,.ae 6]]]
noncomputable def DK:bo:=.b (.o<|.ae 7) [.assign (.ae 7)<|.tup [.c (.ae 7)<|.int 0,.c (.ae 7)<|.int 1,.iU (.tup [.attr (.ae 0) 5,.ae 1]) 2 []<|.c (.ae 7)<|.int 2]] []
def wK:bo:=.ret<|.tup [.ae 7,.attr (.ae 6) 18,.iU (.tup [.ae 0,.c (.attr (.ae 1) 14)<|.ae 0]) 1 [6]<|.tup [.str<|c7 .bV,.str<|c7 .B,.str<|c7 .C]]
def xP:List bo:=[DK,wK]
noncomputable def IL:Str:=⟨#[101,114,114,111,114]⟩
theorem aeH:E7=⟨6,8,.assign (.ae 6) (.mk 8 [.g .dict [.ae 4],.bin .vV (.int 10)<|.int 9,.ae 5])::.vY xO IL (.attr (.ae 6) 18)::xP⟩:=rfl
def Ao(I:aS):i6->Prop|.none=>True|.xt g J H=>g<=I.aJ/\J<=I.aJ/\(∀X∈H,gJ<|.str X.2)/\H.length<=600000|.dG O=>O.natAbs<=1000
def DL(E:ay):List aa:=[.tup [.str<|c7 .bV,E.iZ],.tup [.str<|c7 .B,E.fX],.tup [.str<|c7 .C,E.jw]]
def Py{M:aV×ak->af aa}{F N Z g:Option aa}(w:bJ G J I E L H):iR aw f K wK [y,D,F,N,Z,g,some<|.ref G.e,some d] M H=M (.ret<|.tup [d,.ref G.k,.ref H.length],[y,D,F,N,Z,g,some<|.ref G.e,some d]) (H++[.list<|DL E]):=by obtain W:=w.e;unfold gS at W;unfold wK;simp[W,aeF (f:=f) (y:=y) (D:=D) (e:=F) (M:=N) (Z:=Z) (K:=g) (j:=some d) w,DL]
end
section
variable{I M:Nat}{E:ag}{K:aY}{G:cQ}{H:aS}{J U:ay}{T Q L R:Nat}{O:aj}{N:Bool}{S:i6}
def kH.aC{E:ag}(H:kH E b)(I:kH b u):kH E u:=⟨aq H.1 I.1,λJ S V=>by have g:=H.2 J S V;show(I.2 J (eI S H.1) λQ Y=>V Q<|g▸Y).trans g⟩
def aeI{G:cQ}{F:List aM}(N:jn G (E++F) b)(H:E.length<=G.e)(W:E.length<=G.m)(w:E.length<=G.k):kH E b:=by show⟨aq (by simp) N.1,λJ S V=> ?_⟩;obtain g:(E++F)[J]?=E[J]?:=sm S;show g▸N.2 J (by simp;show pO _ S) ?_ (by show g▸V);simp;show And.intro (gL<|eI S H)<|And.intro (gL<|eI S W)<|gL<|eI S w
def Pz(k:Bool)(h:An K H J Q L R E)(XZ:J.bx=[])(X0:H.aJ<=4) (XU:∀G u,jX G K->bJ G K H J 0 u->IA G K H U 16000000 u S (av I (M+1) (if k then 59 else 64) [aD K O,.str H.f,.bool N,.ref G.e] u))(q:Ao H S)(A:di U):tm (λf i=>av I (M+2) 77 [.bool k,aD K O,.str H.f,.bool N,.ref Q,.ref L] E=some (.ai<|.tup f,i)) (λf i=>fu i 8 (.tup f)=some (tX S U)) λf i=>kH E i:=by
 obtain D:=λY=>bC<|h.eK Y;let G:cQ:=⟨E.length+1,E.length,E.length+2,L,R⟩;generalize XW:E++[qI R H J]++[aM.bt 8 [(14,.ref E.length),(15,.int 1000000000),(16,.ref L),(17,ao 0),(18,.ref<|E.length+2)]]++[aM.list []]=u;have g:u=E++[qI R H J,aM.bt 8 [(14,.ref E.length),(15,.int 1000000000),(16,.ref L),(17,ao 0),(18,.ref<|E.length+2)],aM.list []]:=by show XW.symm.trans ?_;simp
 have C:∀{X:Nat}{XN:aM},E[X]?=some XN->u[X]?=some XN:=λ{X XN} w=>by rw[g,List.getElem?_append_left<|bC w];show w
 obtain XO:=aey (G:=I) (H:=M) (E:=E++[qI R H J]) (d:=.ref E.length) (v:=.int 1000000000) (M:=.ref L);obtain⟨p,Yc,Yd,r,X2,s⟩:=XU G u (⟨by simp[G],by simp[G],by simp[G];show n0<|bC h.q,n0<|bC h.s,by simp[G],by simp[G];show d7<|bC h.q,d7<|bC h.s,n0<|bC h.q,n0<|bC h.s,λY=>by have:=D Y;show n0 this,λY=>by have:=D Y;show d7 this,λY=>by have:=D Y;show n0 this⟩)<|⟨by rw[g,List.getElem?_append_right<|by simp[G]];simp[G,gS],by rw[g,List.getElem?_append_right<|by simp[G]];simp[G,pE,qI],by rw[g,List.getElem?_append_right<|by simp[G]];simp[G,XZ],C h.q,C h.s,λY=>C<|h.eK Y⟩;clear XU;have XQ:kH E p:=aeI (G:=G) (F:=[qI R H J,aM.bt 8 [(14,.ref E.length),(15,.int 1000000000),(16,.ref L),(17,ao 0),(18,.ref<|E.length+2)],aM.list []]) (by rw[<-g];show X2) (by simp[G]) (by simp[G]) (by simp[G]);have X3:∀X:Nat,E[X]?=some (qI R H J)->AR E[X]? E=some (.ai<|.ref E.length,E++[qI R H J]):=λX w=>by rw[w];rfl
 simp only[List.length_append,List.length_cons,List.length_nil,Nat.zero_add]at XO;have X4:∀e,av I (M+1) (if k then 59 else 64) [aD K O,.str H.f,.bool N,.ref G.e] u=some (.cR e,p)->dw aw (av I<|M+1) I xO [some<|.bool k,some<|aD K O,some<|.str H.f,some<|.bool N,some<|.ref Q,some<|.ref L,some<|.ref G.e,none] u=some (.cR e,p):=by
  intro f m;unfold xO;induction k;·simp only[Bool.false_eq_true,if_false]at m;simp[m]
  ·simp only[if_true]at m;simp[m]
 have XX:∀f,av I (M+1) (if k then 59 else 64) [aD K O,.str H.f,.bool N,.ref G.e] u=some (.ai f,p)->dw aw (av I<|M+1) I xO [some<|.bool k,some<|aD K O,some<|.str H.f,some<|.bool N,some<|.ref Q,some<|.ref L,some<|.ref G.e,none] u=some (.ai (.aK,[some<|.bool k,some<|aD K O,some<|.str H.f,some<|.bool N,some<|.ref Q,some<|.ref L,some<|.ref G.e,some f]),p):=by
  intro f m;unfold xO;induction k;·simp only[Bool.false_eq_true,if_false]at m;simp[-getElem?_pos,m]
  ·simp only[if_true]at m;simp[-getElem?_pos,m]
 rw[XW]at XO;obtain X5:av I (M+2) 77 [.bool k,aD K O,.str H.f,.bool N,.ref Q,.ref L] E=bM (iF aw (av I<|M+1) I xP fR) (pT (dw aw (av I<|M+1) I xO [some<|.bool k,some<|aD K O,some<|.str H.f,some<|.bool N,some<|.ref Q,some<|.ref L,some<|.ref G.e,none]) (Cs aw (av I<|M+1) IL (.attr (.ae 6) 18) [some<|.bool k,some<|aD K O,some<|.str H.f,some<|.bool N,some<|.ref Q,some<|.ref L,some<|.ref G.e,none]) u):=by rw[aO (H:=E7) rfl rfl,aeH];simp(disch:=exact aH) [-getElem?_pos,X3 Q h.ml,XO,aeD,G]
 show X5▸ ?_;rcases S with _|⟨V,X,n⟩|e;·obtain⟨f,i,XR,W,o⟩:=(by
  intro I E _ G _ J _ j B z x y Z t w A;show⟨[.none,.ref G.k,.ref E.length],E++[.list<|DL J], ?_, ?_,kH.lb ⟨aH,λ_ _ _=>rfl⟩ _⟩;·delta xP DK;simp[λXS=>Py (K:=I) (M:=XS) (f:=j) (y:=B) (D:=z) (F:=x) (N:=y) (Z:=Z) (g:=t) (d:=.none) w]
  ·show Ak (kG aez<|kG (II A<|(gj<|bC w.k).trans w.k)<|kG (Pw A.N eL) rfl):∀{I:Nat}{E:ag}{K:aY}{G:cQ}{H:aS}{J:ay}{T:Nat}{j B z x y Z t}(w:bJ G K H J T E)(A:di J),tm (λf i=>dX aw j I xP [B,z,x,y,Z,t,some<|.ref G.e,some .none] fR E=some (.ai<|.tup f,i)) (λf i=>fu i 8 (.tup f)=some (tX .none J)) λf i=>kH E i) (I:=I) (j:=av I<|M+1) (B:=some<|.bool k) (z:=some<|aD K O) (x:=some<|.str H.f) (y:=some<|.bool N) (Z:=some<|.ref Q) (t:=some<|.ref L) r A;simp only[Px<|XX _ s,xn,i4];show⟨f,i,XR,W,XQ.aC o⟩
 ·show cC s λP s Ye X6=> ?_;rw[Px<|XX _ s,xn,i4];obtain⟨f,i,XR,W,o⟩:=(by
  intro I E _ G _ J _ j B z x y Z t V X P n XT w A q XY;show pU q λX7 X8 X9 Yb=> ?_;obtain W:=w.lb<|.list<|n.map oO;show⟨[.tup [ao V,ao X,.ref E.length],.ref G.k,.ref (E++[aM.list<|n.map oO]).length],E++[.list<|n.map oO]++[.list<|DL J], ?_, ?_,kH.lb (kH.lb ⟨aH,λ_ _ _=>rfl⟩ _) _⟩
  ·obtain g:jr aw j I DK [B,z,x,y,Z,t,some<|.ref G.e,some<|.tup [ao V,ao X,.ref P]] E=some (.ai (.aK,[B,z,x,y,Z,t,some<|.ref G.e,some<|.tup [ao V,ao X,.ref E.length]]),E++[.list<|n.map oO]):=by unfold DK;simp(disch:=exact by decide) [-getElem?_pos,aeG (f:=j) (j:=[B,z,x,y,Z,t,some<|.ref G.e,some<|.tup [ao V,ao X,.ref P]]) w XY<|Nat.le_trans Yb aR]
   unfold xP;rw[k8,kA,g,jS,i4,k8,λXS=>Py (K:=I) (M:=XS) (f:=j) (y:=B) (D:=z) (F:=x) (N:=y) (Z:=Z) (g:=t) (d:=.tup [ao V,ao X,.ref E.length]) W,aa5];rfl
  ·show Ak (kG (Ak<|kG (IH<|aq X7<|aq XT aR)<|kG (IH<|aq X8<|aq XT aR)<|kG (aeB X9<|(gj<|by simp).trans eL) rfl)<|kG (II A<|(gj<|bC W.k).trans W.k)<|kG (Pw A.N eL) rfl):∀{I:Nat}{E:ag}{K:aY}{G:cQ}{H:aS}{J:ay}{T:Nat}{j B z x y Z t V X P n}(XT:H.aJ<=4)(w:bJ G K H J T E)(A:di J)(q:Ao H<|.xt V X n)(XY:E[P]?=some (.list<|n.map<|lg K)),tm (λf i=>dX aw j I xP [B,z,x,y,Z,t,some<|.ref G.e,some<|.tup [ao V,ao X,.ref P]] fR E=some (.ai<|.tup f,i)) (λf i=>fu i 8 (.tup f)=some (tX (.xt V X n) J)) λf i=>kH E i) (I:=I) (j:=av I<|M+1) (B:=some<|.bool k) (z:=some<|aD K O) (x:=some<|.str H.f) (y:=some<|.bool N) (Z:=some<|.ref Q) (t:=some<|.ref L) X0 r A q X6;show⟨f,i,XR,W,XQ.aC o⟩
 ·obtain o:=r.e;rw[aeE<|X4 e s];unfold gS at o;show⟨[.str IL,.int e,.ref G.k],p, ?_, ?_,XQ⟩;·simp[Cs,o]
  ·show Ak<|kG (DI rfl)<|kG (aeA q)<|kG (II A r.k) rfl
end
def aeJ{E:aS}{V:ay}{N:bX}{U:dM}(w:mL E V N U=.dG p):p.natAbs<=1000:=by
 have M:∀Q,nJ Q=.dG p->p.natAbs<=1000:=by
  intro Q w;unfold nJ at w;split at w;·contradiction
  ·split at w;·contradiction
   ·split at w;·contradiction
    ·cases w;decide
  ·cases w;decide
 have K:∀Q,oy Q=.dG p->p.natAbs<=1000:=by
  intro Q w;unfold oy at w;split at w;·contradiction
  ·split at w;·cases w;decide
   ·contradiction
  ·cases w;decide
 unfold mL at w;split at w;·injection w
 ·cases w;decide
 ·split at w;·show M _ w
  ·show K _ w
def aeK{E:aS}{V:ay}{F:aj}(w:hW E V a F=.dG p):p.natAbs<=1000:=by
 have S:∀G:Option Nat,ix.cA G≠.dG p:=by intro G Y;induction G<;>contradiction
 induction F with|bc|d5=>show absurd w<|S _|gg N U=>
 obtain w:B0 E a N (mL E V N U)=.dG p:=w;rcases Y:mL E V N U with _|g|I;·rw[Y]at w;show nomatch show ix.dq=.dG p from w
 ·replace w:=Y▸w;cases w;show aeJ Y
 ·rw[Y]at w;show absurd w<|S _|fz=>show nomatch w|_=>show nomatch show ix.dq=.dG p from w
def aeL{E:aS}{X:dU}{M:List dU}{O:dF}{W:List<|Option cX}{V T:ay}(w:dz E X M a O W V=.F (.dG p) T):p.natAbs<=1000:=by
 have S:∀P,tl (hW E V a P) M O W V=.F (.dG p) T->p.natAbs<=1000:=by intro P w;induction Y:hW E V a P with|dq=>rw[Y]at w;contradiction|dG g=>replace w:=Y▸w;cases w;show aeK Y|«at» J=>rw[Y]at w;contradiction
 have H:∀L Q R,qm E L Q R W V≠.F (.dG p) T:=by
  intro L Q R w;unfold qm at w;rcases Y:hZ E L Q V with _|K;·rw[Y]at w;show nomatch show oz.w W V=.F (.dG p) T from w
  ·rw[Y]at w;show nomatch show oz.dE R W K=.F (.dG p) T from w
 rcases X with G|⟨H,I⟩|⟨F,L,I⟩;·induction G with|bc K=>show S _ w|d5 N U=>show S _ w|gg N U=>show S _ w|fz=>show S .fz w|iO L=>show absurd w<|H _ _ _|fj=>simp only[dz,kY]at w;generalize ji E.f (E.aJ+1-a) a=F at w;rcases F with⟨⟩<;>contradiction|fM U=>simp only[dz,kY]at w;generalize fY E V U=F at w;induction F<;>injection w|eG=>simp only[dz]at w;injection w|_=>cases w
 ·simp only[dz]at w;split at w<;>contradiction
 ·induction F;·show absurd w<|H _ _ _
  ·contradiction
def aeM{E:aS}:∀N R F V O I,gH E N R F V=some (.dG O,I)->O.natAbs<=1000:=by intro N;induction N with
|zero=>intro R F V O I w;obtain⟨T,J,H⟩:=R;rcases T with _|⟨_,_⟩<;>first|show bQ w|show nomatch(dT w).1
|succ N g=>intro R F V O I w;obtain⟨T,J,H⟩:=R;cases T with|nil=>show nomatch(dT w).1|cons P M=>
simp only[gH]at w;rcases Y:dz E P M J H F V with⟨Q,X,K⟩|⟨X,K⟩|⟨S,K⟩;·rw[Y]at w;show g _ _ _ _ _ w
·rw[Y]at w;rcases X with _|⟨G,L⟩;·show nomatch(dT w).1
 ·induction G with|none=>show nomatch(dT w).1|some R=>show g _ _ _ _ _ w
·obtain⟨rfl,rfl⟩:=dT<|Y▸w;show aeL Y
theorem aeN{E:aS}{g:aj}(L:fD E)(K:dh E.l)(P:dh g){V U:ay}{S:d6}(G:a<=E.aJ)(w:di V)(X:qA E g a V S U):Ao E<|xu a S:=by show lO X λZ b I Y F W=> ?_;clear W;clear X;induction S with|fail|lW=>show trivial|lV J H=>show iI ((HU L K _ _ _ _ _ _ _ (F 0) (HV P G) (λR T=>by simp at T) w).2.2 _ _ rfl) λM N Q=> ?_;show kO G M N<|by lia-abstractProof|dG O=>show aeM _ _ _ _ _ _<|F 0
def aeO{E:aS}{N:aj}(P:fD E)(K:dh E.l)(R:dh N){W:i6}{I:ay}:∀{F:List Nat}{V:ay},mm E N F V W I->(∀J∈F,J<=E.aJ)->di V->Ao E W:=by intro F;induction F with|nil=>show λw _ _=>by rw[w.1];trivial|cons J L G=>show λw H g=>w.elim λS w=>w.elim λU w=>w.2.elim (λO=>G O.2 (λM Q=>H M<|dI Q) (Dg P K R (H _ cY) g w.1).2.1) λO=>O.2.1▸aeN P K R (H _ cY) g w.1
theorem aeP{E:aS}(K:E.aJ<=4):zW z E.aJ (mq n E)<=z 0+z 1+z 2+z 3+z 4:=by
 unfold mq;generalize E.aJ=T at*;induction n;·match T,K with|0,_=>simp[qB];show gU<|gU<|gU bD|1,_=>simp[qB,vG,List.range_succ];lia|2,_=>simp[qB,vG,List.range_succ];lia|3,_=>simp[qB,vG,List.range_succ];lia|4,_=>simp[qB,vG,List.range_succ];lia|O+5,w=>lia
 ·match T,K with|0,_=>simp[qB,vG];lia|1,_=>simp[qB];show gU<|gU<|gU aR|2,_=>simp[qB];show gU<|gU aR|3,_=>simp[qB];show gU aR|4,_=>simp[qB,vG]<;>lia|O+5,w=>lia
theorem PA{O:c->aa}:∀F:List c,(∀H∈F,(O H).jq+2<=a)->aa.pS (F.map O)<=a*F.length:=by intro F;induction F with|nil=>intro _;show fx|cons H L S=>intro w;obtain g:=w H (by show cY);obtain W:=S λH E=>w H<|dI E;simp only[List.map_cons,nX,List.length_cons];lia-abstractProof
def PB(w:gJ d):d.jq<=6:=by induction w with| @gu O V=>dsimp only[ao,Jq,uk];rw[decide_eq_true<|Int.natCast_nonneg _,(decide_eq_true (Int.ofNat_lt.mpr<|Nat.lt_succ_of_le V):decide ((O:Int)<10)=true)];decide|cW=>decide|fL H _=>show fI H _
theorem aeQ(N:bT):(aa.str<|c7 N).jq=3:=by induction N using bT.casesOn<;>rfl
theorem Ap{N:bT}(w:gJ d):(aa.tup [.str<|c7 N,d]).jq+2<=18:=by have:=PB w;simp only[AQ,nX,nX,yi,aeQ];lia-abstractProof
theorem aeR{E:aS}{W:i6}{F:ay}(w:di F)(Z:Ao E W)(K:E.aJ<=4)(R:F.bx.length<=200000):(tX W F).jq<=16000000:=by
 have G:aa.pS (F.bx.map nP)<=18*F.bx.length:=PA _ λX U=>Ap<|w.bx X U;have P:(Aj F).jq<=60:=by obtain H:=Ap (N:=.bV) w.N.iZ;obtain I:=Ap (N:=.B) w.N.fX;obtain M:=Ap (N:=.C) w.N.jw;simp only[Aj,D9,nX,nX,nX,yi];show fI (by lia) _
 obtain e:∀N:Nat,N<=4->(ao N).jq<=6:=λN g=>PB<|.gu<|aq g aR;rcases W with _|⟨I,J,S⟩|O;·dsimp only[tX,AQ,Qc,D9,nX,yi];show fI (by lia) _
 ·show pU Z λb L c d=> ?_;obtain T:aa.pS (S.map oO)<=18*S.length:=PA _ λX U=>Ap<|c X U;have Y:=e I<|aq b K;have a:=e J (by lia);dsimp only[tX,AQ,D9,nX,yi];show fI (by lia) _
 ·obtain Q:(aa.int O).jq<=25:=by simp only[Jq];unfold uk;split<;>lia
  rw[tX,AQ,nX,nX,nX,yi,show(aa.cM<|F.bx.map nP).jq=aa.pS (F.bx.map nP)+2from rfl,(by rfl:(aa.str ⟨#[101,114,114,111,114]⟩).jq=7)];show fI (by lia) _
section
variable{H I:Nat}{E:ag}{G K J:Nat}{L:Int}{M:List aa}
noncomputable def amj:aa:=.str c4
noncomputable def lj(N:Str):aM:=.bt 5 [(3,.str c4),(4,.none),(5,.str N)]
noncomputable def DM:au:=.mk 5 [.str c4,.none,.ae 0]
theorem aeS{S:aM}{Z:List aM}:(E++S::Z).set E.length s=E++s::Z:=by rw[List.set_append_right _ _ aH,Nat.sub_self];rfl
theorem aeT{Z:List aM}:(E++s::Z)[E.length]?=some s:=by rw[List.getElem?_append_right aH,Nat.sub_self];rfl
def IM{Z:List aM}(F:i.length+1<=16000000):gr aw (av H<|I+1) DM 1 [] (.ref E.length) (.str m) (E++aM.list i::Z)=some (.ai .none,E++aM.list (i++[.ref<|E.length+1+Z.length])::(Z++[lj m])):=by
 obtain M:=aew (G:=H) (H:=I) (E:=E++aM.list i::Z) (.str c4) .none<|.str m;obtain g:(E++aM.list i::Z).length=E.length+1+Z.length:=by simp;show Eq.symm gM
 obtain w:=NR (G:=E.length) (Q:=.ref<|E.length+1+Z.length) (E:=E++aM.list i::(Z++[lj m]));obtain w:nY (.ref E.length) (.ref<|E.length+1+Z.length) (E++aM.list i::(Z++[lj m]))=_:=w;rw[(by simp[lj]:E++aM.list i::Z++[aM.bt 5 [(3,.str c4),(4,.none),(5,.str m)]]=E++aM.list i::(Z++[lj m]))]at M;rw[g]at M;rw[aeT,jl _ _ _ _ F,aeS]at w;unfold gr;rw[show nk 1 [] (.str m)=af.bg [some<|.str m]from rfl];simp[DM,M,w]
def aeU:tW aw (av H<|I+1) DM 1 [] j (.tup [.str<|c7 .bV,.str<|c7 .B,.str<|c7 .C]) E=some (.ai<|.ref E.length,E++[.list [.ref<|E.length+1,.ref<|E.length+2,.ref<|E.length+3],lj<|c7 .bV,lj<|c7 .B,lj<|c7 .C]):=by
 change dv (kL (af.aN (af.dZ<|some [.str<|c7 .bV,.str<|c7 .B,.str<|c7 .C]) λY=>kK _ Y)<|E++[.list []]) _=_;obtain J:=IM (H:=H) (I:=I) (E:=E) (m:=c7 .bV) (i:=[]) (Z:=[]) (by simp);obtain R:=IM (H:=H) (I:=I) (E:=E) (m:=c7 .B) (i:=[.ref<|E.length+1]) (Z:=[lj<|c7 .bV]) (by simp);obtain w:=IM (H:=H) (I:=I) (E:=E) (m:=c7 .C) (i:=[.ref<|E.length+1,.ref<|E.length+2]) (Z:=[lj<|c7 .bV,lj<|c7 .B]) (by simp);dsimp only[List.length_nil,List.length_cons,List.nil_append,List.cons_append,Nat.add_zero,Nat.zero_add,Nat.add_assoc,Nat.reduceAdd]at J R w;rw[Qh (H:=()) (J:=E++[.list [.ref<|E.length+1,.ref<|E.length+2,.ref<|E.length+3],lj<|c7 .bV,lj<|c7 .B,lj<|c7 .C])];·rfl
 ·simp only[List.map_nil,Ee,JL,zP,NB,J,R,w,xn,aa6]
noncomputable def mx(M:Nat):aa:=.str ⟨#[M]⟩
def Aq(M:Nat):Prop:=M=97\/M=98\/M=40\/M=41
noncomputable def IP:Str:=⟨#[97,98,40,41,97,97,98]⟩
theorem aeV(w:a<7):qp (λM=>cF IP a (a+1)=⟨#[M]⟩) λM=>Aq M:=by match a,w with|0,_=>show⟨97,rfl,.inl rfl⟩|1,_=>show⟨98,rfl,.inr<|.inl rfl⟩|2,_=>show⟨40,rfl,.inr<|.inr<|.inl rfl⟩|3,_=>show⟨41,rfl,.inr<|.inr<|.inr rfl⟩|4,_=>show⟨97,rfl,.inl rfl⟩|5,_=>show⟨97,rfl,.inl rfl⟩|6,_=>show⟨98,rfl,.inr<|.inl rfl⟩|O+7,w=>lia-abstractProof
def xQ:au:=.c (.str IP)<|.call 72 [.ae 1,.int 7]
def aeW:∀G:List Nat,yh (G.map mx)=some ⟨G.toArray⟩:=by intro G;induction G with|nil=>show rfl|cons M L S=>change(yh<|L.map mx).map ((⟨#[M]⟩:Str)++·)=_;rw[S];change some ((⟨#[M]⟩:Str)++⟨L.toArray⟩)=_;congr 1;apply tA;rw[tC];rfl
def aeX(g:h.length<=100)(w:E[a]?=some (.list<|h.map mx)):dO .qM [.str ⟨#[]⟩,.ref a] E=some (.ai<|.str ⟨h.toArray⟩,E):=by change JI E[a]? ⟨#[]⟩ E=_;rw[w];change af.dZ (bif Nat.ble (h.map mx).length 100then(yh<|h.map mx).bind λJ=>eJ (Nat.ble J.length 1000)<|aa.str J else none) E=_;rw[Nat.ble_eq_true_of_le<|by simpa using g,aeW];change af.dZ (eJ (Nat.ble h.toArray.size 1000)<|aa.str ⟨h.toArray⟩) E=_;rw[(Nat.ble_eq_true_of_le (Nat.le_trans g<|by decide):Nat.ble h.toArray.size 1000=true)];rfl
theorem aeY(V:a<=4)(e:(j[1]?).join=some (.ref G))(Z:dN G K J L M E):MH (λ(T:ag)(t:List Nat)=>Pq aw (av H<|I+1) xQ [1] j (ao a) E=some (.ai<|.ref E.length,T)) (λ(T:ag)(t:List Nat)=>T[E.length]?=some (.list<|t.map mx)) (λ(T:ag)(t:List Nat)=>t.length<=4) (λ(T:ag)(t:List Nat)=>∀P∈t,Aq P) (λ(T:ag)(t:List Nat)=>dN G K J L M T) λ(T:ag)(t:List Nat)=>bj [G,K] E T:=by obtain⟨T,t,U,W,f,h,q,r⟩:=(by intro H I G K J L M F m;simp only[List.mem_cons,List.not_mem_nil,or_false,not_or]at m;show iI m λC R z=> ?_;intro Y;induction Y with|nil=>intro t T _ Z p n;show⟨T,t,rfl,p,rfl,n,Z,bj.rfl⟩|cons Q X4 XN=>
intro t T e Z p n;obtain⟨g,A,XO,XQ,XR,o⟩:=lH (N:=H) (O:=I) Z 7 (by decide);obtain⟨P,U,W⟩:=aeV (a:=g)<|iB (J:=7) XO;have D:=o.at p (by simp[C,R]);obtain u:=NR (G:=F) (Q:=mx P) (E:=A);obtain u:nY (.ref F) (.str ⟨#[P]⟩) A=_:=u;rw[D,jl _ _ _ _<|by simp;show d8 e<|by simp+arith]at u;have XS:dN G K J L M<|A.set F<|.list<|t.map mx++[mx P]:=XR.aF (M:=[F]) (eC<|by simp) (by simp[Ne.symm C]) (by simp[Ne.symm R]) (by simp[Ne.symm z]);obtain⟨y,B,XT,XU,XW,XX,XY,XZ⟩:=XN (t++[P]) (A.set F<|.list<|t.map mx++[mx P]) (by simp;show gM▸e) XS (by rw[dY<|bC D];simp) (by
intro X0 X2;rcases oP.mp X2 with w|w;·show n X0 w
·rw[List.mem_singleton.mp w];show W);obtain X3:gr aw (av H<|I+1) xQ 1 [some<|.ref G] (.ref F) Q T=some (.ai .none,A.set F<|.list<|t.map mx++[mx P]):=by unfold gr;rw[show nk 1 [some<|.ref G] Q=af.bg [some Q,some<|.ref G]from rfl];simp[xQ,XQ,(by rw[aa9 (G:=IP) (E:=g) (show g<7 by lia)<|by decide,U]:jE (.str IP) (ao g)=af.bg (.str ⟨#[P]⟩)),u]
show⟨y,B, ?_,XU,by show XW.trans ?_;simp;show gM,XX,XY,(o.cZ<|by intro O S _;simp at S⊢;rcases S with w|w<;>simp[w]).aC<|(eC<|by simp).aC XZ⟩;simp only[Ee,zP,X3];show XT:∀{H I G K J:Nat}{L:Int}{M:List aa}{F:Nat}(m:F∉[G,K,J]),∀(Y:List aa)(t:List Nat)(T:ag),t.length+Y.length<=1000->dN G K J L M T->T[F]?=some (.list<|t.map mx)->(∀P∈t,Aq P)->MH (λ(y:ag)(B:List Nat)=>kK (gr aw (av H<|I+1) xQ 1 [some<|.ref G]<|.ref F) Y T=some (.ai (),y)) (λ(y:ag)(B:List Nat)=>y[F]?=some (.list<|B.map mx)) (λ(y:ag)(B:List Nat)=>B.length=t.length+Y.length) (λ(y:ag)(B:List Nat)=>∀P∈B,Aq P) (λ(y:ag)(B:List Nat)=>dN G K J L M y) λ(y:ag)(B:List Nat)=>bj [G,K,F] T y) (H:=H) (I:=I) (F:=E.length) (by simp;show And.intro (d7 Z.dS.1)<|And.intro (d7 Z.dS.2.1)<|d7 Z.dS.2.2) (jF a) [] (E++[.list []]) (by simp[jF];show aq V aR) (Z.aF (M:=[]) fp (by simp) (by simp)<|by simp) eL (by simp);show⟨T,t, ?_,W,by rw[f];simp[jF];show V,h,q,(fp.aC r).cZ<|by intro O S X5;simp at S⊢;lia⟩;change af.d4 (decide ((0:Int)<=(a:Int))&&decide ((a:Int)<=1000)) _ E=_;rw[decide_eq_true<|Int.natCast_nonneg _,(decide_eq_true (Int.ofNat_le.mpr<|Nat.le_trans V aR):decide ((a:Int)<=1000)=true)];change dv (kL (kK (gr aw (av H<|I+1) xQ 1 ([1].map λO=>(j[O]?).join)<|.ref E.length)<|jF a)<|E++[.list []]) (DH<|.ref E.length)=_;rw[(by simp only[List.map_cons,List.map_nil,e]:([1].map λO=>(j[O]?).join)=[some<|.ref G])];unfold kL;rw[U];rfl
end
noncomputable def DN:bo:=.assign (.ae 1)<|.call 73 [.ae 0]
def DO:bo:=.assign (.ae 2)<|.iU DM 1 []<|.tup [.str<|c7 .bV,.str<|c7 .B,.str<|c7 .C]
noncomputable def DP:bo:=.assign (.tup [.ae 3,.ae 4])<|.tup [.d .aA (.call 72 [.ae 1,.int 2])<|.int 1,.call 72 [.ae 1,.int 5]]
def DQ:bo:=.assign (.ae 5)<|.i .qM (.str ⟨#[]⟩) [.ue xQ [1]<|.ae 4]
noncomputable def DR:bo:=.assign (.ae 6)<|.call 76 [.ae 1,.int 3,.ae 2]
noncomputable def DS:bo:=.assign (.tup [.c (.ae 1)<|.int 2,.c (.ae 1)<|.int 3])<|.tup [.int 2,.list [.tup [.str ax,.str a8],.tup [.str ax,.str aT],.tup [.str da],.tup [.str ⟨#[116,101,120,116]⟩,.str cn]]]
noncomputable def DT:bo:=.assign (.ae 7)<|.dict [b2,a8,aT,ck,a5] [.bin .cV (.int 1)<|.call 72 [.ae 1,.int 2],.c (.list [.str cz,.str c0])<|.call 72 [.ae 1,.int 2],.str a0,.str ⟨#[]⟩,.str ⟨#[]⟩]
noncomputable def DU:bo:=.assign (.c (.ae 7)<|.str cm)<|.mk 3 [.call 76 [.ae 1,.int 1,.ae 2]]
noncomputable def Ar:bo:=.assign (.ae 8)<|.c (.list [.list [],.list [],.list [.str a5]])<|.call 72 [.ae 1,.int 3]
noncomputable def DV:bo:=.assign (.ae 9)<|.call 77 [.bool false,.ae 6,.ae 5,.ae 3,.ae 7,.ae 8]
noncomputable def DW:bo:=.ret<|.d .aA (.g .X [.call 77 [.bool true,.ae 6,.ae 5,.ae 3,.ae 7,.ae 8]])<|.g .X [.ae 9]
theorem aeZ:E8=⟨1,10,[DN,DO,DP,DQ,DR,DS,DT,DU,Ar,DV,DW]⟩:=rfl
structure sk(Z:aY)(w I K U:Nat)(g:ag):Prop where
q:g[w]?=some (qH Z)
eK:∀N,g[Z.cA N]?=some (lj<|c7 N)
As:w∉[I,K]
IQ:∀N,Z.cA N∉[I,K]
def sk.aF{Z:aY}{U g:Nat}(w:sk Z r a e U b)(N:bj [a,e] b u):sk Z r a e g u:=⟨N.at w.q w.As,λJ=>N.at (w.eK J)<|w.IQ J,w.As,w.IQ⟩
section
variable{L V:Nat}{E:ag}{G J U WL:Nat}{T:Int}{R:List aa}{Y:aY}{M Z Q H X S O N I K:Option aa}
def ae0(Y:a<=4)(P:dN G J U T R E):rH (λ(f:List Nat)(w:ag)=>f.length<=4) (λ(f:List Nat)(w:ag)=>∀g∈f,Aq g) (λ(f:List Nat)(w:ag)=>jr aw (av L<|V+39) L DQ [M,some<|.ref G,Q,H,some<|ao a,S,O,N,I,K] E=some (.ai (.aK,[M,some<|.ref G,Q,H,some<|ao a,some<|.str ⟨f.toArray⟩,O,N,I,K]),w)) (λ(f:List Nat)(w:ag)=>dN G J U T R w) λ(f:List Nat)(w:ag)=>bj [G,J] E w:=by obtain⟨b,f,F,W,X,Z,c,e⟩:=aeY (H:=L) (I:=V+38) (j:=[M,some<|.ref G,Q,H,some<|ao a,S,O,N,I,K]) Y rfl P;show⟨f,b,X,Z, ?_,c,e⟩;obtain h:∀E,mD .qM (.str ⟨#[]⟩) E=some (.ai (),E):=λ_=>rfl;unfold DQ;simp[h,F,aeX (Nat.le_trans X aR) W]
end
section
variable{I R:Nat}{E:ag}{G L Y WM H:Nat}{X:Int}{V:List aa}{Z:aY}{N WL S K J O Q T U M:Option aa}
def ae1:f9 .cV (.int 1) (ao a)=some (ao<|1+a):=by change some (aa.int<|1+(a:Int))=some (aa.int ((1+a:Nat):Int));congr 2
def xR(R:Nat)(Y:Str):aM:=.dict [(b2,ao R),(a8,.str Y),(aT,.str a0),(ck,.str ⟨#[]⟩),(a5,.str ⟨#[]⟩)]
theorem ae2(w:a<2):∃R:Str,([.str cz,.str c0]:List aa)[a]?=some (.str R)/\gJ (.str R):=by match a,w with|0,_=>show aX _ rfl<|.fL (vQ _)<|by intro M g;simp at g;lia-abstractProof|1,_=>show aX _ rfl<|.fL (by decide)<|by intro M g;simp at g;lia-abstractProof|O+2,w=>lia-abstractProof
def ae3(P:dN G L Y X V E):Wv (λ(r:Nat)(s:Str)(H:Nat)(F:ag)=>r<=9) (λ(r:Nat)(s:Str)(H:Nat)(F:ag)=>gJ<|.str s) (λ(r:Nat)(s:Str)(H:Nat)(F:ag)=>jr aw (av I<|R+39) I DT [N,some<|.ref G,S,K,J,O,Q,T,U,M] E=some (.ai (.aK,[N,some<|.ref G,S,K,J,O,Q,some<|.ref H,U,M]),F)) (λ(r:Nat)(s:Str)(H:Nat)(F:ag)=>dN G L Y X V F) (λ(r:Nat)(s:Str)(H:Nat)(F:ag)=>bj [G,L] E F) (λ(r:Nat)(s:Str)(H:Nat)(F:ag)=>F[H]?=some (xR r s)) λ(r:Nat)(s:Str)(H:Nat)(F:ag)=>H∉[G,L]:=by show eA λW e=> ?_;obtain⟨j,h,q,n,Z,a⟩:=lH (N:=I) (O:=R+38) P 2 (by decide);obtain⟨f,i,l,m,g,o,c⟩:=IB (J:=I) (K:=R+38) Z [.str cz,.str c0] 2 (by decide);show aB (ae2 (a:=f)<|iB (J:=2) l) λw b p=> ?_;show e ?_;show⟨1+j,w,i.length,i++[xR (1+j) w],d8 (iB (J:=2) q)<|by simp+arith,p, ?_,o.aF (M:=[]) fp (by simp) (by simp)<|by simp,(a.aC c).aC fp,eL,by simp;show And.intro (d7 o.dS.1)<|d7 o.dS.2.1⟩;unfold DT;simp[n,m,g,mT _ f<|Nat.le_of_lt<|Nat.lt_of_lt_of_le (iB (J:=2) l) aR,b,ae1,xR]
theorem ae4(P:dN G L Y X V E):Ca (λ(n:Bool)(H:Nat)(F:ag)=>jr aw (av I<|R+39) I Ar [N,some<|.ref G,S,K,J,O,Q,T,U,M] E=some (.ai (.aK,[N,some<|.ref G,S,K,J,O,Q,T,some<|.ref H,M]),F)) (λ(n:Bool)(H:Nat)(F:ag)=>bj [G,L] E F) λ(n:Bool)(H:Nat)(F:ag)=>F[H]?=some (.list<|if n then [.str a5]else []):=by
 generalize j:([.list [],.list [],.list [.str a5],.list [.ref E.length,.ref<|E.length+1,.ref<|E.length+1+1]]:List aM)=h;obtain o:h.length=4:=by subst j;rfl
 obtain⟨g,i,a,c,Z,e⟩:=lH (N:=I) (O:=R+38) (P.aF (M:=[]) (G:=E++h) vM (by simp) (by simp)<|by simp) 3 (by decide);have m:∀b,b<4->i[E.length+b]?=h[b]?:=by intro b f;obtain W:h[b]?=some h[b]:=tZ (by omega);rw[W];show e.at ((vL _ _).trans W)<|by simp;show And.intro (n0 P.dS.1)<|n0 P.dS.2.1
 have l:∀H,([.ref E.length,.ref<|E.length+1,.ref<|E.length+1+1]:List aa)[g]?=some (.ref H)->jr aw (av I<|R+39) I Ar [N,some<|.ref G,S,K,J,O,Q,T,U,M] E=some (.ai (.aK,[N,some<|.ref G,S,K,J,O,Q,T,some<|.ref H,M]),i):=by intro H w;unfold Ar;rw[<-j]at c;simp[c,((m 3 iW).trans<|by rw[<-j];rfl:i[E.length+1+1+1]?=some (.list [.ref E.length,.ref<|E.length+1,.ref<|E.length+1+1])),mT _ g<|Nat.le_of_lt<|Nat.lt_of_lt_of_le (iB (J:=3) a) aR,w]
 clear c;rcases(by lia:g=0\/g=1\/g=2)with rfl|rfl|rfl;·show⟨false,_,i,l _ rfl,vM.aC e,(m 0<|vQ _).trans<|by rw[<-j];rfl⟩
 ·show⟨false,_,i,l _ rfl,vM.aC e,(m 1<|by decide).trans<|by rw[<-j];rfl⟩
 ·show⟨true,_,i,l _ rfl,vM.aC e,(m 2<|by decide).trans<|by rw[<-j];rfl⟩
end
def PC(w:fu b 8 (.tup i)=some d)(T:d.jq<=16000000):dO .X [.tup i] b=some (.ai<|.fq d,b):=by change af.dZ ((fu b 8<|.tup i).bind λd=>eJ (eN d.jq)<|aa.fq d) b=_;rw[w];change af.dZ (eJ (eN d.jq)<|aa.fq d) b=_;rw[kB T];rfl
theorem ae5:dK .aA (.fq d) (.fq d) b=some true:=by change eJ (aa.AD d d) true=_;rw[aa.PZ];rfl
section
variable{G J:Nat}{N:ag}{O:aY}{H:aS}{K:ay}{L M V R S:Nat}{E:aj}{I:Bool}{U X T Q:Option aa}
theorem ae6(o:4000000<=G)(a:fD H)(t:pI H)(m:gw false 1 18 H.l S)(e:gw true 3 22 E R)(A:dh E)(x:E.cE<=300)(l:E.cp<=100)(Z:di K)(C:K.bx=[])(F:An O H K L M V N):∃P,dX aw (av G<|J+39) G [DV,DW] [U,X,T,some<|.bool I,Q,some<|.str H.f,some<|aD O E,some<|.ref L,some<|.ref M,none] fR N=some (.ai<|.bool true,P):=by
 obtain r:H.aJ<=4:=a.aZ;show eA λb n=> ?_;show aB (aco r m e) λp y z=> ?_;show js (z (mq I H) K xy) λW h g Y=> ?_;have D:h.bx.length<=155355:=by rw[C]at Y;simp at Y;show aq (aq Y<|aeP (n:=I) (z:=p) r) y
 have j:=aeO a t.hV A g xy Z;have v:=(HX a t.hV A g xy Z).2;obtain⟨X3,q,u,XN,XO⟩:=Pz (I:=G) (M:=J+37) (O:=E) (N:=I) (S:=W) (U:=h) false F C r (by intro XQ b i c;show eZ (acy (H:=G) (J:=J+27) a t.hV A i (by lia) g Z (by lia) (by lia) c) ?_;rintro⟨XR,XS,XT,XU,XW,XX⟩ _;show⟨XR,XS,aq XT aR,XU,jn.cA XW<|by simp,XX⟩) j v;obtain⟨X4,s,XY,XZ,X0⟩:=Pz (I:=G) (M:=J+37) (O:=E) (N:=I) (S:=W) (U:=h) true (F.gc XO) C r (λXQ b i c=>ad1 (G:=G) (J:=J+7) a t A (aq (Cp e) aR) x l i o g Z (by lia) aR c) j v;have k:=aeR v j r<|aq D aR;show n ?_;show⟨s, ?_⟩;delta DV DW;simp[u,XY,PC XZ k,PC (aeC (b:=q) (u:=s) λX5 X6 X2=>X0.at X2<|by intro X7 X8;contradiction _ _ _ XN) k,ae5 (b:=s) (d:=tX W h)]
end
theorem ae7(z:List Int)(X0:z.length<=63):∃P J,nZ aw P 40 78 [.cM<|z.map .int] []=some (.ai<|.bool true,J):=by obtain⟨P,Yj⟩:∃P,4000000<=P:=⟨4000000,aH⟩;show⟨P, ?_⟩;show eA λXR c=> ?_;obtain⟨I,K,U,T,Yk,Yl⟩:=(by intro P Y g _ _ _ _ _ _ _ _ _ z X0;obtain⟨I,K,U,J,Ym,Yn⟩:=aev (L:=P) (O:=Y+38) (E:=g) z X0;show⟨I,K,U,J, ?_,Yn⟩;unfold DN;simp[Ym]:∀{P Y:Nat}{g:ag}{XS W M m f n y q u:Option aa}(z:List Int)(X0:z.length<=63),MI (λI K U J=>jr aw (av P<|Y+39) P DN [some<|.cM<|z.map .int,XS,W,M,m,f,n,y,q,u] g=some (.ai (.aK,[some<|.cM<|z.map .int,some<|.ref I,W,M,m,f,n,y,q,u]),J)) λI K U J=>dN I K U 6 sh J) (P:=P) (Y:=0) (g:=[]) (XS:=none) (W:=none) (M:=none) (m:=none) (f:=none) (n:=none) (y:=none) (q:=none) (u:=none) z X0;obtain⟨Z,o,Yd,Yo,Yp,Yq⟩:=(by
intro P Y g _ _ _ _ _ r XS W M m f n y q u Q;obtain A:=Q.dS;show⟨⟨g.length+1,g.length+2,g.length+3⟩,g.length,g++[.list [.ref<|g.length+1,.ref<|g.length+2,.ref<|g.length+3],lj<|c7 .bV,lj<|c7 .B,lj<|c7 .C], ?_,Q.aF (M:=[]) vM (by simp) (by simp)<|by simp,⟨aeo _, ?_,by simp;show And.intro (d7 A.1)<|d7 A.2.1, ?_⟩⟩;·unfold DO;simp[aeU (H:=P) (I:=Y+38) (E:=g) (j:=[r,XS,W,M,m,f,n,y,q,u])]
·intro F;induction F using bT.casesOn;·show vL _ 1
 ·show vL _ 2
 ·show vL _ 3
·intro F;induction F using bT.casesOn<;>simp[aY.cA]<;>show And.intro (n0 A.1) (n0 A.2.1):∀{P Y:Nat}{g:ag}{I K U:Nat}{V:Int}{i:List aa}{r XS W M m f n y q u:Option aa}(Q:dN I K U V i g),Ca (λZ o J=>jr aw (av P<|Y+39) P DO [r,XS,W,M,m,f,n,y,q,u] g=some (.ai (.aK,[r,XS,some<|.ref o,M,m,f,n,y,q,u]),J)) (λZ o J=>dN I K U V i J) λZ o J=>sk Z o I K U J) (P:=P) (Y:=0) (r:=some<|.cM<|z.map .int) (XS:=some<|.ref I) (W:=none) (M:=none) (m:=none) (f:=none) (n:=none) (y:=none) (q:=none) (u:=none) Yl;obtain⟨h,O,Zg,Yr,XW,Ys,Yt⟩:=(by intro P Y _ _ _ _ _ _ _ _ _ _ _ _ _ _ _ Q;show eA λXR c=> ?_;obtain⟨Yu,T,Zh,Yv,Yw,Yx⟩:=lH (N:=P) (O:=Y+38) Q 2 (by simp);obtain⟨Yy,Yd,Yz,YA,YB,YC⟩:=lH (N:=P) (O:=Y+38) Yw 5 (by simp);show c ?_;show⟨decide<|(Yu:Int)=1,Yy,Yd,i9<|iB (J:=5) Yz, ?_,YB,Yx.aC YC⟩;unfold DP;simp[Yv,YA]:∀{P Y:Nat}{g:ag}{I K U:Nat}{V:Int}{i:List aa}{r W M m f n y q u:Option aa}(Q:dN I K U V i g),Gr (λ(h:Bool)(O:Nat)(J:ag)=>O<=4) (λ(h:Bool)(O:Nat)(J:ag)=>jr aw (av P<|Y+39) P DP [r,some<|.ref I,W,M,m,f,n,y,q,u] g=some (.ai (.aK,[r,some<|.ref I,W,some<|.bool h,some<|ao O,f,n,y,q,u]),J)) (λ(h:Bool)(O:Nat)(J:ag)=>dN I K U V i J) λ(h:Bool)(O:Nat)(J:ag)=>bj [I,K] g J) (P:=P) (Y:=0) (r:=some<|.cM<|z.map .int) (W:=some<|.ref o) (M:=none) (m:=none) (f:=none) (n:=none) (y:=none) (q:=none) (u:=none) Yp;obtain⟨G,Zi,YD,YE,YF,YG,YH⟩:=ae0 (L:=P) (V:=0) (M:=some<|.cM<|z.map .int) (Q:=some<|.ref o) (H:=some<|.bool h) (S:=none) (O:=none) (N:=none) (I:=none) (K:=none) Yr Ys;have X5:=(Yq.aF (g:=U) Yt).aF (g:=U) YH;obtain⟨w,E,Zj,YI,a,e,XN,YJ,YK,Ye⟩:=(by intro P Y g I _ U o Z _ _ _ _ _ _ _ _ Q L;obtain⟨w,E,J,XX,a,e,XN,XY,XT,X2⟩:=Pp (I:=P) (S:=true) (L:=Z) (U:=U) L.As (R:=sh) (by intro X6 X7;match X6,X7 with|0,_=>show aX (.P) rfl λ_=>rfl|1,_=>show aX (.bV) rfl λ_=>rfl|2,_=>show aX (.iD) rfl λ_=>rfl|3,_=>show aX (.fX) rfl λ_=>rfl|O+4,YL=>lia-abstractProof) 3 (Y+33) 22 g aH (by simp) Q L.q;show⟨w,E,J,XX,a,e,ie XN, ?_,XT,X2⟩;unfold DR;simp[show av P (Y+39) 76 [.ref I,.int 3,.ref o] g=_ from XY]:∀{P Y:Nat}{g:ag}{I K U o:Nat}{Z:aY}{r M m f n y q u:Option aa}(Q:dN I K U 6 sh g)(L:sk Z o I K U g),Wu (λ(w:aj)(E:Nat)(J:ag)=>gw true 3 22 w E) (λ(w:aj)(E:Nat)(J:ag)=>dh w) (λ(w:aj)(E:Nat)(J:ag)=>w.cp<=16) (λ(w:aj)(E:Nat)(J:ag)=>w.cE<=16) (λ(w:aj)(E:Nat)(J:ag)=>jr aw (av P<|Y+39) P DR [r,some<|.ref I,some<|.ref o,M,m,f,n,y,q,u] g=some (.ai (.aK,[r,some<|.ref I,some<|.ref o,M,m,f,some<|aD Z w,y,q,u]),J)) (λ(w:aj)(E:Nat)(J:ag)=>dN I K U ((E:Int)-16) sh J) λ(w:aj)(E:Nat)(J:ag)=>bj [I,K] g J) (P:=P) (Y:=0) (r:=some<|.cM<|z.map .int) (M:=some<|.bool h) (m:=some<|ao O) (f:=some<|.str ⟨G.toArray⟩) (n:=none) (y:=none) (q:=none) (u:=none) YG X5;obtain⟨X8,Zk,YM,YN,YO⟩:=(by
intro _ _ g I K U _ V _ _ _ _ _ _ _ _ _ _ _ Q;intros;obtain⟨XO,YQ,XX,a,e,XN,XY⟩:=Q.C;have A:=Q.dS;generalize XU:g++[aM.list xN]=XR;have XW:XR[I]?=some (.list [.ref K,.int XO,.int V,.ref U]):=by show XU▸(gj A.1).trans e
show⟨g.length,(XR.set I<|.list [.ref K,.int XO,.int 2,.ref U]).set I<|.list [.ref K,.int XO,.int 2,.ref g.length], ?_,⟨⟨XO,YQ,XX,a,dY<|by simp;show bC XW,(dQ Q.x).trans<|(dQ Q.x).trans<|by show XU▸(gj A.2.1).trans XN,XY⟩,(dQ<|gL A.1).trans<|(dQ<|gL A.1).trans<|by show XU▸eL,Q.x,by have:=A.1;show gL ‹_›,gL A.2.1⟩,(XU▸fp).aC<|(eC<|by simp).aC<|eC<|by simp⟩;unfold DS;delta xN fC at XU;simp[XU,XW,DD XR I (.ref K) (.int XO) (.int V) (.ref U)<|.int 2,dY<|bC XW,ad2 (XR.set I<|.list [.ref K,.int XO,.int 2,.ref U]) I (.ref K) (.int XO) (.int 2) (.ref U)<|.ref g.length]:∀{P Y:Nat}{g:ag}{I K U o:Nat}{V:Int}{i:List aa}{Z:aY}{r W M m f n y q u:Option aa}(Q:dN I K U V i g)(L:sk Z o I K U g),tm (λ(X9:Nat)(J:ag)=>jr aw (av P<|Y+39) P DS [r,some<|.ref I,W,M,m,f,n,y,q,u] g=some (.ai (.aK,[r,some<|.ref I,W,M,m,f,n,y,q,u]),J)) (λ(X9:Nat)(J:ag)=>dN I K X9 2 xN J) λ(X9:Nat)(J:ag)=>bj [I,K] g J) (P:=P) (Y:=0) (r:=some<|.cM<|z.map .int) (W:=some<|.ref o) (M:=some<|.bool h) (m:=some<|ao O) (f:=some<|.str ⟨G.toArray⟩) (n:=some<|aD Z w) (y:=none) (q:=none) (u:=none) YK<|X5.aF (g:=U) Ye;obtain⟨B,C,v,Zl,YR,YS,YT,YU,YV,YW,Yg⟩:=ae3 (I:=P) (R:=0) (N:=some<|.cM<|z.map .int) (S:=some<|.ref o) (K:=some<|.bool h) (J:=some<|ao O) (O:=some<|.str ⟨G.toArray⟩) (Q:=some<|aD Z w) (T:=none) (U:=none) (M:=none) YN;obtain⟨D,Zm,X3,Zn,Yh,YX,YY,YZ,Y0,Y1,Y2,Y3,Y4,Y5⟩:=(by
intro P Y g I K U o v Z _ _ _ _ _ _ _ B C Q L Yb XZ;obtain⟨D,E,T,XX,a,e,XN,XY,XT,X2⟩:=Pp (I:=P) (S:=false) (L:=Z) (U:=U) L.As (R:=xN) (by intro X6 X7;match X6,X7 with|0,_=>show aX (.S) rfl<|by intro S;contradiction|1,_=>show aX (.bV) rfl<|by intro S;contradiction|2,_=>show aX (.iD) rfl<|by intro S;contradiction|3,_=>show aX (.fX) rfl<|by intro S;contradiction|O+4,YL=>lia) 1 (Y+35) 18 g aR (by decide) Q L.q;have X4:sk Z o I K U T:=L.aF X2;have XQ:=X2.at Yb XZ;have c:bj [v] T<|(T++[aM.bt 3 [(1,aD Z D)]]).set v<|.dict [(b2,ao B),(a8,.str C),(aT,.str a0),(ck,.str ⟨#[]⟩),(a5,.str ⟨#[]⟩),(cm,.ref T.length)]:=fp.aC<|eC (by simp);have Y6:v<(T++[aM.bt 3 [(1,aD Z D)]]).length:=by simp;show pO _<|bC XQ
have Yi:(T++[aM.bt 3 [(1,aD Z D)]])[v]?=some (xR B C):=(gj<|bC XQ).trans XQ;have Y7:U≠v:=by intro S;subst S;have:=XT.ig;replace this:=XQ.symm.trans this;cases this
have Y8:o≠v:=by intro S;clear XZ;clear Yb;subst S;have:=X4.q;replace this:=XQ.symm.trans this;cases this
have Y9:∀F,Z.cA F≠v:=by intro F S;have:=X4.eK F;rw[S,XQ]at this;show nomatch this
show⟨D,E,T.length,_,XX,a,e,ie XN, ?_,XT.aF c (by simp[Ne.symm (by simpa using XZ:v≠I/\v≠K).1]) (by simp[Ne.symm (by simpa using XZ:v≠I/\v≠K).2])<|by simp[Y7],⟨c.at X4.q<|by simp[Y8],λF=>c.at (X4.eK F)<|by simp[Y9 F],L.As,L.IQ⟩,dY Y6,(dQ<|gL<|bC XQ).trans eL,by simp;show And.intro (d7 XT.dS.1)<|d7 XT.dS.2.1⟩;unfold DU;delta xR at Yi;simp[show av P (Y+39) 76 [.ref I,.int 1,.ref o] g=_ from XY,aex (G:=P) (H:=Y+38) (E:=T)<|aD Z D,Yi,NX (E:=T++[aM.bt 3 [(1,aD Z D)]]) (O:=v) (I:=cm) (H:=.ref T.length) (L:=[(b2,ao B),(a8,.str C),(aT,.str a0),(ck,.str ⟨#[]⟩),(a5,.str ⟨#[]⟩)])<|by simp,(rfl:oX cm (.ref T.length) [(b2,ao B),(a8,.str C),(aT,.str a0),(ck,.str ⟨#[]⟩),(a5,.str ⟨#[]⟩)]=[(b2,ao B),(a8,.str C),(aT,.str a0),(ck,.str ⟨#[]⟩),(a5,.str ⟨#[]⟩),(cm,.ref T.length)])]:∀{P Y:Nat}{g:ag}{I K U o v:Nat}{Z:aY}{r M m f n q u:Option aa}{B C}(Q:dN I K U 2 xN g)(L:sk Z o I K U g)(Yb:g[v]?=some (xR B C))(XZ:v∉[I,K]),∃(D:aj)(E X3:Nat)(J:ag),gw false 1 18 D E/\dh D/\D.cp<=4/\D.cE<=4/\jr aw (av P<|Y+39) P DU [r,some<|.ref I,some<|.ref o,M,m,f,n,some<|.ref v,q,u] g=some (.ai (.aK,[r,some<|.ref I,some<|.ref o,M,m,f,n,some<|.ref v,q,u]),J)/\dN I K U ((E:Int)-16) xN J/\sk Z o I K U J/\J[v]?=some (.dict [(b2,ao B),(a8,.str C),(aT,.str a0),(ck,.str ⟨#[]⟩),(a5,.str ⟨#[]⟩),(cm,.ref X3)])/\J[X3]?=some (.bt 3 [(1,aD Z D)])/\X3∉[I,K]) (P:=P) (Y:=0) (r:=some<|.cM<|z.map .int) (M:=some<|.bool h) (m:=some<|ao O) (f:=some<|.str ⟨G.toArray⟩) (n:=some<|aD Z w) (q:=none) (u:=none) YU (((X5.aF (g:=U) Ye).aF (g:=X8) YO).aF (g:=X8) YV) YW Yg;obtain⟨Za,Zo,Zp,Zb,Yc,Zc⟩:=ae4 (I:=P) (R:=0) (N:=some<|.cM<|z.map .int) (S:=some<|.ref o) (K:=some<|.bool h) (J:=some<|ao O) (O:=some<|.str ⟨G.toArray⟩) (Q:=some<|aD Z w) (T:=some<|.ref v) (U:=none) (M:=none) Y1;obtain⟨J,Zd⟩:=ae6 (G:=P) (J:=0) (I:=h) (U:=some<|.cM<|z.map .int) (X:=some<|.ref I) (T:=some<|.ref o) (Q:=some<|ao O) Yj (⟨by change G.toArray.size<=4;simpa using YD,by intro Ze Zf;show YE Ze<|Zf,YR,YS⟩) (⟨aq (Cp Yh) aR,YX,by change D.cE<=300;show aq YZ aR,by change D.cp<=100;show aq YY aR⟩:pI ⟨⟨G.toArray⟩,B,C,D,Za⟩) Yh YI a (aq XN aR) (aq e aR) (⟨⟨.cW,.fL (by decide)<|by simp,.fL (by decide)<|by simp⟩,by simp⟩:di ⟨.str a0,.str ⟨#[]⟩,.str ⟨#[]⟩,[]⟩) rfl<|⟨Yc.at Y3 Yg,Zc,Yc.at Y4 Y5,(Y2.aF (g:=X8) Yc).eK⟩;show c ?_;show⟨J, ?_⟩;rw[<-HD,(rfl:(40:Nat)=0+39+1),aO (H:=E8) rfl rfl,aeZ];change dX aw (av P<|0+39) P (DN::DO::DP::DQ::DR::DS::DT::DU::Ar::[DV,DW]) [some<|.cM<|z.map .int,none,none,none,none,none,none,none,none,none] fR []=_;rw[k8,kA,Yk,jS,i4,k8,kA,Yo,jS,i4,k8,kA,XW,jS,i4,k8,kA,YF,jS,i4,k8,kA,YJ,jS,i4,k8,kA,YM,jS,i4,k8,kA,YT,jS,i4,k8,kA,Y0,jS,i4,k8,kA,Zb,jS,i4];show Zd
end P
end
end Mine.Internal
theorem PySem.Challenge.cw_np0311_01_holds : PySem.Challenge.rw_np0311_01.Holds :=
  Mine.Internal.V9 (fun G w => Mine.Internal.P.ae7 G w) Mine.Internal.Wd
