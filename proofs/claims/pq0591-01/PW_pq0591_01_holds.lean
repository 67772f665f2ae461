import PyProof.Rows.All
import KE.KDictSum
import Open.Tops
import OpenK.AllK
import OpenK.KLine
import PyProof.AssignAttr
import PySem.Syntax
import Wide.All
import Lean
import PySem.Challenge.RW_pq0591_01
set_option autoImplicit false
set_option maxRecDepth 100000
set_option linter.all false
set_option Elab.async false
set_option maxHeartbeats 8000000
set_option genSizeOf false
set_option compiler.extract_closed false
set_option genInjectivity false
namespace Mine.Internal
open Nat renaming le_trans -> ae, add_le_add_right -> ak, beq -> ao, add_le_add_left -> av, le_of_eq -> ax, le_refl -> aB, zero_le -> aC, le_add_right -> aD, sub -> aF, mul_le_mul_right -> aM, add_assoc -> aP, le_of_lt -> aS, lt_of_le_of_lt -> aT, succ_le_succ -> aU, lt_of_lt_of_le -> aW, le_add_left -> aY, ne_of_lt -> aZ, le_of_ble_eq_true -> a8, add_le_add -> bh, le_of_succ_le -> bE, ne_of_gt -> bJ, one_mul -> bU, add -> bZ, le_of_not_lt -> b8, add_comm -> b9, add_mul -> cq, mul_le_mul_left -> cx, cast -> cG, le_of_lt_succ -> cK, eq_of_testBit_eq -> cY, pow_le_pow_right -> cZ, zero_testBit -> c6, succ -> c8, le_mul_of_pos_left -> dq, testBit_two_pow -> dw, testBit_lt_two_pow -> dx, ble -> dG, mod_lt -> dP, succ_mul -> dQ, lt_irrefl -> dR, blt -> d8, le_succ_of_le -> ef, add_right_comm -> eg, le_succ -> eh, min_le_right -> ei, add_sub_cancel_left -> ek, testBit_add_one -> el, testBit_or -> ey, le_antisymm -> eA, lt_add_right -> eB, mul_comm -> e9, sub_self -> e_, lt_succ_of_le -> fa, mul_add -> fh, lt_of_not_le -> fk, lt_trans -> fm, add_sub_cancel' -> fJ, mul_assoc -> f_, lt_of_le_of_ne -> gd, lt_of_succ_lt -> gj, and_le_left -> gp, testBit_zero -> gq, testBit_and -> gu, eq_of_beq_eq_true -> gw, testBit_two_pow_self -> gx, add_lt_add_left -> gB, lt_succ_of_lt -> gD, min_eq_left -> gS, sub_le -> gY, lt_succ_self -> ia, add_zero -> iF, le_mul_of_pos_right -> iK, pow_succ -> iL, succ_ne_self -> iT, exists_eq_add_of_le -> iW, add_add_add_comm -> iX, mod_eq_of_lt -> iY, div_add_mod -> iZ, mod_two_eq_zero_or_one -> i5, two_pow_pos -> i6, or_lt_two_pow -> i7, and_or_distrib_left -> i8, exists_testBit_of_ne_zero -> jb, mul_le_mul -> jd, mul_succ -> je, le_of_succ_le_succ -> ji, zero_mul -> jj, add_left_cancel -> jm, not_lt_of_ge -> jo, not_lt_of_gt -> jq, min_le_left -> jr, le_max_left -> jy, le_max_right -> jz, le_total -> jM, min_eq_right -> jO, sub_sub_self -> kU
open PySem renaming Str -> af, wpAny -> ag, model -> ah, wpAny_bind -> aj, wpAny_pure -> aw, wpAny_mono -> ay, World -> az, Around -> aA, eval -> aH, OsState -> aJ, treeTable -> aK, mainGlobals -> a7, compareOp -> a_, Sem -> bA, execs -> bI, assign -> bP, stored -> bX, intKind -> cy, builtinsNs -> cz, compEnvC -> cA, Params -> cC, Const -> cP, starEach -> cQ, Result -> cR, swapsWith -> cS, wpAny_truthy_bool -> c9, atKey -> c_, IsPart -> da, codeAny -> dc, assignEach -> dg, Flow -> dh, Reads -> dy, getItem -> dA, wpAny_holding -> dB, backTo -> dD, codeAny_mono -> dF, eqIsQuiet -> dS, sysModules -> dT, strKind -> dV, setItem -> dX, pyIter -> dZ, letOwnedTupleGo -> d5, wpAny_call_entry -> eD, wpAny_newObj_type -> eE, storedH -> eG, Model -> eM, wpAny_standAt -> eN, bindL -> eQ, bindC -> eR, importedModules -> eV, PyData -> fv, valueAt -> fw, seqIndex? -> fz, putAt -> fC, pyNext -> fI, wpAny_UnaryOp -> fK, compPost -> fO, comprehension -> fP, firstIterPos -> fQ, newList -> fR, firstAsync -> fS, firstIter -> fT, swappedStores -> fU, cellsFrom -> fW, BoolOp -> fZ, ReadsAll -> gF, truthy -> gI, KeyKind -> gJ, binaryOp -> gK, concat_meets -> gL, noFill_tuple_add -> gM, seq_tuple_add -> gN, wpAny_field -> gZ, wpAny_sequenceKey -> g4, wpAny_callSpecial?_slot -> g5, wpAny_rule -> g6, wpAny_pyIter_list -> g_, Comprehension -> hG, loadGlobal -> hH, wpAny_Constant_int -> hX, Operator -> iC, CmpOp -> iD, wpAny_seqItems -> jG, eqIsQuiet_byValue -> jH, unaryOp -> jK, wpAny_getItem_of -> jL, wpAny_loadPart -> jY, slot_list_setitem -> jZ, slot_dict_setitem -> j5, wpAny_list_append_plain -> j7, wpAny_pyNext_list_item -> kx, wpAny_pyNext_list_end -> ky, attributeBase -> kA, methodCallForm -> kD, methodCallPos -> kE, wpAny_assign_Name -> kH, codeAny_of_tree -> kJ, theTreesLotGoes -> kK, wpAny_pyIter_listiter -> kO, foldedSetIterable -> kP, wpAny_execs_nil -> kQ
open Option.some renaming inj -> aq, injEq -> dM
open List renaming length_append -> ar, length_map -> au, mem_cons_of_mem -> aE, mem_cons_self -> aG, replicate -> aI, map_append -> aO, getElem?_eq_getElem -> aQ, map_map -> aR, getElem?_set_ne -> aX, map_cons -> a9, range -> ba, append_nil -> bc, mem_of_getElem? -> bj, length_set -> bw, getElem?_set_self -> bx, getElem?_append_left -> bB, size_toArray -> bF, length -> bG, mem_singleton -> bH, filter_append -> bK, append_assoc -> bR, any_eq_true -> bS, mem_cons -> bT, lookup_cons -> cw, find?_cons_of_pos -> cE, find?_cons_of_neg -> cF, find?_some -> cH, foldl_cons -> cI, getElem?_map -> cJ, getElem?_concat_length -> cL, mem_of_find?_eq_some -> cU, length_range -> cW, flatMap_cons -> cX, mem_map_of_mem -> c7, mem_append_right -> dj, cons -> dm, length_cons -> dn, mem_append_left -> dp, nodup_cons -> dr, nodup_nil -> dv, forIn_cons -> dz, foldl_append -> dJ, filter_cons_of_pos -> dK, map -> dO, filter_cons_of_neg -> d9, length_filter_le -> ed, getElem?_append_right -> ee, pairwise_cons -> ej, not_mem_nil -> ez, find?_append -> eY, all_map -> eZ, getElem_mem -> e7, any_eq_false -> e8, length_take -> fc, nodup_append -> fe, all_cons -> fo, getElem?_toArray -> fH, forIn_nil -> fM, zip_cons_cons -> fV, any_map -> f3, mem_zipIdx_iff_getElem? -> f5, cons_append -> f6, pairwise_singleton -> gg, flatMap_append -> gk, filter_congr -> gv, isEmpty_iff -> gz, map_congr_left -> gA, any_cons -> gC, drop -> gV, length_drop -> gX, rel_of_pairwise_cons -> g9, drop_append_of_le_length -> ib, lookup -> ic, zip_append -> ie, of_mem_zip -> ig, getElem_of_mem -> iE, mem_append -> iI, find?_map -> iM, getElem?_range -> iP, take_sublist -> iR, length_zipIdx -> iS, drop_zero -> iU, getElem?_take -> iV, getElem?_cons_succ -> i_, nil_append -> jk, map_nil -> jl, sum_cons -> jn, drop_of_length_le -> jR, length_take_le' -> jS, push_toArray -> j8, count_cons -> j9, getD_eq_getElem?_getD -> ka, getElem?_drop -> kz, mem_singleton_self -> kI, drop_drop -> kM, length_replicate -> kN, take_succ_cons -> kR, take_append_drop -> kS, map_fst_zip -> kT, filter -> kV, take -> kW
open Bool renaming and_eq_true -> aL, eq_iff_iff -> bg, or_eq_true -> bM, not_eq_true' -> bV, and_false -> cV, true_and -> du, false_or -> dH, decide_or -> dN, decide_and -> ec, not_eq_true -> ew, or_eq_false_iff -> fg, and_true -> f7, not_eq_false' -> f9, false_ne_true -> ij, or_false -> iJ, and_self -> i9, or_true -> jc, not_true -> jE, false_eq_true -> jF
open PyProof.Rows renaming IsTup -> aN, seqObj -> cc, sortedHeap -> dC, IntsAre -> fF, StrsAre -> fG, callWith_type -> h_, slicePart_none -> jU, slot_tuple_getitem -> jW, slot_list_sort -> kg, entry_list_sort -> kj, args_list_sort -> kn, Compare_chain -> kB, evalArgs_none -> lJ
open PySem.W renaming segRunT -> aV, findIn -> bk, topFrame -> bt, nsIn -> bz, piecesOf -> bQ, instObj -> b_, doneF -> cf, deadEnd -> cg, getL -> cv, boot_heap -> cD, look_both -> cT, typeIn -> d4, topRun -> d6, keepIn -> eL, emptyDict -> eP, behindTheImports -> eS, boot_drawn -> eT, boot_toks -> eU, WData -> eW, restOf -> fX, looseW -> fY, plainOver -> g7, hasDictIn -> g8, looks_nsIn -> hV, callWith_of -> hZ, openSeen -> il, openGood -> iu, readsAllW_nil_inv -> lg, readsAllW_cons_inv -> lh
open PySem.Heap renaming get?_push_size -> bp, get?_push_of_some -> bO, SameBut -> cb, lt_size -> cM, get?_update_self -> fD, ExtBut -> hE, size_push -> kF
open PySem.Str renaming ofString -> bq, ofString_eq_toList -> gE
open List.cons renaming inj -> bu
open ForInStep renaming yield -> bW, done -> jD
open PySem.NameKind renaming free -> bY, cell -> fN
open Option renaming map -> b4, isNone_iff_eq_none -> fj, not_isSome -> gy, none -> iB, isSome -> iH, some -> ja, map_some -> jg, getD_some -> jh
open PySem.W.Fast renaming te10110043849684766642 -> cj, te14364793385576792824 -> ck, te12563942051412417395 -> cm, te17119622794617984870 -> iw, te8326940854005059898 -> kY, te18344453789297297638 -> kZ, named_eq -> k_
open Ne renaming symm -> cp
open PySem.PyData renaming eqv -> cN, keyHash -> eH, canLayAll0 -> gG, depthAll -> gH, strOk -> ju
open PySem.Builtin renaming bitNot -> cO, bitOr -> jJ
open Int renaming natCast_nonneg -> di, lt_trans -> dk, le_of_lt -> dU, le_trans -> dW, negSucc -> d_, ofNat -> eC, lt_of_le_of_lt -> eX, ofNat_eq_natCast -> gR, eq_ofNat_of_zero_le -> gT, le_of_eq -> gU, le_natAbs -> iA, natCast_pos -> iG, lt_of_lt_of_le -> iN, natCast_add -> iO, ofNat_lt -> iQ, emod_nonneg -> js, fdiv_eq_ediv_of_nonneg -> jI, min_eq_left -> jN, add_le_add_right -> jP, zero_add -> jQ
open PySem.Value renaming bool -> dY, isInt -> fx, isStrOf -> fy, str -> jv, isInt_shape -> j_
open Array renaming mk -> d7, forIn_toList -> jC, any_toList -> jX
open PySem.Heap.SameBut renaming update -> eI
open PySem.Code renaming builtin -> eO
open Nat.succ renaming inj -> fb
open Char renaming toNat -> fq
open Eq renaming symm -> ft
open Prod renaming mk -> fA
open PySem.Builtin.Tuple renaming tupleExact -> fB, tupleHashOf -> jx, tupleItemsOf -> jB
open PySem.Obj renaming mapSeq -> fE, isFreed_of_dict -> j2, data_mapDict -> j3, data_mapDictKeys -> j4
open PySem.Calls renaming callWith_builtin -> fL, evalArgs_plain -> hY
open PySem.F renaming slot_tuple_add -> gO, entry_tuple_add -> gP, args_tuple_add_2 -> gQ
open PySem.Builtin.Slice renaming slicePlaces -> gW, sliceAdjust -> jT, sliceApplied -> jV, slicePartIndex -> lE, sliceFields -> lF
open PySem.W.WShape renaming has -> iy, hasItems -> lb
open PySem.W.WTm renaming holds -> iz
open Prod.mk renaming inj -> jf
open Exists renaming elim -> jt
open PySem.Value.ref renaming inj -> jw
open PUnit renaming unit -> jA
open PySem.Builtin.Range renaming rangeSize -> ku
open PySem.Expr renaming Name -> kG
open PySem.World renaming withFollow_self -> kX
open PySem.Program renaming tablesWhole -> la
open PySem.W.WData renaming int -> lj
open PySem.BoolOp renaming Or -> lp
open List.Sublist renaming refl -> lq
open List.Pairwise renaming imp_of_mem -> lr, imp -> lu
open PySem.SeqAt renaming compareEq_reads -> lx, compareNe_reads -> ly, eqBoolOverData -> lz, in_tuple_reads -> lA, in_list_reads -> lB, notIn_tuple_reads -> lC, notIn_list_reads -> lD
open PySem.Builtin.List renaming listSubscript? -> lG
open PySem.Builtin.Dict renaming notOrdered -> lH
open PySem.Heap.IsSliceOf renaming new -> lI
open PySem.Challenge renaming pw_pq0591_01 -> lK, rw_pq0591_01 -> lL
open PySem.TablesWhole renaming wProgram -> lM, holds -> lN
universe u v
theorem l9 {p:Prop}[Decidable p](h:decide p=true):p:=of_decide_eq_true h
theorem xg {p:Prop}[Decidable p](h:decide p=false):¬p:=of_decide_eq_false h
theorem mY {p:Prop}[Decidable p](h:p):decide p=true:=decide_eq_true h
theorem pH {p q:Prop}[Decidable p][Decidable q]:decide p=decide q↔(p↔q):=decide_eq_decide
theorem lT {V:Sort u}{β:Sort v}{a b:V}(f:V->β)(h:a=b):f a=f b:=congrArg f h
theorem lW {c:Prop}{h:Decidable c}(hc:c){V:Sort u}{t e:V}:ite c t e=t:=if_pos hc
theorem lX {c:Prop}{h:Decidable c}(hc:¬c){V:Sort u}{t e:V}:ite c t e=e:=if_neg hc
namespace El
theorem nn {V:Type u}{r:V}{G:Prop}(e:none=some r):G:=nomatch e
theorem bf {G:Prop}(e:false=true):G:=nomatch e
theorem tf {G:Prop}(e:true=false):G:=nomatch e
@[elab_as_elim] theorem sj {V:Type u}{a b:V}(e:some a=some b){P:V->Prop}(k:P a):P b:=aq e▸k
theorem it {V:Type u}{c:Prop}[Decidable c]{x:Option V}{r:V}{G:Prop}(e:(if c then x else none)=some r)(k:c->x=some r->G):G :=
 if h:c then k h ((lW h).symm.trans e) else nn ((lX h).symm.trans e)
theorem bd {V β:Type u}{x:Option V}{f:V->Option β}{r:β}{G:Prop}(e:x.bind f=some r)(k:∀a,x=some a->f a=some r->G):G :=
 x.rec (motive:=λx=>x.bind f=some r->(∀a,x=some a->f a=some r->G)->G) (λe _=>nn e) (λa e k=>k a rfl e) e k
@[elab_as_elim] theorem mp {V β:Type u}{x:Option V}{f:V->β}{r:β}{P:β->Prop}(e:x.map f=some r)(k:∀a,x=some a->P (f a)):P r :=
 x.rec (motive:=λx=>x.map f=some r->(∀a,x=some a->P (f a))->P r) (λe _=>nn e) (λa e k=>sj e (k a rfl)) e k
theorem nL {a b:Bool}{G:Prop}(h:(a&&b)=true)(k:a=true->b=true->G):G:=let h:=(aL a b).mp h;k h.1 h.2
theorem JD {V:Sort _}{A:V->Prop}{G:Prop}(h:∃x,A x)(k:∀x,A x->G):G:=h.elim λx h=>k x h
theorem n3 {V:Sort _}{A B:V->Prop}{G:Prop}(h:∃x,A x/\B x)(k:∀x,A x->B x->G):G:=h.elim λx h=>k x h.1 h.2
theorem JE {V:Sort _}{A B C:V->Prop}{G:Prop}(h:∃x,A x/\B x/\C x)(k:∀x,A x->B x->C x->G):G:=h.elim λx h=>k x h.1 h.2.1 h.2.2
theorem d14 {V:Sort _}{A B C D:V->Prop}{G:Prop}(h:∃x,A x/\B x/\C x/\D x)(k:∀x,A x->B x->C x->D x->G):G:=h.elim λx h=>k x h.1 h.2.1 h.2.2.1 h.2.2.2
theorem uC {V:Sort _}{β:Sort _}{A B:V->β->Prop}{G:Prop}(h:∃x,∃y,A x y/\B x y)(k:∀x y,A x y->B x y->G):G:=h.elim λx h=>h.elim λy h=>k x y h.1 h.2
theorem tT {V:Sort _}{β:Sort _}{A B C:V->β->Prop}{G:Prop}(h:∃x,∃y,A x y/\B x y/\C x y)(k:∀x y,A x y->B x y->C x y->G):G:=h.elim λx h=>h.elim λy h=>k x y h.1 h.2.1 h.2.2
theorem QZ {V:Sort _}{β:Sort _}{A B C D E F I:V->β->Prop}{G:Prop}(h:∃x,∃y,A x y/\B x y/\C x y/\D x y/\E x y/\F x y/\I x y)(k:∀x y,A x y->B x y->C x y->D x y->E x y->F x y->I x y->G):G:=h.elim λx h=>h.elim λy h=>k x y h.1 h.2.1 h.2.2.1 h.2.2.2.1 h.2.2.2.2.1 h.2.2.2.2.2.1 h.2.2.2.2.2.2
theorem FZ {V:Sort _}{β:Sort _}{γ:Sort _}{A B:V->β->γ->Prop}{G:Prop}(h:∃x,∃y,∃z,A x y z/\B x y z)(k:∀x y z,A x y z->B x y z->G):G:=h.elim λx h=>h.elim λy h=>h.elim λz h=>k x y z h.1 h.2
theorem Q0 {V:Sort _}{β:Sort _}{γ:Sort _}{A B C D:V->β->γ->Prop}{G:Prop}(h:∃x,∃y,∃z,A x y z/\B x y z/\C x y z/\D x y z)(k:∀x y z,A x y z->B x y z->C x y z->D x y z->G):G:=h.elim λx h=>h.elim λy h=>h.elim λz h=>k x y z h.1 h.2.1 h.2.2.1 h.2.2.2
theorem Q1 {V:Sort _}{β:Sort _}{γ:Sort _}{δ:Sort _}{A B C D:V->β->γ->δ->Prop}{G:Prop}(h:∃x,∃y,∃z,∃u,A x y z u/\B x y z u/\C x y z u/\D x y z u)(k:∀x y z u,A x y z u->B x y z u->C x y z u->D x y z u->G):G:=h.elim λx h=>h.elim λy h=>h.elim λz h=>h.elim λu h=>k x y z u h.1 h.2.1 h.2.2.1 h.2.2.2
theorem Q2 {V:Sort _}{β:Sort _}{γ:Sort _}{δ:Sort _}{ε:Sort _}{A B C D E:V->β->γ->δ->ε->Prop}{G:Prop}(h:∃x,∃y,∃z,∃u,∃w,A x y z u w/\B x y z u w/\C x y z u w/\D x y z u w/\E x y z u w)(k:∀x y z u w,A x y z u w->B x y z u w->C x y z u w->D x y z u w->E x y z u w->G):G:=h.elim λx h=>h.elim λy h=>h.elim λz h=>h.elim λu h=>h.elim λw h=>k x y z u w h.1 h.2.1 h.2.2.1 h.2.2.2.1 h.2.2.2.2
end El
section
open PySem (Operator UnaryOp BoolOp CmpOp)
set_option genInjectivity true in
inductive PV where
 |none
 |bool (b:Bool)
 |int (i:Int)
 |str (s:String)
 |tup (l:List PV)
 |lst (l:List PV)
 |loc (n:Nat)
 deriving Inhabited
def PV.key:PV->Nat×Int×String
 |.none=>(0,0,"")
 |.bool b=>(1,cond b 1 0,"")
 |.int i=>(2,i,"")
 |.str s=>(3,0,s)
 |.tup _=>(4,0,"")
 |.lst _=>(5,0,"")
 |.loc n=>(6,n,"")
def PV.kids:PV->List PV
 |.tup l|.lst l=>l
 |_=>[]
def PV.IG (k:Nat×Int×String)(l:List PV):PV:=match k.1 with
 |0=>.none
 |1=>.bool (k.2.1==1)
 |2=>.int k.2.1
 |3=>.str k.2.2
 |4=>.tup l
 |5=>.lst l
 |_=>.loc k.2.1.toNat
theorem PV.Oj (a:PV):PV.IG a.key a.kids=a:=by
 cases a with
 |bool b=>cases b<;>rfl
 |_=>rfl
def PV.decBy (a b:PV)(d:Decidable (a.kids=b.kids)):Decidable (a=b) :=
 if k:a.key=b.key then(match d with
  |isTrue h=>isTrue ((PV.Oj a).symm.trans ((lT (PV.IG · a.kids) k).trans ((lT (PV.IG b.key) h).trans (PV.Oj b))))
  |isFalse h=>isFalse λe=>h (lT PV.kids e)) else isFalse λe=>k (lT PV.key e)
def zI:(l:List PV)->Decidable ([]=l)
 |[]=>isTrue rfl
 |_::_=>isFalse λe=>nomatch e
mutual
def PV.decEq:(a b:PV)->Decidable (a=b)
 |.tup l,b=>PV.decBy (.tup l) b (PV.Ib l b.kids)
 |.lst l,b=>PV.decBy (.lst l) b (PV.Ib l b.kids)
 |.none,b=>PV.decBy .none b (zI b.kids)
 |.bool x,b=>PV.decBy (.bool x) b (zI b.kids)
 |.int x,b=>PV.decBy (.int x) b (zI b.kids)
 |.str x,b=>PV.decBy (.str x) b (zI b.kids)
 |.loc x,b=>PV.decBy (.loc x) b (zI b.kids)
def PV.Ib:(a b:List PV)->Decidable (a=b)
 |[],k=>zI k
 |_::_,[]=>isFalse λe=>nomatch e
 |a::r,b::t=>match PV.decEq a b with
  |isTrue h=>(match PV.Ib r t with
   |isTrue h'=>isTrue (h▸h'▸rfl)
   |isFalse h=>isFalse λe=>h (bu e).2)
  |isFalse h=>isFalse λe=>h (bu e).1
end
instance:DecidableEq PV:=PV.decEq
inductive n_ where
 |sf|Decl|qk
 deriving DecidableEq
set_option genInjectivity true in
inductive mC where
 |list (l:List PV)
 |pk (l:List (Int×PV))
 |p5 (l:List (String×PV))
 |pn (l:List (PV×PV))
 |inst (c:n_) (fs:List (String×PV))
 deriving Inhabited,DecidableEq
noncomputable abbrev St:=List mC
inductive DK where|I|S|T
 deriving DecidableEq
inductive BI where|len|sorted|tuple|all|any|str
 deriving DecidableEq
inductive Tg where
 |v (i:Nat)
 |t (l:List Nat)
 deriving DecidableEq
mutual
inductive E (F:Type) where
 |n5
 |oq (b:Bool)
 |lR (i:Int)
 |m4 (s:String)
 |var (i:Nat)
 |glob (x:String) (v:PV)
 |attr (e:E F) (a:String)
 |idx (e i:E F)
 |ri (e:E F) (lo hi:Option Int)
 |bin (op:Operator) (a b:E F)
 |un (op:UnaryOp) (a:E F)
 |bo (op:BoolOp) (es:Es F)
 |cmp (op:CmpOp) (a b:E F)
 |wg (op Ae:CmpOp) (a b c:E F)
 |nu (c a b:E F)
 |tup (es:Es F)
 |list (es:Es F)
 |qB (es:Es F)
 |dict (k:DK)
 |call (f:F) (es:Es F)
 |new (c:n_) (es:Es F)
 |nA (o:E F) (m:String) (es:Es F)
 |wh (o k d:E F)
 |bi (b:BI) (e:E F)
 |comp (m:Bool) (elt:E F) (t:Tg) (it:It F)
 |oC (m:Bool) (elt:E F) (t:Tg) (it:It F) (c:E F)
 |bad
inductive Es (F:Type) where
 |nil
 |cons (e:E F) (es:Es F)
inductive It (F:Type) where
 |e (e:E F)
 |d (e:E F)
 |range (e:E F)
end
mutual
inductive S (F:Type) where
 |asg (t:Tg) (e:E F)
 |setattr (o:E F) (a:String) (e:E F)
 |rS (o i e:E F)
 |expr (e:E F)
 |append (o e:E F)
 |ite (c:E F) (a b:Ss F)
 |for (t:Tg) (it:It F) (body:Ss F)
 |ret (e:E F)
 |cont
 |bad
inductive Ss (F:Type) where
 |nil
 |cons (s:S F) (ss:Ss F)
end
structure BN (F:Type) where
 name:String
 ru:Nat
 defaults:List PV
 names:List String
 body:Ss F
noncomputable def single (s:String):Option Int :=
 if s="0" then some 48 else if s="9" then some 57 else if s="p" then some 112 else if s="q" then some 113 else if s="r" then some 114 else none
mutual
noncomputable def PV.isData:PV->Bool
 |.none=>true
 |.int _=>true
 |.str _=>true
 |.tup l=>PV.pF l
 |_=>false
noncomputable def PV.pF:List PV->Bool
 |[]=>true
 |a::r=>PV.isData a&&PV.pF r
end
mutual
noncomputable def PV.depth:PV->Nat
 |.tup l=>PV.rT l+1
 |_=>0
noncomputable def PV.rT:List PV->Nat
 |[]=>0
 |a::r=>max (PV.depth a) (PV.rT r)
end
noncomputable def PV.isScalar:PV->Bool
 |.none=>true
 |.bool _=>true
 |.int _=>true
 |_=>false
noncomputable def PV.nQ (v:PV):Bool:=v.isData&&decide (v.depth<=40)
mutual
noncomputable def PV.isKey:PV->Bool
 |.int _=>true
 |.str _=>true
 |.tup l=>PV.areKeys l
 |_=>false
noncomputable def PV.areKeys:List PV->Bool
 |[]=>true
 |a::r=>PV.isKey a&&PV.areKeys r
end
noncomputable def PV.qo:PV->Bool
 |.tup l=>PV.areKeys l&&decide (PV.rT l<=6)
 |_=>false
noncomputable def Cf (a b:PV):Option Bool:=if a.nQ&&b.nQ then some (decide (a=b)) else none
noncomputable def ux (a b:PV):Option Bool:=match a with
 |.int x=>(match b with|.int y=>some (decide (x=y))|_=>Cf a b)
 |.str x=>(match b with|.str y=>some (decide (x=y))|_=>Cf a b)
 |.bool x=>(match b with|.bool y=>some (decide (x=y))|_=>Cf a b)
 |_=>Cf a b
noncomputable def below (n:Nat)(k:Int):Bool:=d8 k.natAbs n
theorem zu {n:Nat}{k:Int}(h:below n k=true):-(n:Int)<k/\k<n :=
 have h:=Int.ofNat_lt.mpr (a8 h)
 ⟨Int.neg_lt_of_neg_lt (eX (Int.natAbs_neg k▸iA) h),eX iA h⟩
theorem zv {n:Nat}{k:Int}(h1:-(n:Int)<k)(h2:k<n):below n k=true:=Nat.ble_eq_true_of_le (by
 cases k with
 |ofNat m=>exact Int.ofNat_lt.mp h2
 |negSucc m=>exact Int.ofNat_lt.mp (Int.lt_of_neg_lt_neg h1))
noncomputable def small (i:Int):Bool:=below (2^50) i
noncomputable def binI (f:Int->Int->Option PV):PV->PV->Option PV
 |.int a,.int b=>f a b
 |_,_=>none
noncomputable def I6 (f:Nat->Nat->Nat):Int->Int->Option PV
 |.ofNat a,.ofNat b=>some (.int (.ofNat (f a b)))
 |_,_=>none
noncomputable def ags:PV->PV->Option PV
 |.int a,.int b=>some (.int (a+b))
 |.tup a,.tup b=>if a.length+b.length<=2^20 then some (.tup (a++b)) else none
 |_,_=>none
noncomputable def aib:Int->Int->Option PV
 |.ofNat a,.ofNat b=>some (.int (.ofNat (a&&&b)))
 |.ofNat a,.negSucc b=>some (.int (.ofNat (a - (a&&&b))))
 |_,_=>none
noncomputable def Ol (op:Operator)(p q:PV):Option PV:=match op with
 |.Add=>ags p q
 |.Sub=>binI (λa b=>some (.int (a - b))) p q
 |.Mult=>binI (λa b=>if small a&&small b then some (.int (a*b)) else none) p q
 |.FloorDiv=>binI (λa b=>if decide (0<b)&&below (2^29) b then some (.int (a/b)) else none) p q
 |.Mod=>binI (λa b=>if decide (0<b) then some (.int (a%b)) else none) p q
 |.BitAnd=>binI aib p q
 |.BitOr=>binI (I6 (·|||·)) p q
 |.RShift=>binI (I6 (·>>>·)) p q
 |_=>none
@[irreducible] noncomputable def binOp (op:Operator)(p q:PV):Option PV:=Ol op p q
theorem Bd {op:Operator}{p q:PV}:binOp op p q=Ol op p q:=by unfold binOp;rfl
noncomputable def rE {V:Type}(Y:St)(n:Nat)(f:mC->Option V):Option V:=(Y[n]?).bind f
noncomputable def mC.lst {V:Type}(f:List PV->Option V):mC->Option V|.list l=>f l|_=>none
noncomputable def mC.dI {V:Type}(f:List (Int×PV)->Option V):mC->Option V|.pk l=>f l|_=>none
noncomputable def PV.vx {V:Type}(f:Int->Option V):PV->Option V|.int i=>f i|_=>iB
noncomputable def PV.F0 {V:Type}(f:String->Option V):PV->Option V|.str i=>f i|_=>iB
noncomputable def truthy (Y:St):PV->Option Bool
 |.none=>some false
 |.bool b=>some b
 |.int i=>some (decide (i≠0))
 |.tup l=>some (!l.isEmpty)
 |.lst l=>some (!l.isEmpty)
 |.loc n=>rE Y n (mC.lst λl=>some (!l.isEmpty))
 |_=>none
noncomputable def Pg (lo hi:Option Int):Bool:=match lo with
 |none=>hi==some (-1)||hi==some 4||hi==some 40
 |some i=>decide (i=1)&&hi==some 6
noncomputable def fin (m:Bool)(v:PV)(Y:St):Option (PV×St):=if m then(truthy Y v).map λb=>(.bool b,Y) else some (v,Y)
noncomputable def I7 (x:PV)(l:List PV):Option Bool:=if x.nQ&&l.all PV.nQ then some (decide (x∈l)) else none
noncomputable def aic (x:PV):mC->Option Bool
 |.pk l=>x.vx λi=>some (l.any λp=>decide (p.1=i))
 |.p5 l=>x.F0 λi=>some (l.any λp=>decide (p.1=i))
 |.pn l=>if x.qo then some (l.any λp=>decide (p.1=x)) else none
 |_=>none
noncomputable def tG (Y:St)(x:PV):PV->Option Bool
 |.tup l=>I7 x l
 |.lst l=>I7 x l
 |.loc n=>rE Y n (aic x)
 |_=>none
noncomputable def ltB (a b:Int):Bool:=decide (a<b)
noncomputable def gtB (a b:Int):Bool:=decide (a>b)
noncomputable def JF (a b:Int):Bool:=decide (a≥b)
noncomputable def Fz (f:Int->Int->Bool):PV->PV->Option Bool
 |.int a,.int b=>some (f a b)
 |_,_=>none
noncomputable def leS (a b:String):Option Bool:=(single a).bind λx=>(single b).map λy=>decide (x<=y)
noncomputable def aid:PV->PV->Option Bool
 |.int a,.int b=>some (decide (a<=b))
 |.str a,.str b=>leS a b
 |_,_=>none
noncomputable def I8 (a:PV):PV->Option Bool
 |.none=>some (decide (a=.none))
 |_=>none
noncomputable def oW (Y:St)(op:CmpOp)(a b:PV):Option Bool:=match op with
 |.Eq=>ux a b
 |.NotEq=>(ux a b).map not
 |.Lt=>Fz ltB a b
 |.LtE=>aid a b
 |.Gt=>Fz gtB a b
 |.GtE=>Fz JF a b
 |.In=>tG Y a b
 |.NotIn=>(tG Y a b).map not
 |.Is=>I8 a b
 |.IsNot=>(I8 a b).map not
noncomputable def v5 (i:Int)(n:Nat):Nat:=if i<0 then(i+n).toNat else i.toNat
noncomputable def ym (l:List PV)(k:Int):Option PV:=if decide (0<=k)&&below (2^50) k then l[k.toNat]? else none
noncomputable def aie (l:List PV)(k:Int):Option PV:=if decide (-(l.length:Int)<=k)&&below (2^50) k then l[v5 k l.length]? else none
noncomputable def Qe (s:String)(k:Int):Option PV :=
 if k=0 then(if s="ab" then some (.str "a") else if(single s).isSome then some (.str s) else none) else if k=1 then(if s="ab" then some (.str "b") else none) else none
noncomputable def Qf (i:PV):mC->Option PV
 |.list l=>i.vx (ym l)
 |.pk l=>i.vx λk=>(l.find? λp=>decide (p.1=k)).map (·.2)
 |.p5 l=>i.F0 λk=>(l.find? λp=>decide (p.1=k)).map (·.2)
 |.pn l=>if i.qo then(l.find? λp=>decide (p.1=i)).map (·.2) else none
 |_=>none
noncomputable def Om (Y:St)(i:PV):PV->Option PV
 |.tup l=>i.vx (aie l)
 |.lst l=>i.vx (ym l)
 |.str s=>i.vx (Qe s)
 |.loc n=>rE Y n (Qf i)
 |_=>none
@[irreducible] noncomputable def mA (Y:St)(i p:PV):Option PV:=Om Y i p
theorem xU {Y:St}{i p:PV}:mA Y i p=Om Y i p:=by unfold mA;rfl
noncomputable def zQ (l:List PV)(lo hi:Option Int):List PV :=
 let a:=match lo with|some i=>if i<0 then(i+l.length).toNat else i.toNat|none=>0
 let b:=match hi with|some i=>if i<0 then(i+l.length).toNat else i.toNat|none=>l.length
 (l.take b).drop a
noncomputable def x_ (lo hi:Option Int):PV->Option PV
 |.tup l=>if Pg lo hi then some (.tup (zQ l lo hi)) else none
 |.lst l=>if Pg lo hi then some (.lst (zQ l lo hi)) else none
 |.str s=>if lo=some 0/\hi=some 1/\(single s).isSome then some (.str s) else none
 |_=>none
noncomputable def agt (a:String):mC->Option PV
 |.inst _ fs=>(fs.find? λp=>decide (p.1=a)).map (·.2)
 |_=>none
noncomputable def oc (Y:St)(a:String):PV->Option PV
 |.loc n=>rE Y n (agt a)
 |_=>none
noncomputable def putAt {V β:Type}[DecidableEq V](k:V)(v:β):List (V×β)->List (V×β)
 |[]=>[(k,v)]
 |p::r=>if p.1=k then(k,v)::r else p::putAt k v r
noncomputable def BO (Y:St)(n:Nat)(f:mC->Option mC):Option St:=rE Y n λo=>(f o).map (Y.set n)
noncomputable def agu (a:String)(v:PV):mC->Option mC
 |.inst c fs=>if fs.length<=500 then some (.inst c (putAt a v fs)) else none
 |_=>none
noncomputable def wN (Y:St)(a:String)(v:PV):PV->Option St
 |.loc n=>BO Y n (agu a v)
 |_=>none
noncomputable def aif (i v:PV):mC->Option mC
 |.list l=>i.vx λk=>if decide (0<=k)&&decide (k<l.length) then some (.list (l.set k.toNat v)) else none
 |.pk l=>i.vx λk=>if l.length<=1000000 then some (.pk (putAt k v l)) else none
 |.p5 l=>i.F0 λk=>if l.length<=1000000 then some (.p5 (putAt k v l)) else none
 |.pn l=>if i.qo&&decide (l.length<=1000000) then some (.pn (putAt i v l)) else none
 |_=>none
noncomputable def tv (Y:St)(i v:PV):PV->Option St
 |.loc n=>BO Y n (aif i v)
 |_=>none
noncomputable def AZ (Y:St)(v:PV):PV->Option St
 |.loc n=>BO Y n (mC.lst λl=>if l.length<=1000000 then some (.list (l++[v])) else none)
 |_=>none
noncomputable def ya (Y:St):PV->Bool
 |.loc n=>match Y[n]? with
  |some (.list _)=>true
  |_=>false
 |_=>false
noncomputable def zw (Y:St):PV->Bool
 |.loc n=>match Y[n]? with
  |some (.pn _)=>true
  |_=>false
 |_=>false
noncomputable def Qg (k d:PV):mC->Option PV
 |.pn l=>if k.qo then some (((l.find? λp=>decide (p.1=k)).map (·.2)).getD d) else none
 |_=>none
noncomputable def zR (Y:St)(k d:PV):PV->Option PV
 |.loc n=>rE Y n (Qg k d)
 |_=>none
noncomputable def ug (Y:St):PV->Option (List PV)
 |.tup l=>some l
 |.lst l=>some l
 |.str s=>if(single s).isSome then some [.str s] else none
 |.loc n=>rE Y n (mC.lst some)
 |_=>none
noncomputable def w4 (Y:St):PV->Option (List PV)
 |.loc n=>rE Y n (mC.dI λl=>if l.length<=2^20 then some (l.map λp=>.int p.1) else none)
 |_=>none
inductive Src where
 |seq (v:PV)
 |keys (v:PV)
noncomputable def oD (Y:St):Src->Option (List PV)
 |.seq v=>ug Y v
 |.keys v=>w4 Y v
noncomputable def zZ {V:Type}(key:V->Int)(x:V):List V->List V
 |[]=>[x]
 |y::r=>if key x<=key y then x::y::r else y::zZ key x r
noncomputable def zS {V:Type}(key:V->Int):List V->List V
 |[]=>[]
 |x::r=>zZ key x (zS key r)
noncomputable def code (s:String):Int:=(single s).getD 0
noncomputable abbrev sortI:List Int->List Int:=zS id
noncomputable abbrev Fe:List String->List String:=zS code
noncomputable def Ey:List PV->Option (List Bool)
 |[]=>some []
 |.bool b::r=>(Ey r).map (b::·)
 |_=>none
noncomputable def aih:mC->Option PV
 |.list l=>some (.int l.length)
 |.pk l=>if l.length<=2^20 then some (.int l.length) else none
 |_=>none
noncomputable def agv (Y:St):PV->Option PV
 |.tup l=>some (.int l.length)
 |.lst l=>some (.int l.length)
 |.loc n=>rE Y n aih
 |_=>none
noncomputable def agw:mC->Option PV
 |.pk l=>if l.length<64 then some (.lst ((sortI (l.map (·.1))).map .int)) else none
 |.p5 l=>if decide (l.length<64)&&l.all λp=>(single p.1).isSome then some (.lst ((Fe (l.map (·.1))).map .str)) else none
 |_=>none
noncomputable def agx (Y:St):PV->Option PV
 |.tup l=>some (.tup l)
 |.lst l=>some (.tup l)
 |.loc n=>rE Y n (mC.lst λl=>some (.tup l))
 |_=>none
noncomputable def HQ (f:List Bool->Bool):PV->Option PV
 |.lst l=>(Ey l).map λbs=>.bool (f bs)
 |_=>none
noncomputable def qr (Y:St)(b:BI)(p:PV):Option PV:=match b with
 |.len=>agv Y p
 |.sorted=>match p with|.loc n=>rE Y n agw|_=>none
 |.tuple=>agx Y p
 |.all=>HQ (λbs=>bs.all id) p
 |.any=>HQ (λbs=>bs.any id) p
 |.str=>p.vx λi=>if i=0 then some (.str "0") else none
inductive Flow where
 |next|cont|ret (v:PV)
 deriving Inhabited
noncomputable abbrev Loc:=List (Option PV)
noncomputable abbrev oh (F:Type):=F->List PV->St->Option (PV×St)
noncomputable def bindAll:List Nat->List PV->Loc->Option Loc
 |[],[],U=>some U
 |i::is,v::vs,U=>bindAll is vs (U.set i (some v))
 |_,_,_=>none
noncomputable def p3:Tg->PV->Loc->Option Loc
 |.v i,v,U=>some (U.set i (some v))
 |.t l,.tup vs,U=>bindAll l vs U
 |.t _,_,_=>none
noncomputable def slots:Tg->Nat
 |.v _=>1
 |.t l=>l.length
noncomputable def vV (src:Src)(all:List PV)(f:PV->St->Option (Option PV×St)):List PV->St->Option (List PV×St)
 |[],Y=>some ([],Y)
 |x::xs,Y=>do
  let (r,σ₁) ← f x Y
  if oD σ₁ src=some all then
   let (rs,σ₂) ← vV src all f xs σ₁
   match r with
   |some v=>some (v::rs,σ₂)
   |none=>some (rs,σ₂)
  else none
noncomputable def w9 (src:Src)(all:List PV)(f:PV->Loc->St->Option (Flow×Loc×St)):List PV->Loc->St->Option (Flow×Loc×St)
 |[],U,Y=>some (.next,U,Y)
 |x::xs,U,Y=>do
  let (fl,ρ₁,σ₁) ← f x U Y
  match fl with
  |.ret v=>some (.ret v,ρ₁,σ₁)
  |_=>if oD σ₁ src=some all then w9 src all f xs ρ₁ σ₁ else none
noncomputable def p4 (n:Int):List PV:=(ba n.toNat).map λ(i:Nat)=>PV.int (i:Int)
noncomputable def qX (m:Bool)(l:List PV)(Y:St):PV×St:=if m then(.loc Y.length,Y++[.list l]) else(.lst l,Y)
noncomputable def emptyDict:DK->mC
 |.I=>.pk []
 |.S=>.p5 []
 |.T=>.pn []
noncomputable def agy {F:Type}(tab:n_->String->Option F)(m:String):mC->Option F
 |.inst c _=>tab c m
 |_=>none
noncomputable def ql {F:Type}(tab:n_->String->Option F)(Y:St)(m:String):PV->Option F
 |.loc n=>rE Y n (agy tab m)
 |_=>none
section
variable {F:Type}(tab:n_->String->Option F)(qI:n_->F)(O:oh F)
mutual
noncomputable def mU:E F->Bool->Loc->St->Option (PV×St)
 |.n5,m,_,Y=>fin m .none Y
 |.oq b,m,_,Y=>fin m (.bool b) Y
 |.lR i,m,_,Y=>fin m (.int i) Y
 |.m4 s,m,_,Y=>fin m (.str s) Y
 |.var i,m,U,Y=>match U[i]? with
  |some (some v)=>fin m v Y
  |_=>none
 |.glob _ v,m,_,Y=>fin m v Y
 |.attr e a,m,U,Y=>do
  let (v,Y) ← mU e false U Y
  let r ← oc Y a v
  fin m r Y
 |.idx e i,m,U,Y=>do
  let (v,Y) ← mU e false U Y
  let (k,Y) ← mU i false U Y
  let r ← mA Y k v
  fin m r Y
 |.ri e lo hi,m,U,Y=>do
  let (v,Y) ← mU e false U Y
  let r ← x_ lo hi v
  fin m r Y
 |.bin op a b,m,U,Y=>do
  let (v,Y) ← mU a false U Y
  let (w,Y) ← mU b false U Y
  let r ← binOp op v w
  fin m r Y
 |.un .Not a,m,U,Y=>do
  let (v,Y) ← mU a m U Y
  let b ← truthy Y v
  some (.bool (!b),Y)
 |.un .USub a,m,U,Y=>do
  let (v,Y) ← mU a false U Y
  match v with
  |.int i=>fin m (.int (-i)) Y
  |_=>none
 |.un .Invert a,m,U,Y=>do
  let (v,Y) ← mU a false U Y
  match v with
  |.int (.ofNat i)=>fin m (.int (.negSucc i)) Y
  |_=>none
 |.un .UAdd _,_,_,_=>none
 |.bo op es,m,U,Y=>yx op es m U Y
 |.cmp op a b,m,U,Y=>do
  let (v,Y) ← mU a false U Y
  let (w,Y) ← mU b false U Y
  let r ← oW Y op v w
  fin m (.bool r) Y
 |.wg op Ae a b c,m,U,Y=>do
  let (v,Y) ← mU a false U Y
  let (w,Y) ← mU b false U Y
  let r ← oW Y op v w
  if r then
   let (x,Y) ← mU c false U Y
   let r ← oW Y Ae w x
   fin m (.bool r) Y
  else fin m (.bool false) Y
 |.nu c a b,m,U,Y=>do
  let (v,Y) ← mU c true U Y
  match v with
  |.bool true=>mU a m U Y
  |.bool false=>mU b m U Y
  |_=>none
 |.tup es,m,U,Y=>do
  let (vs,Y) ← rX es U Y
  if vs.length<=1000 then fin m (.tup vs) Y else none
 |.list es,m,U,Y=>do
  let (vs,Y) ← rX es U Y
  if vs.length<=1000 then fin m (.lst vs) Y else none
 |.qB es,m,U,Y=>do
  let (vs,Y) ← rX es U Y
  if m||decide (1000<vs.length) then none else some (qX true vs Y)
 |.dict k,m,_,Y=>if m then none else some (.loc Y.length,Y++[emptyDict k])
 |.call f es,m,U,Y=>do
  let (vs,Y) ← rX es U Y
  let (r,Y) ← O f vs Y
  fin m r Y
 |.new c es,m,U,Y=>do
  let (vs,Y) ← rX es U Y
  let n:=Y.length
  let (r,Y) ← O (qI c) (.loc n::vs) (Y++[.inst c []])
  if m=false/\r=.none then some (.loc n,Y) else none
 |.nA o f es,m,U,Y=>do
  let (v,Y) ← mU o false U Y
  let g ← ql tab Y f v
  let (vs,Y) ← rX es U Y
  let (r,Y) ← O g (v::vs) Y
  fin m r Y
 |.wh o k d,m,U,Y=>do
  let (v,Y) ← mU o false U Y
  if zw Y v then
   let (k,Y) ← mU k false U Y
   let (d,Y) ← mU d false U Y
   let r ← zR Y k d v
   fin m r Y
  else none
 |.bi b e,m,U,Y=>do
  let (v,Y) ← mU e false U Y
  let r ← qr Y b v
  fin m r Y
 |.comp mu elt t it,m,U,Y=>do
  let (src,all,Y) ← z3 it U Y
  let (vs,Y) ← vV src all (λx Y=>do
   let ρ' ← p3 t x (U++aI (slots t) none)
   let (v,Y) ← mU elt false ρ' Y
   some (some v,Y)) all Y
  if m then none else some (qX mu vs Y)
 |.oC mu elt t it c,m,U,Y=>do
  let (src,all,Y) ← z3 it U Y
  let (vs,Y) ← vV src all (λx Y=>do
   let ρ' ← p3 t x (U++aI (slots t) none)
   let (b,Y) ← mU c true ρ' Y
   match b with
   |.bool true=>do
    let (v,Y) ← mU elt false ρ' Y
    some (some v,Y)
   |.bool false=>some (none,Y)
   |_=>none) all Y
  if m then none else some (qX mu vs Y)
 |.bad,_,_,_=>none
noncomputable def rX:Es F->Loc->St->Option (List PV×St)
 |.nil,_,Y=>some ([],Y)
 |.cons e es,U,Y=>do
  let (v,Y) ← mU e false U Y
  let (vs,Y) ← rX es U Y
  some (v::vs,Y)
noncomputable def yx:BoolOp->Es F->Bool->Loc->St->Option (PV×St)
 |_,.nil,_,_,_=>none
 |op,.cons e es,m,U,Y=>match es with
  |.nil=>mU e m U Y
  |.cons .. =>do
   let (v,Y) ← mU e m U Y
   let b ← truthy Y v
   if b=(op==.Or) then some (v,Y) else yx op es m U Y
noncomputable def z3:It F->Loc->St->Option (Src×List PV×St)
 |.e e,U,Y=>do
  let (v,Y) ← mU e false U Y
  let l ← ug Y v
  some (.seq v,l,Y)
 |.d e,U,Y=>do
  let (v,Y) ← mU e false U Y
  let l ← w4 Y v
  some (.keys v,l,Y)
 |.range e,U,Y=>do
  let (v,Y) ← mU e false U Y
  match v with
  |.int n=>if decide (0<=n)&&decide (n<=100000) then some (.seq (.tup (p4 n)),p4 n,Y) else none
  |_=>none
end
mutual
noncomputable def F3:S F->Loc->St->Option (Flow×Loc×St)
 |.asg t e,U,Y=>do
  let (v,Y) ← mU tab qI O e false U Y
  let U ← p3 t v U
  some (.next,U,Y)
 |.setattr o a e,U,Y=>do
  let (v,Y) ← mU tab qI O e false U Y
  let (w,Y) ← mU tab qI O o false U Y
  let Y ← wN Y a v w
  some (.next,U,Y)
 |.rS o i e,U,Y=>do
  let (v,Y) ← mU tab qI O e false U Y
  let (w,Y) ← mU tab qI O o false U Y
  let (k,Y) ← mU tab qI O i false U Y
  let Y ← tv Y k v w
  some (.next,U,Y)
 |.expr e,U,Y=>do
  let (v,Y) ← mU tab qI O e false U Y
  if v.isScalar then some (.next,U,Y) else none
 |.append o e,U,Y=>do
  let (w,Y) ← mU tab qI O o false U Y
  if ya Y w then
   let (v,Y) ← mU tab qI O e false U Y
   let Y ← AZ Y v w
   some (.next,U,Y)
  else none
 |.ite c a b,U,Y=>do
  let (v,Y) ← mU tab qI O c true U Y
  match v with
  |.bool true=>sA a U Y
  |.bool false=>sA b U Y
  |_=>none
 |.for t it body,U,Y=>do
  let (src,all,Y) ← z3 tab qI O it U Y
  w9 src all (λx U Y=>do
   let U ← p3 t x U
   sA body U Y) all U Y
 |.ret e,U,Y=>do
  let (v,Y) ← mU tab qI O e false U Y
  some (.ret v,U,Y)
 |.cont,U,Y=>some (.cont,U,Y)
 |.bad,_,_=>none
noncomputable def sA:Ss F->Loc->St->Option (Flow×Loc×St)
 |.nil,U,Y=>some (.next,U,Y)
 |.cons s ss,U,Y=>do
  let (fl,U,Y) ← F3 s U Y
  match fl with
  |.next=>sA ss U Y
  |fl=>some (fl,U,Y)
end
noncomputable def my (fd:BN F)(args:List PV):Option Loc :=
 if args.length<=fd.ru/\fd.ru<=args.length+fd.defaults.length then
  some ((args++fd.defaults.drop (fd.defaults.length - (fd.ru - args.length))).map some++aI (fd.names.length - fd.ru) none)
 else none
noncomputable def Ic (fd:BN F)(args:List PV)(Y:St):Option (PV×St):=do
 let U ← my fd args
 match ← sA tab qI O fd.body U Y with
 |(.ret v,_,Y)=>some (v,Y)
 |(.next,_,Y)=>some (.none,Y)
 |_=>none
end
noncomputable def Ph {F:Type}(tab:n_->String->Option F)(qI:n_->F)(funcs:F->BN F):Nat->oh F
 |0=>λ_ _ _=>none
 |k+1=>λf args Y=>Ic tab qI (Ph tab qI funcs k) (funcs f) args Y
end
noncomputable abbrev Fn:=Fin 89
noncomputable abbrev Fn.GQ:Fn:=0
noncomputable abbrev Fn.wJ:Fn:=1
noncomputable abbrev Fn.Hd:Fn:=2
noncomputable abbrev Fn.Be:Fn:=3
noncomputable abbrev Fn.D6:Fn:=4
noncomputable abbrev Fn.A0:Fn:=5
noncomputable abbrev Fn.DE:Fn:=6
noncomputable abbrev Fn.D7:Fn:=7
noncomputable abbrev Fn.AL:Fn:=8
noncomputable abbrev Fn.zf:Fn:=9
noncomputable abbrev Fn.C7:Fn:=10
noncomputable abbrev Fn.D8:Fn:=11
noncomputable abbrev Fn.Dq:Fn:=12
noncomputable abbrev Fn.Dg:Fn:=13
noncomputable abbrev Fn.D9:Fn:=14
noncomputable abbrev Fn.sig_type:Fn:=15
noncomputable abbrev Fn.D_:Fn:=16
noncomputable abbrev Fn.sR:Fn:=17
noncomputable abbrev Fn.Dh:Fn:=18
noncomputable abbrev Fn.Di:Fn:=19
noncomputable abbrev Fn.Dr:Fn:=20
noncomputable abbrev Fn.Dj:Fn:=21
noncomputable abbrev Fn.EO:Fn:=22
noncomputable abbrev Fn.union:Fn:=23
noncomputable abbrev Fn.zg:Fn:=24
noncomputable abbrev Fn.Ds:Fn:=25
noncomputable abbrev Fn.Ez:Fn:=26
noncomputable abbrev Fn.A1:Fn:=27
noncomputable abbrev Fn.AI:Fn:=28
noncomputable abbrev Fn.regular:Fn:=29
noncomputable abbrev Fn.DF:Fn:=30
noncomputable abbrev Fn.Dl:Fn:=31
noncomputable abbrev Fn.DG:Fn:=32
noncomputable abbrev Fn.AJ:Fn:=33
noncomputable abbrev Fn.xM:Fn:=34
noncomputable abbrev Fn.xN:Fn:=35
noncomputable abbrev Fn.xI:Fn:=36
noncomputable abbrev Fn.xH:Fn:=37
noncomputable abbrev Fn.G2:Fn:=38
noncomputable abbrev Fn.xJ:Fn:=39
noncomputable abbrev Fn.y7:Fn:=40
noncomputable abbrev Fn.Ea:Fn:=41
noncomputable abbrev Fn.DH:Fn:=42
noncomputable abbrev Fn.He:Fn:=43
noncomputable abbrev Fn.AE:Fn:=44
noncomputable abbrev Fn.vQ:Fn:=45
noncomputable abbrev Fn.DI:Fn:=46
noncomputable abbrev Fn.DJ:Fn:=47
noncomputable abbrev Fn.AM:Fn:=48
noncomputable abbrev Fn.tp:Fn:=49
noncomputable abbrev Fn.wU:Fn:=50
noncomputable abbrev Fn.AQ:Fn:=51
noncomputable abbrev Fn.EA:Fn:=52
noncomputable abbrev Fn.y6:Fn:=53
noncomputable abbrev Fn.uY:Fn:=54
noncomputable abbrev Fn.sQ:Fn:=55
noncomputable abbrev Fn.y8:Fn:=56
noncomputable abbrev Fn.takes_all:Fn:=57
noncomputable abbrev Fn.BP:Fn:=58
noncomputable abbrev Fn.Dm:Fn:=59
noncomputable abbrev Fn.DM:Fn:=60
noncomputable abbrev Fn.Dv:Fn:=61
noncomputable abbrev Fn.C_:Fn:=62
noncomputable abbrev Fn.Dc:Fn:=63
noncomputable abbrev Fn.Dw:Fn:=64
noncomputable abbrev Fn.zd:Fn:=65
noncomputable abbrev Fn.Dn:Fn:=66
noncomputable abbrev Fn.uh:Fn:=67
noncomputable abbrev Fn.qL:Fn:=68
noncomputable abbrev Fn.Eb:Fn:=69
noncomputable abbrev Fn.zj:Fn:=70
noncomputable abbrev Fn.zx:Fn:=71
noncomputable abbrev Fn.AN:Fn:=72
noncomputable abbrev Fn.zh:Fn:=73
noncomputable abbrev Fn.Ec:Fn:=74
noncomputable abbrev Fn.tw:Fn:=75
noncomputable abbrev Fn.AS:Fn:=76
noncomputable abbrev Fn.uZ:Fn:=77
noncomputable abbrev Fn.xR:Fn:=78
noncomputable abbrev Fn.zk:Fn:=79
noncomputable abbrev Fn.Dx:Fn:=80
noncomputable abbrev Fn.Ed:Fn:=81
noncomputable abbrev Fn.A2:Fn:=82
noncomputable abbrev Fn.Ee:Fn:=83
noncomputable abbrev Fn.DN:Fn:=84
noncomputable abbrev Fn.tq:Fn:=85
noncomputable abbrev Fn.A3:Fn:=86
noncomputable abbrev Fn.DO:Fn:=87
noncomputable abbrev Fn.rF:Fn:=88
noncomputable abbrev mx:=BN Fn
noncomputable abbrev Es.k {F:Type}(e:E F)(es:Es F):Es F:=.cons e es
noncomputable abbrev Es.z {F:Type}:Es F:=.nil
noncomputable abbrev Ss.k {F:Type}(s:S F)(ss:Ss F):Ss F:=.cons s ss
noncomputable abbrev Ss.z {F:Type}:Ss F:=.nil
noncomputable abbrev E.x0 {F:Type}:E F:=.var 0
noncomputable abbrev E.x1 {F:Type}:E F:=.var 1
noncomputable abbrev E.x2 {F:Type}:E F:=.var 2
noncomputable abbrev E.x3 {F:Type}:E F:=.var 3
noncomputable abbrev E.x4 {F:Type}:E F:=.var 4
noncomputable abbrev E.x5 {F:Type}:E F:=.var 5
noncomputable abbrev E.x6 {F:Type}:E F:=.var 6
noncomputable abbrev E.x7 {F:Type}:E F:=.var 7
noncomputable abbrev E.x8 {F:Type}:E F:=.var 8
noncomputable abbrev E.x9 {F:Type}:E F:=.var 9
noncomputable abbrev E.oM {F:Type}:E F:=.var 10
noncomputable abbrev E.ow {F:Type}:E F:=.var 11
noncomputable abbrev E.o6 {F:Type}:E F:=.var 12
noncomputable abbrev E.pX {F:Type}:E F:=.var 13
noncomputable abbrev E.pI {F:Type}:E F:=.var 14
noncomputable abbrev E.qf {F:Type}:E F:=.var 15
noncomputable abbrev E.qv {F:Type}:E F:=.var 16
noncomputable abbrev E.oR {F:Type}:E F:=.var 17
noncomputable abbrev E.oS {F:Type}:E F:=.var 18
noncomputable abbrev E.o7 {F:Type}:E F:=.var 19
noncomputable abbrev E.o8 {F:Type}:E F:=.var 20
noncomputable abbrev E.oN {F:Type}:E F:=.var 21
noncomputable abbrev E.o9 {F:Type}:E F:=.var 22
noncomputable abbrev E.x23 {F:Type}:E F:=.var 23
noncomputable def SF:mx:=⟨"TypeTable.__init__",1,[],["self","row"],(.k (.setattr .x0 "rows" (.qB .z)) (.k (.setattr .x0 "index" (.dict .T)) (.k (.setattr .x0 "decls" (.qB (.k .n5 .z))) (.k (.setattr .x0 "bounds" (.qB .z)) (.k (.setattr .x0 "defaults" (.qB .z)) (.k (.setattr .x0 "names" (.qB .z)) (.k (.setattr .x0 "origins" (.dict .I)) (.k (.setattr .x0 "renamed" (.dict .I)) (.k (.setattr .x0 "shaping" (.lR 0)) (.k (.setattr .x0 "putting" (.lR 0)) (.k (.for (.v 1) (.e (.glob "FIRST_ROWS" (.tup [(.tup [(.int 1),(.str "any")]),(.tup [(.int 1),(.str "unknown")]),(.tup [(.int 1),(.str "never")]),(.tup [(.int 1),(.str "void")]),(.tup [(.int 1),(.str "undefined")]),(.tup [(.int 1),(.str "null")]),(.tup [(.int 1),(.str "string")]),(.tup [(.int 1),(.str "number")]),(.tup [(.int 2),(.int 0),(.int 0)]),(.tup [(.int 2),(.int 1),(.int 0)]),(.tup [(.int 1),(.str "object")]),(.tup [(.int 8),(.tup []),(.tup []),(.tup []),(.tup []),(.tup []),(.int 0)]),(.tup [(.int 6),(.tup [(.int 8),(.int 9)])]),(.tup [(.int 1),(.str "error")]),(.tup [(.int 2),(.int 0),(.int 1)]),(.tup [(.int 2),(.int 1),(.int 1)])]))) (.k (.expr (.nA .x0 "put" (.k .x1 .z))) .z)) .z)))))))))))⟩
noncomputable def SQ:mx:=⟨"TypeTable.put",2,[],["self","row","t"],(.k (.ite (.cmp .In .x1 (.attr .x0 "index")) (.k (.ret (.idx (.attr .x0 "index") .x1)) .z) .z) (.k (.asg (.v 2) (.bi .len (.attr .x0 "rows"))) (.k (.append (.attr .x0 "rows") .x1) (.k (.rS (.attr .x0 "index") .x1 .x2) (.k (.ret .x2) .z)))))⟩
noncomputable def U7:mx:=⟨"Decl.__init__",4,[],["self","did","kind","name"],(.k (.setattr .x0 "did" .x1) (.k (.setattr .x0 "kind" .x2) (.k (.setattr .x0 "name" .x3) (.k (.setattr .x0 "params" (.tup .z)) (.k (.setattr .x0 "body" (.un .USub (.lR 1))) (.k (.setattr .x0 "bases" (.tup .z)) (.k (.setattr .x0 "static" (.un .USub (.lR 1))) (.k (.setattr .x0 "extends_class" (.lR 0)) (.k (.setattr .x0 "abstract" (.oq false)) (.k (.setattr .x0 "members" (.qB .z)) (.k (.setattr .x0 "variances" (.qB .z)) (.k (.setattr .x0 "busy" (.lR 0)) (.k (.setattr .x0 "at" (.lR 0)) (.k (.setattr .x0 "file" (.m4 "")) (.k (.setattr .x0 "nid" (.lR 0)) .z)))))))))))))))⟩
noncomputable def Xv:mx:=⟨"kind_of",2,[],["tab","t"],(.k (.ret (.idx (.idx (.attr .x0 "rows") .x1) (.lR 0))) .z)⟩
noncomputable def V5:mx:=⟨"str_type",3,[(.int 0)],["tab","text","fresh"],(.k (.ret (.nA .x0 "put" (.k (.tup (.k (.glob "Y_STR" (.int 3)) (.k .x1 (.k .x2 .z)))) .z))) .z)⟩
noncomputable def V6:mx:=⟨"num_type",3,[(.int 0)],["tab","n","fresh"],(.k (.ret (.nA .x0 "put" (.k (.tup (.k (.glob "Y_NUM" (.int 4)) (.k .x1 (.k .x2 .z)))) .z))) .z)⟩
noncomputable def U8:mx:=⟨"bool_type",3,[(.int 0)],["tab","b","fresh"],(.k (.ret (.nA .x0 "put" (.k (.tup (.k (.glob "Y_BOOL" (.int 2)) (.k (.nu .x1 (.lR 1) (.lR 0)) (.k .x2 .z)))) .z))) .z)⟩
noncomputable def V7:mx:=⟨"ref_type",3,[],["tab","did","args"],(.k (.ret (.nA .x0 "put" (.k (.tup (.k (.glob "Y_REF" (.int 9)) (.k .x1 (.k (.bi .tuple .x2) .z)))) .z))) .z)⟩
noncomputable def Uw:mx:=⟨"array_type",3,[(.int 0)],["tab","elem","ro"],(.k (.ret (.nA .x0 "put" (.k (.tup (.k (.glob "Y_ARRAY" (.int 11)) (.k .x1 (.k .x2 .z)))) .z))) .z)⟩
noncomputable def U9:mx:=⟨"last_mark",2,[],["elems","marks","found","place"],(.k (.asg (.v 2) (.un .USub (.lR 1))) (.k (.for (.v 3) (.range (.bi .len .x0)) (.k (.ite (.cmp .In (.idx (.idx .x0 .x3) (.lR 1)) .x1) (.k (.asg (.v 2) .x3) .z) .z) .z)) (.k (.ret .x2) .z)))⟩
noncomputable def SG:mx:=⟨"needed_to_last",2,[],["tab","elems","last","out","place","given","mark"],(.k (.asg (.v 2) (.call .zf (.k .x1 (.k (.tup (.k (.glob "E_NEED" (.int 0)) .z)) .z)))) (.k (.asg (.v 3) (.qB .z)) (.k (.for (.v 4) (.range (.bi .len .x1)) (.k (.asg (.t [5,6]) (.idx .x1 .x4)) (.k (.ite (.bo .And (.k (.cmp .Eq .x6 (.glob "E_OPT" (.int 1))) (.k (.cmp .Lt .x4 .x2) .z))) (.k (.append .x3 (.tup (.k (.call .zg (.k .x0 (.k .x5 .z))) (.k (.glob "E_NEED" (.int 0)) .z)))) .z) (.k (.append .x3 (.tup (.k .x5 (.k .x6 .z)))) .z)) .z))) (.k (.ret .x3) .z))))⟩
noncomputable def V8:mx:=⟨"one_rest",2,[],["tab","elems","first","place","last","held","given","mark"],(.k (.asg (.v 2) (.un .USub (.lR 1))) (.k (.for (.v 3) (.range (.bi .len .x1)) (.k (.ite (.bo .And (.k (.cmp .Lt .x2 (.lR 0)) (.k (.cmp .Eq (.idx (.idx .x1 .x3) (.lR 1)) (.glob "E_REST" (.int 2))) .z))) (.k (.asg (.v 2) .x3) .z) .z) .z)) (.k (.asg (.v 4) (.call .zf (.k .x1 (.k (.tup (.k (.glob "E_REST" (.int 2)) (.k (.glob "E_OPT" (.int 1)) .z))) .z)))) (.k (.ite (.bo .Or (.k (.cmp .Lt .x2 (.lR 0)) (.k (.cmp .LtE .x4 .x2) .z))) (.k (.ret .x1) .z) .z) (.k (.asg (.v 5) (.qB .z)) (.k (.for (.t [6,7]) (.e .bad) (.k (.append .x5 (.nu (.cmp .Eq .x7 (.glob "E_OPT" (.int 1))) (.call .zg (.k .x0 (.k .x6 .z))) .x6)) .z)) (.k (.ret (.bin .Add (.bin .Add .bad (.list (.k (.tup (.k (.call .union (.k .x0 (.k .x5 .z))) (.k (.glob "E_REST" (.int 2)) .z))) .z))) .bad)) .z)))))))⟩
noncomputable def Ux:mx:=⟨"tuple_type",3,[(.int 0)],["tab","elems","ro","rows"],(.k (.asg (.v 3) (.comp false (.tup (.k .x4 (.k .x5 .z))) (.t [4,5]) (.e .x1))) (.k (.ite (.cmp .Lt (.call .zf (.k .x3 (.k (.tup (.k (.glob "E_SPREAD" (.int 3)) .z)) .z))) (.lR 0)) (.k (.asg (.v 3) (.call .D8 (.k .x0 (.k (.call .C7 (.k .x0 (.k .x3 .z))) .z)))) (.k (.ite (.bo .And (.k (.cmp .Eq (.bi .len .x3) (.lR 1)) (.k (.cmp .Eq (.idx (.idx .x3 (.lR 0)) (.lR 1)) (.glob "E_REST" (.int 2))) .z))) (.k (.ret (.call .AL (.k .x0 (.k (.idx (.idx .x3 (.lR 0)) (.lR 0)) (.k .x2 .z))))) .z) .z) .z)) .z) (.k (.ret (.nA .x0 "put" (.k (.tup (.k (.glob "Y_TUPLE" (.int 12)) (.k (.bi .tuple .x3) (.k .x2 .z)))) .z))) .z)))⟩
noncomputable def Ti:mx:=⟨"sorted_props",1,[],["props","found","prop"],(.k (.asg (.v 1) (.dict .S)) (.k (.for (.v 2) (.e .x0) (.k (.rS .x1 (.idx .x2 (.lR 0)) .x2) .z)) (.k (.ret (.bi .tuple (.comp false (.idx .x1 .x3) (.v 3) (.e (.bi .sorted .x1))))) .z)))⟩
noncomputable def V9:mx:=⟨"obj_type",7,[(.tup []),(.tup []),(.tup []),(.tup []),(.int 0)],["tab","props","calls","ctors","sindex","nindex","fresh"],(.k (.ret (.nA .x0 "put" (.k (.tup (.k (.glob "Y_OBJ" (.int 8)) (.k (.call .Dg (.k .x1 .z)) (.k (.bi .tuple .x2) (.k (.bi .tuple .x3) (.k .x4 (.k .x5 (.k .x6 .z)))))))) .z))) .z)⟩
noncomputable def V_:mx:=⟨"sig_type",6,[(.tup []),(.int 0)],["tab","tparams","params","ret","pred","flags"],(.k (.ret (.nA .x0 "put" (.k (.tup (.k (.glob "Y_SIG" (.int 13)) (.k (.bi .tuple .x1) (.k (.bi .tuple .x2) (.k .x3 (.k .x4 (.k .x5 .z))))))) .z))) .z)⟩
noncomputable def Wa:mx:=⟨"new_decl",3,[],["tab","kind","name","decl"],(.k (.asg (.v 3) (.new .Decl (.k (.bi .len (.attr .x0 "decls")) (.k .x1 (.k .x2 .z))))) (.k (.append (.attr .x0 "decls") .x3) (.k (.ret .x3) .z)))⟩
noncomputable def Wb:mx:=⟨"parts_of",2,[],["tab","t","row"],(.k (.ite (.cmp .Eq .x1 (.glob "NEVER" (.int 2))) (.k (.ret (.tup .z)) .z) .z) (.k (.asg (.v 2) (.idx (.attr .x0 "rows") .x1)) (.k (.ite (.cmp .Eq (.idx .x2 (.lR 0)) (.glob "Y_UNION" (.int 6))) (.k (.ret (.idx .x2 (.lR 1))) .z) .z) (.k (.ret (.tup (.k .x1 .z))) .z))))⟩
noncomputable def Tj:mx:=⟨"whole_of_row",1,[],["row","kind"],(.k (.asg (.v 1) (.idx .x0 (.lR 0))) (.k (.ite (.bo .Or (.k (.cmp .Eq .x1 (.glob "Y_STR" (.int 3))) (.k (.cmp .Eq .x1 (.glob "Y_TPL" (.int 18))) .z))) (.k (.ret (.glob "STRING" (.int 6))) .z) .z) (.k (.ite (.cmp .Eq .x1 (.glob "Y_NUM" (.int 4))) (.k (.ret (.glob "NUMBER" (.int 7))) .z) .z) (.k (.ite (.cmp .Eq .x1 (.glob "Y_ENUM" (.int 5))) (.k (.ret (.nu .bad (.glob "STRING" (.int 6)) (.glob "NUMBER" (.int 7)))) .z) .z) (.k (.ret (.un .USub (.lR 1))) .z)))))⟩
noncomputable def Tn:mx:=⟨"regular_twin",2,[],["tab","t","row"],(.k (.asg (.v 2) (.idx (.attr .x0 "rows") .x1)) (.k (.ite (.bo .And (.k (.cmp .In (.idx .x2 (.lR 0)) (.glob "MARKED_ROWS" (.tup [(.int 2),(.int 3),(.int 4),(.int 5),(.int 8)]))) (.k (.cmp .Eq (.idx .x2 (.un .USub (.lR 1))) (.lR 1)) .z))) (.k (.ret (.wh (.attr .x0 "index") (.bin .Add (.ri .x2 none (some (-1))) (.tup (.k (.lR 0) .z))) (.un .USub (.lR 1)))) .z) .z) (.k (.ret (.un .USub (.lR 1))) .z)))⟩
noncomputable def Uy:mx:=⟨"join_bools",1,[],["got"],(.k (.ite (.bo .And (.k (.bo .Or (.k (.cmp .In (.glob "FALSE_T" (.int 8)) .x0) (.k (.cmp .In (.glob "FRESH_F" (.int 14)) .x0) .z))) (.k (.bo .Or (.k (.cmp .In (.glob "TRUE_T" (.int 9)) .x0) (.k (.cmp .In (.glob "FRESH_T" (.int 15)) .x0) .z))) .z))) (.k (.rS .x0 (.glob "FALSE_T" (.int 8)) (.lR 1)) (.k (.rS .x0 (.glob "TRUE_T" (.int 9)) (.lR 1)) .z)) .z) .z)⟩
noncomputable def To:mx:=⟨"stays_beside",3,[],["tab","got","t"],(.k (.ite (.cmp .In (.call .Di (.k .x0 (.k .x2 .z))) .x1) (.k (.ret (.oq false)) .z) .z) (.k (.ret (.cmp .NotIn (.call .Dh (.k (.idx (.attr .x0 "rows") .x2) .z)) .x1)) .z))⟩
noncomputable def Zt:mx:=⟨"top_of",1,[],["got","t"],(.k (.for (.v 1) (.e (.tup (.k (.glob "ANY" (.int 0)) (.k (.glob "ERR" (.int 13)) (.k (.glob "UNKNOWN" (.int 1)) .z))))) (.k (.ite (.cmp .In .x1 .x0) (.k (.ret .x1) .z) .z) .z)) (.k (.ret (.un .USub (.lR 1))) .z))⟩
noncomputable def abG:mx:=⟨"union",2,[],["tab","parts","got","t","part","top","kept"],(.k (.asg (.v 2) (.dict .I)) (.k (.for (.v 3) (.e .x1) (.k (.for (.v 4) (.e (.call .sR (.k .x0 (.k .x3 .z)))) (.k (.rS .x2 .x4 (.lR 1)) .z)) .z)) (.k (.asg (.v 5) (.call .EO (.k .x2 .z))) (.k (.ite (.cmp .GtE .x5 (.lR 0)) (.k (.ret .x5) .z) .z) (.k (.expr (.call .Dr (.k .x2 .z))) (.k (.asg (.v 6) (.oC false .x7 (.v 7) (.e (.bi .sorted .x2)) (.call .Dj (.k .x0 (.k .x2 (.k .x7 .z)))))) (.k (.ite (.un .Not .x6) (.k (.ret (.glob "NEVER" (.int 2))) .z) .z) (.k (.ite (.cmp .Eq (.bi .len .x6) (.lR 1)) (.k (.ret (.idx .x6 (.lR 0))) .z) .z) (.k (.ite (.cmp .Gt (.bi .len .x6) (.glob "MAX_UNION" (.int 400))) (.k .bad .z) .z) (.k (.ret (.nA .x0 "put" (.k (.tup (.k (.glob "Y_UNION" (.int 6)) (.k (.bi .tuple .x6) .z))) .z))) .z))))))))))⟩
noncomputable def U_:mx:=⟨"add_undef",2,[],["tab","t"],(.k (.ret (.call .union (.k .x0 (.k (.tup (.k .x1 (.k (.glob "UNDEF" (.int 4)) .z))) .z)))) .z)⟩
noncomputable def Uz:mx:=⟨"is_literal",2,[],["tab","t"],(.k (.ret (.cmp .In (.idx (.idx (.attr .x0 "rows") .x1) (.lR 0)) (.glob "LITERAL_ROWS" (.tup [(.int 2),(.int 3),(.int 4),(.int 5)])))) .z)⟩
noncomputable def Xw:mx:=⟨"is_unit",2,[],["tab","t"],(.k (.ret (.bo .Or (.k (.cmp .Eq .x1 (.glob "UNDEF" (.int 4))) (.k (.cmp .Eq .x1 (.glob "NULLT" (.int 5))) (.k (.call .Ds (.k .x0 (.k .x1 .z))) .z))))) .z)⟩
noncomputable def Wc:mx:=⟨"is_fresh",2,[],["tab","t","row"],(.k (.asg (.v 2) (.idx (.attr .x0 "rows") .x1)) (.k (.ret (.bo .And (.k (.cmp .In (.idx .x2 (.lR 0)) (.glob "MARKED_ROWS" (.tup [(.int 2),(.int 3),(.int 4),(.int 5),(.int 8)]))) (.k (.cmp .Eq (.idx .x2 (.un .USub (.lR 1))) (.lR 1)) .z)))) .z))⟩
noncomputable def TR:mx:=⟨"regular_one",2,[],["tab","t"],(.k (.ite (.call .A1 (.k .x0 (.k .x1 .z))) (.k (.ret (.nA .x0 "put" (.k (.bin .Add (.ri (.idx (.attr .x0 "rows") .x1) none (some (-1))) (.tup (.k (.lR 0) .z))) .z))) .z) .z) (.k (.ret .x1) .z))⟩
noncomputable def Xx:mx:=⟨"regular",2,[],["tab","t"],(.k (.ite (.cmp .Eq (.call .Be (.k .x0 (.k .x1 .z))) (.glob "Y_UNION" (.int 6))) (.k (.ret (.call .union (.k .x0 (.k (.comp false (.call .AI (.k .x0 (.k .x2 .z))) (.v 2) (.e (.call .sR (.k .x0 (.k .x1 .z))))) .z)))) .z) .z) (.k (.ret (.call .AI (.k .x0 (.k .x1 .z)))) .z))⟩
noncomputable def Va:mx:=⟨"all_units",2,[],["tab","t","parts"],(.k (.asg (.v 2) (.call .sR (.k .x0 (.k .x1 .z)))) (.k (.ret (.bo .And (.k (.cmp .Gt (.bi .len .x2) (.lR 0)) (.k (.bi .all (.comp false (.call .Ez (.k .x0 (.k .x3 .z))) (.v 3) (.e .x2))) .z)))) .z))⟩
noncomputable def TS:mx:=⟨"value_holds",3,[],["tab","row","parts","kind"],(.k (.ite (.cmp .NotEq (.idx .x1 (.lR 0)) (.glob "Y_ENUM" (.int 5))) (.k (.ret (.oq false)) .z) .z) (.k (.asg (.v 3) (.nu .bad (.glob "Y_STR" (.int 3)) (.glob "Y_NUM" (.int 4)))) (.k (.ret (.cmp .In (.wh (.attr .x0 "index") (.tup (.k .x3 (.k (.idx .x1 (.lR 3)) (.k (.lR 0) .z)))) (.un .USub (.lR 1))) .x2)) .z)))⟩
noncomputable def Vb:mx:=⟨"units_fit",3,[],["tab","s","t","parts","part","row","held"],(.k (.ite (.bo .Or (.k (.cmp .Eq .x2 (.glob "ANY" (.int 0))) (.k (.cmp .Eq .x2 (.glob "UNKNOWN" (.int 1))) (.k (.cmp .Eq .x2 (.glob "ERR" (.int 13))) .z)))) (.k (.ret (.oq true)) .z) .z) (.k (.asg (.v 3) (.call .sR (.k .x0 (.k (.call .regular (.k .x0 (.k .x2 .z))) .z)))) (.k (.for (.v 4) (.e (.call .sR (.k .x0 (.k (.call .regular (.k .x0 (.k .x1 .z))) .z)))) (.k (.asg (.v 5) (.idx (.attr .x0 "rows") .x4)) (.k (.asg (.v 6) (.bo .Or (.k (.cmp .In .x4 .x3) (.k (.cmp .In (.call .Dh (.k .x5 .z)) .x3) (.k (.call .Dl (.k .x0 (.k .x5 (.k .x3 .z)))) .z))))) (.k (.ite (.bo .And (.k (.un .Not .x6) (.k (.un .Not (.bo .And (.k (.cmp .Eq .x4 (.glob "UNDEF" (.int 4))) (.k (.cmp .In (.glob "VOID" (.int 3)) .x3) .z)))) .z))) (.k (.ret (.oq false)) .z) .z) .z)))) (.k (.ret (.oq true)) .z))))⟩
noncomputable def TU:mx:=⟨"plain_shape",2,[],["tab","t","turn","row"],(.k (.for (.v 2) (.range (.glob "MOST_PLAIN" (.int 40))) (.k (.ite (.cmp .Lt .x1 (.lR 0)) (.k .bad .z) .z) (.k (.asg (.v 3) (.idx (.attr .x0 "rows") .x1)) (.k (.ite (.cmp .Eq (.idx .x3 (.lR 0)) (.glob "Y_OBJ" (.int 8))) (.k (.ret .x1) .z) .z) (.k (.ite (.cmp .Eq (.idx .x3 (.lR 0)) (.glob "Y_SIG" (.int 13))) (.k (.ret .bad) .z) .z) (.k (.ite (.cmp .In (.idx .x3 (.lR 0)) (.glob "PLAIN_ROWS" (.tup [(.int 1),(.int 2),(.int 3),(.int 4),(.int 5)]))) (.k (.ret (.glob "EMPTY" (.int 11))) .z) .z) (.k (.ite (.bo .Or (.k (.cmp .NotEq (.idx .x3 (.lR 0)) (.glob "Y_REF" (.int 9))) (.k (.idx .x3 (.lR 2)) (.k (.attr (.idx (.attr .x0 "decls") (.idx .x3 (.lR 1))) "bases") .z)))) (.k .bad .z) .z) (.k (.asg (.v 1) (.attr (.idx (.attr .x0 "decls") (.idx .x3 (.lR 1))) "body")) .z)))))))) (.k .bad .z))⟩
noncomputable def UA:mx:=⟨"Thin.force",2,[],["self","t"],(.k (.ret .x1) .z)⟩
noncomputable def UB:mx:=⟨"Thin.bound",2,[],["self","t"],(.k (.ret .x1) .z)⟩
noncomputable def SH:mx:=⟨"Thin.list_prop",3,[],["self","t","name"],(.k (.ret .n5) .z)⟩
noncomputable def Sv:mx:=⟨"Thin.list_index",2,[],["self","t"],(.k (.ret (.tup .z)) .z)⟩
noncomputable def Tp:mx:=⟨"RefHost.__init__",2,[],["self","tab"],(.k (.setattr .x0 "tab" .x1) (.k (.setattr .x0 "deep" (.lR 0)) (.k (.setattr .x0 "most_rounds" (.glob "MOST_ROUNDS" (.int 200))) (.k (.setattr .x0 "most_deep" (.glob "MOST_SHAPES" (.int 40))) .z))))⟩
noncomputable def SR:mx:=⟨"RefHost.shape",2,[],["self","t"],(.k (.ret (.call .AJ (.k (.attr .x0 "tab") (.k .x1 .z)))) .z)⟩
noncomputable def Tq:mx:=⟨"RefHost.fits",3,[],["self","s","t"],(.k (.ret (.call .DG (.k (.attr .x0 "tab") (.k .x1 (.k .x2 .z))))) .z)⟩
noncomputable def We:mx:=⟨"row_elem",2,[],["tab","row"],(.k (.ite (.cmp .Eq (.idx .x1 (.lR 0)) (.glob "Y_ARRAY" (.int 11))) (.k (.ret (.idx .x1 (.lR 1))) .z) .z) (.k (.ret (.call .union (.k .x0 (.k (.comp false .bad (.v 2) (.e (.idx .x1 (.lR 1)))) .z)))) .z))⟩
noncomputable def Vc:mx:=⟨"find_prop",2,[],["row","name","prop"],(.k (.for (.v 2) (.e (.idx .x0 (.lR 1))) (.k (.ite (.cmp .Eq (.idx .x2 (.lR 0)) .x1) (.k (.ret .x2) .z) .z) .z)) (.k (.ret .n5) .z))⟩
noncomputable def Vd:mx:=⟨"is_digits",1,[],["name","digits"],(.k (.asg (.v 1) (.bi .all (.comp false (.wg .LtE .LtE (.m4 "0") .x2 (.m4 "9")) (.v 2) (.e .x0)))) (.k (.ret (.bo .Or (.k (.cmp .Eq .x0 (.m4 "0")) (.k (.bo .And (.k (.cmp .NotEq .x0 (.m4 "")) (.k (.cmp .NotEq (.idx .x0 (.lR 0)) (.m4 "0")) (.k .x1 .z)))) .z)))) .z))⟩
noncomputable def SK:mx:=⟨"is_number_name",1,[],["name"],(.k (.ite (.bo .And (.k (.cmp .Eq (.ri .x0 (some 0) (some 1)) (.m4 "-")) (.k (.cmp .NotEq .x0 (.m4 "-0")) .z))) (.k (.asg (.v 0) (.ri .x0 (some 1) none)) .z) .z) (.k (.ret (.bo .Or (.k (.call .He (.k .x0 .z)) (.k (.cmp .Eq .x0 (.m4 "Infinity")) (.k (.cmp .Eq .x0 (.m4 "NaN")) .z))))) .z))⟩
noncomputable def Wf:mx:=⟨"prop_row",3,[],["host","t","name","row","prop"],(.k (.asg (.v 1) (.nA .x0 "force" (.k .x1 .z))) (.k (.asg (.v 3) (.idx (.attr (.attr .x0 "tab") "rows") .x1)) (.k (.ite (.bo .Or (.k (.cmp .Eq (.idx .x3 (.lR 0)) (.glob "Y_ARRAY" (.int 11))) (.k (.cmp .Eq (.idx .x3 (.lR 0)) (.glob "Y_TUPLE" (.int 12))) .z))) (.k (.asg (.v 4) (.nA .x0 "list_prop" (.k .x1 (.k .x2 .z)))) .z) (.k (.asg (.v 4) (.call .DH (.k (.idx (.attr (.attr .x0 "tab") "rows") (.nA .x0 "shape" (.k .x1 .z))) (.k .x2 .z)))) .z)) (.k (.ret (.nu (.cmp .Is .x4 .n5) .n5 (.tup (.k .x2 (.k (.nA .x0 "force" (.k (.idx .x4 (.lR 1)) .z)) (.k (.idx .x4 (.lR 2)) (.k (.idx .x4 (.lR 3)) .z))))))) .z))))⟩
noncomputable def Ve:mx:=⟨"read_type",2,[],["tab","prop"],(.k (.ret (.nu (.bin .BitAnd (.idx .x1 (.lR 2)) (.glob "P_OPT" (.int 1))) (.call .zg (.k .x0 (.k (.idx .x1 (.lR 1)) .z))) (.idx .x1 (.lR 1)))) .z)⟩
noncomputable def Vf:mx:=⟨"list_read",3,[],["host","row","name"],(.k (.ite (.cmp .Eq (.idx .x1 (.lR 0)) (.glob "Y_ARRAY" (.int 11))) (.k (.ret (.nu (.call .AE (.k .x2 .z)) (.idx .x1 (.lR 1)) (.un .USub (.lR 1)))) .z) .z) (.k (.ret (.nu (.call .He (.k .x2 .z)) .bad (.un .USub (.lR 1)))) .z))⟩
noncomputable def UC:mx:=⟨"index_read",3,[],["host","t","name","row","shape"],(.k (.asg (.v 3) (.idx (.attr (.attr .x0 "tab") "rows") .x1)) (.k (.ite (.bo .Or (.k (.cmp .Eq (.idx .x3 (.lR 0)) (.glob "Y_ARRAY" (.int 11))) (.k (.cmp .Eq (.idx .x3 (.lR 0)) (.glob "Y_TUPLE" (.int 12))) .z))) (.k (.asg (.v 1) (.call .DJ (.k .x0 (.k .x3 (.k .x2 .z))))) (.k (.ret (.nu (.cmp .Lt .x1 (.lR 0)) .x1 (.nA .x0 "force" (.k .x1 .z)))) .z)) .z) (.k (.asg (.v 4) (.idx (.attr (.attr .x0 "tab") "rows") (.nA .x0 "shape" (.k .x1 .z)))) (.k (.ite (.bo .And (.k (.call .AE (.k .x2 .z)) (.k (.cmp .NotEq (.idx .x4 (.lR 5)) (.tup .z)) .z))) (.k (.ret (.nA .x0 "force" (.k (.idx (.idx .x4 (.lR 5)) (.lR 0)) .z))) .z) .z) (.k (.ret (.nu (.cmp .Eq (.idx .x4 (.lR 4)) (.tup .z)) (.un .USub (.lR 1)) (.nA .x0 "force" (.k (.idx (.idx .x4 (.lR 4)) (.lR 0)) .z)))) .z)))))⟩
noncomputable def Vg:mx:=⟨"prop_type",4,[(.int 0)],["host","t","name","deep","bound","prop"],(.k (.asg (.v 1) (.nA .x0 "force" (.k .x1 .z))) (.k (.ite (.bo .Or (.k (.cmp .Eq .x1 (.glob "ANY" (.int 0))) (.k (.cmp .Eq .x1 (.glob "ERR" (.int 13))) .z))) (.k (.ret .x1) .z) .z) (.k (.ite (.cmp .Eq (.call .Be (.k (.attr .x0 "tab") (.k .x1 .z))) (.glob "Y_UNION" (.int 6))) (.k (.ret .bad) .z) .z) (.k (.asg (.v 4) (.nA .x0 "bound" (.k .x1 .z))) (.k (.ite (.bo .And (.k (.cmp .NotEq .x4 .x1) (.k (.cmp .Lt .x3 (.glob "MOST_BASES" (.int 60))) .z))) (.k (.ret (.call .tp (.k .x0 (.k .x4 (.k .x2 (.k (.bin .Add .x3 (.lR 1)) .z)))))) .z) .z) (.k (.asg (.v 5) (.call .vQ (.k .x0 (.k .x1 (.k .x2 .z))))) (.k (.ite (.cmp .IsNot .x5 .n5) (.k (.ret (.call .DI (.k (.attr .x0 "tab") (.k .x5 .z)))) .z) .z) (.k (.ret (.call .AM (.k .x0 (.k .x1 (.k .x2 .z))))) .z))))))))⟩
noncomputable def Wg:mx:=⟨"index_of",3,[],["host","t","number","row","cell"],(.k (.asg (.v 1) (.nA .x0 "force" (.k .x1 .z))) (.k (.asg (.v 3) (.idx (.attr (.attr .x0 "tab") "rows") .x1)) (.k (.ite (.bo .Or (.k (.cmp .Eq (.idx .x3 (.lR 0)) (.glob "Y_ARRAY" (.int 11))) (.k (.cmp .Eq (.idx .x3 (.lR 0)) (.glob "Y_TUPLE" (.int 12))) .z))) (.k (.ret (.nu .x2 (.nA .x0 "list_index" (.k .x1 .z)) (.tup .z))) .z) .z) (.k (.ite (.cmp .Eq (.idx .x3 (.lR 0)) (.glob "Y_UNION" (.int 6))) (.k (.ret .bad) .z) .z) (.k (.asg (.v 4) (.idx (.idx (.attr (.attr .x0 "tab") "rows") (.nA .x0 "shape" (.k .x1 .z))) (.nu .x2 (.lR 5) (.lR 4)))) (.k (.ret (.nu (.cmp .Eq .x4 (.tup .z)) (.tup .z) (.tup (.k (.nA .x0 "force" (.k (.idx .x4 (.lR 0)) .z)) (.k (.idx .x4 (.lR 1)) .z))))) .z))))))⟩
noncomputable def Vh:mx:=⟨"elem_type",3,[(.int 0)],["host","t","deep","row","found","bound","told"],(.k (.asg (.v 1) (.nA .x0 "force" (.k .x1 .z))) (.k (.asg (.v 3) (.idx (.attr (.attr .x0 "tab") "rows") .x1)) (.k (.ite (.bo .Or (.k (.cmp .Eq (.idx .x3 (.lR 0)) (.glob "Y_ARRAY" (.int 11))) (.k (.cmp .Eq (.idx .x3 (.lR 0)) (.glob "Y_TUPLE" (.int 12))) .z))) (.k (.ret (.nA .x0 "force" (.k (.call .Ea (.k (.attr .x0 "tab") (.k .x3 .z))) .z))) .z) .z) (.k (.ite (.cmp .Eq (.idx .x3 (.lR 0)) (.glob "Y_UNION" (.int 6))) (.k (.asg (.v 4) .bad) (.k (.ret (.nu (.cmp .In (.un .USub (.lR 1)) .x4) (.un .USub (.lR 1)) (.call .union (.k (.attr .x0 "tab") (.k .x4 .z))))) .z)) .z) (.k (.asg (.v 5) (.nA .x0 "bound" (.k .x1 .z))) (.k (.ite (.bo .And (.k (.cmp .NotEq .x5 .x1) (.k (.cmp .Lt .x2 (.glob "MOST_BASES" (.int 60))) .z))) (.k (.ret (.call .AQ (.k .x0 (.k .x5 (.k (.bin .Add .x2 (.lR 1)) .z))))) .z) .z) (.k (.ite (.cmp .NotEq (.idx .x3 (.lR 0)) (.glob "Y_INTER" (.int 7))) (.k (.ret (.un .USub (.lR 1))) .z) .z) (.k (.asg (.v 6) (.oC false .x7 (.v 7) (.e .bad) (.cmp .GtE .x7 (.lR 0)))) (.k (.ret (.nu .x6 .bad (.un .USub (.lR 1)))) .z)))))))))⟩
noncomputable def Xy:mx:=⟨"is_weak",1,[],["row"],(.k (.ite (.bo .Or (.k (.cmp .Eq (.idx .x0 (.lR 1)) (.tup .z)) (.k (.cmp .NotEq (.idx .x0 (.lR 2)) (.tup .z)) (.k (.cmp .NotEq (.idx .x0 (.lR 3)) (.tup .z)) (.k (.cmp .NotEq (.idx .x0 (.lR 4)) (.tup .z)) (.k (.cmp .NotEq (.idx .x0 (.lR 5)) (.tup .z)) .z)))))) (.k (.ret (.oq false)) .z) .z) (.k (.ret (.bi .all (.comp false (.cmp .NotEq (.bin .BitAnd (.idx .x1 (.lR 2)) (.glob "P_OPT" (.int 1))) (.lR 0)) (.v 1) (.e (.idx .x0 (.lR 1)))))) .z))⟩
noncomputable def SS:mx:=⟨"shows_nothing",2,[],["host","s","kind","row"],(.k (.ite (.cmp .In .x1 (.tup (.k (.glob "ANY" (.int 0)) (.k (.glob "UNKNOWN" (.int 1)) (.k (.glob "NEVER" (.int 2)) (.k (.glob "ERR" (.int 13)) (.k (.glob "VOID" (.int 3)) (.k (.glob "UNDEF" (.int 4)) (.k (.glob "NULLT" (.int 5)) (.k (.glob "OBJECTT" (.int 10)) .z)))))))))) (.k (.ret (.oq true)) .z) .z) (.k (.asg (.v 2) (.idx (.idx (.attr (.attr .x0 "tab") "rows") .x1) (.lR 0))) (.k (.ite (.bo .And (.k (.cmp .NotIn .x2 (.glob "SHAPED_ROWS" (.tup [(.int 8),(.int 9)]))) (.k (.cmp .NotIn .x2 (.glob "OPEN_ROWS" (.tup [(.int 6),(.int 7),(.int 10),(.int 14),(.int 15),(.int 16),(.int 17),(.int 18),(.int 19)]))) .z))) (.k (.ret (.oq false)) .z) .z) (.k (.asg (.v 3) (.idx (.attr (.attr .x0 "tab") "rows") (.nA .x0 "shape" (.k .x1 .z)))) (.k (.ret (.bo .And (.k (.cmp .Eq (.idx .x3 (.lR 1)) (.tup .z)) (.k (.cmp .Eq (.idx .x3 (.lR 2)) (.tup .z)) (.k (.cmp .Eq (.idx .x3 (.lR 3)) (.tup .z)) .z))))) .z)))))⟩
noncomputable def Tr:mx:=⟨"is_weak_kind",2,[],["host","t","row"],(.k (.asg (.v 2) (.idx (.attr (.attr .x0 "tab") "rows") .x1)) (.k (.ite (.cmp .Eq (.idx .x2 (.lR 0)) (.glob "Y_INTER" (.int 7))) (.k (.ret (.bi .all (.comp false (.call .uY (.k .x0 (.k .x3 .z))) (.v 3) (.e (.idx .x2 (.lR 1)))))) .z) .z) (.k (.ret (.bo .And (.k (.cmp .In (.idx .x2 (.lR 0)) (.glob "SHAPED_ROWS" (.tup [(.int 8),(.int 9)]))) (.k (.call .EA (.k (.idx (.attr (.attr .x0 "tab") "rows") (.nA .x0 "shape" (.k .x1 .z))) .z)) .z)))) .z)))⟩
noncomputable def UD:mx:=⟨"weak_fault",3,[],["host","s","t","row"],(.k (.ite (.bo .Or (.k (.un .Not (.call .uY (.k .x0 (.k .x2 .z)))) (.k (.call .y6 (.k .x0 (.k .x1 .z))) .z))) (.k (.ret (.oq false)) .z) .z) (.k (.asg (.v 3) (.idx (.attr (.attr .x0 "tab") "rows") (.nA .x0 "shape" (.k .x2 .z)))) (.k (.ret (.bi .all (.comp false (.cmp .Is (.call .vQ (.k .x0 (.k .x1 (.k (.idx .x4 (.lR 0)) .z)))) .n5) (.v 4) (.e (.idx .x3 (.lR 1)))))) .z)))⟩
noncomputable def Ts:mx:=⟨"missing_prop",3,[],["host","s","t","prop"],(.k (.asg (.v 2) (.nA .x0 "force" (.k .x2 .z))) (.k (.ite (.bo .And (.k (.cmp .NotIn (.idx (.idx (.attr (.attr .x0 "tab") "rows") .x2) (.lR 0)) (.glob "SHAPED_ROWS" (.tup [(.int 8),(.int 9)]))) (.k (.cmp .NotEq (.idx (.idx (.attr (.attr .x0 "tab") "rows") .x2) (.lR 0)) (.glob "Y_INTER" (.int 7))) .z))) (.k (.ret (.m4 "")) .z) .z) (.k (.for (.v 3) (.e (.idx (.idx (.attr (.attr .x0 "tab") "rows") (.nA .x0 "shape" (.k .x2 .z))) (.lR 1))) (.k (.ite (.bo .And (.k (.cmp .Eq (.bin .BitAnd (.idx .x3 (.lR 2)) (.glob "P_OPT" (.int 1))) (.lR 0)) (.k (.cmp .Is (.call .vQ (.k .x0 (.k .x1 (.k (.idx .x3 (.lR 0)) .z)))) .n5) .z))) (.k (.ret (.idx .x3 (.lR 0))) .z) .z) .z)) (.k (.ret (.m4 "")) .z))))⟩
noncomputable def Vi:mx:=⟨"takes_all",2,[],["host","t","row","shape"],(.k (.ite (.cmp .In .x1 (.tup (.k (.glob "ANY" (.int 0)) (.k (.glob "UNKNOWN" (.int 1)) (.k (.glob "ERR" (.int 13)) (.k (.glob "OBJECTT" (.int 10)) .z)))))) (.k (.ret (.oq true)) .z) .z) (.k (.asg (.v 2) (.idx (.attr (.attr .x0 "tab") "rows") .x1)) (.k (.ite (.cmp .Eq (.idx .x2 (.lR 0)) (.glob "Y_INTER" (.int 7))) (.k (.ret (.bi .all (.comp false (.call .takes_all (.k .x0 (.k .x4 .z))) (.v 4) (.e (.idx .x2 (.lR 1)))))) .z) .z) (.k (.ite (.cmp .NotIn (.idx .x2 (.lR 0)) (.glob "SHAPED_ROWS" (.tup [(.int 8),(.int 9)]))) (.k (.ret (.oq false)) .z) .z) (.k (.asg (.v 3) (.idx (.attr (.attr .x0 "tab") "rows") (.nA .x0 "shape" (.k .x1 .z)))) (.k (.ret (.cmp .Eq (.ri .x3 (some 1) (some 6)) (.tup (.k (.tup .z) (.k (.tup .z) (.k (.tup .z) (.k (.tup .z) (.k (.tup .z) .z)))))))) .z))))))⟩
noncomputable def abH:mx:=⟨"knows",3,[],["host","t","name"],(.k (.ite (.bo .Or (.k (.cmp .IsNot (.call .vQ (.k .x0 (.k .x1 (.k .x2 .z)))) .n5) (.k (.cmp .NotEq (.call .wU (.k .x0 (.k .x1 (.k (.lR 0) .z)))) (.tup .z)) .z))) (.k (.ret (.oq true)) .z) .z) (.k (.ret (.bo .And (.k (.call .AE (.k .x2 .z)) (.k (.cmp .NotEq (.call .wU (.k .x0 (.k .x1 (.k (.lR 1) .z)))) (.tup .z)) .z)))) .z))⟩
noncomputable def TV:mx:=⟨"tells_apart",3,[],["host","parts","name","kinds","part","given","units"],(.k (.asg (.v 3) (.dict .I)) (.k (.for (.v 4) (.e .x1) (.k (.asg (.v 5) (.call .tp (.k .x0 (.k .x4 (.k .x2 .z))))) (.k (.ite (.cmp .GtE .x5 (.lR 0)) (.k (.rS .x3 .x5 (.lR 1)) .z) .z) .z))) (.k (.asg (.v 6) (.oC false .x7 (.v 7) (.d .x3) (.call .DF (.k (.attr .x0 "tab") (.k (.nA .x0 "force" (.k .x7 .z)) .z))))) (.k (.ret (.bo .And (.k (.cmp .Gt (.bi .len .x3) (.lR 1)) (.k (.cmp .Gt (.bi .len .x6) (.lR 0)) .z)))) .z))))⟩
noncomputable def Vj:mx:=⟨"lets_unit",3,[],["host","part","prop","given","held"],(.k (.asg (.v 3) (.call .tp (.k .x0 (.k .x1 (.k (.idx .x2 (.lR 0)) .z))))) (.k (.asg (.v 4) (.call .sR (.k (.attr .x0 "tab") (.k (.nA .x0 "force" (.k (.idx .x2 (.lR 1)) .z)) .z)))) (.k (.ret (.bo .And (.k (.cmp .GtE .x3 (.lR 0)) (.k (.bi .any (.comp false (.nA .x0 "fits" (.k .x5 (.k .x3 .z))) (.v 5) (.e .x4))) .z)))) .z)))⟩
noncomputable def UE:mx:=⟨"told_parts",3,[],["host","s","parts","left","prop","now"],(.k (.asg (.v 3) .x2) (.k (.for (.v 4) (.e (.idx (.idx (.attr (.attr .x0 "tab") "rows") .x1) (.lR 1))) (.k (.ite (.call .Dm (.k .x0 (.k .x2 (.k (.idx .x4 (.lR 0)) .z)))) (.k (.asg (.v 5) (.oC false .x6 (.v 6) (.e .x3) (.call .DM (.k .x0 (.k .x6 (.k .x4 .z)))))) (.k (.asg (.v 3) (.nu .x5 .x5 .x3)) .z)) .z) .z)) (.k (.ret .x3) .z)))⟩
noncomputable def SU:mx:=⟨"checked_parts",3,[],["host","s","t","parts","kinds","shaped"],(.k (.asg (.v 3) (.call .sR (.k (.attr .x0 "tab") (.k .x2 .z)))) (.k (.ite (.cmp .Gt (.bi .len (.oC false .x6 (.v 6) (.e .x3) (.call .takes_all (.k .x0 (.k .x6 .z))))) (.lR 0)) (.k (.ret (.list .z)) .z) .z) (.k (.asg (.v 4) (.bin .Add (.bin .Add (.glob "SHAPED_ROWS" (.tup [(.int 8),(.int 9)])) (.glob "LIST_ROWS" (.tup [(.int 11),(.int 12)]))) (.tup (.k (.glob "Y_INTER" (.int 7)) .z)))) (.k (.asg (.v 5) (.oC false .x6 (.v 6) (.e .x3) (.cmp .In (.idx (.idx (.attr (.attr .x0 "tab") "rows") .x6) (.lR 0)) .x4))) (.k (.ret (.nu (.cmp .Gt (.bi .len .x5) (.lR 1)) (.call .Dv (.k .x0 (.k .x1 (.k .x5 .z)))) .x5)) .z)))))⟩
noncomputable def SV:mx:=⟨"excess_within",3,[],["host","s","parts","prop","wanted","name"],(.k (.for (.v 3) (.e (.idx (.idx (.attr (.attr .x0 "tab") "rows") .x1) (.lR 1))) (.k (.asg (.v 4) (.comp false (.call .tp (.k .x0 (.k .x6 (.k (.idx .x3 (.lR 0)) .z)))) (.v 6) (.e .x2))) (.k (.asg (.v 5) (.call .uh (.k .x0 (.k (.idx .x3 (.lR 1)) (.k (.call .union (.k (.attr .x0 "tab") (.k (.oC false .x6 (.v 6) (.e .x4) (.cmp .GtE .x6 (.lR 0))) .z))) .z))))) (.k (.ite (.cmp .NotEq .x5 (.m4 "")) (.k (.ret .x5) .z) .z) .z)))) (.k (.ret (.m4 "")) .z))⟩
noncomputable def UG:mx:=⟨"excess_one",3,[],["host","s","t","parts","prop"],(.k (.asg (.v 3) (.call .C_ (.k .x0 (.k .x1 (.k .x2 .z))))) (.k (.ite (.un .Not .x3) (.k (.ret (.m4 "")) .z) .z) (.k (.for (.v 4) (.e (.idx (.idx (.attr (.attr .x0 "tab") "rows") .x1) (.lR 1))) (.k (.ite (.cmp .Eq (.bi .len (.oC false .x5 (.v 5) (.e .x3) (.call .BP (.k .x0 (.k .x5 (.k (.idx .x4 (.lR 0)) .z)))))) (.lR 0)) (.k (.ret (.idx .x4 (.lR 0))) .z) .z) .z)) (.k (.ret (.call .Dc (.k .x0 (.k .x1 (.k .x3 .z))))) .z))))⟩
noncomputable def UH:mx:=⟨"asked_elem",3,[],["host","part","place","kind","cell"],(.k (.asg (.v 3) (.idx (.idx (.attr (.attr .x0 "tab") "rows") .x1) (.lR 0))) (.k (.ite (.cmp .In .x3 (.glob "LIST_ROWS" (.tup [(.int 11),(.int 12)]))) (.k (.ret (.nu (.cmp .Lt .x2 (.lR 0)) (.call .AQ (.k .x0 (.k .x1 .z))) (.call .tp (.k .x0 (.k .x1 (.k (.bi .str .x2) .z)))))) .z) .z) (.k (.ite (.cmp .NotIn .x3 (.glob "SHAPED_ROWS" (.tup [(.int 8),(.int 9)]))) (.k (.ret (.un .USub (.lR 1))) .z) .z) (.k (.asg (.v 4) (.call .wU (.k .x0 (.k .x1 (.k (.lR 1) .z))))) (.k (.ite (.cmp .Eq .x4 (.tup .z)) (.k (.asg (.v 4) (.call .wU (.k .x0 (.k .x1 (.k (.lR 0) .z))))) .z) .z) (.k (.ret (.nu (.cmp .Eq .x4 (.tup .z)) (.un .USub (.lR 1)) (.idx .x4 (.lR 0)))) .z))))))⟩
noncomputable def TX:mx:=⟨"list_excess",3,[],["host","s","t","row","parts","kinds","place","wanted","name"],(.k (.asg (.v 3) (.idx (.attr (.attr .x0 "tab") "rows") .x1)) (.k (.asg (.v 4) (.call .sR (.k (.attr .x0 "tab") (.k .x2 .z)))) (.k (.asg (.v 5) (.nu (.cmp .Eq (.idx .x3 (.lR 0)) (.glob "Y_ARRAY" (.int 11))) (.list (.k (.idx .x3 (.lR 1)) .z)) (.comp false (.idx .x9 (.lR 0)) (.v 9) (.e (.idx .x3 (.lR 1)))))) (.k (.for (.v 6) (.range (.bi .len .x5)) (.k (.asg (.v 7) (.comp false (.call .zd (.k .x0 (.k .x9 (.k (.nu (.cmp .Eq (.idx .x3 (.lR 0)) (.glob "Y_ARRAY" (.int 11))) (.un .USub (.lR 1)) .x6) .z)))) (.v 9) (.e .x4))) (.k (.asg (.v 8) (.call .uh (.k .x0 (.k (.idx .x5 .x6) (.k (.call .union (.k (.attr .x0 "tab") (.k (.oC false .x9 (.v 9) (.e .x7) (.cmp .GtE .x9 (.lR 0))) .z))) .z))))) (.k (.ite (.cmp .NotEq .x8 (.m4 "")) (.k (.ret .x8) .z) .z) .z)))) (.k (.ret (.m4 "")) .z)))))⟩
noncomputable def Zu:mx:=⟨"excess",3,[],["host","s","t","part","name","kind"],(.k (.asg (.v 2) (.nA .x0 "force" (.k .x2 .z))) (.k (.for (.v 3) (.e (.call .sR (.k (.attr .x0 "tab") (.k (.nA .x0 "force" (.k .x1 .z)) .z)))) (.k (.asg (.v 4) (.m4 "")) (.k (.asg (.v 5) (.idx (.idx (.attr (.attr .x0 "tab") "rows") .x3) (.lR 0))) (.k (.ite (.bo .And (.k (.cmp .Eq .x5 (.glob "Y_OBJ" (.int 8))) (.k (.call .A1 (.k (.attr .x0 "tab") (.k .x3 .z))) .z))) (.k (.asg (.v 4) (.call .Dw (.k .x0 (.k .x3 (.k .x2 .z))))) .z) (.k (.ite (.bo .And (.k (.cmp .In .x5 (.glob "LIST_ROWS" (.tup [(.int 11),(.int 12)]))) (.k (.un .Not (.bi .any (.comp false (.call .takes_all (.k .x0 (.k .x6 .z))) (.v 6) (.e (.call .sR (.k (.attr .x0 "tab") (.k .x2 .z))))))) .z))) (.k (.asg (.v 4) (.call .Dn (.k .x0 (.k .x3 (.k .x2 .z))))) .z) .z) .z)) (.k (.ite (.cmp .NotEq .x4 (.m4 "")) (.k (.ret .x4) .z) .z) .z))))) (.k (.ret (.m4 "")) .z)))⟩
noncomputable def Wh:mx:=⟨"_law_draw",3,[],["nums","at","n","i","k"],(.k (.asg (.v 3) (.idx .x1 (.lR 0))) (.k (.rS .x1 (.lR 0) (.bin .Add .x3 (.lR 1))) (.k (.asg (.v 4) (.bi .len .x0)) (.k (.ret (.bin .Mod (.bin .Add (.idx .x0 (.bin .Mod .x3 .x4)) (.bin .Mult (.bin .FloorDiv .x3 .x4) (.bin .Add (.bin .Mod (.idx .x0 (.lR 0)) (.lR 7)) (.bin .Mult (.lR 3) .x3)))) .x2)) .z))))⟩
noncomputable def Wi:mx:=⟨"_law_norm",1,[],["mask"],(.k (.ite (.bin .BitAnd .x0 (.lR 4096)) (.k (.ret (.lR 4096)) .z) .z) (.k (.ite (.bin .BitAnd .x0 (.lR 2048)) (.k (.ret (.lR 2048)) .z) .z) (.k (.ite (.bin .BitAnd .x0 (.lR 4)) (.k (.asg (.v 0) (.bin .BitAnd .x0 (.un .Invert (.lR 3)))) .z) .z) (.k (.ite (.bin .BitAnd .x0 (.lR 32)) (.k (.asg (.v 0) (.bin .BitAnd .x0 (.un .Invert (.lR 24)))) .z) .z) (.k (.ret .x0) .z)))))⟩
noncomputable def Wj:mx:=⟨"_law_mask",2,[],["nums","at"],(.k (.ret (.idx (.glob "_law_masks" (.tup [(.int 1),(.int 8),(.int 2),(.int 4),(.int 3),(.int 16),(.int 24),(.int 64),(.int 192),(.int 256),(.int 512),(.int 32),(.int 36),(.int 513),(.int 0),(.int 1024),(.int 2048),(.int 4096),(.int 8192),(.int 4)])) (.call .qL (.k .x0 (.k .x1 (.k (.lR 20) .z)))))) .z)⟩
noncomputable def Xz:mx:=⟨"_law_own",3,[],["nums","at","deep","names","props","i","c","kind","how"],(.k (.asg (.v 3) (.nu (.idx .x1 (.lR 1)) (.tup (.k (.m4 "0") (.k (.m4 "p") (.k (.m4 "q") .z)))) (.tup (.k (.m4 "p") (.k (.m4 "q") (.k (.m4 "r") .z)))))) (.k (.asg (.v 4) (.qB .z)) (.k (.for (.v 5) (.range (.lR 3)) (.k (.asg (.v 6) (.call .qL (.k .x0 (.k .x1 (.k (.lR 6) .z))))) (.k (.ite (.cmp .Gt .x6 (.lR 3)) (.k .cont .z) .z) (.k (.asg (.v 7) (.tup (.k (.call .zj (.k .x0 (.k .x1 .z))) (.k (.tup .z) .z)))) (.k (.ite (.bo .And (.k (.cmp .Eq .x5 (.lR 2)) (.k (.cmp .Lt .x2 (.lR 2)) (.k (.cmp .Gt .x6 (.lR 0)) .z)))) (.k (.asg (.v 7) (.tup (.k (.lR 0) (.k (.tup (.k (.call .zx (.k .x0 (.k .x1 (.k (.bin .Add .x2 (.lR 1)) .z)))) .z)) .z)))) (.k (.ite (.bo .And (.k (.cmp .Gt .x6 (.lR 1)) (.k (.un .Not (.idx .x1 (.lR 1))) .z))) (.k (.asg (.v 7) (.tup (.k (.lR 0) (.k (.tup (.k (.tup (.k (.tup .z) (.k .x7 (.k .n5 (.k (.lR 0) (.k (.bin .Add .x6 (.lR 1)) .z)))))) .z)) .z)))) .z) .z) (.k (.ite (.cmp .Eq (.call .qL (.k .x0 (.k .x1 (.k (.lR 3) .z)))) (.lR 0)) (.k (.asg (.v 7) (.tup (.k (.lR 512) (.k (.idx .x7 (.lR 1)) .z)))) .z) .z) .z))) .z) (.k (.append .x4 (.tup (.k (.idx .x3 .x5) (.k .x7 (.k (.lR 0) .z))))) .z)))))) (.k (.asg (.v 8) (.idx (.tup (.k (.lR 1) (.k (.lR 0) (.k (.lR 1) (.k (.lR 2) (.k (.lR 1) (.k (.lR 1) .z))))))) (.call .qL (.k .x0 (.k .x1 (.k (.lR 6) .z)))))) (.k (.ret (.tup (.k (.bi .tuple .x4) (.k .n5 (.k .n5 (.k (.lR 0) (.k .x8 .z))))))) .z)))))⟩
noncomputable def UI:mx:=⟨"_law_within",3,[],["nums","at","deep","c"],(.k (.asg (.v 3) (.call .qL (.k .x0 (.k .x1 (.k (.lR 6) .z))))) (.k (.ite (.bo .And (.k (.cmp .Gt .x3 (.lR 2)) (.k (.cmp .Lt .x2 (.lR 2)) .z))) (.k (.ret (.tup (.k (.lR 0) (.k (.bi .tuple (.comp false (.call .zh (.k .x0 (.k .x1 (.k (.bin .Add .x2 (.lR 1)) .z)))) (.v 4) (.range (.bin .Add (.lR 1) (.bin .Mod .x3 (.lR 2)))))) .z)))) .z) .z) (.k (.ret (.tup (.k (.idx (.glob "_law_wides" (.tup [(.int 4),(.int 32),(.int 36),(.int 4),(.int 1024),(.int 4096),(.int 2048),(.int 8192)])) (.call .qL (.k .x0 (.k .x1 (.k (.lR 8) .z))))) (.k (.tup .z) .z)))) .z)))⟩
noncomputable def Vk:mx:=⟨"_law_asked",3,[],["nums","at","deep","names","how","props","i","c","kind","more","texts","numbers"],(.k (.asg (.v 3) (.nu (.idx .x1 (.lR 1)) (.tup (.k (.m4 "0") (.k (.m4 "p") (.k (.m4 "q") .z)))) (.tup (.k (.m4 "p") (.k (.m4 "q") (.k (.m4 "r") .z)))))) (.k (.asg (.v 4) (.idx (.tup (.k (.lR 0) (.k (.lR 2) (.k (.lR 0) (.k (.lR 2) (.k (.lR 3) (.k (.lR 1) .z))))))) (.call .qL (.k .x0 (.k .x1 (.k (.lR 6) .z)))))) (.k (.ite (.bo .And (.k (.cmp .Eq .x4 (.lR 3)) (.k (.un .Not (.idx .x1 (.lR 1))) .z))) (.k (.ret (.tup (.k (.tup .z) (.k (.call .AN (.k .x0 (.k .x1 (.k .x2 .z)))) (.k .n5 (.k (.lR 0) (.k (.lR 3) .z))))))) .z) .z) (.k (.asg (.v 5) (.qB .z)) (.k (.for (.v 6) (.range (.lR 3)) (.k (.asg (.v 7) (.call .qL (.k .x0 (.k .x1 (.k (.lR 6) .z))))) (.k (.ite (.cmp .Gt .x7 (.lR 3)) (.k .cont .z) .z) (.k (.asg (.v 8) (.nu (.cmp .Eq .x6 (.lR 2)) (.call .AN (.k .x0 (.k .x1 (.k .x2 .z)))) (.tup (.k (.call .zj (.k .x0 (.k .x1 .z))) (.k (.tup .z) .z))))) (.k (.append .x5 (.tup (.k (.idx .x3 .x6) (.k .x8 (.k (.idx (.tup (.k (.lR 0) (.k (.glob "P_OPT" (.int 1)) (.k (.glob "P_OPT" (.int 1)) (.k (.glob "P_READONLY" (.int 2)) .z))))) (.call .qL (.k .x0 (.k .x1 (.k (.lR 4) .z))))) .z))))) .z))))) (.k (.asg (.v 9) (.call .qL (.k .x0 (.k .x1 (.k (.lR 12) .z))))) (.k (.asg (.v 10) (.nu (.cmp .Eq .x9 (.lR 1)) (.tup (.k (.idx (.glob "_law_wides" (.tup [(.int 4),(.int 32),(.int 36),(.int 4),(.int 1024),(.int 4096),(.int 2048),(.int 8192)])) (.call .qL (.k .x0 (.k .x1 (.k (.lR 8) .z))))) (.k (.tup .z) .z))) .n5)) (.k (.asg (.v 11) (.nu (.bo .Or (.k (.cmp .Eq .x9 (.lR 2)) (.k (.cmp .Eq .x9 (.lR 3)) .z))) (.tup (.k (.call .zj (.k .x0 (.k .x1 .z))) (.k (.tup .z) .z))) .n5)) (.k (.ret (.tup (.k (.bi .tuple .x5) (.k .oM (.k .ow (.k (.nu (.wg .Lt .Lt (.lR 3) .x9 (.lR 6)) (.bin .Sub .x9 (.lR 3)) (.lR 0)) (.k (.nu (.cmp .Eq .x4 (.lR 3)) (.lR 0) .x4) .z))))))) .z)))))))))⟩
noncomputable def Wl:mx:=⟨"_law_atom",3,[],["tab","i","fresh"],(.k (.ite (.cmp .Lt .x1 (.lR 2)) (.k (.ret (.call .D6 (.k .x0 (.k (.idx (.m4 "ab") .x1) (.k .x2 .z))))) .z) .z) (.k (.ite (.bo .Or (.k (.cmp .Eq .x1 (.lR 3)) (.k (.cmp .Eq .x1 (.lR 4)) .z))) (.k (.ret (.call .A0 (.k .x0 (.k (.bin .Sub .x1 (.lR 3)) (.k .x2 .z))))) .z) .z) (.k (.ite (.bo .Or (.k (.cmp .Eq .x1 (.lR 6)) (.k (.cmp .Eq .x1 (.lR 7)) .z))) (.k (.ret (.call .DE (.k .x0 (.k (.bin .Sub .x1 (.lR 6)) (.k .x2 .z))))) .z) .z) (.k (.ret (.idx (.tup (.k (.lR 0) (.k (.lR 0) (.k (.glob "STRING" (.int 6)) (.k (.lR 0) (.k (.lR 0) (.k (.glob "NUMBER" (.int 7)) (.k (.lR 0) (.k (.lR 0) (.k (.glob "NULLT" (.int 5)) (.k (.glob "UNDEF" (.int 4)) (.k (.glob "VOID" (.int 3)) (.k (.glob "UNKNOWN" (.int 1)) (.k (.glob "ANY" (.int 0)) (.k (.glob "OBJECTT" (.int 10)) .z))))))))))))))) .x1)) .z))))⟩
noncomputable def Wm:mx:=⟨"_law_type",3,[],["tab","kind","fresh","parts","one"],(.k (.asg (.v 3) (.oC true (.call .Ec (.k .x0 (.k .x5 (.k .x2 .z)))) (.v 5) (.range (.lR 14)) (.bin .BitAnd (.bin .RShift (.idx .x1 (.lR 0)) .x5) (.lR 1)))) (.k (.for (.v 4) (.e (.idx .x1 (.lR 1))) (.k (.append .x3 (.call .uZ (.k .x0 (.k .x4 (.k .x2 .z))))) .z)) (.k (.ret (.call .union (.k .x0 (.k .x3 .z)))) .z)))⟩
noncomputable def Vl:mx:=⟨"_law_index",3,[],["tab","kind","fresh"],(.k (.ret (.nu (.cmp .Is .x1 .n5) (.tup .z) (.tup (.k (.call .tw (.k .x0 (.k .x1 (.k .x2 .z)))) (.k (.lR 0) .z))))) .z)⟩
noncomputable def Vm:mx:=⟨"_law_build",3,[],["tab","one","fresh","props","texts","numbers","called","how","rows","calls","made","decl"],(.k (.asg (.t [3,4,5,6,7]) .x1) (.k (.ite (.cmp .Eq .x7 (.lR 3)) (.k (.ret (.call .AL (.k .x0 (.k (.call .tw (.k .x0 (.k .x4 (.k .x2 .z)))) .z)))) .z) .z) (.k (.ite (.cmp .Eq .x7 (.lR 4)) (.k (.ret (.call .Dq (.k .x0 (.k (.list (.k (.tup (.k (.call .tw (.k .x0 (.k .x4 (.k .x2 .z)))) (.k (.glob "E_NEED" (.int 0)) .z))) .z)) .z)))) .z) .z) (.k (.asg (.v 8) (.comp false (.tup (.k .o6 (.k (.call .tw (.k .x0 (.k .pX (.k .x2 .z)))) (.k .pI (.k (.lR 0) .z))))) (.t [12,13,14]) (.e .x3))) (.k (.asg (.v 9) (.nu .x6 (.tup (.k (.call .sig_type (.k .x0 (.k (.tup .z) (.k (.tup .z) (.k (.glob "VOID" (.int 3)) .z))))) .z)) (.tup .z))) (.k (.asg (.v 9) (.nu (.cmp .Lt .x6 (.lR 2)) (.tup (.k .x9 (.k (.tup .z) .z))) (.tup (.k (.tup .z) (.k .x9 .z))))) (.k (.asg (.v 10) (.call .D9 (.k .x0 (.k .x8 (.k (.idx .x9 (.lR 0)) (.k (.idx .x9 (.lR 1)) (.k (.call .AS (.k .x0 (.k .x4 (.k .x2 .z)))) (.k (.call .AS (.k .x0 (.k .x5 (.k .x2 .z)))) (.k (.bin .Mod .x7 (.lR 2)) .z))))))))) (.k (.ite (.cmp .Lt .x7 (.lR 2)) (.k (.ret .oM) .z) .z) (.k (.asg (.v 11) (.call .D_ (.k .x0 (.k (.glob "D_INTERFACE" (.int 2)) (.k (.m4 "I") .z))))) (.k (.setattr .ow "body" .oM) (.k (.ret (.call .D7 (.k .x0 (.k (.attr .ow "did") (.k (.tup .z) .z))))) .z)))))))))))⟩
noncomputable def Wn:mx:=⟨"_law_both",2,[],["a","b"],(.k (.ret (.tup (.k (.call .Eb (.k (.bin .BitOr (.idx .x0 (.lR 0)) (.idx .x1 (.lR 0))) .z)) (.k (.bin .Add (.idx .x0 (.lR 1)) (.idx .x1 (.lR 1))) .z)))) .z)⟩
noncomputable def Wo:mx:=⟨"_law_read",2,[],["one","name","told","kind","flags"],(.k (.for (.t [2,3,4]) (.e (.idx .x0 (.lR 0))) (.k (.ite (.bo .And (.k (.cmp .Eq .x2 .x1) (.k (.cmp .NotEq (.idx .x0 (.lR 4)) (.lR 3)) .z))) (.k (.ret (.nu (.bin .BitAnd .x4 (.glob "P_OPT" (.int 1))) (.call .xR (.k .x3 (.k (.tup (.k (.lR 512) (.k (.tup .z) .z))) .z))) .x3)) .z) .z) .z)) (.k (.ite (.bo .And (.k (.cmp .Eq .x1 (.m4 "0")) (.k (.cmp .IsNot (.idx .x0 (.lR 2)) .n5) .z))) (.k (.ret (.idx .x0 (.lR 2))) .z) .z) (.k (.ret (.nu (.cmp .NotEq (.idx .x0 (.lR 4)) (.lR 3)) (.idx .x0 (.lR 1)) .n5)) .z)))⟩
noncomputable def UJ:mx:=⟨"_law_single",1,[],["kind"],(.k (.ret (.bo .And (.k (.cmp .Eq (.idx .x0 (.lR 1)) (.tup .z)) (.k (.cmp .Gt (.idx .x0 (.lR 0)) (.lR 0)) (.k (.cmp .Eq (.bin .BitAnd (.idx .x0 (.lR 0)) (.un .Invert (.lR 987))) (.lR 0)) .z))))) .z)⟩
noncomputable def Wq:mx:=⟨"_law_lets",2,[],["kind","given","room"],(.k (.ite (.bo .Or (.k (.cmp .Is .x1 .n5) (.k (.cmp .Eq (.idx .x0 (.lR 0)) (.lR 0)) .z))) (.k (.ret (.oq false)) .z) .z) (.k (.ite (.bin .BitAnd (.idx .x1 (.lR 0)) (.lR 6144)) (.k (.ret (.oq true)) .z) .z) (.k (.asg (.v 2) (.bin .BitOr (.bin .BitOr (.bin .BitOr (.idx .x1 (.lR 0)) (.nu (.bin .BitAnd (.idx .x1 (.lR 0)) (.lR 4)) (.lR 3) (.lR 0))) (.nu (.bin .BitAnd (.idx .x1 (.lR 0)) (.lR 32)) (.lR 24) (.lR 0))) (.nu (.bin .BitAnd (.idx .x1 (.lR 0)) (.lR 1024)) (.lR 512) (.lR 0)))) (.k (.ret (.cmp .NotEq (.bin .BitAnd (.idx .x0 (.lR 0)) .x2) (.lR 0))) .z))))⟩
noncomputable def Wr:mx:=⟨"_law_open",2,[],["props","parts","left","name","kind","flags","told","apart","now"],(.k (.asg (.v 2) .x1) (.k (.for (.t [3,4,5]) (.e .x0) (.k (.asg (.v 6) (.oC false .x9 (.v 9) (.e (.comp false (.call .zk (.k .x9 (.k .x3 .z))) (.v 9) (.e .x1))) (.cmp .IsNot .x9 .n5))) (.k (.asg (.v 7) (.cmp .Gt (.bi .len (.oC false .x9 (.v 9) (.e .x6) (.cmp .NotEq .x9 (.idx .x6 (.lR 0))))) (.lR 0))) (.k (.ite (.bo .And (.k .x7 (.k (.cmp .Gt (.bi .len (.oC false .x9 (.v 9) (.e .x6) (.call .Dx (.k .x9 .z)))) (.lR 0)) .z))) (.k (.asg (.v 8) (.oC false .x9 (.v 9) (.e .x2) (.call .Ed (.k .x4 (.k (.call .zk (.k .x9 (.k .x3 .z))) .z))))) (.k (.asg (.v 2) (.nu (.cmp .Gt (.bi .len .x8) (.lR 0)) .x8 .x2)) .z)) .z) .z)))) (.k (.ret .x2) .z)))⟩
noncomputable def Ws:mx:=⟨"_law_bare",1,[],["one"],(.k (.ret (.bo .And (.k (.cmp .NotEq (.idx .x0 (.lR 4)) (.lR 3)) (.k (.cmp .Eq (.ri .x0 none (some 4)) (.tup (.k (.tup .z) (.k .n5 (.k .n5 (.k (.lR 0) .z)))))) .z)))) .z)⟩
noncomputable def Vn:mx:=⟨"_law_knows",2,[],["one","name"],(.k (.ite (.cmp .Eq (.idx .x0 (.lR 4)) (.lR 3)) (.k (.ret (.oq false)) .z) .z) (.k (.ite (.bo .Or (.k (.cmp .In .x1 (.comp false (.idx .x2 (.lR 0)) (.v 2) (.e (.idx .x0 (.lR 0))))) (.k (.cmp .IsNot (.idx .x0 (.lR 1)) .n5) .z))) (.k (.ret (.oq true)) .z) .z) (.k (.ret (.bo .And (.k (.cmp .Eq .x1 (.m4 "0")) (.k (.cmp .IsNot (.idx .x0 (.lR 2)) .n5) .z)))) .z)))⟩
noncomputable def Vo:mx:=⟨"_law_spare",2,[],["s","t","fresh","want","one","given","parts","name","kind","flags","said"],(.k (.asg (.v 2) (.oC false .ow (.v 11) (.e (.idx .x0 (.lR 1))) (.cmp .In (.idx .ow (.lR 4)) (.tup (.k (.lR 1) (.k (.lR 3) (.k (.lR 4) .z))))))) (.k (.ite (.bo .Or (.k (.cmp .Eq (.bi .len .x2) (.lR 0)) (.k (.bin .BitAnd (.idx .x1 (.lR 0)) (.lR 14336)) (.k (.cmp .Gt (.bi .len (.oC false .ow (.v 11) (.e (.idx .x1 (.lR 1))) (.call .Ee (.k .ow .z)))) (.lR 0)) .z)))) (.k (.ret (.m4 "")) .z) .z) (.k (.ite (.cmp .Gt (.idx (.idx .x2 (.lR 0)) (.lR 4)) (.lR 1)) (.k (.asg (.v 3) (.tup (.k (.lR 0) (.k (.tup .z) .z)))) (.k (.for (.v 4) (.e (.idx .x1 (.lR 1))) (.k (.asg (.v 5) (.nu (.bo .Or (.k (.cmp .Eq (.idx .x4 (.lR 4)) (.lR 3)) (.k (.cmp .Is (.idx .x4 (.lR 2)) .n5) .z))) (.idx .x4 (.lR 1)) (.idx .x4 (.lR 2)))) (.k (.ite (.cmp .IsNot .x5 .n5) (.k (.asg (.v 3) (.call .xR (.k .x3 (.k .x5 .z)))) .z) .z) .z))) (.k (.ret (.call .tq (.k (.idx (.idx .x2 (.lR 0)) (.lR 1)) (.k .x3 .z)))) .z))) .z) (.k (.ite (.cmp .Eq (.bi .len (.idx .x1 (.lR 1))) (.lR 0)) (.k (.ret (.m4 "")) .z) .z) (.k (.asg (.v 6) (.call .A2 (.k (.idx (.idx .x2 (.lR 0)) (.lR 0)) (.k (.idx .x1 (.lR 1)) .z)))) (.k (.for (.t [7,8,9]) (.e (.idx (.idx .x2 (.lR 0)) (.lR 0))) (.k (.ite (.cmp .Eq (.bi .len (.oC false .ow (.v 11) (.e .x6) (.call .DN (.k .ow (.k .x7 .z))))) (.lR 0)) (.k (.ret .x7) .z) .z) .z)) (.k (.for (.t [7,8,9]) (.e (.idx (.idx .x2 (.lR 0)) (.lR 0))) (.k (.asg (.v 3) (.tup (.k (.lR 0) (.k (.tup .z) .z)))) (.k (.for (.v 4) (.e .x6) (.k (.asg (.v 5) (.call .zk (.k .x4 (.k .x7 .z)))) (.k (.ite (.cmp .IsNot .x5 .n5) (.k (.asg (.v 3) (.call .xR (.k .x3 (.k .x5 .z)))) .z) .z) .z))) (.k (.asg (.v 10) (.call .tq (.k .x8 (.k .x3 .z)))) (.k (.ite (.cmp .NotEq .oM (.m4 "")) (.k (.ret .oM) .z) .z) .z))))) (.k (.ret (.m4 "")) .z))))))))⟩
noncomputable def Wt:mx:=⟨"_law_weak",2,[],["s","t","name","kind","flags"],(.k (.ite (.bo .Or (.k (.cmp .Eq (.idx .x1 (.lR 4)) (.lR 3)) (.k (.cmp .IsNot (.idx .x1 (.lR 1)) .n5) (.k (.cmp .IsNot (.idx .x1 (.lR 2)) .n5) (.k (.idx .x1 (.lR 3)) (.k (.cmp .Eq (.bi .len (.idx .x1 (.lR 0))) (.lR 0)) .z)))))) (.k (.ret (.oq false)) .z) .z) (.k (.for (.t [2,3,4]) (.e (.idx .x1 (.lR 0))) (.k (.ite (.bo .Or (.k (.un .Not (.bin .BitAnd .x4 (.glob "P_OPT" (.int 1)))) (.k (.bo .And (.k (.cmp .NotEq (.idx .x0 (.lR 4)) (.lR 3)) (.k (.cmp .In .x2 (.comp false (.idx .x5 (.lR 0)) (.v 5) (.e (.idx .x0 (.lR 0))))) .z))) .z))) (.k (.ret (.oq false)) .z) .z) .z)) (.k (.ret (.bo .Or (.k (.cmp .Eq (.idx .x0 (.lR 4)) (.lR 3)) (.k (.cmp .Gt (.bi .len (.idx .x0 (.lR 0))) (.lR 0)) (.k (.cmp .Gt (.idx .x0 (.lR 3)) (.lR 0)) .z))))) .z)))⟩
noncomputable def Vp:mx:=⟨"_law_lacks",2,[],["s","t","name","kind","flags"],(.k (.ite (.cmp .NotEq (.idx .x1 (.lR 4)) (.lR 3)) (.k (.for (.t [2,3,4]) (.e (.idx .x1 (.lR 0))) (.k (.ite (.bo .And (.k (.un .Not (.bin .BitAnd .x4 (.glob "P_OPT" (.int 1)))) (.k (.bo .Or (.k (.cmp .Eq (.idx .x0 (.lR 4)) (.lR 3)) (.k (.cmp .NotIn .x2 (.comp false (.idx .x5 (.lR 0)) (.v 5) (.e (.idx .x0 (.lR 0))))) .z))) .z))) (.k (.ret .x2) .z) .z) .z)) .z) .z) (.k (.ret (.m4 "")) .z))⟩
noncomputable def agz:mx:=⟨"law",1,[],["script","nums","at","s","beside","parts","t","tab","host","one","kind","mine","more","two","said","other","lying","part","asked","have","made","given","thing"],(.k (.asg (.v 1) (.comp false (.bin .Mod .x23 (.lR 999983)) (.v 23) (.e (.ri .x0 none (some 40))))) (.k (.ite (.cmp .Eq (.bi .len .x1) (.lR 0)) (.k (.asg (.v 1) (.list (.k (.lR 4) .z))) .z) .z) (.k (.asg (.v 2) (.qB (.k (.lR 0) (.k (.lR 0) .z)))) (.k (.rS .x2 (.lR 1) (.nu (.cmp .Eq (.call .qL (.k .x1 (.k .x2 (.k (.lR 3) .z)))) (.lR 1)) (.lR 1) (.lR 0))) (.k (.asg (.v 3) (.call .zx (.k .x1 (.k .x2 (.k (.lR 0) .z))))) (.k (.asg (.v 4) (.idx (.tup (.k (.lR 0) (.k (.lR 512) (.k (.lR 0) .z)))) (.call .qL (.k .x1 (.k .x2 (.k (.lR 3) .z)))))) (.k (.asg (.v 5) (.comp false (.call .zh (.k .x1 (.k .x2 (.k (.lR 0) .z)))) (.v 23) (.range (.bin .Add (.lR 1) (.call .qL (.k .x1 (.k .x2 (.k (.lR 3) .z)))))))) (.k (.asg (.v 6) (.tup (.k (.idx (.tup (.k (.lR 0) (.k (.lR 0) (.k (.lR 4) (.k (.lR 256) (.k (.lR 1) (.k (.lR 8192) (.k (.lR 2048) (.k (.lR 4096) (.k (.lR 64) (.k (.lR 0) .z))))))))))) (.call .qL (.k .x1 (.k .x2 (.k (.lR 10) .z))))) (.k (.bi .tuple .x5) .z)))) (.k (.asg (.v 7) (.new .sf .z)) (.k (.asg (.v 8) (.new .qk (.k .x7 .z))) (.k (.asg (.v 9) (.call .uZ (.k .x7 (.k .x3 (.k (.lR 1) .z))))) (.k (.asg (.v 10) (.tup (.k .x4 (.k (.tup (.k .x3 .z)) .z)))) (.k (.asg (.v 11) (.nu .x4 (.call .union (.k .x7 (.k (.tup (.k .x9 (.k (.glob "UNDEF" (.int 4)) .z))) .z))) .x9)) (.k (.ite (.cmp .NotEq (.call .uh (.k .x8 (.k .ow (.k (.call .tw (.k .x7 (.k .x6 (.k (.lR 0) .z)))) .z)))) (.call .tq (.k .oM (.k .x6 .z)))) (.k (.ret (.oq false)) .z) .z) (.k (.asg (.v 12) (.call .zx (.k .x1 (.k .x2 (.k (.lR 0) .z))))) (.k (.asg (.v 13) (.call .uZ (.k .x7 (.k .o6 (.k (.lR 1) .z))))) (.k (.ite (.bo .And (.k (.cmp .Eq (.idx .x3 (.lR 4)) (.lR 1)) (.k (.cmp .Eq (.idx .o6 (.lR 4)) (.lR 1)) .z))) (.k (.asg (.v 14) (.call .tq (.k (.tup (.k (.lR 0) (.k (.tup (.k (.nu (.cmp .Lt .x9 .pX) .x3 .o6) .z)) .z))) (.k .x6 .z)))) (.k (.ite (.cmp .Eq .pI (.m4 "")) (.k (.asg (.v 14) (.call .tq (.k (.tup (.k (.lR 0) (.k (.tup (.k (.nu (.cmp .Lt .x9 .pX) .o6 .x3) .z)) .z))) (.k .x6 .z)))) .z) .z) (.k (.ite (.cmp .NotEq (.call .uh (.k .x8 (.k (.call .union (.k .x7 (.k (.tup (.k .x9 (.k .pX .z))) .z))) (.k (.call .tw (.k .x7 (.k .x6 (.k (.lR 0) .z)))) .z)))) .pI) (.k (.ret (.oq false)) .z) .z) .z))) .z) (.k (.asg (.v 15) (.call .zh (.k .x1 (.k .x2 (.k (.lR 0) .z))))) (.k (.asg (.v 16) (.call .uZ (.k .x7 (.k .qf (.k (.lR 0) .z))))) (.k (.for (.v 17) (.e .x5) (.k (.asg (.v 18) (.call .uZ (.k .x7 (.k .oR (.k (.lR 0) .z))))) (.k (.ite (.cmp .NotEq (.call .uh (.k .x8 (.k .x9 (.k .oS .z)))) (.call .tq (.k (.tup (.k (.lR 0) (.k (.tup (.k .x3 .z)) .z))) (.k (.tup (.k (.lR 0) (.k (.tup (.k .oR .z)) .z))) .z)))) (.k (.ret (.oq false)) .z) .z) (.k (.for (.t [19,20]) (.e (.tup (.k (.tup (.k .x3 (.k .x9 .z))) (.k (.tup (.k .qf (.k .qv .z))) .z)))) (.k (.ite (.cmp .NotEq (.call .sQ (.k .x8 (.k .o8 (.k .oS .z)))) (.call .A3 (.k .o7 (.k .oR .z)))) (.k (.ret (.oq false)) .z) .z) (.k (.ite (.cmp .NotEq (.call .y8 (.k .x8 (.k .o8 (.k .oS .z)))) (.call .DO (.k .o7 (.k .oR .z)))) (.k (.ret (.oq false)) .z) .z) .z))) (.k (.for (.v 21) (.e (.tup (.k (.glob "NULLT" (.int 5)) (.k (.glob "UNDEF" (.int 4)) (.k (.glob "ANY" (.int 0)) (.k (.glob "OBJECTT" (.int 10)) (.k (.glob "EMPTY" (.int 11)) .z))))))) (.k (.ite (.bo .Or (.k (.call .sQ (.k .x8 (.k .oN (.k .oS .z)))) (.k (.call .sQ (.k .x8 (.k .x9 (.k .oN .z)))) .z))) (.k (.ret (.oq false)) .z) .z) .z)) (.k (.asg (.v 22) (.tup (.k (.tup .z) (.k (.tup (.k (.lR 0) (.k (.tup .z) .z))) (.k .n5 (.k (.lR 0) (.k (.lR 3) .z))))))) (.k (.for (.v 21) (.e (.tup (.k (.glob "STRING" (.int 6)) (.k (.call .A0 (.k .x7 (.k (.lR 1) (.k (.lR 1) .z)))) .z)))) (.k (.ite (.bo .Or (.k (.cmp .NotEq (.call .sQ (.k .x8 (.k .oN (.k .oS .z)))) (.call .A3 (.k .o9 (.k .oR .z)))) (.k (.call .sQ (.k .x8 (.k .x9 (.k .oN .z)))) .z))) (.k (.ret (.oq false)) .z) .z) .z)) .z))))))) (.k (.ret (.oq true)) .z)))))))))))))))))))))⟩
noncomputable def mB (i k:Nat)(a b:mx):mx:=bif d8 i k then a else b
noncomputable def agA (i:Nat):mx:=mB i 44 (mB i 22 (mB i 11 (mB i 5 (mB i 2 (mB i 1 (SF) (SQ)) (mB i 3 (U7) (mB i 4 (Xv) (V5)))) (mB i 8 (mB i 6 (V6) (mB i 7 (U8) (V7))) (mB i 9 (Uw) (mB i 10 (U9) (SG))))) (mB i 16 (mB i 13 (mB i 12 (V8) (Ux)) (mB i 14 (Ti) (mB i 15 (V9) (V_)))) (mB i 19 (mB i 17 (Wa) (mB i 18 (Wb) (Tj))) (mB i 20 (Tn) (mB i 21 (Uy) (To)))))) (mB i 33 (mB i 27 (mB i 24 (mB i 23 (Zt) (abG)) (mB i 25 (U_) (mB i 26 (Uz) (Xw)))) (mB i 30 (mB i 28 (Wc) (mB i 29 (TR) (Xx))) (mB i 31 (Va) (mB i 32 (TS) (Vb))))) (mB i 38 (mB i 35 (mB i 34 (TU) (UA)) (mB i 36 (UB) (mB i 37 (SH) (Sv)))) (mB i 41 (mB i 39 (Tp) (mB i 40 (SR) (Tq))) (mB i 42 (We) (mB i 43 (Vc) (Vd))))))) (mB i 66 (mB i 55 (mB i 49 (mB i 46 (mB i 45 (SK) (Wf)) (mB i 47 (Ve) (mB i 48 (Vf) (UC)))) (mB i 52 (mB i 50 (Vg) (mB i 51 (Wg) (Vh))) (mB i 53 (Xy) (mB i 54 (SS) (Tr))))) (mB i 60 (mB i 57 (mB i 56 (UD) (Ts)) (mB i 58 (Vi) (mB i 59 (abH) (TV)))) (mB i 63 (mB i 61 (Vj) (mB i 62 (UE) (SU))) (mB i 64 (SV) (mB i 65 (UG) (UH)))))) (mB i 77 (mB i 71 (mB i 68 (mB i 67 (TX) (Zu)) (mB i 69 (Wh) (mB i 70 (Wi) (Wj)))) (mB i 74 (mB i 72 (Xz) (mB i 73 (UI) (Vk))) (mB i 75 (Wl) (mB i 76 (Wm) (Vl))))) (mB i 83 (mB i 80 (mB i 78 (Vm) (mB i 79 (Wn) (Wo))) (mB i 81 (UJ) (mB i 82 (Wq) (Wr)))) (mB i 86 (mB i 84 (Ws) (mB i 85 (Vn) (Vo))) (mB i 87 (Wt) (mB i 88 (Vp) (agz)))))))
noncomputable def funcs (f:Fn):mx:=agA f.val
noncomputable def mI:n_->String->Option Fn
 |.sf,m=>if m="put" then some .wJ else none
 |.Decl,_=>none
 |.qk,m=>if m="force" then some .xM else if m="bound" then some .xN else if m="list_prop" then some .xI else if m="list_index" then some .xH else if m="shape" then some .xJ else if m="fits" then some .y7 else none
noncomputable def mZ:n_->Fn
 |.sf=>.GQ
 |.Decl=>.Hd
 |.qk=>.G2
@[irreducible] noncomputable def lY (k:Nat)(f:Fn)(args:List PV)(Y:St):Option (PV×St):=Ph mI mZ funcs k f args Y
theorem Mr {k:Nat}{f:Fn}{args:List PV}{Y:St}:lY (k+1) f args Y=Ic mI mZ (lY k) (funcs f) args Y:=by unfold lY;rfl
theorem abI {f:Fn}{args:List PV}{Y:St}:lY 0 f args Y=none:=by unfold lY;rfl
inductive WC (x:Option (PV×St))(R:PV->St->Prop):Prop
 |mk (r:PV) (σ':St) (e:x=some (r,σ')) (q:R r σ')
inductive oJ (v:PV)(A B:Prop):Prop
 |mk (b:Bool) (h:v=.bool b) (t:b=true->A) (f:b=false->B)
inductive PB (A:Prop)(B C:Bool->Prop):Prop
 |mk (y:Bool) (h:A->B y) (q:C y)
noncomputable def Pj:PV->Option Int|.int i=>some i|_=>none
noncomputable def asNat:PV->Option Nat|.int (.ofNat i)=>some i|_=>none
noncomputable def Es.len {F:Type}:Es F->Nat|.nil=>0|.cons _ es=>es.len+1
theorem md {x:Option (PV×St)}{v:PV}{Y:St}{R:PV->St->Prop}(e:x=some (v,Y))(q:R v Y):WC x R:=⟨v,Y,e,q⟩
theorem nh {x:Bool}{A B:Prop}(h1:x=true->A)(h2:x=false->B):oJ (.bool x) A B:=⟨x,rfl,h1,h2⟩
theorem qC {A B:Prop}(h1:A):oJ (.bool true) A B:=⟨true,rfl,λ_=>h1,λh=>nomatch h⟩
theorem nF {A B:Prop}(h1:B):oJ (.bool false) A B:=⟨false,rfl,(λh=>nomatch h),λ_=>h1⟩
theorem pO {x:Bool}{A B:Prop}(h:x=true)(h1:A):oJ (.bool x) A B:=⟨x,rfl,λ_=>h1,λe=>nomatch h.symm.trans e⟩
theorem pj {x:Bool}{A B:Prop}(h:x=false)(h1:B):oJ (.bool x) A B:=⟨x,rfl,(λe=>nomatch h.symm.trans e),λ_=>h1⟩
section
variable {O:oh Fn}
theorem Hv:∀{es:Es Fn} {U:Loc} {Y:St} {p:List PV×St},rX mI mZ O es U Y=some p->p.1.length=es.len
 |.nil,_,_,_,rfl=>rfl
 |.cons e es,U,Y,p,h=>by
  obtain⟨q,e1,h⟩:=Option.bind_eq_some_iff.mp h;obtain⟨r,e2,h⟩:=Option.bind_eq_some_iff.mp h;cases h;exact lT (·+1) (Hv e2)
end
section
variable {O:oh Fn}{U ρ':Loc}{Y σ':St}{Q:PV->St->Prop}{m:Bool}{v w r:PV}{e e' a b c:E Fn}{es:Es Fn}{s:S Fn}{ss:Ss Fn}
noncomputable def Bf (O:oh Fn)(elt:E Fn)(t:Tg)(U:Loc)(x:PV)(Y:St):Option (Option PV×St):=(p3 t x (U++aI (slots t) none)).bind λρ'=>(mU mI mZ O elt false ρ' Y).bind λp=>some (some p.1,p.2)
noncomputable def HR (O:oh Fn)(elt c:E Fn)(t:Tg)(U:Loc)(x:PV)(Y:St):Option (Option PV×St):=(p3 t x (U++aI (slots t) none)).bind λρ'=>(mU mI mZ O c true ρ' Y).bind λq=>match q.1 with
   |.bool true=>(mU mI mZ O elt false ρ' q.2).bind λr=>some (some r.1,r.2)
   |.bool false=>some (none,q.2)
   |_=>none
noncomputable def Ff:Option PV->List PV->List PV|some v,l=>l++[v]|none,l=>l
end
def VO {V:Type}(x:Option V)(f:V->Prop):Prop:=match x with|some a=>f a|none=>False
theorem VO.e {V:Type}{x:Option V}{r:V}{f:V->Prop}(h:x=some r)(q:f r):VO x f:=h▸q
theorem VO.mono {V:Type}{x:Option V}{Q Q':V->Prop}(h:VO x Q)(k:∀a,Q a->Q' a):VO x Q':=match x,h with|some a,h=>k a h
theorem VO.bm {V β:Type}{x:Option V}{f:V->Option β}{A:V->Prop}{Q:β->Prop}(h:VO x A)(k:∀a,A a->VO (f a) Q):VO (x.bind f) Q:=match x,h with|some a,h=>k a h
theorem VO.mp {V β:Type}{x:Option V}{f:V->β}{A:V->Prop}{Q:β->Prop}(h:VO x A)(k:∀a,A a->Q (f a)):VO (x.map f) Q:=match x,h with|some a,h=>k a h
theorem VO.it {V:Type}{c:Prop}[Decidable c]{x y:Option V}{Q:V->Prop}(hc:c)(h:VO x Q):VO (if c then x else y) Q:=(lW hc).symm▸h
theorem VO.fi {V:Type}{c:Prop}[Decidable c]{x y:Option V}{Q:V->Prop}(hc:¬c)(h:VO y Q):VO (if c then x else y) Q:=(lX hc).symm▸h
theorem VO.ex {V:Type}{x:Option V}{f:V->Prop}(h:VO x f){G:Prop}(k:∀r,x=some r->f r->G):G:=match x,h with|some a,h=>k a rfl h
def og (m:Bool)(v:PV)(Y:St)(Q:PV->St->Prop):Prop:=match m with
 |false=>Q v Y
 |true=>VO (truthy Y v) λb=>Q (.bool b) Y
inductive RE (v0:PV)(σ0:St)(v:PV)(Y:St):Prop
 |mk (e:v=v0) (s:Y=σ0)
theorem RE.r {v:PV}{Y:St}:RE v Y v Y:=⟨rfl,rfl⟩
theorem RE.i {v v0:PV}{Y:St}(e:v=v0):RE v0 Y v Y:=⟨e,rfl⟩
theorem RE.c {v0 v:PV}{σ0 Y:St}(h:RE v0 σ0 v Y){P:PV->St->Prop}(k:P v0 σ0):P v Y:=by cases h with|mk e s=>cases e;cases s;exact k
section
variable (O:oh Fn)
inductive VX (e:E Fn)(m:Bool)(U:Loc)(Y:St)(Q:PV->St->Prop):Prop
 |mk (h:VO (mU mI mZ O e m U Y) λp=>Q p.1 p.2)
inductive VB (op:fZ)(e:Es Fn)(m:Bool)(U:Loc)(Y:St)(Q:PV->St->Prop):Prop
 |mk (h:VO (yx mI mZ O op e m U Y) λp=>Q p.1 p.2)
noncomputable abbrev n6:=PV->St->Prop
noncomputable abbrev GX:=St->n6->Prop
def KV (m:Bool)(Y:St)(Q:n6)(r:PV):Prop:=og m r Y Q
def Q3 (m:Bool)(Q:n6)(r:PV)(Y:St):Prop:=og m r Y Q
def aii (m:Bool)(Y:St)(Q:n6)(o:Option PV):Prop:=VO o (KV m Y Q)
def agB (a:String)(m:Bool)(Q:n6)(v:PV)(Y:St):Prop:=VO (oc Y a v) (KV m Y Q)
def agC (v:PV)(m:Bool)(Q:n6)(k:PV)(Y:St):Prop:=VO (mA Y k v) (KV m Y Q)
def aij (g:GX)(m:Bool)(Q:n6)(v:PV)(Y:St):Prop:=g Y (agC v m Q)
def aik (lo hi:Option Int)(m:Bool)(Q:n6)(v:PV)(Y:St):Prop:=VO (x_ lo hi v) (KV m Y Q)
def agD (op:iC)(v:PV)(m:Bool)(Q:n6)(w:PV)(Y:St):Prop:=VO (binOp op v w) (KV m Y Q)
def ail (g:GX)(op:iC)(m:Bool)(Q:n6)(v:PV)(Y:St):Prop:=g Y (agD op v m Q)
def agE (Y:St)(Q:n6)(b:Bool):Prop:=Q (.bool (!b)) Y
def KNot (Q:n6)(v:PV)(Y:St):Prop:=VO (truthy Y v) (agE Y Q)
def agF (m:Bool)(Y:St)(Q:n6)(i:Int):Prop:=og m (.int (-i)) Y Q
def aim (m:Bool)(Q:n6)(v:PV)(Y:St):Prop:=VO (Pj v) (agF m Y Q)
def agG (m:Bool)(Y:St)(Q:n6)(i:Nat):Prop:=og m (.int (.negSucc i)) Y Q
def ain (m:Bool)(Q:n6)(v:PV)(Y:St):Prop:=VO (asNat v) (agG m Y Q)
def KB (Y:St)(Q:n6)(b:Bool):Prop:=Q (.bool b) Y
def agH (op:iD)(v:PV)(Q:n6)(w:PV)(Y:St):Prop:=VO (oW Y op v w) (KB Y Q)
def aio (g:GX)(op:iD)(Q:n6)(v:PV)(Y:St):Prop:=g Y (agH op v Q)
def KIf (g h:GX)(Q:n6)(v:PV)(Y:St):Prop:=oJ v (g Y Q) (h Y Q)
def aip (m:Bool)(Q:n6)(vs:List PV)(Y:St):Prop:=og m (.tup vs) Y Q
def aiq (m:Bool)(Q:n6)(vs:List PV)(Y:St):Prop:=og m (.lst vs) Y Q
def KMl (Q:n6)(vs:List PV)(Y:St):Prop:=Q (.loc Y.length) (Y++[.list vs])
def KCall (f:Fn)(m:Bool)(Q:n6)(vs:List PV)(Y:St):Prop:=WC (O f vs Y) (Q3 m Q)
def agI (n:Nat)(Q:n6)(r:PV)(Y:St):Prop:=r=.none/\Q (.loc n) Y
def air (c:n_)(Q:n6)(vs:List PV)(Y:St):Prop:=WC (O (mZ c) (.loc Y.length::vs) (Y++[.inst c []])) (agI Y.length Q)
def aei (f:Fn)(v:PV)(m:Bool)(Q:n6)(vs:List PV)(Y:St):Prop:=WC (O f (v::vs) Y) (Q3 m Q)
def aej (g:St->(List PV->St->Prop)->Prop)(v:PV)(Y:St)(m:Bool)(Q:n6)(f:Fn):Prop:=g Y (aei O f v m Q)
def KMeth (g:St->(List PV->St->Prop)->Prop)(f:String)(m:Bool)(Q:n6)(v:PV)(Y:St):Prop:=VO (ql mI Y f v) (aej O g v Y m Q)
def agJ (v k:PV)(m:Bool)(Q:n6)(d:PV)(Y:St):Prop:=VO (zR Y k d v) (KV m Y Q)
def agK (h:GX)(v:PV)(m:Bool)(Q:n6)(k:PV)(Y:St):Prop:=h Y (agJ v k m Q)
def KGet (g h:GX)(m:Bool)(Q:n6)(v:PV)(Y:St):Prop:=zw Y v=true/\g Y (agK h v m Q)
def KBi (b:BI)(m:Bool)(Q:n6)(v:PV)(Y:St):Prop:=VO (qr Y b v) (KV m Y Q)
def KC2 (v:PV)(Q:List PV->St->Prop)(vs:List PV)(Y:St):Prop:=Q (v::vs) Y
def KC (g:St->(List PV->St->Prop)->Prop)(Q:List PV->St->Prop)(v:PV)(Y:St):Prop:=g Y (KC2 v Q)
mutual
def VE:E Fn->Bool->Loc->St->n6->Prop
 |.n5,m,_,Y,Q=>og m .none Y Q
 |.oq b,_,_,Y,Q=>Q (.bool b) Y
 |.lR i,m,_,Y,Q=>og m (.int i) Y Q
 |.m4 s,m,_,Y,Q=>og m (.str s) Y Q
 |.var i,m,U,Y,Q=>VO (U[i]?) (aii m Y Q)
 |.glob _ v,m,_,Y,Q=>og m v Y Q
 |.attr e a,m,U,Y,Q=>VE e false U Y (agB a m Q)
 |.idx e i,m,U,Y,Q=>VE e false U Y (aij (VE i false U) m Q)
 |.ri e lo hi,m,U,Y,Q=>VE e false U Y (aik lo hi m Q)
 |.bin op a b,m,U,Y,Q=>VE a false U Y (ail (VE b false U) op m Q)
 |.un op a,m,U,Y,Q=>match op with
  |.Not=>VE a m U Y (KNot Q)
  |.USub=>VE a false U Y (aim m Q)
  |.Invert=>VE a false U Y (ain m Q)
  |.UAdd=>False
 |.bo op es,m,U,Y,Q=>VB O op es m U Y Q
 |.cmp op a b,_,U,Y,Q=>VE a false U Y (aio (VE b false U) op Q)
 |.wg op Ae a b c,_,U,Y,Q=>VE a false U Y λv Y=>VE b false U Y λw Y=>VO (oW Y op v w) λr =>
   PB (r=true) (λy=>VE c false U Y λx σ'=>VO (oW σ' Ae w x) λr=>r=y/\σ'=Y) λy=>Q (.bool (r&&y)) Y
 |.nu c a b,m,U,Y,Q=>VE c true U Y (KIf (VE a m U) (VE b m U) Q)
 |.tup es,m,U,Y,Q=>match dG es.len 1000 with
  |true=>rG es U Y (aip m Q)
  |false=>False
 |.list es,m,U,Y,Q=>match dG es.len 1000 with
  |true=>rG es U Y (aiq m Q)
  |false=>False
 |.qB es,m,U,Y,Q=>match m,dG es.len 1000 with
  |false,true=>rG es U Y (KMl Q)
  |_,_=>False
 |.dict k,m,_,Y,Q=>match m with
  |false=>Q (.loc Y.length) (Y++[emptyDict k])
  |true=>False
 |.call f es,m,U,Y,Q=>rG es U Y (KCall O f m Q)
 |.new c es,m,U,Y,Q=>match m with
  |false=>rG es U Y (air O c Q)
  |true=>False
 |.nA o f es,m,U,Y,Q=>VE o false U Y (KMeth O (rG es U) f m Q)
 |.wh o k d,m,U,Y,Q=>VE o false U Y (KGet (VE k false U) (VE d false U) m Q)
 |.bi b e,m,U,Y,Q=>VE e false U Y (KBi b m Q)
 |.comp mu elt t it,m,U,Y,Q=>VX O (.comp mu elt t it) m U Y Q
 |.oC mu elt t it c,m,U,Y,Q=>VX O (.oC mu elt t it c) m U Y Q
 |.bad,_,_,_,_=>False
def rG:Es Fn->Loc->St->(List PV->St->Prop)->Prop
 |.nil,_,Y,Q=>Q [] Y
 |.cons e es,U,Y,Q=>VE e false U Y (KC (rG es U) Q)
end
def Qh (s:Src)(Y:St)(Q:Src->List PV->St->Prop)(l:List PV):Prop:=Q s l Y
def KIt (Q:Src->List PV->St->Prop)(v:PV)(Y:St):Prop:=VO (ug Y v) (Qh (.seq v) Y Q)
def ais (Q:Src->List PV->St->Prop)(v:PV)(Y:St):Prop:=VO (w4 Y v) (Qh (.keys v) Y Q)
def agL (Y:St)(Q:Src->List PV->St->Prop)(n:Nat):Prop:=n<=100000/\Q (.seq (.tup (p4 n))) (p4 n) Y
def ait (Q:Src->List PV->St->Prop)(v:PV)(Y:St):Prop:=VO (asNat v) (agL Y Q)
def oY (i:It Fn)(U:Loc)(Y:St)(Q:Src->List PV->St->Prop):Prop:=match i with
 |.e e=>VE O e false U Y (KIt Q)
 |.d e=>VE O e false U Y (ais Q)
 |.range e=>VE O e false U Y (ait Q)
def tU (N C:Loc->St->Prop)(R:PV->Loc->St->Prop)(p:Flow×Loc×St):Prop:=match p.1 with
 |.next=>N p.2.1 p.2.2
 |.cont=>C p.2.1 p.2.2
 |.ret v=>R v p.2.1 p.2.2
inductive yn (t:Tg)(it:It Fn)(aa:Ss Fn)(U:Loc)(Y:St)(N:Loc->St->Prop)(R:PV->Loc->St->Prop):Prop
 |mk (h:∀C,VO (F3 mI mZ O (.for t it aa) U Y) (tU N C R))
def o4 (t:Tg)(v:PV)(U:Loc)(f:Loc->Prop):Prop:=VO (p3 t v U) f
noncomputable abbrev PN:=Loc->St->Prop
noncomputable abbrev PR:=PV->Loc->St->Prop
noncomputable abbrev GS:=Loc->St->PN->PN->PR->Prop
def KN (Y:St)(N:PN)(U:Loc):Prop:=N U Y
def aiu (t:Tg)(U:Loc)(N:PN)(v:PV)(Y:St):Prop:=o4 t v U (KN Y N)
def aiv (a:String)(v:PV)(U:Loc)(N:PN)(w:PV)(Y:St):Prop:=VO (wN Y a v w) (N U)
def KSa (g:GX)(a:String)(U:Loc)(N:PN)(v:PV)(Y:St):Prop:=g Y (aiv a v U N)
def aiw (v w:PV)(U:Loc)(N:PN)(k:PV)(Y:St):Prop:=VO (tv Y k v w) (N U)
def aix (h:GX)(v:PV)(U:Loc)(N:PN)(w:PV)(Y:St):Prop:=h Y (aiw v w U N)
def KSi (g h:GX)(U:Loc)(N:PN)(v:PV)(Y:St):Prop:=g Y (aix h v U N)
def KEx (U:Loc)(N:PN)(v:PV)(Y:St):Prop:=v.isScalar=true/\N U Y
def aiy (w:PV)(U:Loc)(N:PN)(v:PV)(Y:St):Prop:=VO (AZ Y v w) (N U)
def KAp (g:GX)(U:Loc)(N:PN)(w:PV)(Y:St):Prop:=ya Y w=true/\g Y (aiy w U N)
def aiz (g h:GS)(U:Loc)(N C:PN)(R:PR)(v:PV)(Y:St):Prop:=oJ v (g U Y N C R) (h U Y N C R)
def aiA (R:PR)(U:Loc)(v:PV)(Y:St):Prop:=R v U Y
def KSs (g:GS)(N C:PN)(R:PR)(U:Loc)(Y:St):Prop:=g U Y N C R
mutual
def VS:S Fn->Loc->St->PN->PN->PR->Prop
 |.asg t e,U,Y,N,_,_=>VE O e false U Y (aiu t U N)
 |.setattr o a e,U,Y,N,_,_=>VE O e false U Y (KSa (VE O o false U) a U N)
 |.rS o i e,U,Y,N,_,_=>VE O e false U Y (KSi (VE O o false U) (VE O i false U) U N)
 |.expr e,U,Y,N,_,_=>VE O e false U Y (KEx U N)
 |.append o e,U,Y,N,_,_=>VE O o false U Y (KAp (VE O e false U) U N)
 |.ite c a b,U,Y,N,C,R=>VE O c true U Y (aiz (nE a) (nE b) U N C R)
 |.for t it aa,U,Y,N,_,R=>yn O t it aa U Y N R
 |.ret e,U,Y,_,_,R=>VE O e false U Y (aiA R U)
 |.cont,U,Y,_,C,_=>C U Y
 |.bad,_,_,_,_,_=>False
def nE:Ss Fn->Loc->St->PN->PN->PR->Prop
 |.nil,U,Y,N,_,_=>N U Y
 |.cons s ss,U,Y,N,C,R=>VS s U Y (KSs (nE ss) N C R) C R
end
end
section
variable {O:oh Fn}
theorem og.ok:∀{m:Bool} {v:PV} {Y:St} {Q:PV->St->Prop},og m v Y Q->VO (fin m v Y) λp=>Q p.1 p.2
 |false,_,_,_,h=>h
 |true,_,_,_,h=>VO.mp h λ_ h=>h
theorem og.b:∀{m:Bool} {b:Bool} {Y:St} {Q:PV->St->Prop},Q (.bool b) Y->VO (fin m (.bool b) Y) λp=>Q p.1 p.2
 |false,_,_,_,h=>h
 |true,_,_,_,h=>h
theorem WC.vo {x:Option (PV×St)}{R:PV->St->Prop}(h:WC x R):VO x λp=>R p.1 p.2:=h.rec λ_ _ e q=>.e e q
theorem VO.wc {x:Option (PV×St)}{R:PV->St->Prop}(h:VO x λp=>R p.1 p.2):WC x R:=match x,h with|some p,h=>⟨p.1,p.2,rfl,h⟩
theorem VO.len {es:Es Fn}{U:Loc}{Y:St}{β:Type}{A:List PV×St->Prop}{f:List PV×St->Option β}{y:Option β}{Q:β->Prop}(hb:dG es.len 1000=true)(h:VO (rX mI mZ O es U Y) A)(k:∀p,A p->VO (f p) Q) :
  VO ((rX mI mZ O es U Y).bind λp=>if p.1.length<=1000 then f p else y) Q :=
 h.ex λp e q=>.bm (.e e ⟨q,Hv e▸a8 hb⟩:VO _ λp=>A p/\p.1.length<=1000) λp h=>.it h.2 (k p h.1)
theorem VO.int {β:Type}{p:PV×St}{f:Int->Option β}{A:Int->Prop}{Q:β->Prop}(h:VO (Pj p.1) A)(k:∀i,A i->VO (f i) Q):VO (match p.1 with|.int i=>f i|_=>none) Q :=
 match p,h with|(.int i,_),h=>k i h
theorem VO.nat {β:Type}{p:PV×St}{f:Nat->Option β}{A:Nat->Prop}{Q:β->Prop}(h:VO (asNat p.1) A)(k:∀i,A i->VO (f i) Q):VO (match p.1 with|.int (.ofNat i)=>f i|_=>none) Q :=
 match p,h with|(.int (.ofNat i),_),h=>k i h
theorem oJ.e {v:PV}{A B:Prop}(h:oJ v A B){P:PV->Prop}(t:A->P (.bool true))(f:B->P (.bool false)):P v:=h.rec λb e a c=>by
 subst e;cases b with
 |true=>exact t (a rfl)
 |false=>exact f (c rfl)
theorem PB.e {A:Prop}{B C:Bool->Prop}(h:PB A B C){G:Prop}(k:∀y,(A->B y)->C y->G):G:=h.rec λy a c=>k y a c
theorem Pk {b:Bool}{A:Prop}(h:match b with|true=>A|false=>False){G:Prop}(k:b=true->A->G):G:=match b,h with|true,h=>k rfl h
theorem aiB {m b:Bool}{A:Prop}(h:match m,b with|false,true=>A|_,_=>False){G:Prop}(k:m=false->b=true->A->G):G:=match m,b,h with|false,true,h=>k rfl rfl h
theorem aek {m:Bool}{o:Option (Option PV)}{Y:St}{Q:PV->St->Prop}(h:VO o λo=>VO o λv=>og m v Y Q):VO (match o with|some (some v)=>fin m v Y|_=>none) λp=>Q p.1 p.2 :=
 match o,h with|some (some _),h=>og.ok h
theorem ael {p:PV×St}{A B:Prop}{x y:Option (PV×St)}{F:PV×St->Prop}(h:oJ p.1 A B)(a:A->VO x F)(b:B->VO y F):VO (match p.1 with|.bool true=>x|.bool false=>y|_=>none) F :=
 h.e (P:=λv=>VO (match v with|.bool true=>x|.bool false=>y|_=>none) F) a b
theorem abJ {m:Bool}{Y:St}{x:Option (PV×St)}{g:PV×St->Option Bool}{Q:PV->St->Prop}{B:Bool->Prop}(b:Bool)
  (h:PB (b=true) B λy=>Q (.bool (b&&y)) Y) (k:∀y,B y->VO x λp=>VO (g p) λr=>r=y/\p.2=Y) :
  VO (if b=true then x.bind λp=>(g p).bind λr=>fin m (.bool r) p.2 else fin m (.bool false) Y) λp=>Q p.1 p.2 :=
 h.e λy hb q=>match b,hb,q with
  |true,hb,q=>.it rfl (.bm (k y (hb rfl)) λ_ h=>.bm h λ_ h=>og.b (by rw[h.1,h.2];exact q))
  |false,_,q=>.fi (λe=>nomatch e) (og.b q)
theorem aem {p:PV×St}{A B:Prop}{x y:Option (Flow×Loc×St)}{F:Flow×Loc×St->Prop}(h:oJ p.1 A B)(a:A->VO x F)(b:B->VO y F):VO (match p.1 with|.bool true=>x|.bool false=>y|_=>none) F :=
 h.e (P:=λv=>VO (match v with|.bool true=>x|.bool false=>y|_=>none) F) a b
theorem Zv {m:Bool}{es:Es Fn}{U:Loc}{Y:St}{Q:PV->St->Prop}(hm:m=false)(hb:dG es.len 1000=true)(h:VO (rX mI mZ O es U Y) λp=>Q (.loc p.2.length) (p.2++[.list p.1])) :
  VO ((rX mI mZ O es U Y).bind λp=>if(m||decide (1000<p.1.length))=true then none else some (qX true p.1 p.2)) λp=>Q p.1 p.2 :=
 h.ex λp e q=>.bm (.e e ⟨q,Hv e▸a8 hb⟩:VO _ λp:List PV×St=>Q (.loc p.2.length) (p.2++[.list p.1])/\p.1.length<=1000) λp h=>.fi (x:=none) (y:=some (qX true p.1 p.2)) (Q:=λp=>Q p.1 p.2) (λe=>by
  rw[hm,dH,decide_eq_true_eq] at e;exact absurd h.2 (Nat.not_le.mpr e)) h.1
mutual
theorem VE.ok:(e:E Fn)->{m:Bool}->{U:Loc}->{Y:St}->{Q:PV->St->Prop}->VE O e m U Y Q->VO (mU mI mZ O e m U Y) λp=>Q p.1 p.2
 |.n5,_,_,_,_,h=>og.ok h
 |.oq _,_,_,_,_,h=>og.b h
 |.lR _,_,_,_,_,h=>og.ok h
 |.m4 _,_,_,_,_,h=>og.ok h
 |.var i,m,U,Y,Q,h=>aek h
 |.glob _ _,_,_,_,_,h=>og.ok h
 |.attr e _,_,_,_,_,h=>.bm (VE.ok e h) λ_ h=>.bm h λ_ h=>og.ok h
 |.idx e i,_,_,_,_,h=>.bm (VE.ok e h) λ_ h=>.bm (VE.ok i h) λ_ h=>.bm h λ_ h=>og.ok h
 |.ri e _ _,_,_,_,_,h=>.bm (VE.ok e h) λ_ h=>.bm h λ_ h=>og.ok h
 |.bin _ e i,_,_,_,_,h=>.bm (VE.ok e h) λ_ h=>.bm (VE.ok i h) λ_ h=>.bm h λ_ h=>og.ok h
 |.un .Not e,_,_,_,_,h=>.bm (VE.ok e h) λ_ h=>.bm h λ_ h=>h
 |.un .USub e,_,_,_,_,h=>.bm (VE.ok e h) λ_ h=>VO.int h λ_ h=>og.ok h
 |.un .Invert e,_,_,_,_,h=>.bm (VE.ok e h) λ_ h=>VO.nat h λ_ h=>og.ok h
 |.un .UAdd _,_,_,_,_,h=>h.elim
 |.bo _ _,_,_,_,_,h=>h.rec λh=>h
 |.cmp _ e i,_,_,_,_,h=>.bm (VE.ok e h) λ_ h=>.bm (VE.ok i h) λ_ h=>.bm h λ_ h=>og.b h
 |.wg _ _ e i c,_,_,_,_,h=>.bm (VE.ok e h) λ_ h=>.bm (VE.ok i h) λ_ h=>.bm h λb h=>abJ b h λ_ h=>VE.ok c h
 |.nu c a b,_,_,_,_,h=>.bm (VE.ok c h) λ_ h=>ael h (VE.ok a) (VE.ok b)
 |.tup es,_,_,_,_,h=>Pk h λhb h=>VO.len hb (rG.ok es h) λ_ h=>og.ok h
 |.list es,_,_,_,_,h=>Pk h λhb h=>VO.len hb (rG.ok es h) λ_ h=>og.ok h
 |.qB es,m,_,_,_,h=>aiB h λhm hb h=>Zv hm hb (rG.ok es h)
 |.dict _,false,_,_,_,h=>h
 |.dict _,true,_,_,_,h=>h.elim
 |.call _ es,_,_,_,_,h=>.bm (rG.ok es h) λ_ h=>.bm h.vo λ_ h=>og.ok h
 |.new c es,false,_,_,_,h=>.bm (rG.ok es h) λp h=>.bm h.vo λq h=>.it ⟨rfl,h.1⟩ h.2
 |.new _ _,true,_,_,_,h=>h.elim
 |.nA o f es,_,_,_,_,h=>.bm (VE.ok o h) λ_ h=>.bm h λ_ h=>.bm (rG.ok es h) λ_ h=>.bm h.vo λ_ h=>og.ok h
 |.wh o k d,_,_,_,_,h=>.bm (VE.ok o h) λ_ h=>.it h.1 (.bm (VE.ok k h.2) λ_ h=>.bm (VE.ok d h) λ_ h=>.bm h λ_ h=>og.ok h)
 |.bi _ e,_,_,_,_,h=>.bm (VE.ok e h) λ_ h=>.bm h λ_ h=>og.ok h
 |.comp _ _ _ _,_,_,_,_,h=>h.rec λh=>h
 |.oC _ _ _ _ _,_,_,_,_,h=>h.rec λh=>h
 |.bad,_,_,_,_,h=>h.elim
theorem rG.ok:(e:Es Fn)->{U:Loc}->{Y:St}->{Q:List PV->St->Prop}->rG O e U Y Q->VO (rX mI mZ O e U Y) λp=>Q p.1 p.2
 |.nil,_,_,_,h=>h
 |.cons e es,_,_,_,h=>.bm (VE.ok e h) λ_ h=>.bm (rG.ok es h) λ_ h=>h
end
section
variable {U:Loc}{Y:St}{Q:PV->St->Prop}{m:Bool}{e e':E Fn}{es:Es Fn}
theorem vb1 {op:fZ}(h:VE O e m U Y Q):VB O op (.cons e .nil) m U Y Q:=⟨VE.ok e h⟩
theorem Q4 {op:fZ}(h:VE O e m U Y λv σ'=>VO (truthy σ' v) λx=>(x=(op==.Or)->Q v σ')/\(x=!(op==.Or)->VB O op (.cons e' es) m U σ' Q)):VB O op (.cons e (.cons e' es)) m U Y Q :=
 ⟨.bm (VE.ok e h) λp h=>.bm h λx h=>if hx:x=(op==.Or) then .it hx (h.1 hx) else .fi hx ((h.2 (by revert hx;cases x<;>cases(op==lp)<;>decide)).rec λh=>h)⟩
theorem Oo (h1:VE O e m U Y (RE (.bool false) Y))(q:Q (.bool false) Y):VB O .And (.cons e (.cons e' es)) m U Y Q:=⟨.bm (VE.ok e h1) λp h=>match p,h with
  |(_,_),⟨rfl,rfl⟩=>q⟩
theorem aen (h1:VE O e m U Y (RE (.bool true) Y))(q:VB O .And (.cons e' es) m U Y Q):VB O .And (.cons e (.cons e' es)) m U Y Q:=⟨.bm (VE.ok e h1) λp h=>match p,h with
  |(_,_),⟨rfl,rfl⟩=>q.rec λh=>h⟩
theorem aiC {x y:Bool}(h1:VE O e m U Y (RE (.bool x) Y))(h2:x=false->VB O .Or (.cons e' es) m U Y (RE (.bool y) Y))(q:Q (.bool (x||y)) Y):VB O .Or (.cons e (.cons e' es)) m U Y Q :=
 ⟨.bm (VE.ok e h1) λp h=>match p,h with
  |(_,_),⟨rfl,rfl⟩=>match x,h2,q with
   |true,_,q=>q
   |false,h2,q=>(h2 rfl).rec λh=>h.mono λp h=>h.c (P:=λv Y=>Q v Y) q⟩
theorem aiD {x y:Bool}(h1:VE O e m U Y (RE (.bool x) Y))(h2:x=true->VB O .And (.cons e' es) m U Y (RE (.bool y) Y))(q:Q (.bool (x&&y)) Y):VB O .And (.cons e (.cons e' es)) m U Y Q :=
 ⟨.bm (VE.ok e h1) λp h=>match p,h with
  |(_,_),⟨rfl,rfl⟩=>match x,h2,q with
   |false,_,q=>q
   |true,h2,q=>(h2 rfl).rec λh=>h.mono λp h=>h.c (P:=λv Y=>Q v Y) q⟩
end
theorem oY.ok:{e:It Fn}->{U:Loc}->{Y:St}->{Q:Src->List PV->St->Prop}->oY O e U Y Q->VO (z3 mI mZ O e U Y) λp=>Q p.1 p.2.1 p.2.2
 |.e e,_,_,_,h=>.bm (VE.ok e h) λ_ h=>.bm h λ_ h=>h
 |.d e,_,_,_,h=>.bm (VE.ok e h) λ_ h=>.bm h λ_ h=>h
 |.range e,_,_,_,h=>.bm (VE.ok e h) λp h=>match p,h with
  |(.int (.ofNat n),Y),h=>.it ((aL _ _).mpr ⟨mY (di n),mY (Int.ofNat_le.mpr h.1)⟩) h.2
mutual
theorem VS.ok:(s:S Fn)->{U:Loc}->{Y:St}->{N C:Loc->St->Prop}->{R:PV->Loc->St->Prop}->VS O s U Y N C R->VO (F3 mI mZ O s U Y) (tU N C R)
 |.asg _ e,_,_,_,_,_,h=>.bm (VE.ok e h) λ_ h=>.bm h λ_ h=>h
 |.setattr o _ e,_,_,_,_,_,h=>.bm (VE.ok e h) λ_ h=>.bm (VE.ok o h) λ_ h=>.bm h λ_ h=>h
 |.rS o i e,_,_,_,_,_,h=>.bm (VE.ok e h) λ_ h=>.bm (VE.ok o h) λ_ h=>.bm (VE.ok i h) λ_ h=>.bm h λ_ h=>h
 |.expr e,_,_,_,_,_,h=>.bm (VE.ok e h) λ_ h=>.it h.1 h.2
 |.append o e,_,_,_,_,_,h=>.bm (VE.ok o h) λ_ h=>.it h.1 (.bm (VE.ok e h.2) λ_ h=>.bm h λ_ h=>h)
 |.ite c a b,_,_,_,_,_,h=>.bm (VE.ok c h) λp h=>aem h (nE.ok a) (nE.ok b)
 |.for _ _ _,_,_,_,_,_,h=>h.rec λh=>h _
 |.ret e,_,_,_,_,_,h=>.bm (VE.ok e h) λ_ h=>h
 |.cont,_,_,_,_,_,h=>h
 |.bad,_,_,_,_,_,h=>h.elim
theorem nE.ok:(s:Ss Fn)->{U:Loc}->{Y:St}->{N C:Loc->St->Prop}->{R:PV->Loc->St->Prop}->nE O s U Y N C R->VO (sA mI mZ O s U Y) (tU N C R)
 |.nil,_,_,_,_,_,h=>h
 |.cons s ss,_,_,_,_,_,h=>.bm (VS.ok s h) λp h=>match p,h with
  |(.next,_,_),h=>nE.ok ss h
  |(.cont,_,_),h=>h
  |(.ret _,_,_),h=>h
end
def Cg:Loc->St->Prop:=λ_ _=>False
def I9 (R:PV->St->Prop):Loc->St->Prop:=λ_ Y=>R .none Y
def B3 (R:PV->St->Prop):PV->Loc->St->Prop:=λv _ Y=>R v Y
theorem abK {x:Option (Flow×Loc×St)}{R:PV->St->Prop}(h:VO x (tU (I9 R) Cg (B3 R))):VO (x.bind λp=>match p with|(.ret v,_,Y)=>some (v,Y)|(.next,_,Y)=>some (.none,Y)|_=>none) λp=>R p.1 p.2 :=
 .bm h λp h=>match p,h with
  |(.next,_,_),h=>h
  |(.ret _,_,_),h=>h
theorem w5 {k:Nat}{f:Fn}{args:List PV}{Y:St}{U:Loc}{R:PV->St->Prop}(hs:my (funcs f) args=some U)(h:nE (lY k) (funcs f).body U Y (I9 R) Cg (B3 R)):WC (lY (k+1) f args Y) R :=
 VO.wc (Mr▸.bm (.e hs (nE.ok _ h)) λ_ h=>abK h)
theorem tD {k:Nat}{f:Fn}{args:List PV}{Y:St}{U:Loc}{v:PV}(hs:my (funcs f) args=some U)(h:nE (lY k) (funcs f).body U Y (I9 (RE v Y)) Cg (B3 (RE v Y))):lY (k+1) f args Y=some (v,Y) :=
 (w5 hs h).rec λ_ _ e q=>q.rec λe1 e2=>e1▸e2▸e
theorem nr {k:Nat}{f:Fn}{args:List PV}{Y:St}{U:Loc}{v:PV}(hs:my (funcs f) args=some U)(h:∀R:PV->Loc->St->Prop,(∀v' U,v'=v->R v' U Y)->nE (lY k) (funcs f).body U Y (λU Y=>R .none U Y) Cg R):lY (k+1) f args Y=some (v,Y) :=
 tD hs (h (B3 (RE v Y)) λ_ _ e=>(⟨e,rfl⟩:RE v Y _ Y))
theorem nS {k:Nat}{f:Fn}{args:List PV}{Y:St}{U:Loc}{R0:PV->St->Prop}(hs:my (funcs f) args=some U)(h:∀R:PV->Loc->St->Prop,(∀v U Y,R0 v Y->R v U Y)->nE (lY k) (funcs f).body U Y (λU Y=>R .none U Y) Cg R):WC (lY (k+1) f args Y) R0 :=
 w5 hs (h (B3 R0) λ_ _ _ e=>e)
theorem tJ {ι:Type}{U:Loc}{Y:St}{s:S Fn}{ss:Ss Fn}{N C:Loc->St->Prop}{R:PV->Loc->St->Prop}(st:ι->Loc)(sg:ι->St)(J:ι->Prop)(h:∀N':Loc->St->Prop,(∀i,J i->N' (st i) (sg i))->VS O s U Y N' C R)
  (k:∀i,J i->nE O ss (st i) (sg i) N C R):nE O (.cons s ss) U Y N C R:=h _ k
inductive NP {ι:Type}(st:ι->Loc)(J:ι->Prop)(σ0:St)(U:Loc)(Y:St):Prop
 |mk (i:ι) (e:U=st i) (s:Y=σ0) (j:J i)
inductive NE {ι:Type}(st:ι->Loc)(sg:ι->St)(src:Src)(l:List PV)(J:ι->Prop)(U:Loc)(Y:St):Prop
 |mk (i:ι) (e:U=st i) (s:Y=sg i) (hs:oD (sg i) src=some l) (j:J i)
inductive SI (L:List PV)(σ0:St)(src:Src)(l:List PV)(Y:St):Prop
 |mk (hs:oD σ0 src=some L) (e:l=L) (s:Y=σ0)
theorem mem_mid {V:Type}{as bs cs:List V}{a:V}(e:as=bs++a::cs):a∈as:=e▸dj _ (aG ..)
theorem z4 {ι V:Type}{src:Src}{as:List V}{enc:V->PV}{f:PV->Loc->St->Option (Flow×Loc×St)}{N C:Loc->St->Prop}{R:PV->Loc->St->Prop}{st:ι->Loc}{sg:ι->St}{J:List V->ι->Prop}
  (hb:∀(bs:List V) (a:V) (cs:List V) (i:ι),as=bs++a::cs->J bs i->VO (f (enc a) (st i) (sg i)) (tU (NE st sg src (as.map enc) (J (bs++[a]))) (NE st sg src (as.map enc) (J (bs++[a]))) R))
  (hr:∀i,J as i->N (st i) (sg i)):∀(cs bs:List V) (i:ι),as=bs++cs->J bs i->VO (w9 src (as.map enc) f (cs.map enc) (st i) (sg i)) (tU N C R)
 |[],bs,i,e,j=>hr i (e▸(bc bs).symm▸j)
 |a::cs,bs,i,e,j=>.bm (hb bs a cs i e j) λp h =>
  have k:∀{U:Loc} {Y:St},NE st sg src (as.map enc) (J (bs++[a])) U Y->VO (if oD Y src=some (as.map enc) then w9 src (as.map enc) f (cs.map enc) U Y else none) (tU N C R) :=
   λh=>h.rec λi' e1 e2 hs j=>by cases e1;cases e2;exact .it hs (z4 hb hr cs (bs++[a]) i' (e.trans (bR bs [a] cs).symm) j)
  match p,h with
  |(.next,_,_),h=>k h
  |(.cont,_,_),h=>k h
  |(.ret _,_,_),h=>h
theorem IH {ι:Type}{st:ι->Loc}{J:ι->Prop}{σ0:St}{N:Loc->St->Prop}{R:PV->Loc->St->Prop}{p:Flow×Loc×St}(h:tU (NP st J σ0) (NP st J σ0) R p)(k:∀i,J i->N (st i) σ0):tU N N R p :=
 have k:∀{U:Loc} {τ:St},NP st J σ0 U τ->N U τ:=λh=>h.rec λi e s j=>e▸s▸k i j
 match p,h with
 |(.next,_,_),h=>k h
 |(.cont,_,_),h=>k h
 |(.ret _,_,_),h=>h
section
variable {ι V:Type}{U:Loc}{Y:St}{t:Tg}{it:It Fn}{aa:Ss Fn}{N C:Loc->St->Prop}{R:PV->Loc->St->Prop}
inductive SJ {ι:Type}(I_:Src)(L:List PV)(st:ι->Loc)(sg:ι->St)(J:ι->Prop)(U:Loc)(src:Src)(l:List PV)(Y:St):Prop
 |mk (i:ι) (hs:src=I_) (hl:l=L) (hρ:U=st i) (hσ:Y=sg i) (j:J i)
theorem sV (as:List V)(enc:V->PV)(src:Src)(st:ι->Loc)(sg:ι->St)(J:List V->ι->Prop)(hi:oY O it U Y (SJ src (as.map enc) st sg (J []) U))
  (hb:∀(bs:List V) (a:V) (cs:List V) (i:ι),as=bs++a::cs->J bs i->∀N':Loc->St->Prop,(∀i,oD (sg i) src=some (as.map enc)->J (bs++[a]) i->N' (st i) (sg i))->o4 t (enc a) (st i) λρ'=>nE O aa ρ' (sg i) N' N' R)
  (hr:∀i,J as i->N (st i) (sg i)):yn O t it aa U Y N R :=
 ⟨λC=>.bm (oY.ok hi) λp h=>match p,h with
  |(_,_,_),⟨i,rfl,hl,h0,hs,j⟩=>by
   subst hl;subst h0;subst hs;exact z4 (λbs a cs i e j=>.bm (hb bs a cs i e j _ λi hs j=>⟨i,rfl,rfl,hs,j⟩) λ_ h=>nE.ok aa h) hr as [] i rfl j⟩
theorem EP (as:List V)(enc:V->PV)(st:ι->Loc)(J:List V->ι->Prop)(i0:ι)(h0:U=st i0)(hi:oY O it U Y (SI (as.map enc) Y))(j0:J [] i0)
  (hb:∀(bs:List V) (a:V) (cs:List V) (i:ι),as=bs++a::cs->J bs i->∀N':Loc->St->Prop,(∀i,J (bs++[a]) i->N' (st i) Y)->o4 t (enc a) (st i) λρ'=>nE O aa ρ' Y N' N' R)
  (hr:∀i,J as i->N (st i) Y):yn O t it aa U Y N R :=
 ⟨λC=>.bm (oY.ok hi) λp h=>match p,h with
  |(src,l,σ'),⟨hs,e,s⟩=>by
   subst h0;subst e;subst s;exact z4 (sg:=λ_=>σ') (λbs a cs i e j=>.bm (hb bs a cs i e j _ λi j=>⟨i,rfl,rfl,j⟩) λ_ h=>(nE.ok aa h).mono λp h=>IH h λi j=>⟨i,rfl,rfl,hs,j⟩) hr as [] i0 rfl j0⟩
theorem vS (as:List V)(enc:V->PV)(st:ι->Loc)(p:V->Bool)(i0:ι)(h0:U=st i0)(hi:oY O it U Y (SI (as.map enc) Y))
  (hb:∀(a:V) (i:ι),a∈as->(p a=true->as.find? p=some a)->∀N':Loc->St->Prop,(∀i,p a=false->N' (st i) Y)->o4 t (enc a) (st i) λρ'=>nE O aa ρ' Y N' N' R)
  (hr:as.find? p=none->∀i,N (st i) Y):yn O t it aa U Y N R :=
 ⟨λC=>.bm (oY.ok hi) λq h=>match q,h with
  |(src,l,σ'),⟨hs,e,s⟩=>by
   subst h0;subst e;subst s;exact z4 (sg:=λ_=>σ') (J:=λbs _=>bs.find? p=none) (λbs a cs i e j=>.bm (hb a i (mem_mid e) (λh=>by rw[e,eY,j];exact cE h) _ λi h=>(⟨i,rfl,rfl,h⟩:NP st (λ_=>p a=false) σ' _ _)) λ_ h=>(nE.ok aa h).mono λq h=>IH h λi h=>⟨i,rfl,rfl,hs,by rw[eY,j];exact cF (by rw[h];decide)⟩) (λi j=>hr j i) as [] i0 rfl rfl⟩
inductive NF {β ι:Type}(st:β->ι->Loc)(b:β)(σ0:St)(U:Loc)(Y:St):Prop
 |mk (b':β) (e':b'=b) (i:ι) (e:U=st b' i) (s:Y=σ0)
theorem agM {β ι:Type}{st:β->ι->Loc}{b:β}{σ0:St}{N:Loc->St->Prop}{R:PV->Loc->St->Prop}{p:Flow×Loc×St}(h:tU (NF st b σ0) (NF st b σ0) R p)(k:∀i,N (st b i) σ0):tU N N R p :=
 have k:∀{U:Loc} {τ:St},NF st b σ0 U τ->N U τ:=λh=>h.rec λb' e' i e s=>e▸s▸e'▸k i
 match p,h with
 |(.next,_,_),h=>k h
 |(.cont,_,_),h=>k h
 |(.ret _,_,_),h=>h
theorem HS {β:Type}(as:List V)(enc:V->PV)(f:β->V->β)(b0:β)(st:β->ι->Loc)(i0:ι)(h0:U=st b0 i0)(hi:oY O it U Y (SI (as.map enc) Y))
  (hb:∀(bs:List V) (a:V) (cs:List V) (i:ι),as=bs++a::cs->∀N':Loc->St->Prop,(∀b i,b=f (bs.foldl f b0) a->N' (st b i) Y)->o4 t (enc a) (st (bs.foldl f b0) i) λρ'=>nE O aa ρ' Y N' N' R)
  (hr:∀i,N (st (as.foldl f b0) i) Y):yn O t it aa U Y N R :=
 ⟨λC=>.bm (oY.ok hi) λq h=>match q,h with
  |(src,l,σ'),⟨hs,e,s⟩=>by
   subst h0;subst e;subst s;exact z4 (ι:=β×ι) (st:=λp=>st p.1 p.2) (sg:=λ_=>σ') (J:=λbs p=>p.1=bs.foldl f b0) (λbs a cs i e j=>.bm (f:=λU=>sA mI mZ O aa U σ') (show o4 t (enc a) (st i.1 i.2) _ by rw[j];exact hb bs a cs i.2 e _ λb i h=>⟨b,h,i,rfl,rfl⟩) λ_ h=>(nE.ok aa h).mono λq h=>agM h λi'=>⟨(f (bs.foldl f b0) a,i'),rfl,rfl,hs,by rw[dJ];rfl⟩) (λi j=>by rw[j];exact hr i.2) as [] (b0,i0) rfl rfl⟩
inductive Ci (O:oh Fn)(t:Tg)(aa:Ss Fn)(U:Loc)(N:Loc->St->Prop)(R:PV->Loc->St->Prop)(src:Src)(l:List PV)(Y:St):Prop
 |mk (h:∀C,VO (w9 src l (λx U Y=>(p3 t x U).bind λU=>sA mI mZ O aa U Y) l U Y) (tU N C R))
theorem Bg (h:oY O it U Y (Ci O t aa U N R)):yn O t it aa U Y N R:=⟨λC=>.bm (oY.ok h) λ_ h=>h.rec λh=>h C⟩
theorem Ie {x:PV}{src:Src}(hs:oD Y src=some [x])(h:∀N':Loc->St->Prop,(∀ρ',N ρ' Y->N' ρ' Y)->o4 t x U λρ'=>nE O aa ρ' Y N' N' R):Ci O t aa U N R src [x] Y :=
 ⟨λC=>.bm (.bm (h (λρ' σ'=>σ'=Y/\N ρ' Y) λ_ h=>⟨rfl,h⟩) λ_ h=>nE.ok aa h) λp h=>match p,h with
  |(.next,_,_),h=>by cases(h:_/\_).1;exact .it hs (h:_/\_).2
  |(.cont,_,_),h=>by cases(h:_/\_).1;exact .it hs (h:_/\_).2
  |(.ret _,_,_),h=>h⟩
theorem zT {src:Src}{as:List V}{enc:V->PV}{f:PV->St->Option (Option PV×St)}{J:List V->List PV->St->Prop}
  (h:∀(bs:List V) (a:V) (cs:List V) (os:List PV) (τ:St),as=bs++a::cs->J bs os τ->VO (f (enc a) τ) λp=>oD p.2 src=some (as.map enc)/\J (bs++[a]) (Ff p.1 os) p.2) :
  ∀(cs bs:List V) (os:List PV) (τ:St),as=bs++cs->J bs os τ->VO (vV src (as.map enc) f (cs.map enc) τ) λp=>J as (os++p.1) p.2
 |[],bs,os,τ,e,j=>show J as (os++[]) τ by rw[e,bc,bc];exact j
 |a::cs,bs,os,τ,e,j=>.bm (h bs a cs os τ e j) λp q=>.it q.1 (.bm (zT h cs (bs++[a]) _ p.2 (e.trans (bR bs [a] cs).symm) q.2) λr q =>
  match p,q with
  |(none,_),q=>q
  |(some v,_),q=>show J as (os++(v::r.1)) r.2 by rw[Ff,bR] at q;exact q)
variable {enc:V->PV}{e c:E Fn}{Q:PV->St->Prop}{mu:Bool}
inductive SC (I_:Src)(L:List PV)(J:St->Prop)(src:Src)(l:List PV)(Y:St):Prop
 |mk (hs:src=I_) (hl:l=L) (j:J Y)
inductive CE (src:Src)(L:List PV)(J:List PV->St->Prop)(os:List PV)(v:PV)(Y:St):Prop
 |mk (hs:oD Y src=some L) (j:J (os++[v]) Y)
inductive CN (src:Src)(L:List PV)(J:St->Prop)(Y:St):Prop
 |mk (hs:oD Y src=some L) (j:J Y)
theorem abL (as:List V)(enc:V->PV)(src:Src)(J:List V->List PV->St->Prop)(hi:oY O it U Y (SC src (as.map enc) (J [] [])))
  (hb:∀(bs:List V) (a:V) (cs:List V) (os:List PV) (τ:St),as=bs++a::cs->J bs os τ->o4 t (enc a) (U++aI (slots t) none) λρ'=>VE O e false ρ' τ (CE src (as.map enc) (J (bs++[a])) os))
  (hr:∀os τ,J as os τ->Q (qX mu os τ).1 (qX mu os τ).2):VX O (.comp mu e t it) false U Y Q :=
 ⟨.bm (oY.ok hi) λp h=>match p,h with
  |(_,l,σ'),⟨rfl,hl,j⟩=>by
   subst hl;exact .bm (zT (f:=Bf O e t U) (J:=J) (λbs a cs os τ e j=>.bm (hb bs a cs os τ e j) λ_ h=>.bm (VE.ok _ h) λp h=>h.rec λhs j=>⟨hs,j⟩) as [] [] σ' rfl j) λp h=>hr _ _ h⟩
theorem Ms (as:List V)(enc:V->PV)(src:Src)(J:List V->List PV->St->Prop)(hi:oY O it U Y (SC src (as.map enc) (J [] [])))
  (hb:∀(bs:List V) (a:V) (cs:List V) (os:List PV) (τ:St),as=bs++a::cs->J bs os τ->o4 t (enc a) (U++aI (slots t) none) λρ'=>VE O c true ρ' τ λv τ'=>oJ v (VE O e false ρ' τ' (CE src (as.map enc) (J (bs++[a])) os)) (CN src (as.map enc) (J (bs++[a]) os) τ'))
  (hr:∀os τ,J as os τ->Q (qX mu os τ).1 (qX mu os τ).2):VX O (.oC mu e t it c) false U Y Q :=
 ⟨.bm (oY.ok hi) λp h=>match p,h with
  |(_,l,σ'),⟨rfl,hl,j⟩=>by
   subst hl;exact .bm (zT (f:=HR O e c t U) (J:=J) (λbs a cs os τ e j=>.bm (hb bs a cs os τ e j) λ_ h=>.bm (VE.ok _ h) λp h=>match p,h with
    |(_,τ'),⟨true,rfl,a,_⟩=>.bm (VE.ok _ (a rfl)) λ_ h=>h.rec λhs j=>⟨hs,j⟩
    |(_,τ'),⟨false,rfl,_,b⟩=>(b rfl).rec λhs j=>⟨hs,j⟩) as [] [] σ' rfl j) λp h=>hr _ _ h⟩
theorem aeo {x v0:PV}{τ:St}{B:Option PV->St->Prop}(h:o4 t x (U++aI (slots t) none) λρ'=>VE O e false ρ' τ (RE v0 τ))(k:B (some v0) τ):VO (Bf O e t U x τ) λp=>B p.1 p.2 :=
 .bm h λ_ h=>.bm (VE.ok _ h) λp h=>h.c (P:=λv Y=>B (some v) Y) k
theorem Zw {x v0:PV}{τ:St}{b:Bool}{B:Option PV->St->Prop}(hc:o4 t x (U++aI (slots t) none) λρ'=>VE O c true ρ' τ (RE (.bool b) τ))
  (h:b=true->o4 t x (U++aI (slots t) none) λρ'=>VE O e false ρ' τ (RE v0 τ)) (k:b=true->B (some v0) τ) (k':b=false->B none τ):VO (HR O e c t U x τ) λp=>B p.1 p.2 :=
 hc.ex λρ' e1 hc=>.bm (VO.e e1 ⟨hc,λhb=>by have:=h hb;unfold o4 at this;rw[e1] at this;exact this⟩:VO _ λρ'=>VE O c true ρ' τ (RE (.bool b) τ)/\(b=true->VE O e false ρ' τ (RE v0 τ))) λρ' hc=>.bm (VE.ok _ hc.1) λp h=>match p,h with
  |(_,_),⟨rfl,rfl⟩=>match b,hc.2,k,k' with
   |true,h,k,_=>.bm (VE.ok _ (h rfl)) λp h=>h.c (P:=λv Y=>B (some v) Y) (k rfl)
   |false,_,_,k'=>k' rfl
theorem abM (as:List V)(enc g:V->PV)(hi:oY O it U Y (SI (as.map enc) Y))
  (hb:∀a∈as,o4 t (enc a) (U++aI (slots t) none) λρ'=>VE O e false ρ' Y (RE (g a) Y)) (hr:Q (qX mu (as.map g) Y).1 (qX mu (as.map g) Y).2):VX O (.comp mu e t it) false U Y Q :=
 ⟨.bm (oY.ok hi) λp h=>match p,h with
  |(src,l,σ'),⟨hs,hl,s⟩=>by
   subst hl;subst s;exact .bm (zT (f:=Bf O e t U) (J:=λbs os τ=>os=bs.map g/\τ=σ') (λbs a cs os τ h j=>by
    cases j.2;exact aeo (B:=λo τ=>oD τ src=some (as.map enc)/\Ff o os=(bs++[a]).map g/\τ=σ') (hb a (mem_mid h)) ⟨hs,by rw[aO,← j.1];rfl,rfl⟩) as [] [] σ' rfl ⟨rfl,rfl⟩) λp h=>by
    obtain⟨os,τ⟩:=p;cases h.1;cases h.2;exact hr⟩
theorem Wu (as:List V)(enc g:V->PV)(p:V->Bool)(hi:oY O it U Y (SI (as.map enc) Y))
  (hc:∀a∈as,o4 t (enc a) (U++aI (slots t) none) λρ'=>VE O c true ρ' Y (RE (.bool (p a)) Y))
  (hb:∀a∈as,p a=true->o4 t (enc a) (U++aI (slots t) none) λρ'=>VE O e false ρ' Y (RE (g a) Y)) (hr:Q (qX mu ((as.filter p).map g) Y).1 (qX mu ((as.filter p).map g) Y).2):VX O (.oC mu e t it c) false U Y Q :=
 ⟨.bm (oY.ok hi) λq h=>match q,h with
  |(src,l,σ'),⟨hs,hl,s⟩=>by
   subst hl;subst s;exact .bm (zT (f:=HR O e c t U) (J:=λbs os τ=>os=(bs.filter p).map g/\τ=σ') (λbs a cs os τ h j=>by
    cases j.2;exact Zw (B:=λo τ=>oD τ src=some (as.map enc)/\Ff o os=((bs++[a]).filter p).map g/\τ=σ') (hc a (mem_mid h)) (hb a (mem_mid h))
     (λe=>⟨hs,by rw[bK,dK e,aO,← j.1];rfl,rfl⟩)
     λe=>⟨hs,by rw[bK,d9 (by rw[e];decide),aO,← j.1];exact(bc os).symm,rfl⟩) as [] [] σ' rfl ⟨rfl,rfl⟩) λp h=>by
    obtain⟨os,τ⟩:=p;cases h.1;cases h.2;exact hr⟩
theorem sW (as:List V)(enc g:V->PV)(hi:oY O it U Y (SI (as.map enc) Y))(hb:∀a∈as,o4 t (enc a) (U++aI (slots t) none) λρ'=>VE O e false ρ' Y (RE (g a) Y))(hr:Q (.lst (as.map g)) Y):VX O (.comp false e t it) false U Y Q:=abM as enc g hi hb hr
theorem u1 (as:List V)(enc g:V->PV)(p:V->Bool)(hi:oY O it U Y (SI (as.map enc) Y))(hc:∀a∈as,o4 t (enc a) (U++aI (slots t) none) λρ'=>VE O c true ρ' Y (RE (.bool (p a)) Y))
  (hb:∀a∈as,p a=true->o4 t (enc a) (U++aI (slots t) none) λρ'=>VE O e false ρ' Y (RE (g a) Y)) (hr:Q (.lst ((as.filter p).map g)) Y):VX O (.oC false e t it c) false U Y Q:=Wu as enc g p hi hc hb hr
theorem Bx (as:List V)(enc:V->PV)(src:Src)(J:List V->List PV->St->Prop)(hi:oY O it U Y (SC src (as.map enc) (J [] [])))
  (hb:∀(bs:List V) (a:V) (cs:List V) (os:List PV) (τ:St),as=bs++a::cs->J bs os τ->o4 t (enc a) (U++aI (slots t) none) λρ'=>VE O e false ρ' τ (CE src (as.map enc) (J (bs++[a])) os))
  (hr:∀os τ,J as os τ->Q (.lst os) τ):VX O (.comp false e t it) false U Y Q:=abL as enc src J hi hb hr
theorem abN (as:List V)(enc:V->PV)(src:Src)(J:List V->List PV->St->Prop)(hi:oY O it U Y (SC src (as.map enc) (J [] [])))
  (hb:∀(bs:List V) (a:V) (cs:List V) (os:List PV) (τ:St),as=bs++a::cs->J bs os τ->o4 t (enc a) (U++aI (slots t) none) λρ'=>VE O c true ρ' τ λv τ'=>oJ v (VE O e false ρ' τ' (CE src (as.map enc) (J (bs++[a])) os)) (CN src (as.map enc) (J (bs++[a]) os) τ'))
  (hr:∀os τ,J as os τ->Q (.lst os) τ):VX O (.oC false e t it c) false U Y Q:=Ms as enc src J hi hb hr
theorem Zx (as:List V)(enc:V->PV)(src:Src)(J:List V->List PV->St->Prop)(hi:oY O it U Y (SC src (as.map enc) (J [] [])))
  (hb:∀(bs:List V) (a:V) (cs:List V) (os:List PV) (τ:St),as=bs++a::cs->J bs os τ->o4 t (enc a) (U++aI (slots t) none) λρ'=>VE O c true ρ' τ λv τ'=>oJ v (VE O e false ρ' τ' (CE src (as.map enc) (J (bs++[a])) os)) (CN src (as.map enc) (J (bs++[a]) os) τ'))
  (hr:∀os τ,J as os τ->Q (.loc τ.length) (τ++[.list os])):VX O (.oC true e t it c) false U Y Q:=Ms as enc src J hi hb hr
theorem ze (as:List V)(enc g:V->PV)(p:V->Bool){L:List PV}(hL:(as.filter p).map g=L)(hi:oY O it U Y (SI (as.map enc) Y))(hc:∀a∈as,o4 t (enc a) (U++aI (slots t) none) λρ'=>VE O c true ρ' Y (RE (.bool (p a)) Y))
  (hb:∀a∈as,p a=true->o4 t (enc a) (U++aI (slots t) none) λρ'=>VE O e false ρ' Y (RE (g a) Y)) (hr:Q (.lst L) Y):VX O (.oC false e t it c) false U Y Q:=u1 as enc g p hi hc hb (hL▸hr)
end
end
theorem So (a0:PV):my (funcs .GQ) [a0]=some [some a0,none]:=rfl
theorem Kt (a0 a1:PV):my (funcs .wJ) [a0,a1]=some [some a0,some a1,none]:=rfl
theorem Tt (a0 a1 a2 a3:PV):my (funcs .Hd) [a0,a1,a2,a3]=some [some a0,some a1,some a2,some a3]:=rfl
theorem UK (a0 a1:PV):my (funcs .Be) [a0,a1]=some [some a0,some a1]:=rfl
theorem TY (a0 a1 a2:PV):my (funcs .D6) [a0,a1,a2]=some [some a0,some a1,some a2]:=rfl
theorem TZ (a0 a1 a2:PV):my (funcs .A0) [a0,a1,a2]=some [some a0,some a1,some a2]:=rfl
theorem Tu (a0 a1 a2:PV):my (funcs .DE) [a0,a1,a2]=some [some a0,some a1,some a2]:=rfl
theorem T4 (a0 a1 a2:PV):my (funcs .D7) [a0,a1,a2]=some [some a0,some a1,some a2]:=rfl
theorem SX (a0 a1:PV):my (funcs .AL) [a0,a1]=some [some a0,some a1,some (.int 0)]:=rfl
theorem Tv (a0 a1:PV):my (funcs .zf) [a0,a1]=some [some a0,some a1,none,none]:=rfl
theorem Sp (a0 a1:PV):my (funcs .C7) [a0,a1]=some [some a0,some a1,none,none,none,none,none]:=rfl
theorem T5 (a0 a1:PV):my (funcs .D8) [a0,a1]=some [some a0,some a1,none,none,none,none,none,none]:=rfl
theorem SY (a0 a1:PV):my (funcs .Dq) [a0,a1]=some [some a0,some a1,some (.int 0),none]:=rfl
theorem Sx (a0:PV):my (funcs .Dg) [a0]=some [some a0,none,none]:=rfl
theorem T6 (a0 a1 a2 a3 a4 a5 a6:PV):my (funcs .D9) [a0,a1,a2,a3,a4,a5,a6]=some [some a0,some a1,some a2,some a3,some a4,some a5,some a6]:=rfl
theorem T7 (a0 a1 a2 a3:PV):my (funcs .sig_type) [a0,a1,a2,a3]=some [some a0,some a1,some a2,some a3,some (.tup []),some (.int 0)]:=rfl
theorem T8 (a0 a1 a2:PV):my (funcs .D_) [a0,a1,a2]=some [some a0,some a1,some a2,none]:=rfl
theorem T9 (a0 a1:PV):my (funcs .sR) [a0,a1]=some [some a0,some a1,none]:=rfl
theorem Sy (a0 a1:PV):my (funcs .Di) [a0,a1]=some [some a0,some a1,none]:=rfl
theorem S1 (a0:PV):my (funcs .Dr) [a0]=some [some a0]:=rfl
theorem Sz (a0 a1 a2:PV):my (funcs .Dj) [a0,a1,a2]=some [some a0,some a1,some a2]:=rfl
theorem Vq (a0:PV):my (funcs .EO) [a0]=some [some a0,none]:=rfl
theorem Wv (a0 a1:PV):my (funcs .union) [a0,a1]=some [some a0,some a1,none,none,none,none,none]:=rfl
theorem Tw (a0 a1:PV):my (funcs .zg) [a0,a1]=some [some a0,some a1]:=rfl
theorem S2 (a0 a1:PV):my (funcs .Ds) [a0,a1]=some [some a0,some a1]:=rfl
theorem UL (a0 a1:PV):my (funcs .Ez) [a0,a1]=some [some a0,some a1]:=rfl
theorem T_ (a0 a1:PV):my (funcs .A1) [a0,a1]=some [some a0,some a1,none]:=rfl
theorem Kx (a0 a1:PV):my (funcs .AI) [a0,a1]=some [some a0,some a1]:=rfl
theorem KZ (a0 a1:PV):my (funcs .regular) [a0,a1]=some [some a0,some a1]:=rfl
theorem Tx (a0 a1:PV):my (funcs .DF) [a0,a1]=some [some a0,some a1,none]:=rfl
theorem SM (a0 a1 a2:PV):my (funcs .Dl) [a0,a1,a2]=some [some a0,some a1,some a2,none]:=rfl
theorem Tz (a0 a1 a2:PV):my (funcs .DG) [a0,a1,a2]=some [some a0,some a1,some a2,none,none,none,none]:=rfl
theorem Ky (a0 a1:PV):my (funcs .AJ) [a0,a1]=some [some a0,some a1,none,none]:=rfl
theorem S7 (a0 a1:PV):my (funcs .xM) [a0,a1]=some [some a0,some a1]:=rfl
theorem S8 (a0 a1:PV):my (funcs .xN) [a0,a1]=some [some a0,some a1]:=rfl
theorem Sq (a0 a1 a2:PV):my (funcs .xI) [a0,a1,a2]=some [some a0,some a1,some a2]:=rfl
theorem Sn (a0 a1:PV):my (funcs .xH) [a0,a1]=some [some a0,some a1]:=rfl
theorem SA (a0 a1:PV):my (funcs .G2) [a0,a1]=some [some a0,some a1]:=rfl
theorem Ku (a0 a1:PV):my (funcs .xJ) [a0,a1]=some [some a0,some a1]:=rfl
theorem SD (a0 a1 a2:PV):my (funcs .y7) [a0,a1,a2]=some [some a0,some a1,some a2]:=rfl
theorem Ua (a0 a1:PV):my (funcs .Ea) [a0,a1]=some [some a0,some a1]:=rfl
theorem TA (a0 a1:PV):my (funcs .DH) [a0,a1]=some [some a0,some a1,none]:=rfl
theorem GU (a0 a1 a2:PV):my (funcs .vQ) [a0,a1,a2]=some [some a0,some a1,some a2,none,none]:=rfl
theorem TB (a0 a1:PV):my (funcs .DI) [a0,a1]=some [some a0,some a1]:=rfl
theorem TC (a0 a1 a2:PV):my (funcs .DJ) [a0,a1,a2]=some [some a0,some a1,some a2]:=rfl
theorem KA (a0 a1 a2:PV):my (funcs .AM) [a0,a1,a2]=some [some a0,some a1,some a2,none,none]:=rfl
theorem KH (a0 a1 a2:PV):my (funcs .tp) [a0,a1,a2]=some [some a0,some a1,some a2,some (.int 0),none,none]:=rfl
theorem KQ (a0 a1 a2:PV):my (funcs .wU) [a0,a1,a2]=some [some a0,some a1,some a2,none,none]:=rfl
theorem TF (a0 a1:PV):my (funcs .AQ) [a0,a1]=some [some a0,some a1,some (.int 0),none,none,none,none]:=rfl
theorem UM (a0:PV):my (funcs .EA) [a0]=some [some a0]:=rfl
theorem C6 (a0 a1:PV):my (funcs .y6) [a0,a1]=some [some a0,some a1,none,none]:=rfl
theorem Kv (a0 a1:PV):my (funcs .uY) [a0,a1]=some [some a0,some a1,none]:=rfl
theorem GL (a0 a1 a2:PV):my (funcs .sQ) [a0,a1,a2]=some [some a0,some a1,some a2,none]:=rfl
theorem Kw (a0 a1 a2:PV):my (funcs .y8) [a0,a1,a2]=some [some a0,some a1,some a2,none]:=rfl
theorem KJ (a0 a1:PV):my (funcs .takes_all) [a0,a1]=some [some a0,some a1,none,none]:=rfl
theorem Ww (a0 a1 a2:PV):my (funcs .BP) [a0,a1,a2]=some [some a0,some a1,some a2]:=rfl
theorem SN (a0 a1 a2:PV):my (funcs .Dm) [a0,a1,a2]=some [some a0,some a1,some a2,none,none,none,none]:=rfl
theorem TG (a0 a1 a2:PV):my (funcs .DM) [a0,a1,a2]=some [some a0,some a1,some a2,none,none]:=rfl
theorem S9 (a0 a1 a2:PV):my (funcs .Dv) [a0,a1,a2]=some [some a0,some a1,some a2,none,none,none]:=rfl
theorem Sr (a0 a1 a2:PV):my (funcs .C_) [a0,a1,a2]=some [some a0,some a1,some a2,none,none,none]:=rfl
theorem Su (a0 a1 a2:PV):my (funcs .Dc) [a0,a1,a2]=some [some a0,some a1,some a2,none,none,none]:=rfl
theorem S_ (a0 a1 a2:PV):my (funcs .Dw) [a0,a1,a2]=some [some a0,some a1,some a2,none,none]:=rfl
theorem GN (a0 a1 a2:PV):my (funcs .zd) [a0,a1,a2]=some [some a0,some a1,some a2,none,none]:=rfl
theorem SO (a0 a1 a2:PV):my (funcs .Dn) [a0,a1,a2]=some [some a0,some a1,some a2,none,none,none,none,none,none]:=rfl
theorem Vr (a0 a1 a2:PV):my (funcs .uh) [a0,a1,a2]=some [some a0,some a1,some a2,none,none,none]:=rfl
theorem Ub (a0 a1 a2:PV):my (funcs .qL) [a0,a1,a2]=some [some a0,some a1,some a2,none,none]:=rfl
theorem Uc (a0:PV):my (funcs .Eb) [a0]=some [some a0]:=rfl
theorem Ud (a0 a1:PV):my (funcs .zj) [a0,a1]=some [some a0,some a1]:=rfl
theorem UN (a0 a1 a2:PV):my (funcs .zx) [a0,a1,a2]=some [some a0,some a1,some a2,none,none,none,none,none,none]:=rfl
theorem Ta (a0 a1 a2:PV):my (funcs .AN) [a0,a1,a2]=some [some a0,some a1,some a2,none]:=rfl
theorem TH (a0 a1 a2:PV):my (funcs .zh) [a0,a1,a2]=some [some a0,some a1,some a2,none,none,none,none,none,none,none,none,none]:=rfl
theorem Ue (a0 a1 a2:PV):my (funcs .Ec) [a0,a1,a2]=some [some a0,some a1,some a2]:=rfl
theorem Ug (a0 a1 a2:PV):my (funcs .tw) [a0,a1,a2]=some [some a0,some a1,some a2,none,none]:=rfl
theorem TJ (a0 a1 a2:PV):my (funcs .AS) [a0,a1,a2]=some [some a0,some a1,some a2]:=rfl
theorem TL (a0 a1 a2:PV):my (funcs .uZ) [a0,a1,a2]=some [some a0,some a1,some a2,none,none,none,none,none,none,none,none,none]:=rfl
theorem Uh (a0 a1:PV):my (funcs .xR) [a0,a1]=some [some a0,some a1]:=rfl
theorem Ui (a0 a1:PV):my (funcs .zk) [a0,a1]=some [some a0,some a1,none,none,none]:=rfl
theorem Tb (a0:PV):my (funcs .Dx) [a0]=some [some a0]:=rfl
theorem Uj (a0 a1:PV):my (funcs .Ed) [a0,a1]=some [some a0,some a1,none]:=rfl
theorem Uk (a0 a1:PV):my (funcs .A2) [a0,a1]=some [some a0,some a1,none,none,none,none,none,none,none]:=rfl
theorem Ul (a0:PV):my (funcs .Ee) [a0]=some [some a0]:=rfl
theorem TM (a0 a1:PV):my (funcs .DN) [a0,a1]=some [some a0,some a1]:=rfl
theorem KL (a0 a1:PV):my (funcs .tq) [a0,a1]=some [some a0,some a1,none,none,none,none,none,none,none,none,none]:=rfl
theorem Um (a0 a1:PV):my (funcs .A3) [a0,a1]=some [some a0,some a1,none,none,none]:=rfl
theorem TN (a0 a1:PV):my (funcs .DO) [a0,a1]=some [some a0,some a1,none,none,none]:=rfl
theorem Zy (a0:PV):my (funcs .rF) [a0]=some [some a0,none,none,none,none,none,none,none,none,none,none,none,none,none,none,none,none,none,none,none,none,none,none]:=rfl
inductive One where
 |mk (ps:List (String×(Nat×List One)×Nat)) (tx nx:Option (Nat×List One)) (called how:Nat)
noncomputable abbrev Kd:=Nat×List One
noncomputable abbrev mj:=String×Kd×Nat
namespace One
noncomputable def ps:One->List mj|mk a _ _ _ _=>a
noncomputable def tx:One->Option Kd|mk _ a _ _ _=>a
noncomputable def nx:One->Option Kd|mk _ _ a _ _=>a
noncomputable def called:One->Nat|mk _ _ _ a _=>a
noncomputable def how:One->Nat|mk _ _ _ _ a=>a
end One
mutual
noncomputable def One.pv:One->PV
 |.mk ps tx nx c h=>.tup [.tup (FA ps),mS tx,mS nx,.int (c:Int),.int (h:Int)]
noncomputable def FA:List (String×(Nat×List One)×Nat)->List PV
 |[]=>[]
 |p::r=>oT p::FA r
noncomputable def oT:String×(Nat×List One)×Nat->PV
 |(n,k)=>Qi n k
noncomputable def Qi (n:String):(Nat×List One)×Nat->PV
 |(k,f)=>.tup [.str n,mz k,.int (f:Int)]
noncomputable def mz:Nat×List One->PV
 |(m,os)=>.tup [.int (m:Int),.tup (FC os)]
noncomputable def FC:List One->List PV
 |[]=>[]
 |o::r=>o.pv::FC r
noncomputable def mS:Option (Nat×List One)->PV
 |none=>.none
 |some k=>mz k
end
theorem Zz (l:List One):FC l=l.map One.pv:=by induction l with|nil=>rfl|cons a r ih=>simp[FC,ih]
theorem ZA (l:List mj):FA l=l.map oT:=by induction l with|nil=>rfl|cons a r ih=>simp[FA,ih]
theorem One.tH (o:One):o.pv=.tup [.tup (o.ps.map oT),mS o.tx,mS o.nx,.int (o.called:Int),.int (o.how:Int)]:=by
 cases o;simp only[One.pv,One.ps,One.tx,One.nx,One.called,One.how,ZA]
theorem sT (k:Kd):mz k=.tup [.int (k.1:Int),.tup (k.2.map One.pv)]:=by
 obtain⟨m,os⟩:=k;simp only[mz,Zz]
theorem ER (p:mj):oT p=.tup [.str p.1,mz p.2.1,.int (p.2.2:Int)]:=by obtain⟨n,k,f⟩:=p;simp only[oT,Qi]
theorem aep (Y:St)(o:One):mA Y (.int 0) o.pv=some (.tup (o.ps.map oT)):=by rw[One.tH];with_unfolding_all rfl
theorem Oq (Y:St)(o:One):mA Y (.int 1) o.pv=some (mS o.tx):=by rw[One.tH];with_unfolding_all rfl
theorem Ot (Y:St)(o:One):mA Y (.int 2) o.pv=some (mS o.nx):=by rw[One.tH];with_unfolding_all rfl
theorem aeq (Y:St)(o:One):mA Y (.int 3) o.pv=some (.int (o.called:Int)):=by rw[One.tH];with_unfolding_all rfl
theorem aer (Y:St)(o:One):mA Y (.int 4) o.pv=some (.int (o.how:Int)):=by rw[One.tH];with_unfolding_all rfl
theorem aes (Y:St)(o:Kd):mA Y (.int 0) (mz o)=some (.int (o.1:Int)):=by rw[sT];with_unfolding_all rfl
theorem aet (Y:St)(o:Kd):mA Y (.int 1) (mz o)=some (.tup (o.2.map One.pv)):=by rw[sT];with_unfolding_all rfl
theorem xS {Y:St}(n:Nat)(l:List PV)(v:PV)(hn:n<=1000)(h:l[n]? =some v):mA Y (.int (n:Int)) (.tup l)=some v:=by
 have hl:n<l.length:=(List.getElem?_eq_some_iff.mp h).1;have e:(2:Int)^50=1125899906842624:=by decide
 have h1:(-(l.length:Int)<=(n:Int)):=by lia
 have h2:((n:Int)<2^50):=by lia
 have h3:(-(2^50)<(n:Int)):=by lia
 have h4:v5 (n:Int) l.length=n:=by
  unfold v5;rw[lX (by lia)];simp
 refine xU.trans ?_;exact(lW (by rw[mY h1,zv (by lia) (by lia)];rfl)).trans (by rw[h4];exact h)
theorem ui (Y:St)(a:PV)(l:List PV):mA Y (.int 0) (.tup (a::l))=some a:=xS 0 _ _ (by decide) rfl
theorem qY (Y:St)(a b:PV)(l:List PV):mA Y (.int 1) (.tup (a::b::l))=some b:=xS 1 _ _ (by decide) rfl
theorem Ou (Y:St)(a b c:PV)(l:List PV):mA Y (.int 2) (.tup (a::b::c::l))=some c:=xS 2 _ _ (by decide) rfl
theorem Ov (Y:St)(a b c d:PV)(l:List PV):mA Y (.int 3) (.tup (a::b::c::d::l))=some d:=xS 3 _ _ (by decide) rfl
theorem aeu (Y:St)(a b c d e:PV)(l:List PV):mA Y (.int 4) (.tup (a::b::c::d::e::l))=some e:=xS 4 _ _ (by decide) rfl
theorem aev (Y:St)(a b c d e f:PV)(l:List PV):mA Y (.int 5) (.tup (a::b::c::d::e::f::l))=some f:=xS 5 _ _ (by decide) rfl
theorem tE {V:Type}{Y:St}{n:Nat}{o:mC}{f:mC->Option V}(h:Y[n]? =some o):rE Y n f=f o:=lT (·.bind f) h
theorem zl {Y:St}{n:Nat}{o o':mC}{f:mC->Option mC}(h:Y[n]? =some o)(e:f o=some o'):BO Y n f=some (Y.set n o'):=(tE h).trans (lT (b4 (Y.set n)) e)
theorem XA {k:Int}{l:List PV}:Qf (.int k) (.list l)=ym l k:=by with_unfolding_all rfl
theorem abO {Y:St}{k:Int}{l:List PV}:mA Y (.int k) (.lst l)=ym l k:=by with_unfolding_all rfl
theorem zy {Y:St}{n k:Nat}{l:List PV}{v:PV}(h:Y[n]? =some (.list l))(hk:k<=1000000)(hv:l[k]? =some v):mA Y (.int (k:Int)) (.loc n)=some v:=by
 have e:(2:Int)^50=1125899906842624:=by decide
 have h2:((k:Int)<2^50):=by lia
 have h1:(0:Int)<=(k:Int):=by lia
 have c:(decide (0<=(k:Int))&&below (2^50) (k:Int))=true:=by rw[mY h1,zv (by lia) (by lia)];rfl
 refine xU.trans ((tE h).trans ?_);rw[XA];unfold ym;rw[lW c];exact hv
theorem XB {Y:St}{n:Nat}{l:List (PV×PV)}{k v:PV}(h:Y[n]? =some (.pn l))(hk:k.qo=true)(hv:(l.find? λp=>decide (p.1=k)).map (·.2)=some v):mA Y k (.loc n)=some v:=by
 obtain⟨t,rfl⟩:∃t,k=.tup t:=by cases k<;>first|exact⟨_,rfl⟩|simp[PV.qo] at hk
 exact xU.trans ((tE h).trans ((lW hk).trans hv))
theorem XC {Y:St}{n:Nat}{l:List (String×PV)}{k:String}{v:PV}(h:Y[n]? =some (.p5 l))(hv:(l.find? λp=>decide (p.1=k)).map (·.2)=some v):mA Y (.str k) (.loc n)=some v:=by
 exact xU.trans ((tE h).trans hv)
theorem Hw {Y:St}{r:Nat}{l:List PV}{v:PV}(h:l[r]? =some v)(hl:r<=1000):mA Y (.int (r:Int)) (.tup l)=some v:=xS r l v hl h
theorem Hx {Y:St}{r:Nat}{l:List PV}{v:PV}(h:l[r]? =some v)(hl:r<=1000):mA Y (.int (r:Int)) (.lst l)=some v:=by
 have e:(2:Int)^50=1125899906842624:=by decide
 have h2:((r:Int)<2^50):=by lia
 have h1:(0:Int)<=(r:Int):=by lia
 have c:(decide (0<=(r:Int))&&below (2^50) (r:Int))=true:=by rw[mY h1,zv (by lia) (by lia)];rfl
 rw[abO];unfold ym;rw[lW c];exact h
theorem ES (Y:St)(a:PV)(l:List PV):mA Y (.int 0) (.lst (a::l))=some a:=Hx (r:=0) rfl (by decide)
theorem Ef {Y:St}(l:List PV)(v:PV):mA Y (.int (-1)) (.tup (l++[v]))=some v:=by
 have e:(2:Int)^50=1125899906842624:=by decide
 have h1:(-((l++[v]).length:Int)<=-1):=by simp;lia
 have h2:((-1:Int)<2^50):=by lia
 have h3:(-(2^50)<(-1:Int)):=by lia
 have h4:v5 (-1) (l++[v]).length=l.length:=by
  unfold v5;rw[lW (by lia)];simp;lia
 refine xU.trans ?_;exact(lW (by rw[mY h1,zv (by decide) (by decide)];rfl)).trans (by rw[h4];simp)
theorem abP {Y:St}:mA Y (.int 0) (.str "ab")=some (.str "a"):=by with_unfolding_all rfl
theorem abQ {Y:St}:mA Y (.int 1) (.str "ab")=some (.str "b"):=by with_unfolding_all rfl
theorem uk {a:Nat}{A B:Prop}(h1:a≠0->A)(h2:a=0->B):oJ (.bool (decide ((a:Int)≠0))) A B:=nh (λh=>h1 λe=>l9 h (lT cG e)) λh=>h2 (Decidable.not_not.mp λe=>xg h λe'=>e (Int.ofNat_eq_zero.mp e'))
theorem rx {P:Prop}[Decidable P]{A B:Prop}(h1:P->A)(h2:¬P->B):oJ (.bool (decide P)) A B:=nh (λh=>h1 (l9 h)) λh=>h2 (xg h)
theorem zJ {P:Prop}[Decidable P]{A B:Prop}(h1:¬P->A)(h2:P->B):oJ (.bool (!decide P)) A B:=nh (λh=>h1 λp=>by rw[mY p] at h;cases h) λh=>h2 (Decidable.not_not.mp λp=>by rw[decide_eq_false p] at h;cases h)
theorem ET {O:oh Fn}{U:Loc}{Y:St}{Q:PV->St->Prop}{x y a:Nat}(h:Q (.int ((if a≠0 then x else y:Nat):Int)) Y):oJ (.bool (decide ((a:Int)≠0))) (VE O (.lR x) false U Y Q) (VE O (.lR y) false U Y Q):=uk (λe=>by rw[lW e] at h;exact h) λe=>by rw[lX (not_not_intro e)] at h;exact h
theorem mD {x b:Bool}{A B:Prop}(e:x=b)(h:oJ (.bool b) A B):oJ (.bool x) A B:=e▸h
theorem Ow {a b:Nat}{A B:Prop}(h1:b<a->A)(h2:a<=b->B):oJ (.bool (gtB (a:Int) (b:Int))) A B:=nh (λh=>h1 (Int.ofNat_lt.mp (l9 h))) λh=>h2 (b8 λh'=>xg h (Int.ofNat_lt.mpr h'))
theorem abR (a b:Nat):binOp .BitAnd (.int (a:Int)) (.int (b:Int))=some (.int ((a&&&b:Nat):Int)):=by with_unfolding_all rfl
theorem aew (a b:Nat):binOp .BitOr (.int (a:Int)) (.int (b:Int))=some (.int ((a|||b:Nat):Int)):=by with_unfolding_all rfl
theorem abS (a b:Nat):binOp .RShift (.int (a:Int)) (.int (b:Int))=some (.int ((a>>>b:Nat):Int)):=by with_unfolding_all rfl
theorem ZC (a b:Nat):binOp .BitAnd (.int (a:Int)) (.int (d_ b))=some (.int ((a - (a&&&b):Nat):Int)):=by with_unfolding_all rfl
theorem Eg {a b:List PV}(h:a.length+b.length<=2^20):binOp .Add (.tup a) (.tup b)=some (.tup (a++b)):=by rw[Bd];exact lW h
theorem abT (a b:Int):binOp .Sub (.int a) (.int b)=some (.int (a - b)):=by with_unfolding_all rfl
theorem abU (a b:Int):binOp .Add (.int a) (.int b)=some (.int (a+b)):=by with_unfolding_all rfl
theorem zA {a b:Int}(h:0<b):binOp .Mod (.int a) (.int b)=some (.int (a%b)):=by rw[Bd];exact lW (mY h)
theorem ZD {a b:Int}(h:0<b)(h2:b<2^29):binOp .FloorDiv (.int a) (.int b)=some (.int (a/b)):=by rw[Bd];exact lW (by rw[mY h,zv (dk (by decide) h) h2];rfl)
theorem ZE {a:Int}(h:-10000000<a)(h2:a<10000000):small a=true:=by
 exact zv (dk (by decide) h) (dk h2 (by decide))
theorem Nj {a b:Int}(h:small a=true)(h2:small b=true):binOp .Mult (.int a) (.int b)=some (.int (a*b)):=by rw[Bd];exact lW (by rw[h,h2];rfl)
theorem zK {x y:List PV}(hx:(PV.tup x).nQ=true)(hy:(PV.tup y).nQ=true):ux (.tup x) (.tup y)=some (decide (PV.tup x=.tup y)):=lW (by rw[hx,hy];rfl)
theorem abV {Y:St}{x:PV}{l:List PV}(hx:x.nQ=true)(hl:l.all PV.nQ=true):tG Y x (.lst l)=some (decide (x∈l)):=lW (by rw[hx,hl];rfl)
theorem Mt {Y:St}{x:PV}{l:List PV}(hx:x.nQ=true)(hl:l.all PV.nQ=true):tG Y x (.tup l)=some (decide (x∈l)):=lW (by rw[hx,hl];rfl)
theorem tC {Y:St}{n:Nat}{o:mC}{a:String}(h:Y[n]? =some o):oc Y a (.loc n)=oc [o] a (.loc 0):=by
 exact tE h
theorem wY {Y:St}{n:Nat}{o:mC}{a:String}(h:Y[n]? =some o):ql mI Y a (.loc n)=ql mI [o] a (.loc 0):=by
 exact tE h
theorem um {Y:St}{n:Nat}{o:mC}{b:BI}(h:Y[n]? =some o):qr Y b (.loc n)=qr [o] b (.loc 0):=by
 cases b<;>first|rfl|exact tE h
theorem aex {Y:St}{n:Nat}{o:mC}(h:Y[n]? =some o):zw Y (.loc n)=zw [o] (.loc 0):=by
 unfold zw;dsimp only;rw[h];rfl
theorem aey {Y:St}{n:Nat}{o:mC}(h:Y[n]? =some o):ya Y (.loc n)=ya [o] (.loc 0):=by
 unfold ya;dsimp only;rw[h];rfl
theorem Nk {Y:St}{n:Nat}{o:mC}(h:Y[n]? =some o):ug Y (.loc n)=ug [o] (.loc 0):=by
 exact tE h
theorem abW {Y:St}{n:Nat}{o:mC}(h:Y[n]? =some o):w4 Y (.loc n)=w4 [o] (.loc 0):=by
 exact tE h
theorem aez {Y:St}{n:Nat}{o:mC}{k d:PV}(h:Y[n]? =some o):zR Y k d (.loc n)=zR [o] k d (.loc 0):=by
 exact tE h
theorem Ig {Y:St}{n:Nat}{o:mC}{x:PV}(h:Y[n]? =some o):tG Y x (.loc n)=tG [o] x (.loc 0):=by
 exact tE h
theorem abX {Y:St}{n:Nat}{l:List PV}{v:PV}(h:Y[n]? =some (.list l))(hl:l.length<=1000000):AZ Y v (.loc n)=some (Y.set n (.list (l++[v]))):=by
 exact zl h (lW hl)
theorem Hy {Y:St}{n:Nat}{c:n_}{fs:List (String×PV)}{a:String}{v:PV}(h:Y[n]? =some (.inst c fs))(hl:fs.length<=500):wN Y a v (.loc n)=some (Y.set n (.inst c (putAt a v fs))):=by
 exact zl h (lW hl)
theorem ZF {Y:St}{n:Nat}{l:List (Int×PV)}{k:Int}{v:PV}(h:Y[n]? =some (.pk l))(hl:l.length<=1000000):tv Y (.int k) v (.loc n)=some (Y.set n (.pk (putAt k v l))):=by
 exact zl h (lW hl)
theorem ZG {Y:St}{n:Nat}{l:List (String×PV)}{k:String}{v:PV}(h:Y[n]? =some (.p5 l))(hl:l.length<=1000000):tv Y (.str k) v (.loc n)=some (Y.set n (.p5 (putAt k v l))):=by
 exact zl h (lW hl)
theorem Mu {Y:St}{n:Nat}{l:List PV}{k:Int}{v:PV}(h:Y[n]? =some (.list l))(h1:0<=k)(h2:k<l.length):tv Y (.int k) v (.loc n)=some (Y.set n (.list (l.set k.toNat v))):=by
 exact zl h (lW (by rw[mY h1,mY h2];rfl))
theorem JG {V:Type}(b:V->Bool):∀l:List V,Ey (l.map λp=>PV.bool (b p))=some (l.map b)
 |[]=>rfl
 |a::r=>lT (b4 (b a::·)) (JG b r)
theorem Mv {V:Type}(l:List V)(b:V->Bool)(Y:St):qr Y .any (.lst (l.map λp=>PV.bool (b p)))=some (.bool (l.any b)) :=
 (lT (b4 λbs:List Bool=>PV.bool (bs.any id)) (JG b l)).trans (lT (λx=>some (PV.bool x)) f3)
theorem Hz {V:Type}(l:List V)(b:V->Bool)(Y:St):qr Y .all (.lst (l.map λp=>PV.bool (b p)))=some (.bool (l.all b)) :=
 (lT (b4 λbs:List Bool=>PV.bool (bs.all id)) (JG b l)).trans (lT (λx=>some (PV.bool x)) eZ)
theorem XD {A:Prop}{B C:Bool->Prop}{y:Bool}(h1:A->B y)(h2:C y):PB A B C:=⟨y,h1,h2⟩
theorem aeA {a b:Nat}{P:PV->Prop}(q:P (.int ((a&&&b:Nat):Int))):VO (binOp .BitAnd (.int (a:Int)) (.int (b:Int))) P:=.e (abR a b) q
theorem agN {a b:Nat}{P:PV->Prop}(q:P (.int ((a|||b:Nat):Int))):VO (binOp .BitOr (.int (a:Int)) (.int (b:Int))) P:=.e (aew a b) q
theorem abY {a b:Nat}{P:PV->Prop}(q:P (.int ((a - (a&&&b):Nat):Int))):VO (binOp .BitAnd (.int (a:Int)) (.int (d_ b))) P:=.e (ZC a b) q
theorem aeB {a b:Nat}{P:PV->Prop}(q:P (.int ((a>>>b:Nat):Int))):VO (binOp .RShift (.int (a:Int)) (.int (b:Int))) P:=.e (abS a b) q
theorem aeC {a b:Int}{P:PV->Prop}(q:P (.int (a+b))):VO (binOp .Add (.int a) (.int b)) P:=.e (abU a b) q
theorem aeD {a b:Int}{P:PV->Prop}(q:P (.int (a - b))):VO (binOp .Sub (.int a) (.int b)) P:=.e (abT a b) q
theorem agO {Y:St}{o:One}{P:PV->Prop}(q:P (.tup (o.ps.map oT))):VO (mA Y (.int 0) o.pv) P:=.e (aep Y o) q
theorem agP {Y:St}{o:One}{P:PV->Prop}(q:P (mS o.tx)):VO (mA Y (.int 1) o.pv) P:=.e (Oq Y o) q
theorem agQ {Y:St}{o:One}{P:PV->Prop}(q:P (mS o.nx)):VO (mA Y (.int 2) o.pv) P:=.e (Ot Y o) q
theorem agR {Y:St}{o:One}{P:PV->Prop}(q:P (.int (o.called:Int))):VO (mA Y (.int 3) o.pv) P:=.e (aeq Y o) q
theorem agS {Y:St}{o:One}{P:PV->Prop}(q:P (.int (o.how:Int))):VO (mA Y (.int 4) o.pv) P:=.e (aer Y o) q
theorem agT {Y:St}{o:Kd}{P:PV->Prop}(q:P (.int (o.1:Int))):VO (mA Y (.int 0) (mz o)) P:=.e (aes Y o) q
theorem agU {Y:St}{o:Kd}{P:PV->Prop}(q:P (.tup (o.2.map One.pv))):VO (mA Y (.int 1) (mz o)) P:=.e (aet Y o) q
theorem agV {Y:St}{a:PV}{l:List PV}{P:PV->Prop}(q:P a):VO (mA Y (.int 0) (.tup (a::l))) P:=.e (ui Y a l) q
theorem agW {Y:St}{a b:PV}{l:List PV}{P:PV->Prop}(q:P b):VO (mA Y (.int 1) (.tup (a::b::l))) P:=.e (qY Y a b l) q
theorem agX {Y:St}{a b c:PV}{l:List PV}{P:PV->Prop}(q:P c):VO (mA Y (.int 2) (.tup (a::b::c::l))) P:=.e (Ou Y a b c l) q
theorem agY {Y:St}{a b c d:PV}{l:List PV}{P:PV->Prop}(q:P d):VO (mA Y (.int 3) (.tup (a::b::c::d::l))) P:=.e (Ov Y a b c d l) q
theorem agZ {Y:St}{a b c d e:PV}{l:List PV}{P:PV->Prop}(q:P e):VO (mA Y (.int 4) (.tup (a::b::c::d::e::l))) P:=.e (aeu Y a b c d e l) q
theorem ag0 {Y:St}{a b c d e f:PV}{l:List PV}{P:PV->Prop}(q:P f):VO (mA Y (.int 5) (.tup (a::b::c::d::e::f::l))) P:=.e (aev Y a b c d e f l) q
theorem ag1 {Y:St}{a:PV}{l:List PV}{P:PV->Prop}(q:P a):VO (mA Y (.int 0) (.lst (a::l))) P:=.e (ES Y a l) q
local macro_rules |`(tactic| kd_p)=>`(tactic| first|((first|refine vb1 ?_|(refine(?_:VB ..);first|(apply aiC;rotate_left;intro _;rotate_right)|(apply aiD;rotate_left;intro _;rotate_right))|(apply XD;intro _))<;>kd_p)|((first|refine(?_:oJ ..)|refine(?_:WC ..)|refine(?_:RE ..)|refine(?_:NP ..)|refine(?_:NF ..)|refine(?_:NE ..)|refine(?_:SJ ..)|refine(?_:SC ..)|refine(?_:Ci ..)|refine(?_:CE ..)|refine(?_:VX ..)|refine(?_:VB ..)|refine(?_:yn ..)|refine(?_:SI ..)|refine(?_:PB ..)|refine(?_:_/\_));first|with_reducible exact RE.r|with_reducible exact⟨rfl,rfl⟩|(tb_start;kd_p)|skip)|(((refine(?_:VO ..);first|refine aeA ?_|refine agN ?_|refine abY ?_|refine aeB ?_|refine aeC ?_|refine aeD ?_|refine agO ?_|refine agP ?_|refine agQ ?_|refine agR ?_|refine agS ?_|refine agT ?_|refine agU ?_|refine agV ?_|refine agW ?_|refine agX ?_|refine agY ?_|refine agZ ?_|refine ag0 ?_|refine ag1 ?_|refine .s ?_|refine .e rfl ?_|refine .e (by assumption) ?_));kd_p)|(tb_start;kd_p)|refine(?_:VO ..)|skip)
noncomputable def nR (m:Nat):Nat :=
 if m&&&4096≠0 then 4096 else if m&&&2048≠0 then 2048 else
  let a:=if m&&&4≠0 then m - (m&&&3) else m
  if a&&&32≠0 then a - (a&&&24) else a
theorem q6 {a b:Nat}:((a:Int)=(b:Int))↔a=b:=Int.ofNat_inj
theorem By {a:Nat}:((a:Int)=0)↔a=0:=Int.ofNat_eq_zero
theorem ag2 {m:Nat}(h1:m&&&4096≠0):nR m=4096:=lW h1
theorem ag3 {m:Nat}(h1:m&&&4096=0)(h2:m&&&2048≠0):nR m=2048:=(lX (not_not_intro h1)).trans (lW h2)
theorem Fg {m:Nat}(h1:m&&&4096=0)(h2:m&&&2048=0):nR m=(λa=>if a&&&32≠0 then a - (a&&&24) else a) (if m&&&4≠0 then m - (m&&&3) else m):=(lX (not_not_intro h1)).trans (lX (not_not_intro h2))
theorem Ox {n a b:Nat}(e:n=(λa=>if a&&&32≠0 then a - (a&&&24) else a) a)(h:a=b)(h4:b&&&32≠0):n=b - (b&&&24):=by subst h;exact e.trans (lW h4)
theorem Oy {n a b:Nat}(e:n=(λa=>if a&&&32≠0 then a - (a&&&24) else a) a)(h:a=b)(h4:b&&&32=0):n=b:=by subst h;exact e.trans (lX (not_not_intro h4))
theorem RE.nat {a b:Nat}{Y:St}(h:b=a):RE (.int (b:Int)) Y (.int (a:Int)) Y:=h▸.r
theorem ZH (m k:Nat)(Y:St):lY (k+1) .Eb [.int (m:Int)] Y=some (.int (nR m:Int),Y):=by
 refine tD (Uc _) ?_;kd_p;refine uk (λh1=>?_) λh1=>?_
 ·kd_p;exact .nat (ag2 h1)
 kd_p;refine uk (λh2=>?_) λh2=>?_
 ·kd_p;exact .nat (ag3 h1 h2)
 kd_p;refine uk (λh3=>?_) λh3=>?_
 ·kd_p;refine uk (λh4=>?_) λh4=>?_
  ·kd_p;exact .nat (Ox (Fg h1 h2) (lW h3) h4)
  ·kd_p;exact .nat (Oy (Fg h1 h2) (lW h3) h4)
 ·kd_p;refine uk (λh4=>?_) λh4=>?_
  ·kd_p;exact .nat (Ox (Fg h1 h2) (lX (not_not_intro h3)) h4)
  ·kd_p;exact .nat (Oy (Fg h1 h2) (lX (not_not_intro h3)) h4)
set_option genInjectivity true in
inductive Row where
 |key (s:String)
 |bool (b f:Nat)
 |str (s:String) (f:Nat)
 |num (n f:Nat)
 |obj (ps:List (String×Nat×Nat)) (cs ct:List Nat) (si ni:Option Nat) (f:Nat)
 |ref (d:Nat)
 |arr (e:Nat)
 |tK (e:Nat)
 |sig
 |oK (ps:List Nat)
noncomputable abbrev iv (n:Nat):PV:=.int (n:Int)
noncomputable def pq:Option Nat->PV
 |none=>.tup []
 |some t=>.tup [iv t,.int 0]
noncomputable def nj (p:String×Nat×Nat):PV:=.tup [.str p.1,iv p.2.1,iv p.2.2,.int 0]
namespace Row
noncomputable def pv:Row->PV
 |key s=>.tup [.int 1,.str s]
 |bool b f=>.tup [.int 2,iv b,iv f]
 |str s f=>.tup [.int 3,.str s,iv f]
 |num n f=>.tup [.int 4,iv n,iv f]
 |obj ps cs ct si ni f=>.tup [.int 8,.tup (ps.map nj),.tup (cs.map iv),.tup (ct.map iv),pq si,pq ni,iv f]
 |ref d=>.tup [.int 9,iv d,.tup []]
 |arr e=>.tup [.int 11,iv e,.int 0]
 |tK e=>.tup [.int 12,.tup [.tup [iv e,.int 0]],.int 0]
 |sig=>.tup [.int 13,.tup [],.tup [],.int 3,.tup [],.int 0]
 |oK ps=>.tup [.int 6,.tup (ps.map iv)]
noncomputable def kind:Row->Nat
 |key _=>1|bool .. =>2|str .. =>3|num .. =>4|obj .. =>8|ref _=>9|arr _=>11|tK _=>12|sig=>13|oK _=>6
noncomputable def fresh:Row->Bool
 |bool _ f=>decide (f=1)|str _ f=>decide (f=1)|num _ f=>decide (f=1)|obj _ _ _ _ _ f=>decide (f=1)|_=>false
noncomputable def qw:Row->Row
 |bool b _=>bool b 0|str s _=>str s 0|num n _=>num n 0|obj a b c d e _=>obj a b c d e 0|r=>r
noncomputable def whole:Row->Int
 |str .. =>6|num .. =>7|_=>-1
end Row
theorem xW {a b:Nat}(h:iv a=iv b):a=b:=q6.mp (PV.int.inj h)
noncomputable def pN:PV->Nat|.int i=>i.toNat|_=>0
noncomputable def pS:PV->String|.str s=>s|_=>""
noncomputable def pL:PV->List PV|.tup l=>l|_=>[]
noncomputable def pA (l:List PV)(i:Nat):PV:=(l[i]?).getD .none
noncomputable def Bz (v:PV):Option Nat:=(pL v)[0]?.map pN
noncomputable def Oz (v:PV):String×Nat×Nat:=(pS (pA (pL v) 0),pN (pA (pL v) 1),pN (pA (pL v) 2))
noncomputable def Pl (t:Nat)(l:List PV):Row :=
 bif t.beq 1 then .key (pS (pA l 1)) else bif t.beq 2 then .bool (pN (pA l 1)) (pN (pA l 2)) else bif t.beq 3 then .str (pS (pA l 1)) (pN (pA l 2)) else bif t.beq 4 then .num (pN (pA l 1)) (pN (pA l 2)) else
 bif t.beq 8 then .obj ((pL (pA l 1)).map Oz) ((pL (pA l 2)).map pN) ((pL (pA l 3)).map pN) (Bz (pA l 4)) (Bz (pA l 5)) (pN (pA l 6)) else bif t.beq 9 then .ref (pN (pA l 1)) else bif t.beq 11 then .arr (pN (pA l 1)) else
 bif t.beq 12 then .tK (pN (pA (pL (pA (pL (pA l 1)) 0)) 0)) else bif t.beq 13 then .sig else .oK ((pL (pA l 1)).map pN)
theorem A4 {V:Type}{f:V->PV}{g:PV->V}(h:∀x,g (f x)=x):∀l:List V,(l.map f).map g=l
 |[]=>rfl
 |x::l=>congr (lT dm (h x)) (A4 h l)
theorem Lb:∀c,Bz (pq c)=c|none=>rfl|some _=>rfl
theorem Mw (r:Row):Pl (pN (pA (pL r.pv) 0)) (pL r.pv)=r:=by
 cases r with
 |obj ps cs ct si ni f =>
  show Row.obj ((ps.map nj).map Oz) ((cs.map iv).map pN) ((ct.map iv).map pN) (Bz (pq si)) (Bz (pq ni)) f=_;rw[A4 (λ_=>rfl),A4 (λ_=>rfl),A4 (λ_=>rfl),Lb,Lb]
 |oK ps=>exact lT Row.oK (A4 (λ_=>rfl) ps)
 |_=>rfl
theorem Row.EU {a b:Row}(h:a.pv=b.pv):a=b:=(Mw a).symm.trans ((lT (λv=>Pl (pN (pA (pL v) 0)) (pL v)) h).trans (Mw b))
noncomputable instance:DecidableEq Row:=λa b=>decidable_of_iff (a.pv=b.pv) ⟨Row.EU,lT Row.pv⟩
structure pw (n:Nat)(v:PV):Prop where
 key:v.isKey=true
 dep:v.depth<=n
theorem Bh:∀{n:Nat} {l:List PV},(∀v∈l,pw n v)->PV.areKeys l=true/\PV.rT l<=n
 |_,[],_=>⟨rfl,aC _⟩
 |_,a::r,h =>
  have ih:=Bh λv hv=>h v (aE _ hv)
  have ha:=h a (aG ..)
  ⟨(lT (·&&PV.areKeys r) ha.key).trans ih.1,Nat.max_le.mpr ⟨ha.dep,ih.2⟩⟩
theorem pw.tup {n:Nat}{l:List PV}(h:∀v∈l,pw n v):pw (n+1) (.tup l):=⟨(Bh h).1,aU (Bh h).2⟩
theorem pw.map {V:Type}{n:Nat}{f:V->PV}(h:∀x,pw n (f x))(l:List V):pw (n+1) (.tup (l.map f)):=.tup λ_ hv=>(List.mem_map.mp hv).elim λx e=>e.2▸h x
theorem pw.cell:∀x,pw 2 (pq x)
 |none=>⟨rfl,by decide⟩
 |some _=>⟨rfl,a8 rfl⟩
theorem pw.iv (x:Nat)(n:Nat):pw n (iv x):=⟨rfl,aC _⟩
theorem pw.ok {l:List PV}(h:∀v∈l,pw 2 v):(PV.tup l).qo=true:=by
 show(PV.areKeys l&&decide (PV.rT l<=6))=true;rw[(Bh h).1,mY (ae (Bh h).2 (by decide))];rfl
theorem sr {P:PV->Prop}{a:PV}{l:List PV}(h:P a)(k:∀v∈l,P v):∀v∈a::l,P v:=List.forall_mem_cons.mpr ⟨h,k⟩
theorem Ja {P:PV->Prop}:∀v∈([]:List PV),P v:=λ_ h=>nomatch h
theorem Row.qo (r:Row):r.pv.qo=true:=by
 cases r with
 |obj ps cs ct si ni f=>exact pw.ok (sr (.iv 8 2) (sr (.map (λ_=>⟨rfl,a8 rfl⟩) ps) (sr (.map (pw.iv · 1) cs) (sr (.map (pw.iv · 1) ct) (sr (.cell si) (sr (.cell ni) (sr (.iv f 2) Ja)))))))
 |oK ps=>exact pw.ok (sr (.iv 6 2) (sr (.map (pw.iv · 1) ps) Ja))
 |_=>rfl
structure Wd where
 rows:List Row
 lU:List Nat
noncomputable def pP:List Row:=[.key "any",.key "unknown",.key "never",.key "void",.key "undefined",.key "null",.key "string",.key "number",.bool 0 0,.bool 1 0,.key "object",.obj [] [] [] none none 0,.oK [8,9],.key "error",.bool 0 1,.bool 1 1]
noncomputable def idxOf (rs:List Row):List (PV×PV):=rs.zipIdx.map λp=>(p.1.pv,iv p.2)
theorem Lm (rs:List Row)(r:Row):idxOf (rs++[r])=idxOf rs++[(r.pv,iv rs.length)]:=by simp[idxOf,List.zipIdx_append]
theorem DQ (rs:List Row)(r:Row):((idxOf rs).any λp=>decide (p.1=r.pv))=decide (r∈rs):=by
 rw[bg,bS,decide_eq_true_eq];constructor
 ·rintro⟨p,hp,e⟩;obtain⟨q,hq,rfl⟩:=List.mem_map.mp hp;have:=Row.EU (l9 e);exact this▸(List.mem_zipIdx' hq).2▸e7 _
 ·intro h;obtain⟨i,hi,e⟩:=iE h;exact⟨(r.pv,iv i),List.mem_map.mpr ⟨(r,i),by rw[f5];simp[hi,e],rfl⟩,by simp⟩
theorem LU {rs:List Row}{r:Row}(h:r∉rs)(v:PV):putAt r.pv v (idxOf rs)=idxOf rs++[(r.pv,v)]:=by
 have h2:∀p∈idxOf rs,p.1≠r.pv:=λp hp e=>by
  have:=DQ rs r;rw[show decide (r∈rs)=false by simpa using h] at this;rw[e8] at this;exact this p hp (by simpa using e)
 revert h2;generalize idxOf rs=l;intro h2
 induction l with
 |nil=>rfl
 |cons p l ih =>
  simp only[putAt,h2 p (by simp),if_false,f6];rw[ih λq hq=>h2 q (aE _ hq)]
theorem zi {V:Type}{l:List V}(hn:l.Nodup){i j:Nat}{a:V}(h1:l[i]? =some a)(h2:l[j]? =some a):i=j:=by
 obtain⟨hi,e1⟩:=List.getElem?_eq_some_iff.mp h1;obtain⟨hj,e2⟩:=List.getElem?_eq_some_iff.mp h2;have hp:=List.pairwise_iff_getElem.mp hn;rcases Nat.lt_trichotomy i j with h|h|h
 ·exact absurd (e1.trans e2.symm) (hp i j hi hj h)
 ·exact h
 ·exact absurd (e2.trans e1.symm) (hp j i hj hi h)
theorem Ln {rs:List Row}(hn:rs.Nodup){r:Row}{i:Nat}(h:rs[i]? =some r):((idxOf rs).find? λp=>decide (p.1=r.pv))=some (r.pv,iv i):=by
 obtain⟨hi,e⟩:=List.getElem?_eq_some_iff.mp h;have hm:(r.pv,iv i)∈idxOf rs:=List.mem_map.mpr ⟨(r,i),by rw[f5];simpa using h,rfl⟩;cases hf:(idxOf rs).find? λp=>decide (p.1=r.pv) with
 |none =>
  have:=List.find?_eq_none.mp hf _ hm;simp at this
 |some p =>
  have h1:=cU hf
  have h2:=cH hf;obtain⟨q,hq,rfl⟩:=List.mem_map.mp h1
  have e2:=Row.EU (l9 h2);rw[f5] at hq
  have:q.2=i:=by
   obtain⟨hj,e3⟩:=List.getElem?_eq_some_iff.mp hq;exact zi hn h (by rw[hq,e2])|>.symm
  rw[← this,← e2]
theorem Wx {rs:List Row}{r:Row}(h:r∉rs):((idxOf rs).find? λp=>decide (p.1=r.pv))=none:=by
 rw[List.find?_eq_none];intro p hp;have:=DQ rs r;rw[show decide (r∈rs)=false by simpa using h] at this;rw[e8] at this;exact this p hp
noncomputable def both (a b:Kd):Kd:=(nR (a.1|||b.1),a.2++b.2)
noncomputable def m3 (o:One)(n:String):Option Kd :=
 match (if o.how=3 then none else o.ps.find? λp=>decide (p.1=n)) with
 |some p=>some (if p.2.2&&&1≠0 then both p.2.1 (512,[]) else p.2.1)
 |none=>if n="0"/\o.nx.isSome then o.nx else if o.how=3 then none else o.tx
noncomputable def oI (k:Kd):Bool:=k.2.isEmpty&&decide (k.1>0)&&decide (k.1 - (k.1&&&987)=0)
noncomputable def yb (g:Nat):Nat:=((g|||(if g&&&4≠0 then 3 else 0))|||(if g&&&32≠0 then 24 else 0))|||(if g&&&1024≠0 then 512 else 0)
noncomputable def qD (k:Kd):Option Kd->Bool
 |none=>false
 |some g=>if k.1=0 then false else if g.1&&&6144≠0 then true else decide (k.1&&&yb g.1≠0)
noncomputable def qp (o:One):Bool:=decide (o.how≠3)&&o.ps.isEmpty&&o.tx.isNone&&o.nx.isNone&&decide (o.called=0)
noncomputable def qZ (o:One)(n:String):Bool:=if o.how=3 then false else o.ps.any (λp=>decide (p.1=n))||o.tx.isSome||(decide (n="0")&&o.nx.isSome)
theorem Mx (a b:Kd)(hl:a.2.length+b.2.length<=2^20)(k:Nat)(Y:St):lY (k+2) .xR [mz a,mz b] Y=some (mz (both a b),Y):=by
 refine tD (Uh _ _) ?_;kd_p;refine md (ZH _ _ _) ?_;kd_p;refine .e (Eg (by rw[au,au];exact hl)) ?_;kd_p;exact .i (by rw[sT,both,aO])
theorem wO (x:Option Kd):(!decide (mS x=.none))=x.isSome:=by
 cases x with
 |none=>simp[mS]
 |some k=>simp[mS,sT]
theorem AU (x:Option Kd):(decide (mS x=.none))=x.isNone:=by
 cases x with
 |none=>simp[mS]
 |some k=>simp[mS,sT]
noncomputable def tL (p:mj):PV:=.tup [.str p.1,mz p.2.1,.int (p.2.2:Int)]
theorem Qj (l:List mj):l.map oT=l.map tL:=lT (λf=>l.map f) (funext ER)
theorem SI.p {l:List mj}{Y:St}:SI (l.map tL) Y (.seq (.tup (l.map oT))) (l.map oT) Y:=⟨lT some (Qj l),Qj l,rfl⟩
theorem ZI {V:Type}{l:List V}{p:V->Bool}{c:Bool}:l.find? (λa=>p a&&c)=if c=true then l.find? p else none:=by
 cases c with
 |true=>exact lT (λq=>l.find? q) (funext λa=>f7 _)
 |false=>exact List.find?_eq_none.mpr λa _=>by rw[cV];decide
theorem Jb {n:Nat}:(!decide ((n:Int)=3))=decide (n≠3):=by
 by_cases h:n=3
 ·subst h;rfl
 ·rw[decide_eq_false (p:=(n:Int)=3) λe=>h (q6 (b:=3).mp e),mY h];rfl
theorem A5 (o:One)(n:String):m3 o n=match o.ps.find? λp=>decide (p.1=n)&&!decide ((o.how:Int)=3) with
  |some p=>some (if p.2.2&&&1≠0 then both p.2.1 (512,[]) else p.2.1)
  |none=>if n="0"/\o.nx.isSome then o.nx else if o.how=3 then none else o.tx:=by
 rw[ZI,Jb,m3];by_cases h:o.how=3
 ·rw[lW h,lX (c:=decide (o.how≠3)=true) (by simp[h])]
 ·rw[lX h,lW (c:=decide (o.how≠3)=true) (mY h)]
theorem abZ {o:One}{n:String}{p:mj}(h:o.ps.find? (λp=>decide (p.1=n)&&!decide ((o.how:Int)=3))=some p)(k:p.2.2&&&1≠0):mz (both p.2.1 (512,[]))=mS (m3 o n):=by
 rw[A5,h];dsimp only;rw[lW k];rfl
theorem ab5 {o:One}{n:String}{p:mj}(h:o.ps.find? (λp=>decide (p.1=n)&&!decide ((o.how:Int)=3))=some p)(k:p.2.2&&&1=0):mz p.2.1=mS (m3 o n):=by
 rw[A5,h];dsimp only;rw[lX (not_not_intro k)];rfl
theorem aeE {o:One}{n:String}(h:o.ps.find? (λp=>decide (p.1=n)&&!decide ((o.how:Int)=3))=none):m3 o n=if n="0"/\o.nx.isSome then o.nx else if o.how=3 then none else o.tx:=by
 rw[A5,h]
theorem ab6 {o:One}{n:String}(h:(decide (n="0")&&!decide (mS o.nx=.none))=true):(if n="0"/\o.nx.isSome then o.nx else if o.how=3 then none else o.tx)=o.nx:=by
 rw[wO,aL,decide_eq_true_eq] at h;exact lW h
theorem ab7 {o:One}{n:String}(h:(decide (n="0")&&!decide (mS o.nx=.none))=false):(if n="0"/\o.nx.isSome then o.nx else if o.how=3 then none else o.tx)=if o.how=3 then none else o.tx :=
 lX λe=>by rw[wO,e.2,mY e.1] at h;cases h
theorem HT {o:One}{n:String}{b:Bool}(hn:o.ps.find? (λp=>decide (p.1=n)&&!decide ((o.how:Int)=3))=none)(h:(decide (n="0")&&!decide (mS o.nx=.none))=b):mS (m3 o n)=if b=true then mS o.nx else if o.how=3 then .none else mS o.tx:=by
 rw[aeE hn];cases b with
 |true=>rw[ab6 h];rfl
 |false=>rw[ab7 h];split<;>rfl
theorem ab8 {k:Kd}(h:k.2.length<=1000):k.2.length+([]:List One).length<=2^20:=ae (ax (iF _)) (ae h (by decide))
theorem run_read (o:One)(n:String)(hl:∀p∈o.ps,p.2.1.2.length<=1000)(k:Nat)(Y:St):lY (k+3) .zk [o.pv,.str n] Y=some (mS (m3 o n),Y):=by
 refine tD (Ui _ _) ?_;kd_p;refine vS o.ps tL (λi:Option PV×Option PV×Option PV=>[some o.pv,some (.str n),i.1,i.2.1,i.2.2]) (λp=>decide (p.1=n)&&!decide ((o.how:Int)=3)) (none,none,none) rfl ?_ (λp i hm hp N hN=>?_) λhn i=>?_
 ·kd_p;exact SI.p
 ·kd_p;refine nh (λh=>?_) λh=>?_
  ·kd_p;refine uk (λh'=>?_) λh'=>?_
   ·kd_p;refine md (Mx p.2.1 (512,[]) (ab8 (hl p hm)) _ _) ?_;kd_p;exact .i (abZ (hp h) h')
   ·kd_p;exact .i (ab5 (hp h) h')
  ·exact hN (_,_,_) h
 ·kd_p;refine nh (λh=>?_) λh=>?_
  ·kd_p;exact .i (HT hn h).symm
  ·kd_p;refine zJ (λh2=>?_) λh2=>?_
   ·kd_p;exact .i ((lX (c:=o.how=3) λe=>h2 (lT cG e)).symm.trans (HT hn h).symm)
   ·kd_p;exact .i ((lW (c:=o.how=3) (q6 (b:=3).mp h2)).symm.trans (HT hn h).symm)
theorem EB (a:Nat):decide ((a:Int)≠0)=decide (a≠0):=by
 by_cases h:a=0<;>simp[h]
theorem rv (a b:Nat):decide ((a:Int)=(b:Int))=decide (a=b):=by
 by_cases h:a=b
 ·simp[h]
 ·have:¬(a:Int)=(b:Int):=λe=>h (q6.mp e);simp[h,this]
theorem Pm (a:Nat):(!decide ((a:Int)=0))=decide (a≠0):=by
 by_cases h:a=0<;>simp[h]
def vy (k:Kd):Prop:=(mz k).nQ=true
theorem XE:(PV.tup []).nQ=true:=by decide
theorem aeF {l:List PV}{a:PV}(h:(PV.tup [a,.tup l]).nQ=true):(PV.tup l).nQ=true:=by
 simp only[PV.nQ,PV.isData,PV.pF,PV.depth,PV.rT,f7,aL,decide_eq_true_eq] at h⊢;obtain⟨h1,h2⟩:=h;have h2:=l9 h2;exact⟨h1.2,mY (by lia)⟩
theorem XF (g:Kd):(decide (g.2=[])&&(decide ((g.1:Int)>0)&&decide (((g.1 - (g.1&&&987):Nat):Int)=0)))=oI g:=by
 have e1:decide (g.2=[])=g.2.isEmpty:=by cases g.2<;>rfl
 have e2:(decide ((g.1:Int)>0))=decide (g.1>0):=pH.mpr iG;have e3:decide (((g.1 - (g.1&&&987):Nat):Int)=0)=decide (g.1 - (g.1&&&987)=0):=pH.mpr By;rw[e1,e2,e3,oI,Bool.and_assoc]
theorem eq_nil {l:List PV}(h:(PV.tup l).nQ=true):ux (.tup l) (.tup [])=some (decide (l=[])):=(zK h XE).trans (lT some (pH.mpr ⟨λe=>PV.tup.inj e,λe=>lT PV.tup e⟩))
theorem ab9 {l:List One}(h:(PV.tup (l.map One.pv)).nQ=true):ux (.tup (l.map One.pv)) (.tup [])=some (decide (l=[])):=by
 rw[eq_nil h];exact lT some (pH.mpr List.map_eq_nil_iff)
theorem run_single (g:Kd)(ho:vy g)(k:Nat)(Y:St):lY (k+1) .Dx [mz g] Y=some (.bool (oI g),Y):=by
 have uD:(PV.tup (g.2.map One.pv)).nQ=true:=aeF (a:=.int (g.1:Int)) (sT g▸ho);refine tD (Tb _) ?_;kd_p;refine .e (ab9 uD) ?_;kd_p;exact .i (lT PV.bool (XF g))
theorem ab_ {a g:Kd}(h1:¬(a.1:Int)=0)(h2:g.1&&&6144=0):(!decide (((a.1&&&yb g.1:Nat):Int)=0))=qD a (some g):=by
 rw[qD,lX λe=>h1 (By.mpr e),lX (not_not_intro h2),Pm]
theorem ZJ (a:Kd)(g:Option Kd)(k:Nat)(Y:St):lY (k+1) .Ed [mz a,mS g] Y=some (.bool (qD a g),Y):=by
 refine tD (Uj _ _) ?_;cases g with
 |none =>
  kd_p;refine pO rfl ?_;kd_p
 |some g =>
  kd_p;refine mD (b:=decide ((a.1:Int)=0)) (by rw[AU];rfl) ?_;refine rx (λh=>?_) λh=>?_
  ·kd_p;exact .i (lT PV.bool (lW (By.mp h)).symm)
  kd_p;refine uk (λh2=>?_) λh2=>?_
  ·kd_p;exact .i (lT PV.bool ((lX λe=>h (By.mpr e)).trans (lW h2)).symm)
  kd_p;refine ET (x:=3) (y:=0) ?_;kd_p;refine ET (x:=24) (y:=0) ?_;kd_p;refine ET (x:=512) (y:=0) ?_;kd_p;exact .i (lT PV.bool (ab_ h h2))
noncomputable def Rest (o:One):PV:=.tup [.tup (o.ps.map oT),mS o.tx,mS o.nx,.int (o.called:Int)]
theorem rest_eq (o:One):decide (Rest o=.tup [.tup [],.none,.none,.int 0])=(o.ps.isEmpty&&(o.tx.isNone&&(o.nx.isNone&&decide (o.called=0)))):=by
 have h:∀(l:List mj) (x y:Option Kd) (c:Nat),decide (PV.tup [.tup (l.map oT),mS x,mS y,.int (c:Int)]=.tup [.tup [],.none,.none,.int 0])=(decide (l.map oT=[])&&(decide (mS x=.none)&&(decide (mS y=.none)&&decide ((c:Int)=0)))):=λl x y c=>by
  generalize l.map oT=l';generalize mS x=x';generalize mS y=y';generalize (c:Int)=c';rw[← ec,← ec,← ec];exact pH.mpr ⟨λe=>by cases e;exact⟨rfl,rfl,rfl,rfl⟩,λ⟨a,b,c,d⟩=>by rw[a,b,c,d]⟩
 have e:∀l:List mj,decide (l.map oT=[])=l.isEmpty:=λl=>by cases l<;>rfl
 rw[Rest,h,AU,AU,e,pH.mpr By]
theorem aca (o:One):(decide (o.how≠3)&&(o.ps.isEmpty&&(o.tx.isNone&&(o.nx.isNone&&decide (o.called=0)))))=qp o:=by
 unfold qp;cases decide (o.how≠3)<;>cases o.ps.isEmpty<;>cases o.tx.isNone<;>cases o.nx.isNone<;>rfl
theorem acb {o:One}(ho:(Rest o).nQ=true):ux (Rest o) (.tup [.tup [],.none,.none,.int 0])=some (o.ps.isEmpty&&(o.tx.isNone&&(o.nx.isNone&&decide (o.called=0)))) := 
 (zK ho (by decide)).trans (lT some (rest_eq o))
theorem aeG (o:One):x_ none (some 4) o.pv=some (Rest o):=by rw[One.tH];rfl
theorem ZK (o:One)(ho:(Rest o).nQ=true)(k:Nat)(Y:St):lY (k+1) .Ee [o.pv] Y=some (.bool (qp o),Y):=by
 refine tD (Ul _) ?_;kd_p;refine .e (aeG o) ?_;refine(?_:VO _ _);refine .e (acb ho) ?_;kd_p;exact .i (lT PV.bool (by rw[Jb];exact aca o))
theorem acd (ps:List mj):(ps.map λp=>PV.str p.1).all PV.nQ=true:=List.all_eq_true.mpr λx hx=>List.mem_map.mp hx |>.elim λp h=>h.2▸rfl
theorem ZL (n:String)(ps:List mj):decide (PV.str n∈ps.map λp=>PV.str p.1)=ps.any λp=>decide (p.1=n):=by
 rw[bg,decide_eq_true_eq,bS,List.mem_map];exact exists_congr λp=>and_congr_right λ_=>⟨λe=>mY (PV.str.inj e),λe=>lT PV.str (l9 e)⟩
theorem HU (Y:St)(n:String)(ps:List mj):oW Y .In (.str n) (.lst (ps.map λp=>.str p.1))=some (ps.any λp=>decide (p.1=n)):=(abV (Y:=Y) rfl (acd ps)).trans (lT some (ZL n ps))
theorem aeH {o:One}{n:String}(h:(o.how:Int)=3):qZ o n=false:=lW (q6 (b:=3).mp h)
theorem ace {o:One}{n:String}(h:¬(o.how:Int)=3):qZ o n=(o.ps.any (λp=>decide (p.1=n))||o.tx.isSome||(decide (n="0")&&o.nx.isSome)):=lX λe=>h (lT cG e)
theorem Nl {o:One}{n:String}{b:Bool}(h:¬(o.how:Int)=3)(h2:(o.ps.any (λp=>decide (p.1=n))||!decide (mS o.tx=.none))=b):qZ o n=(b||(decide (n="0")&&!decide (mS o.nx=.none))):=by
 rw[ace h,← h2,wO,wO]
theorem XG (o:One)(n:String)(k:Nat)(Y:St):lY (k+1) .DN [o.pv,.str n] Y=some (.bool (qZ o n),Y):=by
 refine tD (TM _ _) ?_;kd_p;refine rx (λh=>?_) λh=>?_
 ·kd_p;exact .i (lT PV.bool (aeH h).symm)
 kd_p;refine sW o.ps tL (λp=>.str p.1) ?_ (λp hp=>?_) ?_
 ·kd_p;exact SI.p
 ·kd_p
 refine(?_:VO _ _);refine .e (HU _ _ _) ?_;kd_p;refine nh (λh2=>?_) λh2=>?_
 ·kd_p;exact .i (lT PV.bool (Nl h h2).symm)
 kd_p;exact .i (lT PV.bool (Nl h h2).symm)
noncomputable def nT (os:List One)(n:String):List Kd:=os.filterMap λo=>m3 o n
noncomputable def sk (os:List One)(n:String):Bool:=(nT os n).any λg=>decide (some (mz g)≠(nT os n).head?.map mz)
noncomputable def qj (os left:List One)(p:mj):List One :=
 if sk os p.1&&(nT os p.1).any oI then
  let now:=left.filter λo=>qD p.2.1 (m3 o p.1)
  if now.isEmpty then left else now
 else left
noncomputable def nY (ps:List mj)(os:List One):List One:=ps.foldl (qj os) os
structure Rd (o:One):Prop where
 len:∀p∈o.ps,p.2.1.2.length<=1000
 ok:∀n g,m3 o n=some g->vy g
theorem AV (ps:List mj)(os:List One):∀o∈nY ps os,o∈os:=by
 unfold nY
 suffices ∀(ps:List mj) (left:List One),(∀o∈left,o∈os)->∀o∈ps.foldl (qj os) left,o∈os from this ps os λo h=>h
 intro ps
 induction ps with
 |nil=>intro left h;exact h
 |cons p ps ih =>
  intro left h;rw[cI];refine ih _ ?_;unfold qj
  split
  ·dsimp only
   split
   ·exact h
   ·exactλo hm=>h o (List.mem_filter.mp hm).1
  ·exact h
theorem LV (ps:List mj)(os:List One):(nY ps os).length<=os.length:=by
 unfold nY
 suffices ∀(ps:List mj) (left:List One),left.length<=os.length->(ps.foldl (qj os) left).length<=os.length from this ps os (aB _)
 intro ps
 induction ps with
 |nil=>intro left h;exact h
 |cons p ps ih =>
  intro left h;rw[cI];refine ih _ ?_;unfold qj
  split
  ·dsimp only
   split
   ·exact h
   ·exact ae (ed _ _) h
  ·exact h
theorem JH (l:List PV):decide (((l.length:Nat):Int)>0)=!l.isEmpty:=by cases l<;>simp
theorem eq0 (l:List PV):decide (((l.length:Nat):Int)=0)=l.isEmpty:=by
 cases l with
 |nil=>rfl
 |cons a r=>simp;lia
theorem EC {V:Type}(l:List V)(f:V->PV):(l.map f).isEmpty=l.isEmpty:=by cases l<;>rfl
theorem Dy {V:Type}(l:List V)(p:V->Bool):(!(l.filter p).isEmpty)=l.any p:=by
 induction l with
 |nil=>rfl
 |cons a r ih =>
  cases h:p a
  ·rw[d9 (by simp[h]),ih];simp[h]
  ·rw[dK h];simp[h]
noncomputable def xh (b:Bool)(l:List PV):PV:=match b with|true=>.tup l|false=>.lst l
theorem Eh (Y:St):∀{b:Bool} {l:List PV},ug Y (xh b l)=some l
 |true,_=>rfl
 |false,_=>rfl
theorem SI.s {Y:St}{b:Bool}{l:List PV}:SI l Y (.seq (xh b l)) l Y:=⟨Eh Y,rfl,rfl⟩
theorem SI.t {Y:St}{l L:List PV}(e:l=L):SI L Y (.seq (.tup l)) l Y:=⟨lT some e,e,rfl⟩
theorem SI.l {Y:St}{l L:List PV}(e:l=L):SI L Y (.seq (.lst l)) l Y:=⟨lT some e,e,rfl⟩
theorem aeI {a b:Kd}(ha:vy a)(hb:vy b):ux (mz a) (mz b)=some (decide (mz a=mz b)):=by
 unfold vy at ha hb;rw[sT,sT] at *;exact zK ha hb
theorem Nm (n:String):∀os:List One,((os.map λo=>m3 o n).filter iH).map mS=(nT os n).map mz
 |[]=>rfl
 |o::os=>by
  have ih:=Nm n os;unfold nT at ih⊢;rw[a9];cases h:m3 o n with
  |none=>rw[d9 (by decide),List.filterMap_cons_none (f:=λo=>m3 o n) h];exact ih
  |some g=>rw[dK rfl,List.filterMap_cons_some (f:=λo=>m3 o n) h,a9,a9,ih];rfl
theorem zB {V:Type}(l:List V)(p:V->Bool)(f:V->PV):decide (((((l.filter p).map f).length:Nat):Int)>0)=l.any p:=by rw[JH,EC,Dy]
theorem v7 {a b c d:Bool}(h:a=b)(k:c=d):(a&&c)=(b&&d):=h▸k▸rfl
theorem HV {os:List One}{n:String}(ho:∀o∈os,Rd o):∀g∈nT os n,vy g:=λg hg=>(List.mem_filterMap.mp hg).elim λo h=>(ho o h.1).ok _ _ h.2
theorem ag4 {os:List One}{n:String}(ho:∀o∈os,Rd o){Y:St}{g:Kd}(hg:g∈nT os n){f:PV->Prop}(k:∀g0,vy g0->(nT os n).head? =some g0->f (mz g0)):VO (mA Y (.int 0) (.lst ((nT os n).map mz))) f:=by
 have ok:=HV (n:=n) ho;revert ok k hg;generalize nT os n=l;cases l with
 |nil=>intro hg;exact nomatch hg
 |cons g0 r=>exactλ_ k ok=>.e (ES _ _ _) (k g0 (ok g0 (aG ..)) rfl)
theorem Qk {P:Prop}[Decidable P]:(!decide P)=decide (¬P):=by by_cases h:P<;>simp[h]
theorem acf {os:List One}{n:String}{g g0:Kd}(h:(nT os n).head? =some g0):(!decide (mz g=mz g0))=decide (some (mz g)≠(nT os n).head?.map mz):=by
 rw[h,Qk];exact pH.mpr (not_congr ⟨λe=>lT some e,λe=>aq e⟩)
theorem aeJ {os left:List One}{p:mj}(h:(sk os p.1&&(nT os p.1).any oI)=true)(h2:(left.any λo=>qD p.2.1 (m3 o p.1))=true):qj os left p=left.filter λo=>qD p.2.1 (m3 o p.1):=by
 rw[← Dy] at h2;exact(lW h).trans (lX λe=>by rw[e] at h2;cases h2)
theorem aeK {os left:List One}{p:mj}(h:(sk os p.1&&(nT os p.1).any oI)=true)(h2:(left.any λo=>qD p.2.1 (m3 o p.1))=false):qj os left p=left:=by
 rw[← Dy] at h2;exact(lW h).trans (lW ((f9 _).mp h2))
theorem OA {os left:List One}{p:mj}(h:(sk os p.1&&(nT os p.1).any oI)=false):qj os left p=left:=lX (by rw[h];decide)
theorem ag5 {a b:Kd}(ha:vy a)(hb:vy b):(ux (mz a) (mz b)).map not=some (!decide (mz a=mz b)):=lT (b4 not) (aeI ha hb)
theorem ZM (ps:List mj)(os:List One)(ho:∀o∈os,Rd o)(k:Nat)(Y:St):∃b,lY (k+4) .A2 [.tup (ps.map oT),.tup (os.map One.pv)] Y=some (xh b ((nY ps os).map One.pv),Y):=by
 refine(?_:WC (lY (k+4) .A2 [.tup (ps.map oT),.tup (os.map One.pv)] Y) λr σ'=>∃b,RE (xh b ((nY ps os).map One.pv)) Y r σ').rec λv σ' e q=>q.elim λb q=>⟨b,q.rec λe1 e2=>e1▸e2▸e⟩;refine w5 (Uk _ _) ?_;kd_p;refine HS ps tL (qj os) os (λleft (i:Bool×Option PV×Option PV×Option PV×Option PV×Option PV×Option PV)=>[some (.tup (ps.map oT)),some (.tup (os.map One.pv)),some (xh i.1 (left.map One.pv)),i.2.1,i.2.2.1,i.2.2.2.1,i.2.2.2.2.1,i.2.2.2.2.2.1,i.2.2.2.2.2.2]) (true,none,none,none,none,none,none) rfl ?_ (λbs p cs i e N hN=>?_) λi=>?_
 ·kd_p;exact SI.p
 ·kd_p;refine ze (os.map λo=>m3 o p.1) mS mS iH (Nm _ _) ?_ (λg hg=>?_) (λg hg h=>?_) ?_
  ·kd_p;refine sW os One.pv (λo=>mS (m3 o p.1)) ?_ (λo hm=>?_) ?_
   ·kd_p;exact SI.t rfl
   ·kd_p;refine md (run_read o p.1 (ho o hm).len _ _) ?_;kd_p
   kd_p;exact SI.l (aR ..).symm
  ·kd_p;exact .i (lT PV.bool (wO g))
  ·kd_p
  kd_p;refine u1 (nT os p.1) mz mz (λg=>decide (some (mz g)≠(nT os p.1).head?.map mz)) ?_ (λg hg=>?_) (λg hg h=>?_) ?_
  ·kd_p;exact SI.l rfl
  ·refine ag4 ho hg λg0 xn h0=>?_;refine(?_:VO _ _);refine .e (ag5 (HV ho g hg) xn) ?_;kd_p;exact .i (lT PV.bool (acf h0))
  ·kd_p
  kd_p
  ·refine u1 (nT os p.1) mz mz oI ?_ (λg hg=>?_) (λg hg h=>?_) ?_
   ·kd_p;exact SI.l rfl
   ·kd_p;refine md (run_single g (HV ho g hg) _ _) ?_;kd_p
   ·kd_p
   kd_p
  refine mD (b:=sk os p.1&&(nT os p.1).any oI) (v7 (zB _ _ _) (zB _ _ _)) (nh (λh=>?_) λh=>?_)
  ·kd_p;refine u1 (bs.foldl (qj os) os) One.pv One.pv (λo=>qD p.2.1 (m3 o p.1)) ?_ (λo hm=>?_) (λg hg h=>?_) ?_
   ·refine(?_:VO _ _);exact .e (Eh _) SI.s
   ·kd_p;refine md (run_read o p.1 (ho o (AV bs os o hm)).len _ _) ?_;kd_p;refine md (ZJ _ _ _ _) ?_;kd_p
   ·kd_p
   kd_p;refine mD (zB _ _ _) (nh (λh2=>?_) λh2=>?_)
   ·kd_p;exact hN _ (false,_,_,_,_,_,_) (aeJ h h2).symm
   ·kd_p;exact hN _ (i.1,some _,_,_,_,_,_) (aeK h h2).symm
  ·kd_p;exact hN _ (i.1,some _,_,_,_,_,_) (OA h).symm
 ·refine(?_:∃b,RE _ _ _ _);exact⟨i.1,.r⟩
noncomputable def pU (w:Kd):Option Kd->Kd
 |none=>w
 |some g=>both w g
noncomputable def wantOf (parts:List One)(n:String):Kd:=parts.foldl (λw o=>pU w (m3 o n)) (0,[])
noncomputable def ry (o:One):Option Kd:=if o.how=3\/o.nx.isNone then o.tx else o.nx
noncomputable def vR (os:List One):Kd:=os.foldl (λw o=>pU w (ry o)) (0,[])
noncomputable def qm (o:One):Bool:=decide (o.how=1)||decide (o.how=3)||decide (o.how=4)
noncomputable def mM:Nat->Kd->Kd->String
 |0,_,_=>""
 |m+1,s,t=>match s.2.filter qm with
  |[]=>""
  |o::_ =>
   if(decide (t.1&&&14336≠0)||t.2.any qp)=true then "" else
   if o.how>1 then mM m (o.tx.getD (0,[])) (vR t.2)
   else if t.2=[] then "" else
    match o.ps.find? (λp=>!((nY o.ps t.2).any λq=>qZ q p.1)) with
    |some p=>p.1
    |none=>((o.ps.map λp=>mM m p.2.1 (wantOf (nY o.ps t.2) p.1)).find? λx=>decide (x≠"")).getD ""
def SW:Nat->Kd->Prop
 |0,s=>s.2=[]
 |m+1,s=>∀o∈s.2,(o.how>1->qm o=true->∃k,o.tx=some k/\SW m k)/\∀p∈o.ps,SW m p.2.1
def KW (T:One->Prop)(k:Kd):Prop:=k.2.length<=2/\∀o∈k.2,T o
def TW:Nat->One->Prop
 |0,_=>False
 |n+1,o=>Rd o/\(Rest o).nQ=true/\(∀p∈o.ps,KW (TW n) p.2.1)/\(∀k,o.tx=some k->KW (TW n) k)/\∀k,o.nx=some k->KW (TW n) k
theorem TW.rest:∀{n:Nat} {o:One},TW n o->(Rest o).nQ=true
 |0,_,h=>h.elim
 |_+1,_,h=>h.2.1
theorem TW.rd:∀{n:Nat} {o:One},TW n o->Rd o
 |0,_,h=>h.elim
 |_+1,_,h=>h.1
theorem Nn {n:Nat}{o:One}(h:TW (n+1) o){x:String}{g:Kd}(e:m3 o x=some g):KW (TW n) g:=by
 obtain⟨_,_,h1,h2,h3⟩:=h;unfold m3 at e
 split at e
 ·rename_i p hp;have hm:p∈o.ps:=by
   split at hp
   ·cases hp
   ·exact cU hp
  simp only[dM] at e
  split at e
  ·subst e;have:=h1 p hm;simpa[both,KW] using this
  ·subst e;exact h1 p hm
 ·split at e
  ·exact h3 _ e
  ·split at e
   ·cases e
   ·exact h2 _ e
theorem Np {n:Nat}{o:One}(h:TW (n+1) o){g:Kd}(e:ry o=some g):KW (TW n) g:=by
 obtain⟨_,_,h1,h2,h3⟩:=h;unfold ry at e
 split at e
 ·exact h2 _ e
 ·exact h3 _ e
theorem Hf {T:One->Prop}(f:One->Option Kd):∀(l:List One) (w:Kd),(∀o∈l,∀g,f o=some g->KW T g)->(∀o∈w.2,T o)->(l.foldl (λw o=>pU w (f o)) w).2.length<=w.2.length+2*l.length/\∀o∈(l.foldl (λw o=>pU w (f o)) w).2,T o
 |[],w,_,h=>⟨by simp,h⟩
 |o::l,w,hf,h=>by
  rw[cI];have hw:(pU w (f o)).2.length<=w.2.length+2/\∀o'∈(pU w (f o)).2,T o':=by
   cases e:f o with
   |none=>exact⟨by simp[pU],h⟩
   |some g =>
    obtain⟨h1,h2⟩:=hf o (by simp) g e;simp only[pU,both,ar,iI];exact⟨by lia,λo' ho=>ho.elim (h o') (h2 o')⟩
  have:=Hf f l (pU w (f o)) (λo' hm=>hf o' (aE _ hm)) hw.2;refine⟨?_,this.2⟩;have:=this.1;simp only[dn];lia
theorem Jc {x a:PV}{l:List PV}:decide (x∈a::l)=(decide (x=a)||decide (x∈l)):=(pH.mpr bT).trans (dN ..)
theorem Jd {a b:Nat}:decide (PV.int (a:Int)=PV.int (b:Int))=decide (a=b):=pH.mpr ⟨λe=>Int.ofNat_inj.mp (PV.int.inj e),λe=>e▸rfl⟩
theorem My (o:One):oW [] .In (.int (o.how:Int)) (.tup [.int 1,.int 3,.int 4])=some (qm o):=by
 refine lT some (Jc.trans ?_);rw[Jc,Jc];show(decide (PV.int (o.how:Int)=PV.int ((1:Nat):Int))||(decide (PV.int (o.how:Int)=PV.int ((3:Nat):Int))||(decide (PV.int (o.how:Int)=PV.int ((4:Nat):Int))||false)))=_;rw[Jd,Jd,Jd,iJ,← Bool.or_assoc];rfl
theorem Nq {n:Nat}{os:List One}(ht:∀o∈os,TW n o)(hl:os.length*2^n<=2000){f:One->Option Kd}(F4:∀n' o,TW (n'+1) o->∀g,f o=some g->KW (TW n') g){l bs cs:List One}{o:One}{g:Kd}
  (e:l=bs++o::cs) (Af:l.length<=os.length) (B4:∀o∈l,o∈os) (he:f o=some g):(bs.foldl (λw o=>pU w (f o)) (0,[])).2.length+g.2.length<=2^20:=by
 have hm:∀q∈bs,q∈os:=λq hq=>B4 q (e▸dp _ hq)
 have ho:=ht o (B4 o (mem_mid e))
 have hb:bs.length<=os.length:=ae (ae (aD _ _) (ax (List.length_append.symm.trans (lT bG e.symm)))) Af
 have h5:os.length<=2000:=ae (iK _ Nat.one_le_two_pow) hl;cases n with
 |zero=>exact ho.elim
 |succ n =>
  have h1:=(Hf (T:=TW n) f bs (0,[]) (λq hq g e=>F4 n q (ht q (hm q hq)) g e) (λ_ h=>nomatch h)).1
  have h3:=(F4 n o ho g he).1
  have h1:_<=0+2*bs.length:=h1;lia
theorem OB {n:Nat}{os:List One}(ht:∀o∈os,TW n o)(hl:os.length*2^n<=2000){f:One->Option Kd}(F4:∀n' o,TW (n'+1) o->∀g,f o=some g->KW (TW n') g){l:List One}
  (Af:l.length<=os.length) (B4:∀o∈l,o∈os):∃n',(∀o∈(l.foldl (λw o=>pU w (f o)) (0,[])).2,TW n' o)/\(l.foldl (λw o=>pU w (f o)) (0,[])).2.length*2^n'<=2000:=by
 cases n with
 |zero =>
  cases l with
  |nil=>exact⟨0,(λ_ h=>nomatch h),aC _⟩
  |cons o l=>exact(ht o (B4 o (aG ..))).elim
 |succ n =>
  have h:=Hf (T:=TW n) f l (0,[]) (λo ho g e=>F4 n o (ht o (B4 o ho)) g e) (λ_ h=>nomatch h)
  have h1:_<=0+2*l.length:=h.1;refine⟨n,h.2,ae (aM _ (show _<=2*os.length by lia)) ?_⟩;rw[e9 2,f_,e9 2,← iL];exact hl
section
variable {m n:Nat}{s t:Kd}{o:One}{r:List One}
theorem sp0 (hf:s.2.filter qm=[]):mM m s t="":=match m with
 |0=>rfl
 |m+1=>by rw[mM,hf]
theorem sp1 (hf:s.2.filter qm=o::r)(h:(decide (t.1&&&14336≠0)||t.2.any qp)=true):mM (m+1) s t="":=by rw[mM,hf];exact lW h
theorem sp2 (hf:s.2.filter qm=o::r)(h:(decide (t.1&&&14336≠0)||t.2.any qp)=false)(hw:o.how>1){k:Kd}(hk:o.tx=some k):mM (m+1) s t=mM m k (vR t.2):=by
 rw[mM,hf];dsimp only;rw[hk];exact(lX (by rw[h];decide)).trans (lW hw)
theorem sp3 (hf:s.2.filter qm=o::r)(h:(decide (t.1&&&14336≠0)||t.2.any qp)=false)(hw:¬o.how>1)(ht:t.2=[]):mM (m+1) s t="":=by
 rw[mM,hf];exact(lX (by rw[h];decide)).trans ((lX hw).trans (lW ht))
theorem Q5 (hf:s.2.filter qm=o::r)(h:(decide (t.1&&&14336≠0)||t.2.any qp)=false)(hw:¬o.how>1)(ht:¬t.2=[]):mM (m+1) s t=match o.ps.find? (λp=>!((nY o.ps t.2).any λq=>qZ q p.1)) with
  |some p=>p.1
  |none=>((o.ps.find? λp=>decide (mM m p.2.1 (wantOf (nY o.ps t.2) p.1)≠"")).map λp=>mM m p.2.1 (wantOf (nY o.ps t.2) p.1)).getD "":=by
 rw[mM,hf];dsimp only;rw[iM];exact(lX (by rw[h];decide)).trans ((lX hw).trans (lX ht))
theorem sp5 (hf:s.2.filter qm=o::r)(h:(decide (t.1&&&14336≠0)||t.2.any qp)=false)(hw:¬o.how>1)(ht:¬t.2=[]){p:mj}(h1:o.ps.find? (λp=>!((nY o.ps t.2).any λq=>qZ q p.1))=some p):mM (m+1) s t=p.1:=by rw[Q5 hf h hw ht,h1]
theorem Q6 (hf:s.2.filter qm=o::r)(h:(decide (t.1&&&14336≠0)||t.2.any qp)=false)(hw:¬o.how>1)(ht:¬t.2=[])(h1:o.ps.find? (λp=>!((nY o.ps t.2).any λq=>qZ q p.1))=none)
  {x:Option mj} (h2:o.ps.find? (λp=>decide (mM m p.2.1 (wantOf (nY o.ps t.2) p.1)≠""))=x):mM (m+1) s t=(x.map λp=>mM m p.2.1 (wantOf (nY o.ps t.2) p.1)).getD "":=by rw[Q5 hf h hw ht,h1,h2]
end
theorem EV {V:Type}{l:List V}{f:V->PV}:decide (((l.map f).length:Int)=0)=l.isEmpty:=(eq0 _).trans (EC l f)
theorem Mz {V:Type}(l:List V)(p:V->Bool)(f:V->PV):decide ((((l.filter p).map f).length:Int)=0)=!l.any p:=by rw[EV,← Dy,Bool.not_not]
theorem JI {n:Nat}:gtB (n:Int) 1=decide (n>1):=pH.mpr (show(1:Int)<n↔1<n by lia)
theorem OC {q:One}{b:Bool}(h:(decide ((q.how:Int)=3)||decide (mS q.nx=.none))=b):mS (ry q)=bif b then mS q.tx else mS q.nx:=by
 subst h;have e:(decide ((q.how:Int)=3)||decide (mS q.nx=.none))=decide (q.how=3\/q.nx.isNone):=by
  rw[AU,dN];refine congr (lT or (rv q.how 3)) ?_;cases q.nx.isNone<;>rfl
 rw[e,ry];by_cases h:q.how=3\/q.nx.isNone
 ·rw[lW h,mY h];rfl
 ·rw[lX h,decide_eq_false h];rfl
theorem ZN {O:oh Fn}{U:Loc}{Y:St}{Q:PV->St->Prop}{i:Nat}{q:One}(hi:U[i]? =some (some q.pv))(h:Q (mS (ry q)) Y):oJ (.bool (decide ((q.how:Int)=3)||decide (mS q.nx=.none))) (VE O (.idx (.var i) (.lR 1)) false U Y Q) (VE O (.idx (.var i) (.lR 2)) false U Y Q) :=
 nh (λe=>by rw[OC e] at h;exact .e hi (VO.e rfl (VO.e (Oq _ _) h))) λe=>by rw[OC e] at h;exact .e hi (VO.e rfl (VO.e (Ot _ _) h))
theorem Nr {x:Option Kd}{A B:Prop}(h1:∀g,x=some g->A)(h2:x=none->B):oJ (.bool (!decide (mS x=.none))) A B:=mD (wO x) (match x,h1,h2 with
 |some g,h1,_=>pO rfl (h1 g rfl)
 |none,_,h2=>pj rfl (h2 rfl))
theorem LW {a:Kd}{x:Option Kd}{g:Kd}(e:x=some g)(hl:a.2.length+g.2.length<=2^20)(k:Nat)(Y:St):lY (k+2) .xR [mz a,mS x] Y=some (mz (both a g),Y):=e▸Mx a g hl k Y
theorem qe {a b c d:Bool}(h:a=b)(k:c=d):(a||c)=(b||d):=h▸k▸rfl
theorem LX {s t:Kd}(hf:s.2.filter qm=[])(k:Nat)(Y:St):lY (k+1) .tq [mz s,mz t] Y=some (.str "",Y):=by
 refine tD (KL _ _) ?_;kd_p;refine ze s.2 One.pv One.pv qm (L:=[]) (lT (dO One.pv) hf) ?_ (λo hm=>?_) (λo hm _=>?_) ?_
 ·kd_p;exact SI.t rfl
 ·kd_p;exact .i (lT PV.bool (aq (My o)))
 ·kd_p
 refine(?_:VB _ _ _ _ _ _ _);refine Q4 ?_;refine .e rfl (.e rfl ⟨λ_=>?_,λh=>nomatch h⟩);refine pO rfl ?_;kd_p
theorem XH:∀(m:Nat) (s t:Kd) (n:Nat),SW m s->(∀o∈t.2,TW n o)->t.2.length*2^n<=2000->∀(k:Nat) (Y:St),lY (k+m+6) .tq [mz s,mz t] Y=some (.str (mM m s t),Y):=by
 intro m
 induction m with
 |zero=>exactλs t n hs ht hl k Y=>LX (by rw[show s.2=[] from hs];rfl) _ Y
 |succ m ih =>
  intro s t n hs ht hl k Y;cases hf:s.2.filter qm with
  |nil=>rw[sp0 hf];exact LX hf _ Y
  |cons o r =>
  have hm:o∈s.2.filter qm:=hf▸aG ..
  have hs:=hs o (List.mem_filter.mp hm).1;refine tD (KL _ _) ?_;kd_p;refine ze s.2 One.pv One.pv qm (lT (dO One.pv) hf) ?_ (λo hm=>?_) (λo hm _=>?_) ?_
  ·kd_p;exact SI.t rfl
  ·kd_p;exact .i (lT PV.bool (aq (My o)))
  ·kd_p
  kd_p
  ·refine u1 t.2 One.pv One.pv qp ?_ (λq hq=>?_) (λq hm _=>?_) ?_
   ·kd_p;exact SI.t rfl
   ·kd_p;refine md (ZK q (TW.rest (ht q hq)) _ _) ?_;kd_p
   ·kd_p
   kd_p
  ·exact .r
  refine mD (b:=false||(decide (t.1&&&14336≠0)||t.2.any qp)) (qe (EV (l:=o::r) (f:=One.pv)) (qe (EB _) (zB _ _ _))) (nh (λh=>?_) λh=>?_)
  ·kd_p;exact .i (lT PV.str (sp1 hf h).symm)
  kd_p;refine mD JI (rx (λhw=>?_) λhw=>?_)
  ·kd_p;refine HS t.2 One.pv (λw o=>pU w (ry o)) (0,[]) (λw (i:Option PV×Option PV)=>[some (mz s),some (mz t),some (.lst ((o::r).map One.pv)),some (mz w),i.1,i.2,none,none,none,none,none]) (none,none) rfl ?_ (λbs q cs i e N hN=>?_) λi=>?_
   ·kd_p;exact SI.t rfl
   ·kd_p;refine ZN rfl ?_;kd_p;refine Nr (λg hg=>?_) λhg=>?_
    ·kd_p;refine md (LW hg (Nq ht hl (λn' o h g e=>Np h e) e (aB _) (λ_ h=>h) hg) _ _) ?_;kd_p;exact hN _ (_,_) (lT (pU _) hg).symm
    ·kd_p;exact hN _ (_,_) (lT (pU _) hg).symm
   ·kd_p;refine(hs.1 hw (List.mem_filter.mp hm).2).elim λkk hk=>(OB ht hl (λn' o h g e=>Np h e) (aB _) λ_ h=>h).elim λn' hn=>?_;refine md (v:=.str (mM m kk (vR t.2))) (Y:=Y) (hk.1▸ih kk (vR t.2) n' hk.2 hn.1 hn.2 k Y) ?_;kd_p;exact .i (lT PV.str (sp2 hf h hw hk.1).symm)
  kd_p;refine mD EV (nh (λh0=>?_) λh0=>?_)
  ·kd_p;exact .i (lT PV.str (sp3 hf h hw (List.isEmpty_iff.mp h0)).symm)
  have h0:¬t.2=[]:=λe=>by rw[e] at h0;cases h0
  kd_p;refine(ZM o.ps t.2 (λq hq=>(ht q hq).rd) (k+m+2) Y).elim λb e=>md e ?_;kd_p;refine vS o.ps tL (λi:Option PV×Option PV×Option PV=>[some (mz s),some (mz t),some (.lst ((o::r).map One.pv)),none,none,none,some (xh b ((nY o.ps t.2).map One.pv)),i.1,i.2.1,i.2.2,none]) (λp=>!((nY o.ps t.2).any λq=>qZ q p.1)) (none,none,none) rfl ?_ (λp i hp F5 N hN=>?_) λF5 i=>?_
  ·kd_p;exact SI.p
  ·kd_p;refine u1 (nY o.ps t.2) One.pv One.pv (λq=>qZ q p.1) ?_ (λq hq=>?_) (λq hm _=>?_) ?_
   ·refine(?_:VO _ _);exact .e (Eh _) SI.s
   ·kd_p;refine md (XG _ _ _ _) ?_;kd_p
   ·kd_p
   kd_p;refine mD (Mz _ _ _) (nh (λh1=>?_) λh1=>?_)
   ·kd_p;exact .i (lT PV.str (sp5 hf h hw h0 (F5 h1)).symm)
   ·exact hN (_,_,_) h1
  kd_p;refine vS o.ps tL (λi:Option PV×Option PV×Option PV×Option PV×Option PV×Option PV×Option PV=>[some (mz s),some (mz t),some (.lst ((o::r).map One.pv)),i.1,i.2.1,i.2.2.1,some (xh b ((nY o.ps t.2).map One.pv)),i.2.2.2.1,i.2.2.2.2.1,i.2.2.2.2.2.1,i.2.2.2.2.2.2]) (λp=>decide (mM m p.2.1 (wantOf (nY o.ps t.2) p.1)≠"")) (none,none,none,i.1,i.2.1,i.2.2,none) rfl ?_ (λp i hp JJ N' hN'=>?_) λJJ i=>?_
  ·kd_p;exact SI.p
  ·kd_p;refine HS (nY o.ps t.2) One.pv (λw q=>pU w (m3 q p.1)) (0,[]) (λw (j:Option PV×Option PV)=>[some (mz s),some (mz t),some (.lst ((o::r).map One.pv)),some (mz w),j.1,j.2,some (xh b ((nY o.ps t.2).map One.pv)),some (.str p.1),some (mz p.2.1),some (.int (p.2.2:Int)),i.2.2.2.2.2.2]) (i.2.1,i.2.2.1) rfl ?_ (λbs q cs j e N hN=>?_) λj=>?_
   ·refine(?_:VO _ _);exact .e (Eh _) SI.s
   ·kd_p;refine md (run_read q p.1 (ht q (AV _ _ q (mem_mid e))).rd.len _ _) ?_;kd_p;refine Nr (λg hg=>?_) λhg=>?_
    ·kd_p;refine md (LW hg (Nq ht hl (λn' o h g e=>Nn h e) e (LV _ _) (AV _ _) hg) _ _) ?_;kd_p;exact hN _ (_,_) (lT (pU _) hg).symm
    ·kd_p;exact hN _ (_,_) (lT (pU _) hg).symm
   ·kd_p;refine(OB ht hl (f:=λq=>m3 q p.1) (λn' o h g e=>Nn h e) (LV o.ps t.2) (AV _ _)).elim λn' hn=>?_;refine md (ih p.2.1 (wantOf (nY o.ps t.2) p.1) n' (hs.2 p hp) hn.1 hn.2 k Y) ?_;kd_p;refine zJ (λh3=>?_) λh3=>?_
    ·kd_p;exact .i (lT PV.str (Q6 hf h hw h0 F5 (JJ (mY h3))).symm)
    ·exact hN' (_,_,_,_,_,_,_) (decide_eq_false (not_not_intro h3))
  ·kd_p;exact .i (lT PV.str (Q6 hf h hw h0 F5 JJ).symm)
noncomputable def z5 (s:One)(n:String):Bool:=s.ps.any λp=>decide (p.1=n)
noncomputable def uo (s t:One):Bool :=
 if(decide (t.how=3)||(t.tx.isSome||(t.nx.isSome||(decide (t.called≠0)||t.ps.isEmpty))))=true then false else
 if(t.ps.any λp=>decide (p.2.2&&&1=0)||(decide (s.how≠3)&&z5 s p.1))=true then false else
 decide (s.how=3)||(!s.ps.isEmpty||decide (s.called>0))
noncomputable def w_ (s:One)(p:mj):Bool:=decide (p.2.2&&&1=0)&&(decide (s.how=3)||!z5 s p.1)
noncomputable def vc (s t:One):String:=if t.how=3 then "" else match t.ps.find? (w_ s) with
 |some p=>p.1
 |none=>""
theorem Pn {a:Nat}:(!decide ((a:Int)≠0))=decide (a=0):=by rw[EB,Qk];exact pH.mpr Decidable.not_not
theorem aeL {s t:One}(h:(decide (t.how=3)||(t.tx.isSome||(t.nx.isSome||(decide (t.called≠0)||t.ps.isEmpty))))=true):uo s t=false:=lW h
noncomputable def Cj (s:One)(p:mj):Bool:=!decide (((p.2.2&&&1:Nat):Int)≠0)||(!decide ((s.how:Int)=3)&&s.ps.any λq=>decide (q.1=p.1))
theorem OD (s:One)(p:mj):(decide (p.2.2&&&1=0)||(decide (s.how≠3)&&z5 s p.1))=Cj s p:=by rw[Cj,Pn,Jb];rfl
theorem aeM {s t:One}{p:mj}(h:(decide (t.how=3)||(t.tx.isSome||(t.nx.isSome||(decide (t.called≠0)||t.ps.isEmpty))))=false)(hp:t.ps.find? (Cj s)=some p):uo s t=false:=by
 unfold uo;rw[h,List.any_eq_true.mpr ⟨p,cU hp,(OD s p).trans (cH hp)⟩];rfl
theorem aeN {s t:One}(h:(decide (t.how=3)||(t.tx.isSome||(t.nx.isSome||(decide (t.called≠0)||t.ps.isEmpty))))=false)(hp:t.ps.find? (Cj s)=none):uo s t=(decide (s.how=3)||(!s.ps.isEmpty||decide (s.called>0))):=by
 unfold uo;rw[h,lX (by decide),lX λe=>(List.any_eq_true.mp e).elim λp h=>List.find?_eq_none.mp hp p h.1 ((OD s p).symm.trans h.2)]
theorem ag6 {l:List mj}{f:mj->PV}:gtB (((l.map f).length:Nat):Int) 0=!l.isEmpty:=(JH _).trans (lT not (EC l f))
theorem ag7 {n:Nat}:gtB (n:Int) 0=decide (n>0):=pH.mpr iG
theorem MA (s t:One)(k:Nat)(Y:St):lY (k+1) .A3 [s.pv,t.pv] Y=some (.bool (uo s t),Y):=by
 refine tD (Um _ _) ?_;kd_p;refine mD (qe (rv t.how 3) (qe (wO _) (qe (wO _) (qe (EB _) EV)))) (nh (λh=>?_) λh=>?_)
 ·kd_p;exact .i (lT PV.bool (aeL h).symm)
 kd_p;refine vS t.ps tL (λi:Option PV×Option PV×Option PV=>[some s.pv,some t.pv,i.1,i.2.1,i.2.2]) (Cj s) (none,none,none) rfl ?_ (λp i hp hf N hN=>?_) λhf i=>?_
 ·kd_p;exact SI.p
 ·kd_p
  ·refine sW s.ps tL (λp=>.str p.1) ?_ (λp hp=>?_) ?_
   ·kd_p;exact SI.p
   ·kd_p
   refine(?_:VO _ _);refine .e (HU _ _ _) ?_;kd_p
  ·exact .r
  refine nh (λh1=>?_) λh1=>?_
  ·kd_p;exact .i (lT PV.bool (aeM h (hf h1)).symm)
  ·exact hN (_,_,_) h1
 ·kd_p;exact .i (lT PV.bool ((qe (rv s.how 3) (qe ag6 ag7)).trans (aeN h hf).symm))
theorem acg {n:Nat}:decide ((n:Int)=3)=decide (n=3):=rv n 3
noncomputable def Ck (s:One)(p:mj):Bool:=!decide (((p.2.2&&&1:Nat):Int)≠0)&&(decide ((s.how:Int)=3)||!s.ps.any λq=>decide (q.1=p.1))
theorem OE (s:One):Ck s=w_ s:=funext λp=>by rw[Ck,Pn,acg];rfl
theorem aeO {s t:One}{p:mj}(h:¬t.how=3)(hp:t.ps.find? (Ck s)=some p):vc s t=p.1:=by
 rw[vc,lX h,← OE,hp]
theorem aeP {s t:One}(h:¬t.how=3)(hp:t.ps.find? (Ck s)=none):vc s t="":=by
 rw[vc,lX h,← OE,hp]
theorem aeQ {s t:One}(h:t.how=3):vc s t="":=lW h
theorem ZO (Y:St)(n:String)(ps:List mj):oW Y .NotIn (.str n) (.lst (ps.map λp=>.str p.1))=some (!ps.any λp=>decide (p.1=n)):=lT (b4 not) (HU Y n ps)
theorem XI (s t:One)(k:Nat)(Y:St):lY (k+1) .DO [s.pv,t.pv] Y=some (.str (vc s t),Y):=by
 refine tD (TN _ _) ?_;kd_p;refine zJ (λh=>?_) λh=>?_
 ·have h:¬t.how=3:=λe=>h (lT cG e);kd_p;refine vS t.ps tL (λi:Option PV×Option PV×Option PV=>[some s.pv,some t.pv,i.1,i.2.1,i.2.2]) (Ck s) (none,none,none) rfl ?_ (λp i hp hf N hN=>?_) λhf i=>?_
  ·kd_p;exact SI.p
  ·kd_p
   ·refine sW s.ps tL (λp=>.str p.1) ?_ (λp hp=>?_) ?_
    ·kd_p;exact SI.p
    ·kd_p
    refine(?_:VO _ _);refine .e (ZO _ _ _) ?_;kd_p
   ·exact .r
   refine nh (λh1=>?_) λh1=>?_
   ·kd_p;exact .i (lT PV.str (aeO h (hf h1)).symm)
   ·exact hN (_,_,_) h1
  ·kd_p;exact .i (lT PV.str (aeP h hf).symm)
 ·kd_p;exact .i (lT PV.str (aeQ (q6 (b:=3).mp h)).symm)
theorem ach {Y:St}{l:List PV}{r:Nat}(h:r<l.length)(hl:l.length<=1000):mA Y (.int (r:Int)) (.tup l)=some l[r]:=Hw (aQ h) (by lia)
theorem wV {Y:St}{r:Nat}(l:List Nat)(h:r<l.length)(hl:l.length<=1000):∃m∈l,mA Y (.int (r:Int)) (.tup (l.map λm:Nat=>PV.int (m:Int)))=some (.int (m:Int)):=by
 refine⟨l[r],e7 h,?_⟩;rw[ach (by simpa using h) (by simpa using hl)];simp
structure Nums (l:List Nat):Prop where
 pos:0<l.length
 le:l.length<=1000
 lt:∀x∈l,x<1000000
noncomputable def rH (l:List Nat):PV:=.lst (l.map λn:Nat=>PV.int (n:Int))
noncomputable def bN (z:Bool):Nat:=if z then 1 else 0
noncomputable def o_ (i:Nat)(z:Bool):mC:=.list [.int (i:Int),.int (bN z:Int)]
structure DS (a:Nat)(z:Bool)(Y σ':St)(i':Nat):Prop where
 len:Y.length<=σ'.length
 keep:∀j,j<Y.length->j≠a->σ'[j]? =Y[j]?
 at':σ'[a]? =some (o_ i' z)
theorem DS.trans {a:Nat}{z:Bool}{Y σ' sG:St}{i i':Nat}(x:DS a z Y σ' i)(y:DS a z σ' sG i'):DS a z Y sG i' :=
 ⟨ae x.len y.len,λj h n=>(y.keep j (aW h x.len) n).trans (x.keep j h n),y.at'⟩
theorem DS.refl {a:Nat}{z:Bool}{Y:St}{i:Nat}(h:Y[a]? =some (o_ i z)):DS a z Y Y i:=⟨aB _,λ_ _ _=>rfl,h⟩
noncomputable abbrev yo (l:List Nat):List PV:=l.map λn:Nat=>PV.int (n:Int)
theorem HA (l:List Nat):((yo l).length:Int)=(l.length:Int):=lT cG (au _)
theorem aci {l:List Nat}{Y:St}(hn:Nums l)(i:Nat):∃x,x<1000000/\mA Y (.int ((i:Int)%((yo l).length:Int))) (.lst (yo l))=some (.int ((x:Nat):Int)):=by
 have h:i%l.length<l.length:=dP _ hn.pos;refine⟨l[i%l.length],hn.lt _ (e7 h),?_⟩;rw[HA,show(i:Int)%(l.length:Int)=((i%l.length:Nat):Int) from rfl,Hx (l:=yo l) (v:=.int ((l[i%l.length]:Nat):Int)) (by rw[cJ,aQ h];rfl) (ae (aS h) hn.le)]
theorem ZP {l:List Nat}{Y:St}(hn:Nums l):∃x,x<1000000/\mA Y (.int 0) (.lst (yo l))=some (.int ((x:Nat):Int)) :=
 ⟨l[0]'hn.pos,hn.lt _ (e7 _),Hx (r:=0) (l:=yo l) (by rw[cJ,aQ hn.pos];rfl) (by decide)⟩
theorem XJ {l:List Nat}(hn:Nums l)(i:Nat):∃q:Nat,q<=i/\binOp .FloorDiv (.int (i:Int)) (.int ((yo l).length:Int))=some (.int (q:Int)):=by
 refine⟨i/l.length,Nat.div_le_self ..,?_⟩;rw[HA];exact ZD (Int.ofNat_lt.mpr hn.pos) (eX (Int.ofNat_le.mpr hn.le) (by decide))
theorem Hg {a:Nat}(h:a<10000000):small (a:Int)=true:=ZE (iN (by decide) (di a)) (Int.ofNat_lt.mpr h)
theorem XK {i:Nat}(h:i<=100000):binOp .Mult (.int 3) (.int (i:Int))=some (.int ((3*i:Nat):Int)):=Nj (by decide) (Hg (aT h (by decide)))
theorem ZQ {q x i:Nat}(hq:q<=i)(hi:i<=100000):binOp .Mult (.int (q:Int)) (.int ((x:Int)%7+((3*i:Nat):Int)))=some (.int (((q*(x%7+3*i):Nat)):Int)) := 
 Nj (Hg (aT hq (aT hi (by decide)))) (Hg (a:=x%7+3*i) (by have:=dP x (show 0<7 by decide);lia))
theorem ZR {a i:Nat}{z:Bool}{Y:St}(ha:Y[a]? =some (o_ i z)):DS a z Y (Y.set a (o_ (i+1) z)) (i+1) :=
 ⟨ax (bw ..).symm,λj _ oi=>aX (cp oi),bx (List.getElem?_eq_some_iff.mp ha).1⟩
theorem acj (x y n:Nat):((x:Int)+(y:Int))%(n:Int)=(((x+y)%n:Nat):Int):=by rw[Int.natCast_emod,iO]
theorem ZS {a i:Nat}{z:Bool}{Y:St}(ha:Y[a]? =some (o_ i z)):tv Y (.int 0) (.int ((i:Int)+1)) (.loc a)=some (Y.set a (o_ (i+1) z)):=Mu ha (by decide) (show(0:Int)<2 by decide)
theorem rq {l:List Nat}(hn:Nums l){a i:Nat}{z:Bool}{Y:St}(ha:Y[a]? =some (o_ i z))(hi:i<=100000)(n:Nat)(h0:0<n)(k:Nat){R:PV->St->Prop}
  (h:∀r σ',r<n->DS a z Y σ' (i+1)->R (.int (r:Int)) σ'):WC (lY (k+1) .qL [rH l,.loc a,.int (n:Int)] Y) R:=by
 refine w5 (Ub _ _ _) ?_;kd_p;refine .e (zy (k:=0) ha (by decide) rfl) ?_;kd_p;refine .e (ZS ha) ?_;have s9:=ZR ha;revert s9;generalize Y.set a (o_ (i+1) z)=τ;intro s9;refine(aci (Y:=τ) hn i).elim λx hx=>(ZP (Y:=τ) hn).elim λx0 Cm=>(XJ hn i).elim λq hq=>?_;kd_p;refine .e (zA (by rw[HA];exact Int.ofNat_lt.mpr hn.pos)) ?_;kd_p;refine .e hx.2 ?_;kd_p;refine .e hq.2 ?_;kd_p;refine .e Cm.2 ?_;kd_p;refine .e (zA (by decide)) ?_;kd_p;refine .e (XK hi) ?_;kd_p;refine .e (ZQ hq.1 hi) ?_;kd_p;refine .e (zA (Int.ofNat_lt.mpr h0)) ?_;kd_p;exact acj x (q*(x0%7+3*i)) n▸h ((x+q*(x0%7+3*i))%n) τ (dP _ h0) s9
noncomputable def vd:List Nat:=[1,8,2,4,3,16,24,64,192,256,512,32,36,513,0,1024,2048,4096,8192,4]
noncomputable def vW:List Nat:=[4,32,36,4,1024,4096,2048,8192]
noncomputable def namesOf (z:Bool):List String:=if z then["0","p","q"] else["p","q","r"]
theorem ZT (z:Bool){j:Nat}(h:j<3):j<(namesOf z).length:=by cases z<;>exact h
noncomputable def rz (z:Bool):String:=if z then "q" else "r"
def qG (z:Bool):Nat->One->Prop
 |0,_=>False
 |d+1,o=>o.tx=none/\o.nx=none/\o.called=0/\o.how<=2/\(o.ps.map (·.1)).Sublist (namesOf z)/\∀p∈o.ps,p.2.2=0 /\
   ((∃m∈vd,p.2.1=(m,[]))\/(p.1=rz z/\∃m q,(m=0\/m=512)/\qG z d q/\(p.2.1=(m,[q])\/(z=false/\∃h,(h=3\/h=4)/\p.2.1=(m,[.mk [] (some (0,[q])) none 0 h])))))
def Je (z:Bool)(d:Nat)(p:mj):Prop:=p.2.2=0 /\
   ((∃m∈vd,p.2.1=(m,[]))\/(p.1=rz z/\∃m q,(m=0\/m=512)/\qG z d q/\(p.2.1=(m,[q])\/(z=false/\∃h,(h=3\/h=4)/\p.2.1=(m,[.mk [] (some (0,[q])) none 0 h])))))
section
variable {l:List Nat}{a i:Nat}{z:Bool}{Y:St}
theorem HB (hn:Nums l)(ha:Y[a]? =some (o_ i z))(hi:i<=100000)(k:Nat){R:PV->St->Prop}
  (h:∀m σ',m∈vd->DS a z Y σ' (i+1)->R (.int (m:Int)) σ'):WC (lY (k+2) .zj [rH l,.loc a] Y) R:=by
 refine w5 (Ud _ _) ?_;kd_p;refine rq hn ha hi 20 (by decide) k λr σ' hr ds=>(wV (Y:=σ') (r:=r) vd hr (by decide)).elim λm hm=>?_;kd_p;refine .e hm.2 ?_;exact h m σ' hm.1 ds
theorem Jf (ha:Y[a]? =some (o_ i z)):mA Y (.int 1) (.loc a)=some (.int (bN z:Int)):=zy (k:=1) ha (by decide) rfl
theorem FE (z:Bool):decide ((bN z:Int)≠0)=z:=by cases z<;>rfl
theorem LY {O:oh Fn}{U:Loc}{Q:PV->St->Prop}(h1:U[1]? =some (some (.loc a)))(ha:Y[a]? =some (o_ i z))(q:Q (.tup ((namesOf z).map .str)) Y) :
  VE O (.nu ((E.var 1).idx (E.lR 1)) (E.tup (Es.cons (E.m4 "0") (Es.cons (E.m4 "p") (Es.cons (E.m4 "q") Es.nil)))) (E.tup (Es.cons (E.m4 "p") (Es.cons (E.m4 "q") (Es.cons (E.m4 "r") Es.nil))))) false U Y Q:=by
 refine .e h1 (VO.e rfl (VO.e (Jf ha) ?_));refine mD (FE z) ?_;clear ha;cases z
 ·exact nF q
 ·exact qC q
end
theorem DS.pos {a i:Nat}{z:Bool}{Y σ':St}(x:DS a z Y σ' i):a<σ'.length:=(List.getElem?_eq_some_iff.mp x.at').1
theorem DS.push {a i:Nat}{z:Bool}{Y σ':St}(x:DS a z Y σ' i)(o:mC):DS a z Y (σ'++[o]) i :=
 ⟨by rw[ar];have:=x.len;lia,λj h n=>by rw[bB (aW h x.len)];exact x.keep j h n,by rw[bB x.pos];exact x.at'⟩
theorem DS.set {a i j:Nat}{z:Bool}{Y σ':St}(x:DS a z Y σ' i)(o:mC)(h1:Y.length<=j)(h2:j≠a):DS a z Y (σ'.set j o) i :=
 ⟨by rw[bw];exact x.len,λb h n=>by rw[aX (by lia)];exact x.keep b h n,by rw[aX h2];exact x.at'⟩
theorem ZU:∀{n:Nat} {bs cs:List Nat} {a:Nat},(ba n)=bs++a::cs->(ba n)[bs.length]? =some a:=λh=>by
 rw[h,ee (aB _),e_];rfl
theorem tn {n:Nat}{bs cs:List Nat}{a:Nat}(h:ba n=bs++a::cs):a=bs.length/\bs.length<n:=by
 have h1:=ZU h;have h2:bs.length<n:=cW (n:=n)▸(List.getElem?_eq_some_iff.mp h1).1;rw[iP h2] at h1;exact⟨(aq h1).symm,h2⟩
theorem wQ (n:Nat):p4 (n:Int)=(ba n).map λi:Nat=>PV.int (i:Int):=by simp[p4]
theorem xO {τ:St}{L:Nat}{l:List PV}{v:PV}(h:τ[L]? =some (.list l))(hl:l.length<=1000000):AZ τ v (.loc L)=some (τ.set L (.list (l++[v]))):=abX h hl
theorem xP {τ:St}{L:Nat}{l:List PV}(h:τ[L]? =some (.list l)):ya τ (.loc L)=true:=aey h
theorem ZV {V:Type}{l k:List V}{x:V}{n:Nat}(h:l.Sublist (k.take n))(hx:k[n]? =some x):(l++[x]).Sublist (k.take (n+1)):=by
 have:k.take (n+1)=k.take n++[x]:=by
  rw[List.take_add_one,hx];rfl
 rw[this];exact h.append (lq _)
theorem XM {V:Type}{l k:List V}{n:Nat}(h:l.Sublist (k.take n)):l.Sublist (k.take (n+1)):=h.trans (List.take_sublist_take_left (by lia))
theorem OF {s i n c b:Nat}(h:s<=i+n*c)(hn:n<3)(hb:i+(3*c+b)<=100000):s+(c+b)<=100000:=by
 have h1:=aM c (cK hn);have h2:=ak (ae h (av h1 i)) (c+b);rw[aP,← aP (2*c),← dQ] at h2;exact ae h2 hb
theorem bd {s a b:Nat}(h:s+b<=100000)(Co:a<=b):s+a<=100000:=ae (av Co s) h
theorem e2 (s nb:Nat):s+2+nb=s+(nb+2):=by rw[aP,b9 2]
noncomputable def xi:Nat->Nat
 |0=>10
 |d+1=>3*xi d+10
def Jg (l:List Nat)(a:Nat)(z:Bool)(d:Nat):Prop:=∀(k i:Nat) (Y:St),Y[a]? =some (o_ i z)->i+xi d<=100000->∀{R:PV->St->Prop},
  (∀o σ' i',qG z (d+1) o->DS a z Y σ' i'->i'<=i+xi d->R o.pv σ')->WC (lY (k+d+3) .zx [rH l,.loc a,.int (((2 - d:Nat)):Int)] Y) R
structure F6 where
 τ:St
 i:Nat
 ps:List mj
 x:Option PV
 y:Option PV
 w:Option PV
structure tV (A:mj->Prop)(z:Bool)(a c i0:Nat)(Y:St)(n:Nat)(s:F6):Prop where
 ds:DS a z Y s.τ s.i
 le:s.i<=i0+n*c
 at':s.τ[Y.length]? =some (.list (s.ps.map oT))
 sub:(s.ps.map (·.1)).Sublist ((namesOf z).take n)
 all:∀p∈s.ps,A p
 len:s.ps.length<=n
section
variable {A:mj->Prop}{z:Bool}{a c i0 i n:Nat}{Y σ':St}{s:F6}
theorem DS.lst {L:Nat}{o:mC}(y:DS a z Y σ' i)(h:Y[L]? =some o)(hL:L≠a):σ'[L]? =some o:=(y.keep L (List.getElem?_eq_some_iff.mp h).1 hL).trans h
theorem tV.nil (h:Y[a]? =some (o_ i z)):tV A z a c i Y 0 ⟨Y++[.list []],i,[],none,none,none⟩ :=
 ⟨(DS.refl h).push _,aD _ _,cL,List.nil_sublist _,(λ_ h=>nomatch h),aB _⟩
theorem tV.skip (J:tV A z a c i0 Y n s){m:Nat}(e:m=n+1)(y:DS a z s.τ σ' i)(hi:i<=s.i+c)(hL:Y.length≠a){u v w:Option PV}:tV A z a c i0 Y m ⟨σ',i,s.ps,u,v,w⟩ :=
 e▸⟨J.ds.trans y,by rw[cq,bU,← aP];exact ae hi (ak J.le c),y.lst J.at' hL,XM J.sub,J.all,ef J.len⟩
theorem tV.push (J:tV A z a c i0 Y n s){m:Nat}(e:m=n+1)(y:DS a z s.τ σ' i)(hi:i<=s.i+c)(hL:Y.length≠a){u v w:Option PV}{p:mj}(hp:(namesOf z)[n]? =some p.1)(ap:A p):tV A z a c i0 Y m ⟨σ'.set Y.length (.list (s.ps.map oT++[tL p])),i,s.ps++[p],u,v,w⟩ :=
 e▸⟨(J.ds.trans y).set _ (aB _) hL,(J.skip rfl y hi hL (u:=u) (v:=v) (w:=w)).le,by rw[bx (List.getElem?_eq_some_iff.mp (y.lst J.at' hL)).1,aO];exact lT (λv=>some (mC.list (s.ps.map oT++[v]))) (ER p).symm,
  by rw[aO];exact ZV J.sub hp,
  λq hq=>(List.mem_append.mp hq).elim (J.all q) λh=>List.mem_singleton.mp h▸ap,by rw[ar];exact aU J.len⟩
end
theorem zC {bs:List Nat}{a:Nat}:(bs++[a]).length=bs.length+1:=ar
theorem u9 {n:Nat}{Y:St}:oD Y (.seq (.tup (p4 n)))=some ((ba n).map λi:Nat=>PV.int (i:Int)):=lT some (wQ n)
structure KdS where
 τ:St
 i:Nat
 kd:Kd
structure Q7 (A:Kd->Prop)(a:Nat)(z:Bool)(Y:St)(b:Nat)(s:KdS):Prop where
 ds:DS a z Y s.τ s.i
 le:s.i<=b
 own:A s.kd
theorem MB {z:Bool}{n:String}(h:(namesOf z)[2]? =some n):n=rz z:=by cases z<;>exact(aq h).symm
theorem MC {z:Bool}{j:Nat}(h:j<3):∃n,(namesOf z)[j]? =some n:=⟨_,aQ (ZT z h)⟩
theorem Nt {z:Bool}{j:Nat}{n:String}(h:(namesOf z)[j]? =some n)(hj:j<3){Y:St}:mA Y (.int (j:Int)) (.tup ((namesOf z).map .str))=some (.str n):=Hw (by rw[cJ,h];rfl) (ae (aS hj) (by decide))
theorem Nu {d:Nat}(h:((2 - d:Nat):Int)<2):∃d',d=d'+1:=match d,h with
 |0,h=>absurd h (by decide)
 |d+1,_=>⟨d,rfl⟩
theorem MD:∀(d:Nat) (_:d+1<=2),(((2 - (d+1):Nat):Int)+1)=((2 - d:Nat):Int)
 |0,_=>rfl
 |1,_=>rfl
theorem ag8 {c j d:Nat}(h:(decide ((j:Int)=2)&&(ltB ((2 - d:Nat):Int) 2&&gtB (c:Int) 0))=true){G:Prop}(k:∀d',d=d'+1->j=2->G):G :=
 El.nL h λh1 h=>El.nL h λh2 _=>(Nu (l9 h2)).elim λd' e=>k d' e (q6 (b:=2).mp (l9 h1))
theorem ag9 {c:Nat}:gtB (c:Int) 1=decide (1<c):=pH.mpr (iQ (n:=1))
theorem Q8 {c:Nat}(h:decide (1<c)=true)(h3:c<=3):c+1=3\/c+1=4:=(by decide:∀c<4,1<c->c+1=3\/c+1=4) c (fa h3) (l9 h)
theorem EW {z:Bool}{d m:Nat}{nm:String}{kd:Kd}{o:One}(h3:nm=rz z)(hm:m=0\/m=512)(ho:qG z d o)(hk:kd=(m,[o])\/(z=false/\∃h,(h=3\/h=4)/\kd=(m,[.mk [] (some (0,[o])) none 0 h]))):Je z d (nm,kd,0):=⟨rfl,.inr ⟨h3,m,o,hm,ho,hk⟩⟩
theorem aeR {h:Nat}(hm:h∈[1,0,1,2,1,1]):h<=2:=(by decide:∀h∈[1,0,1,2,1,1],h<=2) h hm
theorem BA {O:oh Fn}{f:Fn}{x y v w:PV}{Y:St}{R:PV->St->Prop}(e:v=w)(h:WC (O f [x,y,w] Y) R):WC (O f [x,y,v] Y) R:=e▸h
theorem sC {v w:PV}{Y:St}{R:PV->St->Prop}(e:v=w)(h:R v Y):R w Y:=e▸h
noncomputable def Ql (l:List Nat)(a d:Nat)(z:Bool)(L:Nat)(x y w:Option PV):Loc:=[some (rH l),some (.loc a),some (.int ((2 - d:Nat):Int)),some (.tup ((namesOf z).map .str)),some (.loc L),x,y,w,none]
theorem ME {l:List Nat}(hn:Nums l){a:Nat}{z:Bool}(d nb:Nat)(hd:d<=2)(hB:xi d=3*nb+10)(ih:∀d',d=d'+1->nb=xi d'/\Jg l a z d'):Jg l a z d:=by
 intro k i Y ha hi R hR;rw[hB] at hi hR;have vz:Y.length≠a:=bJ (List.getElem?_eq_some_iff.mp ha).1;refine w5 (UN _ _ _) ?_;refine(?_:VE _ _ _ _ _ _);refine LY rfl ha ?_;kd_p;refine sV (ba 3) (λi:Nat=>PV.int (i:Int)) (.seq (.tup (p4 3))) (λs:F6=>Ql l a d z Y.length s.x s.y s.w) (λs=>s.τ) (λbs=>tV (Je z d) z a (nb+3) i Y bs.length) ?_ (λbs j cs s hr J N0 Cp=>?_) λs J=>?_
 ·kd_p;exact⟨by decide,⟨_,rfl,wQ 3,rfl,rfl,tV.nil ha⟩⟩
 ·have hj:=(tn hr).1▸(tn hr).2
  have hs:s.i+(nb+4)<=100000:=OF (b:=1) J.le ((tn hr).1▸hj) hi
  have uE:s.i<=100000:=ae (aD ..) hs;kd_p;refine rq hn J.ds.at' uE 6 (by decide) _ λc σ1 hc p7=>?_;kd_p;refine Ow (b:=3) (λh=>?_) λh=>?_
  ·kd_p;exact Cp ⟨_,_,_,_,_,_⟩ u9 (J.skip zC p7 (av (aY 1 _) _) vz)
  kd_p;refine HB hn p7.at' (bd hs (aY 1 _)) _ λm σ2 hm pJ=>?_;have pJ:=p7.trans pJ;refine(MC (z:=z) hj).elim λnm xo=>?_;refine(?_:nE _ (.cons _ _) _ _ _ _ _);refine tJ (λu:KdS=>Ql l a d z Y.length (some (.int (j:Int))) (some (.int (c:Int))) (some (mz u.kd))) (λu=>u.τ) (Q7 (λkd=>Je z d (nm,kd,0)) a z s.τ (s.i+(nb+3))) (λN hN=>?_) λu K=>?_
  ·kd_p;refine nh (λh1=>?_) λh1=>?_
   ·refine ag8 h1 λd' e Cq=>?_;subst e;refine(ih d' rfl).elim λQ9 ih=>?_;have h3:=MB (Cq▸xo);kd_p;refine BA (lT PV.int (MD d' hd)) ?_;refine ih k (s.i+1+1) σ2 pJ.at' (Q9▸e2 s.i nb▸bd hs (av (by decide) nb)) λo σ3 i3 ho rj Ag=>?_;have rj:=pJ.trans rj;have xp:i3<=s.i+(nb+2):=e2 s.i nb▸Q9▸Ag;have hle:i3+1<=s.i+(nb+3):=aU xp;have pY:i3<=100000:=ae xp (bd hs (av (by decide) nb));kd_p
    ·refine .e (Jf rj.at') ?_;kd_p
    refine mD (v7 ag9 (lT not (FE z))) (nh (λh5=>?_) λh5=>?_)
    ·have h5:=(aL _ _).mp h5;kd_p;refine rq hn rj.at' pY 3 (by decide) _ λr σ4 hr rI=>?_
     have rI:=rj.trans rI;kd_p;refine rx (λh6=>?_) λh6=>?_
     ·kd_p;exact hN ⟨σ4,i3+1,(512,[.mk [] (some (0,[o])) none 0 (c+1)])⟩ ⟨rI,hle,EW h3 (.inr rfl) ho (.inr ⟨(bV _).mp h5.2,c+1,Q8 h5.1 h,rfl⟩)⟩
     ·kd_p;exact hN ⟨σ4,i3+1,(0,[.mk [] (some (0,[o])) none 0 (c+1)])⟩ ⟨rI,hle,EW h3 (.inl rfl) ho (.inr ⟨(bV _).mp h5.2,c+1,Q8 h5.1 h,rfl⟩)⟩
    ·kd_p;refine rq hn rj.at' pY 3 (by decide) _ λr σ4 hr rI=>?_;have rI:=rj.trans rI;kd_p;refine rx (λh6=>?_) λh6=>?_
     ·kd_p;exact hN ⟨σ4,i3+1,(512,[o])⟩ ⟨rI,hle,EW h3 (.inr rfl) ho (.inl rfl)⟩
     ·kd_p;exact hN ⟨σ4,i3+1,(0,[o])⟩ ⟨rI,hle,EW h3 (.inl rfl) ho (.inl rfl)⟩
   ·have hle:s.i+1+1<=s.i+(nb+3):=av (aY 2 (nb+1)) s.i;kd_p;exact hN ⟨σ2,s.i+1+1,(m,[])⟩ ⟨pJ,hle,rfl,.inl ⟨m,hm,rfl⟩⟩
  ·have hL:=K.ds.lst J.at' vz;kd_p;refine⟨xP hL,?_⟩;kd_p;refine .e (Nt xo hj) ?_;kd_p;refine .e (xO hL (by rw[au];exact ae J.len (ae (aS ((tn hr).1▸hj)) (by decide)))) ?_;kd_p;exact Cp ⟨_,u.i,_,_,_,_⟩ u9 (J.push (p:=(nm,u.kd,0)) zC K.ds K.le vz ((tn hr).1▸xo) K.own)
 ·have Ag:s.i+1<=i+(3*nb+10):=aU J.le;kd_p;refine rq hn J.ds.at' (bE (ae Ag hi)) 6 (by decide) _ λc σ1 hc p7=>(wV (Y:=σ1) (r:=c) [1,0,1,2,1,1] hc (by decide)).elim λh hm=>?_;kd_p;refine .e hm.2 ?_;kd_p;refine .e (um (p7.lst J.at' vz)) ?_;kd_p;refine sC (One.tH (.mk s.ps none none 0 h)) (hR _ σ1 (s.i+1) ⟨rfl,rfl,rfl,aeR hm.1,J.sub.trans (iR _ _),J.all⟩ (J.ds.trans p7) Ag)
theorem HW {l:List Nat}(hn:Nums l){a:Nat}{z:Bool}:∀(d:Nat),d<=2->Jg l a z d
 |0,h=>ME hn 0 0 h rfl λ_ e=>nomatch e
 |d+1,h=>ME hn (d+1) (xi d) h rfl λd' e=>fb e▸⟨rfl,HW hn d (bE h)⟩
def xc (A:One->Prop)(kd:Kd):Prop:=(∃m∈vW,kd=(m,[]))\/∃os,kd=(0,os)/\1<=os.length/\os.length<=2/\∀o∈os,A o
def mJ (z:Bool):Nat->One->Prop
 |0,_=>False
 |d+1,o=>(z=false/\∃kd,xc (mJ z d) kd/\o=.mk [] (some kd) none 0 3) \/
   (o.how<=2/\o.called<=2/\(o.ps.map (·.1)).Sublist (namesOf z)/\(∀p∈o.ps,p.2.2<=2/\((p.1≠rz z/\∃m∈vd,p.2.1=(m,[]))\/(p.1=rz z/\xc (mJ z d) p.2.1))) /\
    (o.tx=none\/∃m∈vW,o.tx=some (m,[]))/\(o.nx=none\/∃m∈vd,o.nx=some (m,[])))
def Jh (z:Bool)(d:Nat)(p:mj):Prop:=p.2.2<=2/\((p.1≠rz z/\∃m∈vd,p.2.1=(m,[]))\/(p.1=rz z/\xc (mJ z d) p.2.1))
noncomputable def vh:Nat->Nat
 |0=>2
 |d+1=>2+2*(3*(vh d+2)+4)
noncomputable def B5 (d:Nat):Nat:=3*(vh d+2)+4
def Ji (l:List Nat)(a:Nat)(z:Bool)(d:Nat):Prop:=∀(k i:Nat) (Y:St),Y[a]? =some (o_ i z)->i+B5 d<=100000->∀{R:PV->St->Prop},
  (∀o σ' i',mJ z (d+1) o->DS a z Y σ' i'->i'<=i+B5 d->R o.pv σ')->WC (lY (k+2*d+4) .zh [rH l,.loc a,.int (((2 - d:Nat)):Int)] Y) R
def II (l:List Nat)(a:Nat)(z:Bool)(d:Nat):Prop:=∀(k i:Nat) (Y:St),Y[a]? =some (o_ i z)->i+vh d<=100000->∀{R:PV->St->Prop},
  (∀kd σ' i',xc (mJ z d) kd->DS a z Y σ' i'->i'<=i+vh d->R (mz kd) σ')->WC (lY (k+2*d+3) .AN [rH l,.loc a,.int (((2 - d:Nat)):Int)] Y) R
theorem JK:∀d,2<=vh d
 |0=>aB _
 |_+1=>aD ..
theorem ag_ {c d:Nat}(h:(gtB (c:Int) 2&&ltB ((2 - d:Nat):Int) 2)=true){G:Prop}(k:∀d',d=d'+1->G):G :=
 El.nL h λ_ h2=>(Nu (l9 h2)).elim k
theorem c2 (c:Nat):1<=1+c%2/\1+c%2<=2:=⟨aD ..,av (cK (dP c (by decide))) 1⟩
structure Ah (A:One->Prop)(z:Bool)(a b i0:Nat)(Y:St)(n:Nat)(os:List PV)(τ:St):Prop where
 ex:∃(i:Nat) (xs:List One),DS a z Y τ i/\i<=i0+n*b/\os=xs.map One.pv/\xs.length=n/\∀o∈xs,A o
theorem Ah.push {A:One->Prop}{z:Bool}{a b i0 n m i i2:Nat}{Y τ τ':St}{xs:List One}{o:One}(e:m=n+1)(h:DS a z Y τ i)(hi:i<=i0+n*b)(hl:xs.length=n)(hx:∀o∈xs,A o)(h2:DS a z τ τ' i2)(r0:i2<=i+b)(ho:A o):Ah A z a b i0 Y m (xs.map One.pv++[o.pv]) τ' :=
 e▸⟨i2,xs++[o],h.trans h2,by rw[cq,bU,← aP];exact ae r0 (ak hi b),by rw[aO];rfl,by rw[ar,hl];rfl,
  λq hq=>(List.mem_append.mp hq).elim (hx q) λh=>List.mem_singleton.mp h▸ho⟩
theorem Qm (i b:Nat):i+1+2*b<=i+(2+2*b):=aP i 1 (2*b)▸av (ak (by decide) (2*b)) i
theorem aha {i i1 n b:Nat}(h:i1<=i+1+n*b)(hn:n<2)(hb:i+(2+2*b)<=100000):i1+b<=100000:=by
 have h1:=ak (ae h (av (aM b (cK hn)) (i+1))) b;rw[aP (i+1),← dQ] at h1;exact ae h1 (ae (Qm i b) hb)
theorem aeS {i i1 n b:Nat}(h:i1<=i+1+n*b)(hn:n<=2):i1<=i+(2+2*b):=ae h (ae (av (aM b hn) (i+1)) (Qm i b))
theorem Fh (i b:Nat):i+1+b=i+(b+1):=by rw[aP,b9 1]
theorem ahb {i j b:Nat}(h:j<=i+1+b):j<=i+(3*(b+2)+4):=ae (Fh i b▸h) (av (ae (bh (dq b (show 0<3 by decide)) (aY 1 9)) (aB (3*b+10))) i)
theorem ahc {s b:Nat}(h:s+(b+2+3)<=100000):s+1+b<=100000:=Fh s b▸bd h (aD (b+1) 4)
theorem ahd {s b j:Nat}(h:j<=s+1+b):j<=s+(b+1):=Fh s b▸h
theorem ahe {i b j:Nat}(h:j<=i+1+3*(b+2)+3):j<=i+(3*(b+2)+4):=by rw[Fh] at h;exact h
theorem IJ (m:Nat)(xs:List One):mz (m,xs)=.tup [.int (m:Int),.tup (xs.map One.pv)]:=sT _
theorem Lc {l:List Nat}(hn:Nums l){a:Nat}{z:Bool}(d:Nat)(hd:d<=2)(ih:∀d',d=d'+1->Ji l a z d'):II l a z d:=by
 intro k i Y ha hi R hR;have r0:i+2<=100000:=bd hi (JK d);refine w5 (Ta _ _ _) ?_;kd_p;refine rq hn ha (ae (aD ..) r0) 6 (by decide) _ λc σ1 hc p7=>?_;kd_p;refine nh (λh=>ag_ h λd' e=>?_) λh=>?_
 ·subst e;kd_p;refine Bx (ba (1+c%2)) (λi:Nat=>PV.int (i:Int)) (.seq (.tup (p4 (1+c%2:Nat)))) (λbs=>Ah (mJ z (d'+1)) z a (B5 d') (i+1) Y bs.length) ?_ (λbs j cs os τ hr J=>?_) λos τ J=>?_
  ·kd_p;refine .e (zA (by decide)) ?_;kd_p;exact⟨ae (c2 c).2 (by decide),rfl,wQ _,⟨i+1,[],p7,aD ..,rfl,rfl,λ_ h=>nomatch h⟩⟩
  ·refine J.ex.elim λi1 h=>h.elim λxs h=>?_;have hj:=(tn hr).2;kd_p;refine BA (lT PV.int (MD d' hd)) ?_;refine ih d' rfl k i1 τ h.1.at' (aha h.2.1 (aW hj (c2 c).2) hi) λo τ' i2 ho pJ r0=>?_;kd_p;exact⟨u9,h.2.2.1▸Ah.push zC h.1 h.2.1 h.2.2.2.1 h.2.2.2.2 pJ r0 ho⟩
  ·refine J.ex.elim λi1 h=>h.elim λxs h=>?_;have hl:xs.length=1+c%2:=h.2.2.2.1.trans cW;kd_p;exact sC ((IJ 0 xs).trans (lT (λv=>PV.tup [.int 0,.tup v]) h.2.2.1.symm)) (hR (0,xs) τ i1 (.inr ⟨xs,rfl,hl▸(c2 c).1,hl▸(c2 c).2,h.2.2.2.2⟩) h.1 (aeS h.2.1 (ae (ax cW) (c2 c).2)))
 ·kd_p;refine rq hn p7.at' (bE r0) 8 (by decide) _ λr σ2 hr pJ=>(wV (Y:=σ2) (r:=r) vW hr (by decide)).elim λm hm=>?_;kd_p;refine .e hm.2 ?_;kd_p;exact sC (IJ m []) (hR (m,[]) σ2 _ (.inl ⟨m,hm.1,rfl⟩) (p7.trans pJ) (av (JK d) i))
structure JL where
 τ:St
 i:Nat
 tx:Option Kd
structure Q_ (A:Option Kd->Prop)(a:Nat)(z:Bool)(Y:St)(b:Nat)(s:JL):Prop where
 ds:DS a z Y s.τ s.i
 le:s.i<=b
 own:A s.tx
def tW (l:List Nat)(o:Option Kd):Prop:=o=none\/∃m∈l,o=some (m,[])
theorem ZW {z:Bool}{j:Nat}{n:String}(h:(namesOf z)[j]? =some n)(hj:j<2):n≠rz z:=match j,hj with
 |0,_=>by cases z<;>(cases h;decide)
 |1,_=>by cases z<;>(cases h;decide)
noncomputable def FF (l:List Nat)(a d:Nat)(z:Bool)(how L:Nat)(x y w u v t:Option PV):Loc:=[some (rH l),some (.loc a),some (.int ((2 - d:Nat):Int)),some (.tup ((namesOf z).map .str)),some (.int (how:Int)),some (.loc L),x,y,w,u,v,t]
theorem ahf {m:Nat}(h:m∈[0,1,1,2]):m<=2:=(by decide:∀h∈[0,1,1,2],h<=2) m h
theorem Nv {m:Nat}(h:m∈[0,2,0,2,3,1])(h3:¬(m:Int)=3):m<=2:=(by decide:∀h∈[0,2,0,2,3,1],h=3\/h<=2) m h |>.resolve_left λe=>h3 (lT cG e)
theorem XN {m:Nat}(h:(ltB 3 (m:Int)&&ltB (m:Int) 6)=true):∃c:Nat,c<=2/\(m:Int) - 3=(c:Int) :=
 El.nL h λh1 h2=>⟨m - 3,(by decide:∀m:Nat,m<6->3<m->m - 3<=2/\(m:Int) - 3=((m - 3:Nat):Int)) m (Int.ofNat_lt.mp (l9 h2)) (Int.ofNat_lt.mp (l9 h1))⟩
theorem Lo {l:List Nat}(hn:Nums l){a:Nat}{z:Bool}(d:Nat)(hd:d<=2)(hw:II l a z d):Ji l a z d:=by
 intro k i Y ha hi R hR;have wu:i+1+(3*(vh d+2)+3)<=100000:=(eg i 1 _).symm▸hi;refine w5 (TH _ _ _) ?_;refine(?_:VE _ _ _ _ _ _);refine LY rfl ha ?_;kd_p;refine rq hn ha (ae (aD ..) hi) 6 (by decide) _ λc σ1 hc p7=>(wV (Y:=σ1) (r:=c) [0,2,0,2,3,1] hc (by decide)).elim λhow hm=>?_;have vz:σ1.length≠a:=bJ p7.pos;kd_p;refine .e hm.2 ?_;kd_p
 ·refine .e (Jf p7.at') ?_;kd_p
 refine mD (v7 rfl (lT not (FE z))) (nh (λh=>?_) λh=>?_)
 ·have h:=(aL _ _).mp h;kd_p;refine hw k (i+1) σ1 p7.at' (ae (av (ae (aD _ 2) (ae (dq _ (by decide)) (aD _ 3))) _) wu) λkd σ2 i2 qJ pJ r0=>?_;kd_p;exact sC (R:=R) (One.tH (.mk [] (some kd) none 0 3)) (hR _ σ2 i2 (.inl ⟨(bV _).mp h.2,kd,qJ,rfl⟩) (p7.trans pJ) (ahb r0))
 kd_p;refine sV (ba 3) (λi:Nat=>PV.int (i:Int)) (.seq (.tup (p4 3))) (λs:F6=>FF l a d z how σ1.length s.x s.y s.w none none none) (λs=>s.τ) (λbs=>tV (Jh z d) z a (vh d+2) (i+1) σ1 bs.length) ?_ (λbs j cs s hr J N0 Cp=>?_) λs J=>?_
 ·kd_p;exact⟨by decide,⟨_,rfl,wQ 3,rfl,rfl,tV.nil p7.at'⟩⟩
 ·have hj:=(tn hr).1▸(tn hr).2
  have hs:s.i+(vh d+2+3)<=100000:=OF (b:=3) J.le ((tn hr).1▸hj) wu
  have uE:s.i<=100000:=ae (aD ..) hs;kd_p;refine rq hn J.ds.at' uE 6 (by decide) _ λc σ2 hc pJ=>?_;kd_p;refine Ow (b:=3) (λh=>?_) λh=>?_
  ·kd_p;exact Cp ⟨_,_,_,_,_,_⟩ u9 (J.skip zC pJ (av (aY 1 _) _) vz)
  refine(MC (z:=z) hj).elim λnm xo=>?_;refine(?_:nE _ (.cons (.asg (.v 8) _) _) _ _ _ _ _);refine tJ (λu:KdS=>FF l a d z how σ1.length (some (.int (j:Int))) (some (.int (c:Int))) (some (mz u.kd)) none none none) (λu=>u.τ) (Q7 (λkd=>∀fl≤2,Jh z d (nm,kd,fl)) a z s.τ (s.i+(vh d+1))) (λN hN=>?_) λu K=>?_
  ·kd_p;refine rx (λh1=>?_) λh1=>?_
   ·have Cq:j=2:=q6 (b:=2).mp h1;kd_p;refine hw k (s.i+1) σ2 pJ.at' (ahc hs) λkd σ3 i3 qJ rj Ag=>?_;kd_p;exact hN ⟨σ3,i3,kd⟩ ⟨pJ.trans rj,ahd Ag,λfl xq=>⟨xq,.inr ⟨MB (Cq▸xo),qJ⟩⟩⟩
   ·kd_p;refine HB hn pJ.at' (bd hs (aY 1 _)) _ λm σ3 F7 rj=>?_;kd_p;exact hN ⟨σ3,_,(m,[])⟩ ⟨pJ.trans rj,av (aU (bE (JK d))) _,λfl xq=>⟨xq,.inl ⟨ZW xo (gd (cK hj) λe=>h1 (lT cG e)),m,F7,rfl⟩⟩⟩
  ·have hL:=K.ds.lst J.at' vz;kd_p;refine⟨xP hL,?_⟩;kd_p;refine .e (Nt xo hj) ?_;kd_p;refine rq hn K.ds.at' (ae K.le (bd hs (aD _ 4))) 4 (by decide) _ λc4 σ4 hc4 rI=>(wV (Y:=σ4) (r:=c4) [0,1,1,2] hc4 (by decide)).elim λfl xq=>?_
   have hL:=rI.lst hL vz;kd_p;refine .e xq.2 ?_;kd_p;refine .e (xO hL (by rw[au];exact ae J.len (ae (aS ((tn hr).1▸hj)) (by decide)))) ?_;kd_p;exact Cp ⟨_,u.i+1,_,_,_,_⟩ u9 (J.push (p:=(nm,u.kd,fl)) zC (K.ds.trans rI) (aU K.le) vz ((tn hr).1▸xo) (K.own fl (ahf xq.1)))
 ·have hj:s.i<=i+1+3*(vh d+2):=J.le
  have yy:s.i+3<=100000:=ae (ak hj 3) wu;kd_p;refine rq hn J.ds.at' (ae (aD _ 3) yy) 12 (by decide) _ λmo σ2 Cr pJ=>?_;refine(?_:nE _ (.cons (.asg (.v 10) _) _) _ _ _ _ _);refine tJ (λu:JL=>FF l a d z how σ1.length s.x s.y s.w (some (.int (mo:Int))) (some (mS u.tx)) none) (λu=>u.τ) (Q_ (tW vW) a z s.τ (s.i+2)) (λN hN=>?_) λu K=>?_
  ·kd_p;refine rx (λh1=>?_) λh1=>?_
   ·kd_p;refine rq hn pJ.at' (ae (aD _ 2) yy) 8 (by decide) _ λr σ3 hr rj=>(wV (Y:=σ3) (r:=r) vW hr (by decide)).elim λm hm=>?_;kd_p;refine .e hm.2 ?_;kd_p;exact hN ⟨σ3,_,some (m,[])⟩ ⟨pJ.trans rj,aB _,.inr ⟨m,hm.1,rfl⟩⟩
   ·kd_p;exact hN ⟨σ2,_,none⟩ ⟨pJ,eh _,.inl rfl⟩
  refine(?_:nE _ (.cons (.asg (.v 11) _) _) _ _ _ _ _);refine tJ (λv:JL=>FF l a d z how σ1.length s.x s.y s.w (some (.int (mo:Int))) (some (mS u.tx)) (some (mS v.tx))) (λu=>u.τ) (Q_ (tW vd) a z s.τ (s.i+3)) (λN hN=>?_) λv K'=>?_
  ·kd_p;refine nh (λh1=>?_) λh1=>?_
   ·kd_p;refine HB hn K.ds.at' (ae K.le (ae (aD _ 1) yy)) _ λm σ3 hm rj=>?_;kd_p;exact hN ⟨σ3,_,some (m,[])⟩ ⟨K.ds.trans rj,aU K.le,.inr ⟨m,hm,rfl⟩⟩
   ·kd_p;exact hN ⟨u.τ,u.i,none⟩ ⟨K.ds,ef K.le,.inl rfl⟩
  have hL:=K'.ds.lst J.at' vz
  have fin:∀ca≤2,∀xr≤2,R (.tup [.tup (s.ps.map oT),mS u.tx,mS v.tx,.int ((ca:Nat):Int),.int ((xr:Nat):Int)]) v.τ:=λca oZ xr aiE =>
   sC (R:=R) (One.tH (.mk s.ps u.tx v.tx ca xr)) (hR _ v.τ v.i (.inr ⟨aiE,oZ,J.sub.trans (iR _ _),J.all,K.own,K'.own⟩) (p7.trans (J.ds.trans K'.ds)) (ahe (ae K'.le (ak hj 3))))
  kd_p;refine .e (um hL) ?_;kd_p;refine nh (λh1=>(XN h1).elim λca oZ=>?_) λh1=>?_
  ·kd_p;rw[oZ.2];refine rx (λh2=>?_) λh2=>?_
   ·kd_p;exact fin ca oZ.1 0 (aC _)
   ·kd_p;exact fin ca oZ.1 how (Nv hm.1 h2)
  ·kd_p;refine rx (λh2=>?_) λh2=>?_
   ·kd_p;exact fin 0 (aC _) 0 (aC _)
   ·kd_p;exact fin 0 (aC _) how (Nv hm.1 h2)
mutual
theorem Lp {l:List Nat}(hn:Nums l){a:Nat}{z:Bool}:∀(d:Nat),d<=2->II l a z d
 |0,h=>Lc hn 0 h λ_ e=>nomatch e
 |d+1,h=>Lc hn (d+1) h λd' e=>fb e▸Lo hn d (bE h) (Lp hn d (bE h))
end
theorem LZ {l:List Nat}(hn:Nums l){a:Nat}{z:Bool}(d:Nat)(h:d<=2):Ji l a z d:=Lo hn d h (Lp hn d h)
noncomputable def Po (n:Nat):List (String×PV):=[("rows",.loc (n+1)),("index",.loc (n+2)),("decls",.loc (n+3)),("bounds",.loc (n+4)),("defaults",.loc (n+5)),("names",.loc (n+6)),("origins",.loc (n+7)),("renamed",.loc (n+8)),("shaping",.int 0),("putting",.int 0)]
noncomputable def Ih (n:Nat):List (String×PV):=[("tab",.loc n),("deep",.int 0),("most_rounds",.int 200),("most_deep",.int 40)]
def EX (rows:List Row)(p:Nat):Prop:=p≠0/\p≠1/\p≠2/\p≠13/\∃r,rows[p]? =some r/\∀qs,r≠.oK qs
structure uF (rows:List Row)(ps:List Nat):Prop where
 asc:ps.Pairwise (·<·)
 two:2<=ps.length
 at':∀p∈ps,EX rows p
structure TabAt (n m:Nat)(Y:St)(W:Wd):Prop where
 inst:Y[n]? =some (.inst .sf (Po n))
 rows:Y[n+1]? =some (.list (W.rows.map Row.pv))
 index:Y[n+2]? =some (.pn (idxOf W.rows))
 decl:∃dl:List Nat,Y[n+3]? =some (.list (.none::dl.map .loc))/\dl.length=W.lU.length/\∀(i d b:Nat),dl[i]? =some d->W.lU[i]? =some b->n+3<d/\oc Y "body" (.loc d)=some (iv b)/\oc Y "bases" (.loc d)=some (.tup [])
 host:Y[m]? =some (.inst .qk (Ih n))
 hm:n+3<m
 first:W.rows.take 16=pP
 nodup:W.rows.Nodup
 wx:∀ps,Row.oK ps∈W.rows->uF W.rows ps
 size:W.lU.length<=900000
def Wd.le (W W':Wd):Prop:=(∃rs,W'.rows=W.rows++rs)/\∃bs,W'.lU=W.lU++bs
theorem Wd.le.refl (W:Wd):W.le W:=⟨⟨[],by simp⟩,[],by simp⟩
theorem Wd.le.trans {A B C:Wd}(x:A.le B)(y:B.le C):A.le C:=by
 obtain⟨⟨a,ha⟩,b,hb⟩:=x;obtain⟨⟨c,hc⟩,d,hd⟩:=y;exact⟨⟨a++c,by rw[hc,ha,bR]⟩,b++d,by rw[hd,hb,bR]⟩
theorem Wd.le.row {A B:Wd}(x:A.le B){t:Nat}{r:Row}(h:A.rows[t]? =some r):B.rows[t]? =some r:=by
 obtain⟨⟨a,ha⟩,_⟩:=x;rw[ha,bB (List.getElem?_eq_some_iff.mp h).1];exact h
theorem Wd.le.bod {A B:Wd}(x:A.le B){t:Nat}{r:Nat}(h:A.lU[t]? =some r):B.lU[t]? =some r:=by
 obtain⟨_,a,ha⟩:=x;rw[ha,bB (List.getElem?_eq_some_iff.mp h).1];exact h
theorem Wd.le.len {A B:Wd}(x:A.le B):A.rows.length<=B.rows.length:=by
 obtain⟨⟨a,ha⟩,_⟩:=x;rw[ha,ar];lia
theorem EX.mono {rs ss:List Row}{p:Nat}(h:EX rs p):EX (rs++ss) p:=by
 obtain⟨a,b,c,d,r,e,f⟩:=h;exact⟨a,b,c,d,r,by rw[bB (List.getElem?_eq_some_iff.mp e).1];exact e,f⟩
structure l7 (n m:Nat)(Y:St)(W:Wd)(σ':St)(W':Wd)(c:Nat):Prop where
 tab:TabAt n m σ' W'
 len:Y.length<=σ'.length
 keep:∀j,j<Y.length->j≠n+1->j≠n+2->j≠n+3->σ'[j]? =Y[j]?
 le:W.le W'
 cost:W'.rows.length<=W.rows.length+c
section
variable {n m:Nat}{Y σ' sG:St}{W W' pa:Wd}{c c':Nat}
theorem l7.refl (T:TabAt n m Y W):l7 n m Y W Y W 0:=⟨T,aB _,λ_ _ _ _ _=>rfl,.refl W,aB _⟩
theorem l7.trans (x:l7 n m Y W σ' W' c)(y:l7 n m σ' W' sG pa c'):l7 n m Y W sG pa (c+c') :=
 ⟨y.tab,ae x.len y.len,λj h a b d=>(y.keep j (aW h x.len) a b d).trans (x.keep j h a b d),x.le.trans y.le,by have:=x.cost;have:=y.cost;lia⟩
theorem l7.weaken (x:l7 n m Y W σ' W' c)(h:c<=c'):l7 n m Y W σ' W' c':=⟨x.tab,x.len,x.keep,x.le,by have:=x.cost;lia⟩
theorem px {Y:St}{j:Nat}{o:mC}(h:Y[j]? =some o):j<Y.length:=(List.getElem?_eq_some_iff.mp h).1
theorem zE {Y σ':St}{d:Nat}{a:String}{v:PV}(h:oc Y a (.loc d)=some v)(e:∀o,Y[d]? =some o->σ'[d]? =some o):oc σ' a (.loc d)=some v:=by
 obtain⟨o,h1,h2⟩:=Option.bind_eq_some_iff.mp h;exact(tE (e o h1)).trans h2
theorem TabAt.same (T:TabAt n m Y W)(h:∀j o,Y[j]? =some o->(j=n\/j=n+1\/j=n+2\/j=n+3\/j=m\/∃(a:String) (v:PV),oc Y a (.loc j)=some v)->σ'[j]? =some o):TabAt n m σ' W:=by
 obtain⟨dl,d1,d2,d3⟩:=T.decl;refine⟨h _ _ T.inst (.inl rfl),h _ _ T.rows (.inr (.inl rfl)),h _ _ T.index (.inr (.inr (.inl rfl))),⟨dl,h _ _ d1 (.inr (.inr (.inr (.inl rfl)))),d2,λi d b e1 e2=>?_⟩,h _ _ T.host (.inr (.inr (.inr (.inr (.inl rfl))))),T.hm,T.first,T.nodup,T.wx,T.size⟩;obtain⟨a,b,c⟩:=d3 i d b e1 e2;exact⟨a,zE b λo e=>h _ _ e (.inr (.inr (.inr (.inr (.inr ⟨_,_,b⟩))))),zE c λo e=>h _ _ e (.inr (.inr (.inr (.inr (.inr ⟨_,_,b⟩)))))⟩
theorem l7.push (T:TabAt n m Y W)(o:mC):l7 n m Y W (Y++[o]) W 0 :=
 ⟨T.same λj o' e _=>by rw[bB (px e)];exact e,by simp,λj h _ _ _=>bB h,.refl W,aB _⟩
theorem TabAt.yp (T:TabAt n m Y W):n+3<Y.length:=by obtain⟨_,e,_⟩:=T.decl;exact px e
theorem TabAt.ne (T:TabAt n m Y W){j d:Nat}(hd:Y.length<=d)(hj:j=n\/j=n+1\/j=n+2\/j=n+3\/j=m\/∃(a:String) (v:PV),oc σ' a (.loc j)=some v)(h0:∀(a:String) (v:PV),oc σ' a (.loc d)≠some v):j≠d:=λe=>by
 have hm:=px T.host;have h3:=T.yp;subst e;refine hj.elim (λh=>?_) λh=>h.elim (λh=>?_) λh=>h.elim (λh=>?_) λh=>h.elim (λh=>?_) λh=>h.elim (λh=>?_) λh=>h.elim λa h=>h.elim λv h=>h0 a v h
 all_goals omega
theorem l7.set (x:l7 n m Y W σ' W' c)(T:TabAt n m Y W){d:Nat}{o:mC}(hd:Y.length<=d)(h0:∀(a:String) (v:PV),oc σ' a (.loc d)≠some v):l7 n m Y W (σ'.set d o) W' c :=
 ⟨x.tab.same λj o' e hj=>(aX (cp (T.ne hd hj h0))).trans e,by rw[bw];exact x.len,λj h a b e=>(aX (bJ (aW h hd))).trans (x.keep j h a b e),x.le,x.cost⟩
theorem TabAt.xd (T:TabAt n m Y W):oc Y "rows" (.loc n)=some (.loc (n+1)):=(tC T.inst).trans rfl
theorem TabAt.Ii (T:TabAt n m Y W):oc Y "index" (.loc n)=some (.loc (n+2)):=(tC T.inst).trans rfl
theorem TabAt.aeT (T:TabAt n m Y W):oc Y "decls" (.loc n)=some (.loc (n+3)):=(tC T.inst).trans rfl
theorem TabAt.aiF (T:TabAt n m Y W):oc Y "tab" (.loc m)=some (.loc n):=(tC T.host).trans rfl
theorem TabAt.Jj (T:TabAt n m Y W):ql mI Y "put" (.loc n)=some .wJ:=(wY T.inst).trans rfl
theorem TabAt.nD (T:TabAt n m Y W){t:Nat}{r:Row}(h:W.rows[t]? =some r)(hl:t<=1000000):mA Y (iv t) (.loc (n+1))=some r.pv:=zy T.rows hl (by rw[cJ,h];rfl)
theorem TabAt.mem (T:TabAt n m Y W)(r:Row):tG Y r.pv (.loc (n+2))=some (decide (r∈W.rows)):=(Ig T.index).trans ((lW r.qo).trans (lT some (DQ W.rows r)))
theorem TabAt.find (T:TabAt n m Y W){r:Row}{i:Nat}(h:W.rows[i]? =some r):mA Y r.pv (.loc (n+2))=some (iv i):=XB T.index r.qo (by rw[Ln T.nodup h];rfl)
noncomputable def tM (Y:St)(n:Nat)(W:Wd)(r:Row):St:=(Y.set (n+1) (.list (W.rows.map Row.pv++[r.pv]))).set (n+2) (.pn (idxOf (W.rows++[r])))
theorem Bi {j:Nat}{r:Row}(h1:j≠n+1)(h2:j≠n+2):(tM Y n W r)[j]? =Y[j]?:=(aX (cp h2)).trans (aX (cp h1))
theorem F8 {n:Nat}:n+2≠n+1:=by lia
theorem XO (h:W.rows.take 16=pP)(r:Row):(W.rows++[r]).take 16=pP:=by
 have h2:16<=W.rows.length:=by
  have:=lT bG h;rw[fc] at this;exact ae (ax this.symm) (ei ..)
 rw[List.take_append_of_le_length h2];exact h
theorem XQ {r:Row}(h:W.rows.Nodup)(hr:r∉W.rows):(W.rows++[r]).Nodup :=
 List.nodup_append.mpr ⟨h,gg ..,λa ha b hb e=>hr (List.mem_singleton.mp hb▸e▸ha)⟩
theorem uF.mono {rs ss:List Row}{ps:List Nat}(h:uF rs ps):uF (rs++ss) ps:=⟨h.asc,h.two,λp hp=>(h.at' p hp).mono⟩
theorem ack {r:Row}(h:∀ps,Row.oK ps∈W.rows->uF W.rows ps)(hr:∀ps,r=.oK ps->uF W.rows ps):∀ps,Row.oK ps∈W.rows++[r]->uF (W.rows++[r]) ps:=λps uG =>
 ((List.mem_append.mp uG).elim (h ps) λe=>hr ps (List.mem_singleton.mp e).symm).mono
theorem TabAt.put (T:TabAt n m Y W)(r:Row)(hr:∀ps,r=.oK ps->uF W.rows ps)(hm:r∉W.rows):l7 n m Y W (tM Y n W r) ⟨W.rows++[r],W.lU⟩ 1:=by
 have h3:=T.yp;have F7:=T.hm;have l1:∀j,j<n->j+1<n+1:=λ_ h=>Nat.succ_lt_succ h;have at1:(tM Y n W r)[n+1]? =some (.list ((W.rows++[r]).map Row.pv)):=by
  rw[aO];exact(aX F8).trans (bx (gj (gj h3)))
 have at2:(tM Y n W r)[n+2]? =some (.pn (idxOf (W.rows++[r]))):=bx (by rw[bw];exact gj h3);have sH:∀{j:Nat} {o:mC},Y[j]? =some o->j=n\/n+3<=j->(tM Y n W r)[j]? =some o:=λh hj=>(Bi (by lia) (by lia)).trans h;refine⟨⟨sH T.inst (.inl rfl),at1,at2,T.decl.elim λdl h=>⟨dl,sH h.1 (.inr (aB _)),h.2.1,λi d b e1 e2=>?_⟩,sH T.host (.inr (aS F7)),F7,XO T.first r,XQ T.nodup hm,ack T.wx hr,T.size⟩,?_,λj _ a b _=>Bi a b,⟨⟨[r],rfl⟩,[],(bc _).symm⟩,?_⟩
 ·have h:=h.2.2 i d b e1 e2;exact⟨h.1,zE h.2.1 λo e=>sH e (.inr (aS h.1)),zE h.2.2 λo e=>sH e (.inr (aS h.1))⟩
 ·exact ax (by rw[tM,bw,bw])
 ·exact ax ar
theorem MF {Y:St}{n:Nat}{l:List (PV×PV)}{k:PV}{v:PV}(h:Y[n]? =some (.pn l))(hk:k.qo=true)(hl:l.length<=1000000):tv Y k v (.loc n)=some (Y.set n (.pn (putAt k v l))):=zl h (lW (by rw[hk,mY hl];rfl))
theorem acm {r:Row}(T:TabAt n m Y W)(hm:r∉W.rows)(hl:W.rows.length<=1000000):tv (Y.set (n+1) (.list (W.rows.map Row.pv++[r.pv]))) r.pv (iv W.rows.length) (.loc (n+2))=some (tM Y n W r):=by
 have hi:=(aX (l:=Y) (a:=.list (W.rows.map Row.pv++[r.pv])) (cp (F8 (n:=n)))).trans T.index;have hlen:(idxOf W.rows).length<=1000000:=by rw[idxOf,au,iS];exact hl
 rw[tM,Lm,← LU hm (iv W.rows.length)];exact MF hi r.qo hlen
theorem u_ (T:TabAt n m Y W)(r:Row)(hr:∀ps,r=.oK ps->uF W.rows ps)(hl:W.rows.length+1<=900000)(k:Nat){R:PV->St->Prop}
  (h:∀(t:Nat) σ' W',l7 n m Y W σ' W' 1->W'.rows[t]? =some r->W'.lU=W.lU->R (iv t) σ'):WC (lY (k+1) .wJ [.loc n,r.pv] Y) R:=by
 have hl:W.rows.length<=1000000:=ae (bE hl) (by decide)
 have a2:=T.Ii
 have a1:=T.xd;refine nS (Kt _ _) λR' hR=>?_;kd_p;refine .e (T.mem r) ?_;kd_p;refine rx (λhm=>?_) λhm=>?_
 ·refine(iE hm).elim λi hi=>?_;have Ra:W.rows[i]? =some r:=hi.elim λa e=>by rw[aQ a,e]
  kd_p;refine .e (T.find Ra) ?_;exact hR _ _ _ (h i Y W ((l7.refl T).weaken (aC _)) Ra rfl)
 kd_p;refine .e ((um T.rows).trans (lT (λk:Nat=>some (PV.int (k:Int))) (au _))) ?_;kd_p;refine⟨xP T.rows,?_⟩;kd_p;refine .e (xO T.rows (by rw[au];exact hl)) ?_;have b2:oc (Y.set (n+1) (.list (W.rows.map Row.pv++[r.pv]))) "index" (.loc n)=some (.loc (n+2)):=(tC ((aX (iT n)).trans T.inst)).trans rfl;kd_p;refine .e (acm T hm hl) ?_;kd_p;exact hR _ _ _ (h W.rows.length _ ⟨W.rows++[r],W.lU⟩ (T.put r hr hm) (cL ..) rfl)
end
theorem o3 (Y:St)(r:Row):mA Y (.int 0) r.pv=some (iv r.kind):=by cases r<;>exact ui _ _ _
section
variable {n m:Nat}{Y:St}{W:Wd}{t:Nat}{r:Row}
theorem Ei (T:TabAt n m Y W)(h:W.rows[t]? =some r)(hl:t<=1000000)(k:Nat):lY (k+1) .Be [.loc n,iv t] Y=some (iv r.kind,Y):=by
 have a1:=T.xd;have i1:=T.nD h hl;have i2:=o3 Y r;refine nr (UK _ _) λR hR=>?_;kd_p;exact hR _ _ rfl
noncomputable def l8 (W:Wd)(t:Nat):List Nat:=if t=2 then[] else match W.rows[t]? with
 |some (.oK ps)=>ps
 |_=>[t]
theorem HX (h:t=2):l8 W t=[]:=lW h
theorem HY {ps:List Nat}(h2:¬t=2)(h:W.rows[t]? =some (.oK ps)):l8 W t=ps:=by unfold l8;rw[lX h2,h]
theorem vT (h2:¬t=2)(h:W.rows[t]? =some r)(hr:∀ps,r≠.oK ps):l8 W t=[t]:=by
 unfold l8;rw[lX h2,h];cases r with
 |oK ps=>exact absurd rfl (hr ps)
 |_=>rfl
theorem IK {r:Row}{A B:Prop}(h1:∀ps,r=.oK ps->A)(h2:(∀ps,r≠.oK ps)->B):oJ (.bool (decide ((r.kind:Int)=6))) A B:=by
 cases r with
 |oK ps=>exact qC (h1 ps rfl)
 |_=>exact nF (h2 λ_=>nofun)
theorem u4 (T:TabAt n m Y W)(h:W.rows[t]? =some r)(hl:t<=1000000)(k:Nat):lY (k+1) .sR [.loc n,iv t] Y=some (.tup ((l8 W t).map iv),Y):=by
 have a1:=T.xd;have i1:=T.nD h hl;have i2:=o3 Y r;refine nr (T9 _ _) λR hR=>?_;kd_p;refine rx (λh1=>?_) λh1=>?_
 ·kd_p;exact hR _ _ (lT (λl:List Nat=>PV.tup (l.map iv)) (HX (W:=W) (q6 (b:=2).mp h1)).symm)
 have h2:¬t=2:=λe=>h1 (lT cG e);kd_p;refine IK (λps e=>?_) λhr=>?_
 ·subst e;kd_p;exact hR _ _ (lT (λl:List Nat=>PV.tup (l.map iv)) (HY h2 h).symm)
 ·kd_p;exact hR _ _ (lT (λl:List Nat=>PV.tup (l.map iv)) (vT h2 h hr).symm)
theorem L0 (r:Row)(k:Nat):lY (k+1) .Dh [r.pv] Y=some (.int r.whole,Y):=by
 cases r<;>with_unfolding_all rfl
noncomputable def marked:Row->Bool
 |.bool .. =>true|.str .. =>true|.num .. =>true|.obj .. =>true|_=>false
noncomputable def literal:Row->Bool
 |.bool .. =>true|.str .. =>true|.num .. =>true|_=>false
theorem Lq (r:Row):decide (iv r.kind∈[PV.int 2,PV.int 3,PV.int 4,PV.int 5,PV.int 8])=marked r:=by cases r<;>rfl
theorem Vs (r:Row):decide (iv r.kind∈[PV.int 2,PV.int 3,PV.int 4,PV.int 5])=literal r:=by cases r<;>rfl
noncomputable def lastOf:Row->Nat
 |.bool _ f=>f|.str _ f=>f|.num _ f=>f|.obj _ _ _ _ _ f=>f|_=>0
theorem aeU (Y:St)(r:Row)(hm:marked r=true):mA Y (.int (-1)) r.pv=some (iv (lastOf r)):=by
 cases r<;>first|cases hm|skip
 ·exact Ef [_,_] _
 ·exact Ef [_,_] _
 ·exact Ef [_,_] _
 ·exact Ef [_,_,_,_,_,_] _
theorem MG (r:Row):r.fresh=(marked r&&decide (lastOf r=1)):=by cases r<;>rfl
theorem aiG (a:Nat):decide ((a:Int)=1)=decide (a=1):=rv a 1
theorem Nw {r:Row}(h:decide (iv r.kind∈[PV.int 2,PV.int 3,PV.int 4,PV.int 5,PV.int 8])=true){Y:St}:mA Y (.int (-1)) r.pv=some (iv (lastOf r)):=aeU Y r (Lq r▸h)
theorem Nx (r:Row):(decide (iv r.kind∈[PV.int 2,PV.int 3,PV.int 4,PV.int 5,PV.int 8])&&decide (((lastOf r:Nat):Int)=1))=r.fresh:=by rw[Lq,aiG,← MG]
theorem Hh (T:TabAt n m Y W)(h:W.rows[t]? =some r)(hl:t<=1000000)(k:Nat):lY (k+1) .A1 [.loc n,iv t] Y=some (.bool r.fresh,Y):=by
 have a1:=T.xd;have i1:=T.nD h hl;have i2:=o3 Y r;refine nr (T_ _ _) λR hR=>?_;kd_p
 ·rename_i hm;refine .e (Nw hm) ?_;kd_p
 exact hR _ _ (lT PV.bool (Nx r))
theorem Vt (T:TabAt n m Y W)(h:W.rows[t]? =some r)(hl:t<=1000000)(k:Nat):lY (k+1) .Ds [.loc n,iv t] Y=some (.bool (literal r),Y):=by
 have a1:=T.xd;have i1:=T.nD h hl;have i2:=o3 Y r;refine nr (S2 _ _) λR hR=>?_;kd_p;exact hR _ _ (lT PV.bool (Vs r))
theorem ZX (T:TabAt n m Y W)(h:W.rows[t]? =some r)(hl:t<=1000000)(k:Nat):lY (k+2) .Ez [.loc n,iv t] Y=some (.bool (decide (t=4)||(decide (t=5)||literal r)),Y):=by
 refine nr (UL _ _) λR hR=>?_;kd_p
 ·refine md (Vt T h hl _) ?_;kd_p
 ·exact .r
 exact hR _ _ (lT PV.bool (qe (rv t 4) (qe (rv t 5) rfl)))
noncomputable def uq (W:Wd)(r:Row):Int:=if r.fresh then(if r.qw∈W.rows then(W.rows.idxOf r.qw:Int) else -1) else -1
theorem L1 {l:List Row}{r:Row}(h:r∈l):l[l.idxOf r]? =some r:=by
 have:=List.idxOf_lt_length_of_mem h;rw[aQ this,List.getElem_idxOf]
theorem MH {W:Wd}{r:Row}{i:Nat}(h:uq W r=(i:Int)):r.fresh=true/\W.rows[i]? =some r.qw:=by
 unfold uq at h;by_cases hf:r.fresh=true
 ·rw[lW hf] at h;by_cases hm:r.qw∈W.rows
  ·rw[lW hm] at h;exact⟨hf,Int.ofNat_inj.mp h▸L1 hm⟩
  ·rw[lX hm] at h;cases h
 ·rw[lX hf] at h;cases h
theorem EY (l:List PV)(v:PV):x_ none (some (-1)) (.tup (l++[v]))=some (.tup l):=by
 have e:((-1:Int)+((l++[v]).length:Int)).toNat=l.length:=by rw[ar,iO,Int.add_comm];exact lT Int.toNat (Int.add_sub_cancel (l.length:Int) 1)
 show some (PV.tup (((l++[v]).take ((-1:Int)+((l++[v]).length:Int)).toNat).drop 0))=_;rw[e,iU,List.take_left' rfl]
structure Jk (r:Row)(l:List PV):Prop where
 ri:x_ none (some (-1)) r.pv=some (.tup l)
 len:l.length<=6
 eq:PV.tup (l++[.int 0])=r.qw.pv
theorem OG {r:Row}(hf:marked r=true):∃l,Jk r l:=by
 cases r with
 |bool b f=>exact⟨_,EY [_,_] _,a8 rfl,rfl⟩
 |str s f=>exact⟨_,EY [_,_] _,a8 rfl,rfl⟩
 |num a f=>exact⟨_,EY [_,_] _,a8 rfl,rfl⟩
 |obj a b c d e f=>exact⟨_,EY [_,_,_,_,_,_] _,a8 rfl,rfl⟩
 |_=>cases hf
theorem K0 {r:Row}(h:r.fresh=true):marked r=true:=by rw[MG,aL] at h;exact h.1
theorem Jk.add {r:Row}{l:List PV}(x:Jk r l):binOp .Add (.tup l) (.tup [.int 0])=some r.qw.pv:=(Eg (ae (ak x.len 1) (by decide))).trans (lT some x.eq)
theorem ZY {r:Row}(T:TabAt n m Y W)(hf:r.fresh=true):zR Y r.qw.pv (.int (-1)) (.loc (n+2))=some (.int (uq W r)):=by
 refine(aez T.index).trans ((lW r.qw.qo).trans ?_);unfold uq;rw[lW hf];by_cases hm:r.qw∈W.rows
 ·rw[Ln T.nodup (L1 hm),lW hm];rfl
 ·rw[Wx hm,lX hm];rfl
theorem ZZ (T:TabAt n m Y W)(h:W.rows[t]? =some r)(hl:t<=1000000)(k:Nat):lY (k+1) .Di [.loc n,iv t] Y=some (.int (uq W r),Y):=by
 have a1:=T.xd;have a2:=T.Ii;have i1:=T.nD h hl;have i2:=o3 Y r;refine nr (Sy _ _) λR hR=>?_;kd_p
 ·rename_i hm;refine .e (Nw hm) ?_;kd_p
 refine mD (Nx r) (nh (λhf=>(OG (K0 hf)).elim λl x=>?_) λhf=>?_)
 ·kd_p;refine⟨aex T.index,?_⟩;kd_p;refine .e x.ri ?_;kd_p;refine .e x.add ?_;kd_p;refine .e (ZY T hf) ?_;exact hR _ _ rfl
 ·kd_p;exact hR _ _ (lT PV.int (lX (by rw[hf];decide)).symm)
end
noncomputable def dI (ks:List Nat):mC:=.pk (ks.map λk:Nat=>((k:Int),PV.int 1))
noncomputable def ins (ks:List Nat)(k:Nat):List Nat:=if k∈ks then ks else ks++[k]
theorem ud {ks:List Nat}{k x:Nat}:x∈ins ks k↔x∈ks\/x=k:=by
 unfold ins
 split
 ·rename_i h;exact⟨.inl,λe=>e.elim id λe=>e▸h⟩
 ·simp
theorem DR {ks:List Nat}{k:Nat}(h:ks.Nodup):(ins ks k).Nodup:=by
 unfold ins
 split
 ·exact h
 ·rename_i hk;rw[fe];exact⟨h,by simp,λa ha b hb e=>by simp at hb;subst hb;subst e;exact hk ha⟩
theorem Dd {l:List Nat}:∀{ks:List Nat} {x:Nat},x∈l.foldl ins ks↔x∈ks\/x∈l:=by
 induction l with
 |nil=>intro ks x;simp
 |cons a l ih=>intro ks x;rw[cI,ih,ud,bT,or_assoc]
theorem KD {l:List Nat}:∀{ks:List Nat},ks.Nodup->(l.foldl ins ks).Nodup:=by
 induction l with
 |nil=>intro ks h;exact h
 |cons a l ih=>intro ks h;exact ih (DR h)
theorem Z0 (ks:List Nat)(k:Nat):putAt (k:Int) (PV.int 1) (ks.map λk:Nat=>((k:Int),PV.int 1))=(ins ks k).map λk:Nat=>((k:Int),PV.int 1):=by
 induction ks with
 |nil=>simp[putAt,ins]
 |cons a ks ih =>
  simp only[a9,putAt];by_cases h:a=k
  ·subst h;simp[ins]
  ·have h':¬(a:Int)=(k:Int):=λe=>h (q6.mp e);rw[lX h',ih];unfold ins
   have h2:¬k=a:=λe=>h e.symm;by_cases hk:k∈ks
   ·rw[lW hk,lW (aE _ hk)];rfl
   ·rw[lX hk,lX (by simp[h2,hk])];rfl
theorem Ij {Y:St}{d:Nat}{ks:List Nat}(h:Y[d]? =some (dI ks))(i:Int):tG Y (.int i) (.loc d)=some (ks.any λk=>decide ((k:Int)=i)):=by
 refine(Ig h).trans (lT some ?_);exact f3
theorem OH (ks:List Nat)(a:Nat):(ks.any λk=>decide ((k:Int)=(a:Int)))=decide (a∈ks):=by
 rw[bg,bS,decide_eq_true_eq];constructor
 ·rintro⟨k,hk,e⟩;exact q6.mp (l9 e)▸hk
 ·intro h;exact⟨a,h,by simp⟩
theorem EZ {Y:St}{d:Nat}{ks:List Nat}(h:Y[d]? =some (dI ks))(hl:ks.length<=1000000)(k:Nat):tv Y (iv k) (.int 1) (.loc d)=some (Y.set d (dI (ins ks k))):=by
 have:(ks.map λk:Nat=>((k:Int),PV.int 1)).length<=1000000:=by rw[au];exact hl
 exact(ZF h this).trans (by rw[Z0];rfl)
theorem HZ {Y:St}{d:Nat}{ks:List Nat}(h:Y[d]? =some (dI ks)):∀(a:String) (v:PV),oc Y a (.loc d)≠some v:=λa v e=>by
 rw[tC h] at e;exact nomatch e
noncomputable def rg (x:Nat):List Nat->List Nat
 |[]=>[x]
 |y::r=>if x<=y then x::y::r else y::rg x r
noncomputable def rA:List Nat->List Nat
 |[]=>[]
 |x::r=>rg x (rA r)
theorem XR (x:Nat)(l:List Nat):zZ id (x:Int) (l.map λk:Nat=>(k:Int))=(rg x l).map λk:Nat=>(k:Int):=by
 induction l with
 |nil=>rfl
 |cons y r ih =>
  simp only[a9,zZ,rg,id];by_cases h:x<=y
  ·rw[lW h,lW (by lia)];rfl
  ·rw[lX h,lX (by lia),ih];rfl
theorem Wy (l:List Nat):sortI (l.map λk:Nat=>(k:Int))=(rA l).map λk:Nat=>(k:Int):=by
 induction l with
 |nil=>rfl
 |cons y r ih=>rw[rA,← XR,← ih];rfl
theorem MI {x y:Nat}{l:List Nat}:y∈rg x l↔y=x\/y∈l:=by
 induction l with
 |nil=>simp[rg]
 |cons z r ih =>
  unfold rg
  split
  ·simp
  ·simp only[bT,ih];exact⟨λh=>h.elim (λh=>.inr (.inl h)) λh=>h.elim .inl λh=>.inr (.inr h),λh=>h.elim (λh=>.inr (.inl h)) λh=>h.elim .inl λh=>.inr (.inr h)⟩
theorem AW {y:Nat}{l:List Nat}:y∈rA l↔y∈l:=by
 induction l with
 |nil=>simp[rA]
 |cons z r ih=>simp only[rA,MI,ih,bT]
theorem Z1 {x:Nat}{l:List Nat}(h:l.Pairwise (·<·))(hx:x∉l):(rg x l).Pairwise (·<·):=by
 induction l with
 |nil=>simp[rg]
 |cons z r ih =>
  rw[ej] at h;simp only[bT,not_or] at hx;unfold rg
  split
  ·rename_i hz;rw[ej,ej];refine⟨λa ha=>?_,h⟩;rcases List.mem_cons.mp ha with rfl|ha
   ·lia
   ·have:=h.1 a ha;lia
  ·rename_i hz;rw[ej];refine⟨λa ha=>?_,ih h.2 hx.2⟩;rcases MI.mp ha with rfl|ha
   ·lia
   ·exact h.1 a ha
theorem XS {l:List Nat}(h:l.Nodup):(rA l).Pairwise (·<·):=by
 induction l with
 |nil=>simp[rA]
 |cons z r ih =>
  rw[dr] at h;exact Z1 (ih h.2) λe=>h.1 (AW.mp e)
theorem Z2 (x:Nat)(l:List Nat):(rg x l).length=l.length+1:=by
 induction l with
 |nil=>rfl
 |cons z r ih=>unfold rg;split<;>simp[ih]
theorem XT (l:List Nat):(rA l).length=l.length:=by
 induction l with
 |nil=>rfl
 |cons z r ih=>simp[rA,Z2,ih]
theorem XU {Y:St}{d:Nat}{ks:List Nat}(h:Y[d]? =some (dI ks))(hl:ks.length<64):qr Y .sorted (.loc d)=some (.lst ((rA ks).map iv)):=by
 have e:(ks.map λk:Nat=>((k:Int),PV.int 1)).length<64:=by rw[au];exact hl
 have e2:(ks.map λk:Nat=>((k:Int),PV.int 1)).map (·.1)=ks.map λk:Nat=>(k:Int):=by rw[aR];rfl
 refine(um h).trans ((lW e).trans ?_);rw[e2,Wy,aR];rfl
section
variable {n m:Nat}{Y:St}{W:Wd}{t:Nat}{r:Row}{d:Nat}{ks:List Nat}
noncomputable def tF (W:Wd)(ks:List Nat)(r:Row):Bool:=!(ks.any λk=>decide ((k:Int)=uq W r))&&!(ks.any λk=>decide ((k:Int)=r.whole))
theorem Ny {b:Bool}{r:Row}(h:(ks.any λk=>decide ((k:Int)=uq W r))=b):(!b&&!(ks.any λk=>decide ((k:Int)=r.whole)))=tF W ks r:=by rw[tF,h]
theorem XX (T:TabAt n m Y W)(h:W.rows[t]? =some r)(hl:t<=1000000)(hd:Y[d]? =some (dI ks))(k:Nat):lY (k+2) .Dj [.loc n,.loc d,iv t] Y=some (.bool (tF W ks r),Y):=by
 have a1:=T.xd;have i1:=T.nD h hl;refine nr (Sz _ _ _) λR hR=>?_;kd_p;refine md (ZZ T h hl _) ?_;kd_p;refine .e (Ij hd _) ?_;kd_p;refine nh (λh1=>?_) λh1=>?_
 ·kd_p;exact hR _ _ (lT PV.bool (Ny h1))
 ·kd_p;refine md (L0 r _) ?_;kd_p;refine .e (lT (b4 not) (Ij hd _)) ?_;exact hR _ _ (lT PV.bool ((du _).symm.trans (Ny h1)))
noncomputable def wi (ks:List Nat):Int:=if 0∈ks then 0 else if 13∈ks then 13 else if 1∈ks then 1 else -1
theorem Nz (ks:List Nat):wi ks=(([0,13,1].find? λa=>decide (a∈ks)).map λa:Nat=>(a:Int)).getD (-1):=by
 unfold wi;by_cases h0:0∈ks
 ·rw[lW h0,cE (p:=λa=>decide (a∈ks)) (mY h0)];rfl
 rw[lX h0,cF (by rw[decide_eq_false h0];decide)];by_cases h1:13∈ks
 ·rw[lW h1,cE (p:=λa=>decide (a∈ks)) (mY h1)];rfl
 rw[lX h1,cF (by rw[decide_eq_false h1];decide)];by_cases h2:1∈ks
 ·rw[lW h2,cE (p:=λa=>decide (a∈ks)) (mY h2)];rfl
 rw[lX h2,cF (by rw[decide_eq_false h2];decide)];rfl
theorem XY {a:Nat}(h:[0,13,1].find? (λa=>decide (a∈ks))=some a):(a:Int)=wi ks:=by rw[Nz,h];rfl
theorem XZ (h:[0,13,1].find? (λa=>decide (a∈ks))=none):-1=wi ks:=by rw[Nz,h];rfl
theorem BQ (hd:Y[d]? =some (dI ks))(a:Nat):oW Y .In (iv a) (.loc d)=some (decide (a∈ks)):=(Ij hd _).trans (lT some (OH ks a))
theorem acn (hd:Y[d]? =some (dI ks))(k:Nat):lY (k+1) .EO [.loc d] Y=some (.int (wi ks),Y):=by
 refine nr (Vq _) λR hR=>?_;kd_p;refine vS [0,13,1] iv (λx:Option PV=>[some (.loc d),x]) (λa=>decide (a∈ks)) none rfl ?_ (λa i hm hf N hN=>?_) λhf i=>?_
 ·kd_p;exact SI.t rfl
 ·kd_p;refine .e (BQ hd a) ?_;kd_p;refine nh (λh1=>?_) λh1=>?_
  ·kd_p;exact hR _ _ (lT PV.int (XY (hf h1)))
  ·kd_p;exact hN _ h1
 ·kd_p;exact hR _ _ (lT PV.int (XZ hf))
noncomputable def Fi (ks:List Nat):Bool:=(decide (8∈ks)||decide (14∈ks))&&(decide (9∈ks)||decide (15∈ks))
noncomputable def n4 (ks:List Nat):List Nat:=if Fi ks then ins (ins ks 8) 9 else ks
theorem E0 (ks:List Nat)(k:Nat):(ins ks k).length<=ks.length+1:=by
 unfold ins
 split
 ·exact eh _
 ·exact ax ar
theorem Z3 (hd:Y[d]? =some (dI ks))(hl:ks.length<64)(k:Nat){R:PV->St->Prop}(h:∀σ',σ'.length=Y.length->(∀j,j≠d->σ'[j]? =Y[j]?)->σ'[d]? =some (dI (n4 ks))->R .none σ'):WC (lY (k+1) .Dr [.loc d] Y) R:=by
 have uH:=px hd;have m8:=BQ hd 8;have m14:=BQ hd 14;have m9:=BQ hd 9;have m15:=BQ hd 15;refine nS (S1 _) λR' hR=>?_;kd_p;refine nh (λh1=>?_) λh1=>?_
 ·have e:n4 ks=ins (ins ks 8) 9:=lW h1
  have h2:(Y.set d (dI (ins ks 8)))[d]? =some (dI (ins ks 8)):=bx uH;kd_p;refine .e (EZ hd (ae (aS hl) (by decide)) 8) ?_;kd_p;refine .e (EZ h2 (ae (ae (E0 ks 8) hl) (by decide)) 9) ?_;kd_p;exact hR _ _ _ (h _ (by rw[bw,bw]) (λj hj=>(aX (cp hj)).trans (aX (cp hj))) (e.symm▸bx (by rw[bw];exact uH)))
 ·have e:n4 ks=ks:=lX λh=>by rw[Fi,h1] at h;cases h
  kd_p;exact hR _ _ _ (h Y rfl (λ_ _=>rfl) (e.symm▸hd))
end
theorem nf {V:Type}{l:List V}{i:Nat}{a:V}(h:l[i]? =some a):i<l.length:=(List.getElem?_eq_some_iff.mp h).1
theorem NA (ks:List Nat)(k:Nat):ks.length<=(ins ks k).length:=by unfold ins;split<;>simp
theorem GV:∀(l ks:List Nat),ks.length<=(l.foldl ins ks).length
 |[],ks=>aB _
 |a::l,ks=>ae (NA ks a) (GV l (ins ks a))
noncomputable def BR (W:Wd)(ks:List Nat)(t:Nat):Bool:=match W.rows[t]? with
 |some r=>tF W ks r
 |none=>false
noncomputable def rV (W:Wd)(ks:List Nat):List Nat:=(rA (n4 ks)).filter (BR W (n4 ks))
noncomputable def uj (W:Wd)(ks:List Nat):List Nat:=if 0∈ks then[0] else if 13∈ks then[13] else if 1∈ks then[1] else rV W ks
noncomputable def mE (W:Wd)(ts:List Nat):List Nat:=(ts.flatMap (l8 W)).foldl ins []
structure ve (W:Wd)(p:Nat):Prop where
 ne:p≠2
 ex:∃r,W.rows[p]? =some r/\∀qs,r≠.oK qs
theorem Ej {W:Wd}{p:Nat}(h:ve W p):l8 W p=[p]:=h.ex.elim λ_ e=>vT h.ne e.1 e.2
theorem aco {W:Wd}{t:Nat}{r:Row}(h:W.rows[t]? =some r){P:List Nat->Prop}(h0:P [])(hu:∀ps,r=.oK ps->P ps)(h1:¬t=2->(∀ps,r≠.oK ps)->P [t]):P (l8 W t) :=
 if h2:t=2 then(HX (W:=W) h2).symm▸h0 else IK (r:=r) (A:=P (l8 W t)) (B:=P (l8 W t)) (λps e=>(HY h2 (e▸h)).symm▸hu ps e) (λhr=>(vT h2 h hr).symm▸h1 h2 hr) |>.rec λb _ t f=>match b,t,f with
  |true,t,_=>t rfl
  |false,_,f=>f rfl
section
variable {n m:Nat}{Y σ':St}{W:Wd}{t:Nat}{r:Row}{d:Nat}{ks:List Nat}
theorem TabAt.nJ (T:TabAt n m Y W){i:Nat}{r:Row}(h:pP[i]? =some r):W.rows[i]? =some r:=by
 have h16:i<16:=(List.getElem?_eq_some_iff.mp h).1;rw[← T.first,iV,lW h16] at h;exact h
theorem TabAt.wW (T:TabAt n m Y W)(h:W.rows[t]? =some r):∀p∈l8 W t,ve W p :=
 aco h (P:=λl=>∀p∈l,ve W p) (λ_ h=>nomatch h) (λps e p hp=>⟨((T.wx ps (bj (e▸h))).at' p hp).2.2.1,((T.wx ps (bj (e▸h))).at' p hp).2.2.2.2⟩) λh2 hr p hp=>List.mem_singleton.mp hp▸⟨h2,r,h,hr⟩
theorem Wz (T:TabAt n m Y W){ts:List Nat}(Ai:∀t∈ts,t<W.rows.length):∀p∈mE W ts,ve W p:=λp hp=>by
 rcases Dd.mp hp with h|h
 ·cases h
 ·obtain⟨t,ht,hp⟩:=List.mem_flatMap.mp h;exact T.wW (aQ (Ai t ht)) p hp
theorem Dz {p:Nat}(h:p∈n4 ks):p∈ks\/p=8\/p=9:=by
 unfold n4 at h
 split at h
 ·rcases ud.mp h with h|h
  ·rcases ud.mp h with h|h
   ·exact .inl h
   ·exact .inr (.inl h)
  ·exact .inr (.inr h)
 ·exact .inl h
theorem G7 {p:Nat}(h:p∈ks):p∈n4 ks:=by
 unfold n4
 split
 ·exact ud.mpr (.inl (ud.mpr (.inl h)))
 ·exact h
theorem UO (h:ks.Nodup):(n4 ks).Nodup:=by
 unfold n4
 split
 ·exact DR (DR h)
 ·exact h
theorem WA:(n4 ks).length<=ks.length+2:=by
 unfold n4
 split
 ·exact ae (E0 _ 9) (aU (E0 ks 8))
 ·exact aD ..
theorem aiH (W:Wd)(ts:List Nat){bs cs:List Nat}{t p:Nat}{es fs:List Nat}(hs:ts=bs++t::cs)(hp:l8 W t=es++p::fs)(hk:(mE W ts).length<=60):(es.foldl ins ((bs.flatMap (l8 W)).foldl ins [])).length<=60:=by
 have e1:mE W ts=(cs.flatMap (l8 W)).foldl ins (fs.foldl ins (ins (es.foldl ins ((bs.flatMap (l8 W)).foldl ins [])) p)):=by
  unfold mE;rw[hs,gk,cX,dJ,dJ,hp,dJ,cI]
 exact ae (ae (NA _ p) (ae (GV fs _) (GV (cs.flatMap (l8 W)) _))) (e1▸hk)
structure F9 where
 τ:St
 x:Option PV
 y:Option PV
structure Cs (n m:Nat)(Y:St)(W:Wd)(ks:List Nat)(s:F9):Prop where
 st:l7 n m Y W s.τ W 0
 at':s.τ[Y.length]? =some (dI ks)
theorem Cs.push {ks:List Nat}{s:F9}(J:Cs n m Y W ks s)(T:TabAt n m Y W)(p:Nat){x y:Option PV}{Rb:List Nat}(e:Rb=ins ks p):Cs n m Y W Rb ⟨s.τ.set Y.length (dI (ins ks p)),x,y⟩ :=
 e▸⟨J.st.set T (aB _) (HZ J.at'),bx (px J.at')⟩
theorem X0 {ks:List Nat}{es:List Nat}{p:Nat}:(es++[p]).foldl ins ks=ins (es.foldl ins ks) p:=dJ
theorem X1 {ts:List Nat}{t:Nat}{ks:List Nat}:((ts++[t]).flatMap (l8 W)).foldl ins ks=(l8 W t).foldl ins ((ts.flatMap (l8 W)).foldl ins ks):=by
 rw[gk,dJ,cX,List.flatMap_nil,bc]
theorem acp (K:List Nat):JF (wi K) 0=(decide (0∈K)||(decide (13∈K)||decide (1∈K))):=by
 unfold wi;by_cases h0:0∈K
 ·rw[lW h0,mY h0];rfl
 rw[lX h0,decide_eq_false h0];by_cases h1:13∈K
 ·rw[lW h1,mY h1];rfl
 rw[lX h1,decide_eq_false h1];by_cases h2:1∈K
 ·rw[lW h2,mY h2];rfl
 ·rw[lX h2,decide_eq_false h2];rfl
theorem acq {K:List Nat}(h:(decide (0∈K)||(decide (13∈K)||decide (1∈K)))=true):∃u:Nat,wi K=(u:Int)/\uj W K=[u]/\u∈K:=by
 unfold wi uj;by_cases h0:0∈K
 ·exact⟨0,lW h0,lW h0,h0⟩
 rw[lX h0,lX h0];by_cases h1:13∈K
 ·exact⟨13,lW h1,lW h1,h1⟩
 rw[lX h1,lX h1];by_cases h2:1∈K
 ·exact⟨1,lW h2,lW h2,h2⟩
 ·rw[decide_eq_false h0,decide_eq_false h1,decide_eq_false h2] at h;cases h
structure yc (K:List Nat):Prop where
 h0:0∉K
 yz:13∉K
 h1:1∉K
theorem yc.of {K:List Nat}(h:(decide (0∈K)||(decide (13∈K)||decide (1∈K)))=false):yc K:=by
 rw[fg,fg] at h;exact⟨xg h.1,xg h.2.1,xg h.2.2⟩
theorem yc.kept {K:List Nat}(x:yc K):uj W K=rV W K:=(lX x.h0).trans ((lX x.yz).trans (lX x.h1))
structure IL (W:Wd)(F:List Nat):Prop where
 ok:∀p∈F,ve W p
 asc:F.Pairwise (·<·)
 len:F.length<64
 top:yc F
theorem NC {K:List Nat}{p:Nat}(h:p∈rV W K):p∈n4 K:=AW.mp (List.mem_filter.mp h).1
theorem ND (T:TabAt n m Y W){K:List Nat}(hK:∀p∈K,ve W p):∀p∈n4 K,ve W p:=λp hp =>
 (Dz hp).elim (hK p) λh=>h.elim (λe=>e▸⟨by decide,_,T.nJ (i:=8) rfl,λ_=>nofun⟩) λe=>e▸⟨by decide,_,T.nJ (i:=9) rfl,λ_=>nofun⟩
theorem acr (T:TabAt n m Y W){K:List Nat}(hK:∀p∈K,ve W p)(hn:K.Nodup)(hl:(n4 K).length<64)(x:yc K):IL W (rV W K) :=
 have no:∀p,p≠8->p≠9->p∉K->p∉rV W K:=λp h8 h9 h e=>(Dz (NC e)).elim h λe=>e.elim h8 h9
 ⟨λp hp=>ND T hK p (NC hp),(XS (UO hn)).filter _,aT (ed _ _) (by rw[XT];exact hl),no 0 (by decide) (by decide) x.h0,no 13 (by decide) (by decide) x.yz,no 1 (by decide) (by decide) x.h1⟩
theorem IL.wx {f g:Nat}{F:List Nat}(x:IL W (f::g::F)):uF W.rows (f::g::F):=⟨x.asc,aY 2 _,λp hp=>⟨λe=>x.top.h0 (e▸hp),λe=>x.top.h1 (e▸hp),(x.ok p hp).ne,λe=>x.top.yz (e▸hp),(x.ok p hp).ex⟩⟩
theorem ve.lt {p:Nat}(h:ve W p):p<W.rows.length:=h.ex.elim λ_ h=>nf h.1
theorem l7.other (st:l7 n m Y W σ' W 0)(T:TabAt n m Y W){τ:St}(l:τ.length=σ'.length)(g:∀j,j≠Y.length->τ[j]? =σ'[j]?)(h0:∀(a:String) (v:PV),oc σ' a (.loc Y.length)≠some v):l7 n m Y W τ W 0 :=
 ⟨st.tab.same λj o e hj=>(g j (T.ne (aB _) hj h0)).trans e,l▸st.len,λj h a b c=>(g j (aZ h)).trans (st.keep j h a b c),.refl W,aB _⟩
theorem X2 (T:TabAt n m Y W){ps:List Nat}{u:Nat}(h:W.rows[u]? =some (.oK ps)):l8 W u=ps :=
 HY (λe=>by rw[e,T.nJ (i:=2) (r:=.key "never") rfl] at h;cases h) h
theorem HC {t:Nat}{r:Row}(h:W.rows[t]? =some r):tF W ks r=BR W ks t:=by rw[BR,h]
theorem Z4 {f:Nat}{F:List Nat}{A B:Prop}(h1:F=[]->A)(h2:∀g G,F=g::G->B):oJ (.bool (decide (((((f::F).map iv).length:Nat):Int)=1))) A B:=by
 cases F with
 |nil=>exact qC (h1 rfl)
 |cons g G=>exact nF (h2 g G rfl)
theorem ahg {l:List Nat}(h:l.length<64):gtB (((l.map iv).length:Nat):Int) 400=false:=decide_eq_false (Int.not_lt.mpr (Int.ofNat_le.mpr (by rw[au];exact ae (aS h) (by decide))))
theorem Lr (T:TabAt n m Y W)(ts:List Nat)(Ai:∀t∈ts,t<W.rows.length)(v:PV)(hv:∀τ,l7 n m Y W τ W 0->ug τ v=some (ts.map iv)/\oD τ (.seq v)=some (ts.map iv))(hl:W.rows.length+1<=900000)(hk:(mE W ts).length<=60)(k:Nat){R:PV->St->Prop}
  (h:∀(u:Nat) σ' W',l7 n m Y W σ' W' 1->W'.lU=W.lU->u<W'.rows.length->l8 W' u=uj W (mE W ts)->R (iv u) σ'):WC (lY (k+3) .union [.loc n,v] Y) R:=by
 have pZ:∀{i:Nat},i<W.rows.length->i<=1000000:=λhi=>ae (aS hi) (ae (bE hl) (by decide));refine nS (Wv _ _) λR' hR=>?_;kd_p;refine sV ts iv (.seq v) (λs:F9=>[some (.loc n),some v,some (.loc Y.length),s.x,s.y,none,none]) (λs=>s.τ) (λbs=>Cs n m Y W ((bs.flatMap (l8 W)).foldl ins [])) ?_ (λbs t cs s hs J N hN=>?_) λs J=>?_
 ·kd_p;refine .e (hv _ (l7.push T _)).1 ?_;exact⟨⟨_,none,none⟩,rfl,rfl,rfl,rfl,l7.push T _,cL ..⟩
 ·have Rc:t<W.rows.length:=Ai t (mem_mid hs);kd_p;refine sV (l8 W t) iv (.seq (.tup ((l8 W t).map iv))) (λs:F9=>[some (.loc n),some v,some (.loc Y.length),some (iv t),s.y,none,none]) (λs=>s.τ) (λes=>Cs n m Y W (es.foldl ins ((bs.flatMap (l8 W)).foldl ins []))) ?_ (λes p fs s2 hp J2 N2 hN2=>?_) λs2 J2=>?_
  ·kd_p;refine md (u4 J.st.tab (aQ Rc) (pZ Rc) _) ?_;kd_p;exact⟨⟨s.τ,none,s.y⟩,rfl,rfl,rfl,rfl,J.st,J.at'⟩
  ·kd_p;refine .e (EZ J2.at' (ae (aiH W ts hs hp hk) (by decide)) p) ?_;kd_p;exact hN2 ⟨_,none,_⟩ rfl (J2.push T p X0)
  ·exact hN ⟨s2.τ,some (iv t),s2.y⟩ (hv _ J2.st).2 ⟨J2.st,X1▸J2.at'⟩
 ·have hK:=Wz T Ai
  have hKn:(mE W ts).Nodup:=KD dv
  have hd:s.τ[Y.length]? =some (dI (mE W ts)):=J.at'
  have h2r:2<W.rows.length:=nf (T.nJ (i:=2) rfl);kd_p;refine md (acn hd _) ?_;kd_p;refine mD (acp _) (nh (λht=>?_) λht=>?_)
  ·refine(acq (W:=W) ht).elim λu hu=>?_;kd_p;exact hR _ _ _ (hu.1.symm▸h u s.τ W (J.st.weaken (aC _)) rfl (hK u hu.2.2).lt ((Ej (hK u hu.2.2)).trans hu.2.1.symm))
  have x:=yc.of ht;kd_p;refine Z3 hd (aT hk (by decide)) _ λτ2 l2 g2 hd2=>?_
  have mG:=J.st.other T l2 g2 (HZ hd)
  have Rf:(n4 (mE W ts)).length<64:=aT (ae WA (ak hk 2)) (by decide)
  have Kp:=acr T hK hKn Rf x;kd_p;refine⟨rfl,?_⟩;kd_p;refine ze (rA (n4 (mE W ts))) iv iv (BR W (n4 (mE W ts))) (L:=(rV W (mE W ts)).map iv) rfl ?_ (λp hp=>?_) (λp hp _=>?_) ?_
  ·kd_p;refine .e (XU hd2 Rf) ?_;kd_p;exact SI.l rfl
  ·refine(ND T hK p (AW.mp hp)).ex.elim λrp e=>?_;kd_p;refine md (XX mG.tab e.1 (pZ (nf e.1)) hd2 _) ?_;kd_p;exact .i (lT PV.bool (HC e.1))
  ·kd_p
  have hF:=x.kept (W:=W);revert Kp hF;generalize rV W (mE W ts)=F;intro Kp hF;kd_p;cases F with
  |nil =>
   refine pO rfl ?_;kd_p;exact hR _ _ _ (h 2 τ2 W (mG.weaken (aC _)) rfl h2r ((HX rfl).trans hF.symm))
  |cons f F =>
  refine pj rfl ?_;kd_p;refine Z4 (λe=>?_) λg G e=>?_
  ·kd_p;subst e;exact hR _ _ _ (h f τ2 W (mG.weaken (aC _)) rfl (Kp.ok f (aG ..)).lt ((Ej (Kp.ok f (aG ..))).trans hF.symm))
  subst e;kd_p;refine pj (ahg Kp.len) ?_;have mp:=mG.tab.Jj;kd_p;refine u_ mG.tab (.oK (f::g::G)) (λps e=>Row.oK.inj e▸Kp.wx) hl _ λu σ' W' nP hu hb=>?_;kd_p;exact hR _ _ _ (h u σ' W' ((mG.trans nP).weaken (aB _)) hb (nf hu) ((X2 nP.tab hu).trans hF.symm))
theorem L2 (T:TabAt n m Y W)(ts:List Nat)(Ai:∀t∈ts,t<W.rows.length)(v:PV)(hv:v=.tup (ts.map iv)\/v=.lst (ts.map iv))(hl:W.rows.length+1<=900000)(hk:(mE W ts).length<=60)(k:Nat){R:PV->St->Prop}
  (h:∀(u:Nat) σ' W',l7 n m Y W σ' W' 1->W'.lU=W.lU->u<W'.rows.length->l8 W' u=uj W (mE W ts)->R (iv u) σ'):WC (lY (k+3) .union [.loc n,v] Y) R :=
 Lr T ts Ai v (λτ _=>hv.elim (λe=>e▸⟨rfl,rfl⟩) λe=>e▸⟨rfl,rfl⟩) hl hk k h
end
theorem aiI {q r d e:Nat}(hd:d<=q)(he:e<=r)(hr:r<2):(2*q+r - (2*d+e))/2=q - d/\(2*q+r - (2*d+e))%2=r - e:=by
 obtain⟨k,rfl⟩:=iW hd;obtain⟨j,rfl⟩:=iW he;have hj:j<2:=aT (aY ..) hr;rw[fh,iX,ek,ek,ek,Nat.mul_add_div (by decide),Nat.div_eq_of_lt hj,Nat.mul_add_mod,iY hj];exact⟨rfl,rfl⟩
theorem Ld (a b:Nat):(a - (a&&&b))/2=a/2 - (a/2&&&b/2)/\(a - (a&&&b))%2=a%2 - (a%2&&&b%2):=by
 have z:=aiI (q:=a/2) (r:=a%2) (d:=a/2&&&b/2) (e:=a%2&&&b%2) gp gp (dP a (by decide));have e:2*(a/2&&&b/2)+(a%2&&&b%2)=a&&&b:=by
  rw[← Nat.and_div_two,← Nat.and_mod_two_pow (n:=1)];exact iZ (a&&&b) 2
 rwa[iZ,e] at z
theorem AK:∀(i a b:Nat),(a - (a&&&b)).testBit i=(a.testBit i&&!b.testBit i)
 |0,a,b=>by
  rw[gq,gq,gq,(Ld a b).2];rcases i5 a with h|h<;>rcases i5 b with h'|h'<;>rw[h,h']<;>rfl
 |i+1,a,b=>by rw[el,(Ld a b).1,AK i,el,el]
theorem sU (m i:Nat):(m&&&2^i≠0)↔m.testBit i=true:=by
 have:m&&&2^i=if m.testBit i then 2^i else 0:=by
  apply cY;intro j;rw[gu,dw];by_cases h:i=j
  ·subst h;cases hb:m.testBit i<;>simp
  ·cases hb:m.testBit i<;>simp[h,dw]
 rw[this];have hp:2^i≠0:=Nat.pos_iff_ne_zero.mp (i6 i);cases hb:m.testBit i<;>simp
noncomputable def nb (m i:Nat):Bool:=if m.testBit 12 then decide (12=i) else if m.testBit 11 then decide (11=i) else m.testBit i&&!(m.testBit 2&&(decide (i=0)||decide (i=1)))&&!(m.testBit 5&&(decide (i=3)||decide (i=4)))
theorem Qn (i:Nat):(3:Nat).testBit i=(decide (i=0)||decide (i=1)):=by
 match i with
 |0=>rfl
 |1=>rfl
 |i+2=>simp[el]
theorem Pp (i:Nat):(24:Nat).testBit i=(decide (i=3)||decide (i=4)):=by
 match i with
 |0=>rfl
 |1=>rfl
 |2=>rfl
 |3=>rfl
 |4=>rfl
 |i+5=>simp[el]
theorem xQ (m i:Nat):(nR m).testBit i=nb m i:=by
 have uI:=sU m 12;have sI:=sU m 11;have h2:=sU m 2;unfold nR nb;by_cases s_:m.testBit 12=true
 ·rw[lW (uI.mpr s_),lW s_];exact dw (n:=12)
 rw[lX (λe=>s_ (uI.mp e)),lX s_];by_cases uJ:m.testBit 11=true
 ·rw[lW (sI.mpr uJ),lW uJ];exact dw (n:=11)
 rw[lX (λe=>uJ (sI.mp e)),lX uJ];have key:∀a:Nat,(∀j,a.testBit j=(m.testBit j&&!(m.testBit 2&&(decide (j=0)||decide (j=1))))) ->
   (if a&&&32≠0 then a - (a&&&24) else a).testBit i=(m.testBit i&&!(m.testBit 2&&(decide (i=0)||decide (i=1)))&&!(m.testBit 5&&(decide (i=3)||decide (i=4)))):=by
  intro a ha;have h5:=sU a 5;have e5:a.testBit 5=m.testBit 5:=by rw[ha 5];simp
  by_cases c5:a.testBit 5=true
  ·rw[lW (h5.mpr c5),AK,Pp,ha i,← e5,c5];simp
  ·rw[lX (λe=>c5 (h5.mp e)),ha i,← e5];simp only[ew] at c5;simp[c5]
 by_cases c2:m.testBit 2=true
 ·rw[lW (h2.mpr c2)];exact key _ λj=>by rw[AK,Qn,c2];simp
 ·rw[lX (λe=>c2 (h2.mp e))];simp only[ew] at c2;exact key m λj=>by rw[c2];simp
noncomputable def xt (m12 m11 m2 m5 mi yA yB yC yD:Bool):Bool:=if m12 then yA else if m11 then yB else mi&&!(m2&&yC)&&!(m5&&yD)
theorem aeV:∀yE xu yF yG a2 b2 a5 b5 ai bi yA yB yC yD:Bool,xt (xt yE yF a2 a5 yE true false false false||xu) (xt yE yF a2 a5 yF false true false false||yG) (xt yE yF a2 a5 a2 false false false false||b2) (xt yE yF a2 a5 a5 false false false false||b5) (xt yE yF a2 a5 ai yA yB yC yD||bi) yA yB yC yD =
  xt (yE||xu) (yF||yG) (a2||b2) (a5||b5) (ai||bi) yA yB yC yD
 |true,_,_,_,_,_,_,_,_,_,_,_,_,_=>rfl
 |false,true,true,_,_,_,_,_,_,_,_,_,_,_=>rfl
 |false,true,false,_,_,_,_,_,_,_,_,_,_,_=>by cases ‹Bool›<;>rfl
 |false,false,true,_,_,_,_,_,_,_,_,_,_,_=>rfl
 |false,false,false,true,_,_,_,_,_,_,_,_,_,_=>rfl
 |false,false,false,false,a2,b2,a5,b5,ai,bi,yA,yB,yC,yD=>by revert a2 b2 a5 b5 ai bi yA yB yC yD;decide
theorem NG (a b:Nat):nR (nR a|||b)=nR (a|||b):=by
 apply cY;intro i;have e:∀m j,nb m j=xt (m.testBit 12) (m.testBit 11) (m.testBit 2) (m.testBit 5) (m.testBit j) (decide (12=j)) (decide (11=j)) (decide (j=0)||decide (j=1)) (decide (j=3)||decide (j=4)):=λ_ _=>rfl;rw[xQ,xQ,e,e];simp only[ey,xQ,e];exact aeV ..
theorem Hi (a:Nat):nR (nR a)=nR a:=by have:=NG a 0;simpa using this
theorem NH {m:Nat}(h:m<2^14):nR m<2^14:=by
 apply Nat.lt_pow_two_of_testBit;intro i hi;rw[xQ];unfold nb;have:=dx (aW h (cZ (by decide) hi));have uI:decide (12=i)=false:=by simp;lia
 have sI:decide (11=i)=false:=by simp;lia
 simp[this,uI,sI]
noncomputable def mq (f:Nat):Nat->Row
 |0=>.str "a" f|1=>.str "b" f|2=>.key "string"|3=>.num 0 f|4=>.num 1 f|5=>.key "number"|6=>.bool 0 f|7=>.bool 1 f|8=>.key "null"
 |9=>.key "undefined"|10=>.key "void"|11=>.key "unknown"|12=>.key "any"|_=>.key "object"
def AR (f:Nat)(W:Wd)(p i:Nat):Prop:=W.rows[p]? =some (mq 0 i)\/(f=1/\W.rows[p]? =some (mq 1 i))
noncomputable def n7:Row->Bool
 |.obj .. =>true|.ref _=>true|.arr _=>true|.tK _=>true|_=>false
noncomputable def mO (W:Wd)(p:Nat):Bool:=match W.rows[p]? with
 |some r=>n7 r
 |none=>false
noncomputable def ou (k:Kd):List One:=if k.1&&&6144≠0 then[] else k.2
structure Den (f:Nat)(P:Nat->One->Prop)(W:Wd)(t:Nat)(k:Kd):Prop where
 lt:t<W.rows.length
 sound:∀p∈l8 W t,(∃i,i<14/\k.1.testBit i=true/\AR f W p i)\/∃o∈ou k,P p o
 atoms:∀i,i<14->k.1.testBit i=true->∃p∈l8 W t,AR f W p i
 ones:∀o∈ou k,∃p∈l8 W t,P p o
 cnt:((l8 W t).filter (mO W)).length<=k.2.length
structure mT (m:Nat):Prop where
 lt:m<2^14
 Ct:nR m=m
theorem kk {n:Nat}(a:n≠6)(b:n≠5):n≠6/\n≠5:=⟨a,b⟩
theorem s6 {C:Nat->Prop}(h0:C 0)(h1:C 1)(h2:C 2)(h3:C 3)(h4:C 4)(h5:C 5)(h6:C 6)(h7:C 7)(h8:C 8)(h9:C 9)(h10:C 10)(sI:C 11)(uI:C 12)(yz:C 13)(h:∀n,C (n+14))(i:Nat):C i :=
 match i with
 |0=>h0|1=>h1|2=>h2|3=>h3|4=>h4|5=>h5|6=>h6|7=>h7|8=>h8|9=>h9|10=>h10|11=>sI|12=>uI|13=>yz|n+14=>h n
theorem wL (f i:Nat):n7 (mq f i)=false:=s6 (C:=λi=>n7 (mq f i)=false) rfl rfl rfl rfl rfl rfl rfl rfl rfl rfl rfl rfl rfl rfl (λ_=>rfl) i
theorem y_ (f i:Nat):(mq f i).qw=mq 0 i:=s6 (C:=λi=>(mq f i).qw=mq 0 i) rfl rfl rfl rfl rfl rfl rfl rfl rfl rfl rfl rfl rfl rfl (λ_=>rfl) i
theorem UP:∀i,i<14->∀j,j<14->mq 0 i=mq 0 j->i=j:=by decide
theorem vN {f g i j:Nat}(hi:i<14)(hj:j<14)(h:mq f i=mq g j):i=j:=UP i hi j hj (by rw[← y_ f,h,y_])
theorem KO (i:Nat):(mq 0 i).fresh=false:=s6 (C:=λi=>(mq 0 i).fresh=false) rfl rfl rfl rfl rfl rfl rfl rfl rfl rfl rfl rfl rfl rfl (λ_=>rfl) i
theorem Un (f g i:Nat):(mq f i).whole=(mq g i).whole:=s6 (C:=λi=>(mq f i).whole=(mq g i).whole) rfl rfl rfl rfl rfl rfl rfl rfl rfl rfl rfl rfl rfl rfl (λ_=>rfl) i
theorem GW (g i:Nat):(mq g i).kind≠6/\(mq g i).kind≠5:=s6 (C:=λi=>(mq g i).kind≠6/\(mq g i).kind≠5) (kk (by decide:3≠6) (by decide:3≠5)) (kk (by decide:3≠6) (by decide:3≠5)) (kk (by decide:1≠6) (by decide:1≠5)) (kk (by decide:4≠6) (by decide:4≠5)) (kk (by decide:4≠6) (by decide:4≠5)) (kk (by decide:1≠6) (by decide:1≠5)) (kk (by decide:2≠6) (by decide:2≠5)) (kk (by decide:2≠6) (by decide:2≠5)) (kk (by decide:1≠6) (by decide:1≠5)) (kk (by decide:1≠6) (by decide:1≠5)) (kk (by decide:1≠6) (by decide:1≠5)) (kk (by decide:1≠6) (by decide:1≠5)) (kk (by decide:1≠6) (by decide:1≠5)) (kk (by decide:1≠6) (by decide:1≠5)) (λ_=>kk (by decide:1≠6) (by decide:1≠5)) i
theorem AF (f i:Nat):∀qs,mq f i≠.oK qs:=λqs e=>(GW f i).1 (lT Row.kind e)
theorem Hj {r:Row}(h:n7 r=true):r.whole=-1:=by cases r<;>first|rfl|cases h
theorem Bj {r:Row}(h:n7 r=true):n7 r.qw=true:=by cases r<;>first|rfl|cases h
theorem DT (r:Row):r.qw.fresh=false:=by cases r<;>rfl
noncomputable def nH:List Kd->Nat
 |[]=>0
 |k::r=>k.1|||nH r
theorem L3:∀(ks:List Kd) (a:Nat) (o:List One),nR a=a->(ks.foldl both (a,o))=(nR (a|||nH ks),o++ks.flatMap (·.2))
 |[],a,o,h=>by simp[nH,h]
 |k::ks,a,o,h=>by
  rw[cI];show ks.foldl both (nR (a|||k.1),o++k.2)=_;rw[L3 ks _ _ (Hi _)];simp only[nH,cX,bR,NG,Nat.or_assoc]
theorem sS (ks:List Kd):ks.foldl both (0,[])=(nR (nH ks),ks.flatMap (·.2)):=by
 rw[L3 ks 0 [] (by decide)];simp
theorem va:∀{ks:List Kd} {i:Nat},(nH ks).testBit i=true↔∃k∈ks,k.1.testBit i=true
 |[],i=>by simp[nH]
 |k::ks,i=>by simp[nH,ey,va (ks:=ks)]
theorem OI:∀{ks:List Kd},(∀k∈ks,k.1<2^14)->nH ks<2^14
 |[],_=>by simp[nH]
 |k::ks,h=>i7 (h k (by simp)) (OI λq hq=>h q (aE _ hq))
theorem MJ {ks:List Kd}(h:∀k∈ks,mT k.1):mT (ks.foldl both (0,[])).1:=by
 rw[sS];exact⟨NH (OI λk hk=>(h k hk).lt),Hi _⟩
theorem wZ (m:Nat):(m&&&6144≠0)↔(m.testBit 12=true\/m.testBit 11=true):=by
 have e:m&&&6144=(m&&&2^12)|||(m&&&2^11):=by rw[← i8];rfl
 have uI:=sU m 12;have sI:=sU m 11;rw[e,← uI,← sI];constructor
 ·intro h;by_cases a:m&&&2^12=0
  ·right;intro b;rw[a,b] at h;exact h rfl
  ·exact .inl a
 ·rintro(h|h) e2
  ·exact h (Nat.or_eq_zero_iff.mp e2).1
  ·exact h (Nat.or_eq_zero_iff.mp e2).2
theorem DU {k:Kd}(uI:k.1.testBit 12=false)(sI:k.1.testBit 11=false):ou k=k.2:=by
 unfold ou;rw[lX (λe=>by rcases(wZ _).mp e with h|h<;>simp_all)]
theorem tA {k:Kd}{o:One}(h:o∈ou k):o∈k.2:=by
 unfold ou at h
 split at h
 ·cases h
 ·exact h
section
variable {n m:Nat}{Y:St}{W W':Wd}{f:Nat}{P P':Nat->One->Prop}
theorem TabAt.A6 (T:TabAt n m Y W){i p:Nat}{r:Row}(h:pP[i]? =some r)(hp:W.rows[p]? =some r):p=i:=zi T.nodup hp (T.nJ h)
theorem AR.row {p i:Nat}(h:AR f W p i):∃g,g<=1/\W.rows[p]? =some (mq g i)/\(g=1->f=1):=by
 rcases h with h|⟨e,h⟩
 ·exact⟨0,by lia,h,by lia⟩
 ·exact⟨1,by lia,h,λ_=>e⟩
theorem AR.mono {p i:Nat}(h:AR f W p i)(le:W.le W'):AR f W' p i:=h.elim (λh=>.inl (le.row h)) λh=>.inr ⟨h.1,le.row h.2⟩
end
theorem GR (g:Nat->Bool)(ks:List Nat)(k:Nat):((ins ks k).filter g).length<=(ks.filter g).length+([k].filter g).length:=by
 unfold ins
 split
 ·lia
 ·rw[bK,ar];exact aB _
theorem GO (g:Nat->Bool):∀(l ks:List Nat),((l.foldl ins ks).filter g).length<=(ks.filter g).length+(l.filter g).length
 |[],ks=>by simp
 |a::l,ks=>by
  rw[cI];have h1:=GO g l (ins ks a);have h2:=GR g ks a;have h3:((a::l).filter g).length=([a].filter g).length+(l.filter g).length:=by
   rw[show a::l=[a]++l from rfl,bK,ar]
  lia
theorem Tc (g:Nat->Bool)(x:Nat)(l:List Nat):((rg x l).filter g).length=([x].filter g).length+(l.filter g).length:=by
 induction l with
 |nil=>simp[rg]
 |cons y r ih =>
  unfold rg
  split
  ·rw[show x::y::r=[x]++y::r from rfl,bK,ar]
  ·rw[show y::rg x r=[y]++rg x r from rfl,bK,ar,ih,show y::r=[y]++r from rfl,bK,ar];lia
theorem SP (g:Nat->Bool)(l:List Nat):((rA l).filter g).length=(l.filter g).length:=by
 induction l with
 |nil=>rfl
 |cons y r ih=>rw[rA,Tc,ih,show y::r=[y]++r from rfl,bK,ar]
structure oG (f:Nat)(P:Nat->One->Prop)(W:Wd)(l:List (Nat×Kd)):Prop where
 den:∀x∈l,Den f P W x.1 x.2
 Cu:∀x∈l,mT x.2.1
 uK:∀p o,P p o->∃r,W.rows[p]? =some r/\n7 r=true
 wy:∀p q o r,P p o->p∈mE W (l.map (·.1))->W.rows[p]? =some r->r.fresh=true->W.rows[q]? =some r.qw->q∈mE W (l.map (·.1))->P q o
section
variable {n m:Nat}{Y σ':St}{W W':Wd}{f:Nat}{P P':Nat->One->Prop}{l:List (Nat×Kd)}
theorem Fj {p:Nat}:p∈mE W (l.map (·.1))↔∃x∈l,p∈l8 W x.1:=by
 unfold mE;rw[Dd,List.mem_flatMap];constructor
 ·rintro(h|⟨t,ht,hp⟩)
  ·cases h
  ·obtain⟨x,hx,rfl⟩:=List.mem_map.mp ht;exact⟨x,hx,hp⟩
 ·rintro⟨x,hx,hp⟩;exact .inr ⟨x.1,List.mem_map.mpr ⟨x,hx,rfl⟩,hp⟩
theorem oG.F1 (D:oG f P W l){p:Nat}(h:p∈mE W (l.map (·.1))):(∃i,i<14/\(nH (l.map (·.2))).testBit i=true/\AR f W p i)\/∃x∈l,∃o∈ou x.2,P p o:=by
 obtain⟨x,hx,hp⟩:=Fj.mp h;rcases(D.den x hx).sound p hp with⟨i,hi,hb,ha⟩|⟨o,ho,hP⟩
 ·exact .inl ⟨i,hi,va.mpr ⟨x.2,List.mem_map.mpr ⟨x,hx,rfl⟩,hb⟩,ha⟩
 ·exact .inr ⟨x,hx,o,ho,hP⟩
theorem oG.F2 (D:oG f P W l){i:Nat}(hi:i<14)(h:(nH (l.map (·.2))).testBit i=true):∃p∈mE W (l.map (·.1)),AR f W p i:=by
 obtain⟨k,hk,hb⟩:=va.mp h;obtain⟨x,hx,rfl⟩:=List.mem_map.mp hk;obtain⟨p,hp,ha⟩:=(D.den x hx).atoms i hi hb;exact⟨p,Fj.mpr ⟨x,hx,hp⟩,ha⟩
theorem oG.first (D:oG f P W l)(T:TabAt n m Y W){p j g:Nat}(hj:j<14)(hr:pP[p]? =some (mq g j))(h:p∈mE W (l.map (·.1))):(nH (l.map (·.2))).testBit j=true/\AR f W p j:=by
 have e:=T.nJ hr;rcases D.F1 h with⟨i,hi,hb,ha⟩|⟨x,_,o,_,hP⟩
 ·obtain⟨g',_,e2,_⟩:=ha.row;rw[e] at e2;have:=vN hj hi (aq e2);subst this;exact⟨hb,ha⟩
 ·obtain⟨r,e2,ho⟩:=D.uK _ _ hP;rw[e] at e2;cases e2;rw[wL] at ho;cases ho
theorem oG.key (D:oG f P W l)(T:TabAt n m Y W){p j:Nat}(hj:j<14)(hr:pP[p]? =some (mq 0 j))(hk:mq 0 j=mq 1 j)(h:(nH (l.map (·.2))).testBit j=true):p∈mE W (l.map (·.1)):=by
 obtain⟨q,hq,ha⟩:=D.F2 hj h;have e:W.rows[q]? =some (mq 0 j):=ha.elim id λh=>hk▸h.2;exact T.A6 hr e▸hq
theorem oG.xu (D:oG f P W l)(T:TabAt n m Y W):0∈mE W (l.map (·.1))↔(nH (l.map (·.2))).testBit 12=true :=
 ⟨λh=>(D.first T (j:=12) (g:=0) (by decide) rfl h).1,λh=>D.key T (j:=12) (by decide) rfl rfl h⟩
theorem oG.yG (D:oG f P W l)(T:TabAt n m Y W):1∈mE W (l.map (·.1))↔(nH (l.map (·.2))).testBit 11=true :=
 ⟨λh=>(D.first T (j:=11) (g:=0) (by decide) rfl h).1,λh=>D.key T (j:=11) (by decide) rfl rfl h⟩
theorem oG.b2 (D:oG f P W l)(T:TabAt n m Y W):6∈mE W (l.map (·.1))↔(nH (l.map (·.2))).testBit 2=true :=
 ⟨λh=>(D.first T (j:=2) (g:=0) (by decide) rfl h).1,λh=>D.key T (j:=2) (by decide) rfl rfl h⟩
theorem oG.b5 (D:oG f P W l)(T:TabAt n m Y W):7∈mE W (l.map (·.1))↔(nH (l.map (·.2))).testBit 5=true :=
 ⟨λh=>(D.first T (j:=5) (g:=0) (by decide) rfl h).1,λh=>D.key T (j:=5) (by decide) rfl rfl h⟩
theorem KR (g i:Nat):(match mq g i with|.key s=>decide (s="error")|_=>false)=false:=s6 (C:=λi=>(match mq g i with|.key s=>decide (s="error")|_=>false)=false) rfl rfl rfl rfl rfl rfl rfl rfl rfl rfl rfl rfl rfl rfl (λ_=>rfl) i
theorem oG.Rg (D:oG f P W l)(T:TabAt n m Y W):13∉mE W (l.map (·.1)):=λh=>by
 have e:=T.nJ (i:=13) (r:=.key "error") rfl;rcases D.F1 h with⟨i,hi,hb,ha⟩|⟨x,_,o,_,hP⟩
 ·obtain⟨g,_,e2,_⟩:=ha.row;rw[e] at e2;have e3:=aq e2;have e4:=lT (λr=>match r with|.key s=>decide (s="error")|_=>false) e3;exact absurd ((KR g i).symm.trans e4.symm) (by decide)
 ·obtain⟨r,e2,ho⟩:=D.uK _ _ hP;rw[e] at e2;cases e2;cases ho
theorem oG.G1 (D:oG f P W l)(T:TabAt n m Y W){p:Nat}(h:p∈n4 (mE W (l.map (·.1)))):(∃i,i<14/\(nH (l.map (·.2))).testBit i=true/\AR f W p i)\/(p∈mE W (l.map (·.1))/\∃x∈l,∃o∈ou x.2,P p o):=by
 have base:p∈mE W (l.map (·.1))->(∃i,i<14/\(nH (l.map (·.2))).testBit i=true/\AR f W p i)\/(p∈mE W (l.map (·.1))/\∃x∈l,∃o∈ou x.2,P p o):=λh=>(D.F1 h).imp id λx=>⟨h,x⟩;unfold n4 at h
 split at h
 ·rename_i hj;simp only[Fi,aL,bM,decide_eq_true_eq] at hj;have b6:(nH (l.map (·.2))).testBit 6=true:=hj.1.elim (λh=>(D.first T (j:=6) (g:=0) (by decide) rfl h).1) λh=>(D.first T (j:=6) (g:=1) (by decide) rfl h).1;have b7:(nH (l.map (·.2))).testBit 7=true:=hj.2.elim (λh=>(D.first T (j:=7) (g:=0) (by decide) rfl h).1) λh=>(D.first T (j:=7) (g:=1) (by decide) rfl h).1;rcases ud.mp h with h|rfl
  ·rcases ud.mp h with h|rfl
   ·exact base h
   ·exact .inl ⟨6,by decide,b6,.inl (T.nJ rfl)⟩
  ·exact .inl ⟨7,by decide,b7,.inl (T.nJ rfl)⟩
 ·exact base h
theorem Ek {ks:List Nat}{z:Int}(a:Nat)(hz:z=(a:Int)):(ks.any λk=>decide ((k:Int)=z))=decide (a∈ks):=by subst hz;exact OH ks a
theorem sh {ks:List Nat}:(ks.any λk=>decide ((k:Int)=-1))=false:=by
 rw[e8];intro k _;simp
theorem uL {b c:Bool}:false=((b&&(false||false))||(c&&(false||false))):=by cases b<;>cases c<;>rfl
theorem ab1 {b c:Bool}:b=((b&&(true||false))||(c&&(false||false))):=by cases b<;>cases c<;>rfl
theorem ab2 {b c:Bool}:b=((b&&(false||true))||(c&&(false||false))):=by cases b<;>cases c<;>rfl
theorem ab3 {b c:Bool}:c=((b&&(false||false))||(c&&(true||false))):=by cases b<;>cases c<;>rfl
theorem ab4 {b c:Bool}:c=((b&&(false||false))||(c&&(false||true))):=by cases b<;>cases c<;>rfl
theorem X3 {J:List Nat}{b c:Bool}(h2:decide (6∈J)=b)(h5:decide (7∈J)=c)(g i:Nat):(J.any λk=>decide ((k:Int)=(mq g i).whole))=((b&&(decide (i=0)||decide (i=1)))||(c&&(decide (i=3)||decide (i=4)))) :=
 s6 (C:=λi=>(J.any λk=>decide ((k:Int)=(mq g i).whole))=((b&&(decide (i=0)||decide (i=1)))||(c&&(decide (i=3)||decide (i=4))))) ((Ek 6 rfl).trans (h2.trans ab1)) ((Ek 6 rfl).trans (h2.trans ab2)) (sh.trans uL)
  ((Ek 7 rfl).trans (h5.trans ab3)) ((Ek 7 rfl).trans (h5.trans ab4)) (sh.trans uL) (sh.trans uL) (sh.trans uL) (sh.trans uL) (sh.trans uL) (sh.trans uL) (sh.trans uL) (sh.trans uL) (sh.trans uL) (λ_=>sh.trans uL) i
theorem oG.OJ (D:oG f P W l)(T:TabAt n m Y W){i g:Nat}:((n4 (mE W (l.map (·.1)))).any λk=>decide ((k:Int)=(mq g i).whole))=(((nH (l.map (·.2))).testBit 2&&(decide (i=0)||decide (i=1)))||((nH (l.map (·.2))).testBit 5&&(decide (i=3)||decide (i=4)))) :=
 have j6:∀a,a≠8->a≠9->(a∈n4 (mE W (l.map (·.1)))↔a∈mE W (l.map (·.1))):=λa h8 h9=>⟨λh=>(Dz h).elim id λh=>(h.elim h8 h9).elim,G7⟩
 X3 (Bool.eq_iff_iff.mpr (decide_eq_true_iff.trans ((j6 6 (by decide) (by decide)).trans (D.b2 T)))) (Bool.eq_iff_iff.mpr (decide_eq_true_iff.trans ((j6 7 (by decide) (by decide)).trans (D.b5 T)))) g i
theorem L4 (T:TabAt n m Y W)(D:oG f P W l)(T':TabAt n m σ' W')(le:W.le W'){u:Nat}(hu:u<W'.rows.length)(hp:l8 W' u=uj W (mE W (l.map (·.1))))(IM:∀p o,P p o->P' p o) :
  Den f P' W' u ((l.map (·.2)).foldl both (0,[])):=by
 rw[sS];have al4:mT (nR (nH (l.map (·.2)))):=by
  have:=MJ (ks:=l.map (·.2)) λk hk=>by obtain⟨x,hx,rfl⟩:=List.mem_map.mp hk;exact D.Cu x hx
  rwa[sS] at this
 have B6:∀p r,W.rows[p]? =some r->mO W' p=n7 r:=λp r h=>by simp only[mO,le.row h]
 by_cases s_:(nH (l.map (·.2))).testBit 12=true
 ·have h0:=(D.xu T).mpr s_
  have eF:l8 W' u=[0]:=by rw[hp,uj,lW h0]
  have pV:∀i,(nR (nH (l.map (·.2)))).testBit i=decide (12=i):=λi=>by rw[xQ,nb,lW s_]
  have z6:ou (nR (nH (l.map (·.2))),(l.map (·.2)).flatMap (·.2))=[]:=by
   unfold ou;rw[lW ((wZ _).mpr (.inl (by rw[pV];rfl)))]
  refine⟨hu,λp h=>?_,λi hi hb=>?_,λo ho=>?_,?_⟩
  ·rw[eF,bH] at h;subst h;exact .inl ⟨12,by decide,by rw[pV];rfl,.inl (T'.nJ rfl)⟩
  ·have hb:(nR (nH (l.map (·.2)))).testBit i=true:=hb;rw[pV] at hb
   have:12=i:=by simpa using hb
   subst this;exact⟨0,by rw[eF];simp,.inl (T'.nJ rfl)⟩
  ·rw[z6] at ho;cases ho
  ·rw[eF];have:mO W' 0=false:=by rw[B6 0 _ (T.nJ (i:=0) rfl)];rfl
   simp[this]
 by_cases uJ:(nH (l.map (·.2))).testBit 11=true
 ·have h0:0∉mE W (l.map (·.1)):=λh=>s_ ((D.xu T).mp h)
  have h1:=(D.yG T).mpr uJ
  have eF:l8 W' u=[1]:=by rw[hp,uj,lX h0,lX (D.Rg T),lW h1]
  have pV:∀i,(nR (nH (l.map (·.2)))).testBit i=decide (11=i):=λi=>by rw[xQ,nb,lX s_,lW uJ]
  have z6:ou (nR (nH (l.map (·.2))),(l.map (·.2)).flatMap (·.2))=[]:=by
   unfold ou;rw[lW ((wZ _).mpr (.inr (by rw[pV];rfl)))]
  refine⟨hu,λp h=>?_,λi hi hb=>?_,λo ho=>?_,?_⟩
  ·rw[eF,bH] at h;subst h;exact .inl ⟨11,by decide,by rw[pV];rfl,.inl (T'.nJ rfl)⟩
  ·have hb:(nR (nH (l.map (·.2)))).testBit i=true:=hb;rw[pV] at hb
   have:11=i:=by simpa using hb
   subst this;exact⟨1,by rw[eF];simp,.inl (T'.nJ rfl)⟩
  ·rw[z6] at ho;cases ho
  ·rw[eF];have:mO W' 1=false:=by rw[B6 1 _ (T.nJ (i:=1) rfl)];rfl
   simp[this]
 have h0:0∉mE W (l.map (·.1)):=λh=>s_ ((D.xu T).mp h)
 have h1:1∉mE W (l.map (·.1)):=λh=>uJ ((D.yG T).mp h)
 have eF:l8 W' u=rV W (mE W (l.map (·.1))):=by rw[hp,uj,lX h0,lX (D.Rg T),lX h1]
 have pV:∀i,(nR (nH (l.map (·.2)))).testBit i=((nH (l.map (·.2))).testBit i&&!((nH (l.map (·.2))).testBit 2&&(decide (i=0)||decide (i=1)))&&!((nH (l.map (·.2))).testBit 5&&(decide (i=3)||decide (i=4)))):=λi=>by
  rw[xQ,nb,lX s_,lX uJ]
 have o6:∀x∈l,ou x.2=x.2.2:=λx hx=>DU
  (by cases h:x.2.1.testBit 12 with|false=>rfl|true=>exact absurd (va.mpr ⟨x.2,List.mem_map.mpr ⟨x,hx,rfl⟩,h⟩) s_)
  (by cases h:x.2.1.testBit 11 with|false=>rfl|true=>exact absurd (va.mpr ⟨x.2,List.mem_map.mpr ⟨x,hx,rfl⟩,h⟩) uJ)
 have z6:ou (nR (nH (l.map (·.2))),(l.map (·.2)).flatMap (·.2))=(l.map (·.2)).flatMap (·.2):=DU
  (by show(nR _).testBit 12=false;rw[pV];simp[s_]) (by show(nR _).testBit 11=false;rw[pV];simp[uJ])
 have kept:∀p,p∈rV W (mE W (l.map (·.1)))↔p∈n4 (mE W (l.map (·.1)))/\∃r,W.rows[p]? =some r/\tF W (n4 (mE W (l.map (·.1)))) r=true:=λp=>by
  unfold rV;rw[List.mem_filter,AW];constructor
  ·rintro⟨a,b⟩;unfold BR at b;cases h:W.rows[p]? with
   |none=>rw[h] at b;cases b
   |some r=>rw[h] at b;exact⟨a,r,rfl,b⟩
  ·rintro⟨a,r,e,b⟩;exact⟨a,by rw[← HC e];exact b⟩
 have X4:∀r:Row,r.fresh=false->tF W (n4 (mE W (l.map (·.1)))) r=!((n4 (mE W (l.map (·.1)))).any λk=>decide ((k:Int)=r.whole)):=λr hf=>by
  have:uq W r=-1:=by simp[uq,hf]
  unfold tF;rw[this,sh];rfl
 have Z5:∀i,i<14->(nR (nH (l.map (·.2)))).testBit i=true->∀g,((n4 (mE W (l.map (·.1)))).any λk=>decide ((k:Int)=(mq g i).whole))=false:=λi hi hb g=>by
  rw[D.OJ T];rw[pV] at hb;simp only[aL,bV] at hb;rw[hb.1.2,hb.2];rfl
 have OL:∀p r,p∈n4 (mE W (l.map (·.1)))->W.rows[p]? =some r->((n4 (mE W (l.map (·.1)))).any λk=>decide ((k:Int)=r.whole))=false->r.whole=r.qw.whole ->
   p∈rV W (mE W (l.map (·.1)))\/(r.fresh=true/\∃q,q∈n4 (mE W (l.map (·.1)))/\W.rows[q]? =some r.qw/\q∈rV W (mE W (l.map (·.1)))):=λp r hp hr hw hrw=>by
  by_cases ht:((n4 (mE W (l.map (·.1)))).any λk=>decide ((k:Int)=uq W r))=true
  ·right;obtain⟨q,hq,e⟩:=List.any_eq_true.mp ht;have e:=l9 e;obtain⟨hf,uM⟩:=MH e.symm;refine⟨hf,q,hq,uM,(kept q).mpr ⟨hq,_,uM,?_⟩⟩;rw[X4 _ (DT r),← hrw,hw];rfl
  ·left;refine(kept p).mpr ⟨hp,r,hr,?_⟩;simp only[ew] at ht;simp only[tF,ht,hw,Bool.not_false,i9]
 refine⟨hu,λp h=>?_,λi hi hb=>?_,λo ho=>?_,?_⟩
 ·rw[eF] at h;obtain⟨hj,r,hr,hs⟩:=(kept p).mp h;rcases D.G1 T hj with⟨i,hi,hb,ha⟩|⟨_,x,hx,o,ho,hP⟩
  ·left;refine⟨i,hi,?_,ha.mono le⟩;show(nR _).testBit i=true;rw[pV,hb];obtain⟨g,_,hg,_⟩:=ha.row;rw[hr] at hg;cases hg;simp only[tF,aL,bV] at hs;have:=hs.2;rw[D.OJ T,fg] at this;rw[this.1,this.2];rfl
  ·right;rw[z6];rw[o6 x hx] at ho;exact⟨o,List.mem_flatMap.mpr ⟨x.2,List.mem_map.mpr ⟨x,hx,rfl⟩,ho⟩,IM _ _ hP⟩
 ·have hb:(nR (nH (l.map (·.2)))).testBit i=true:=hb
  have hM:(nH (l.map (·.2))).testBit i=true:=by
   rw[pV] at hb;simp only[aL] at hb;exact hb.1.1
  obtain⟨p,F_,ha⟩:=D.F2 hi hM;obtain⟨g,_,hg,hgf⟩:=ha.row;rw[eF];rcases OL p _ (G7 F_) hg (Z5 i hi hb g) (by rw[y_];exact Un _ _ _) with h|⟨_,q,hq,uM,hk⟩
  ·exact⟨p,h,ha.mono le⟩
  ·rw[y_] at uM;exact⟨q,hk,.inl (le.row uM)⟩
 ·rw[z6] at ho;obtain⟨k,hk,ho⟩:=List.mem_flatMap.mp ho;obtain⟨x,hx,rfl⟩:=List.mem_map.mp hk;obtain⟨p,JM,hP⟩:=(D.den x hx).ones o (by rw[o6 x hx];exact ho);have F_:p∈mE W (l.map (·.1)):=Fj.mpr ⟨x,hx,JM⟩;obtain⟨r,hr,hO⟩:=D.uK _ _ hP;rw[eF];rcases OL p r (G7 F_) hr (by rw[Hj hO];exact sh) (by rw[Hj hO,Hj (Bj hO)]) with h|⟨hf,q,hq,uM,hk⟩
  ·exact⟨p,h,IM _ _ hP⟩
  ·refine⟨q,hk,IM _ _ (D.wy p q o r hP F_ hr hf uM ?_)⟩;rcases Dz hq with h|rfl|rfl
   ·exact h
   ·rw[T.nJ (i:=8) rfl] at uM;have:=Bj hO;rw[← aq uM] at this;cases this
   ·rw[T.nJ (i:=9) rfl] at uM;have:=Bj hO;rw[← aq uM] at this;cases this
 ·rw[eF];have e1:((rV W (mE W (l.map (·.1)))).filter (mO W')).length<=((n4 (mE W (l.map (·.1)))).filter (mO W')).length:=by
   refine ae ?_ (ax (SP (mO W') (n4 (mE W (l.map (·.1))))));unfold rV;exact((List.filter_sublist).filter _).length_le
  have n8:mO W' 8=false:=by rw[B6 8 _ (T.nJ (i:=8) rfl)];rfl
  have n9:mO W' 9=false:=by rw[B6 9 _ (T.nJ (i:=9) rfl)];rfl
  have e2:((n4 (mE W (l.map (·.1)))).filter (mO W')).length<=((mE W (l.map (·.1))).filter (mO W')).length:=by
   unfold n4
   split
   ·have a:=GR (mO W') (ins (mE W (l.map (·.1))) 8) 9
    have b:=GR (mO W') (mE W (l.map (·.1))) 8;simp[n8,n9] at a b;lia
   ·exact aB _
  have e3:((mE W (l.map (·.1))).filter (mO W')).length<=(((l.map (·.1)).flatMap (l8 W)).filter (mO W')).length:=by
   have:=GO (mO W') ((l.map (·.1)).flatMap (l8 W)) [];unfold mE;simpa using this
  have e4:∀l':List (Nat×Kd),(∀x∈l',x∈l)->(((l'.map (·.1)).flatMap (l8 W)).filter (mO W')).length<=((l'.map (·.2)).flatMap (·.2)).length:=by
   intro l'
   induction l' with
   |nil=>intro _;simp
   |cons x r ih =>
    intro hx;have:=ih λy hy=>hx y (aE _ hy);have hd:=D.den x (hx x (by simp));have e:(l8 W x.1).filter (mO W')=(l8 W x.1).filter (mO W):=by
     apply gv;intro p hp;obtain⟨r,hr,_⟩:=(T.wW (aQ hd.lt) p hp).ex;rw[B6 p r hr];simp only[mO,hr]
    have:=hd.cnt;simp only[a9,cX,bK,ar,e];lia
  have:=e4 l λx h=>h;exact ae e1 (ae e2 (ae e3 this))
end
theorem Hk {V:Type}[DecidableEq V]:∀{l r:List V},l.Nodup->(∀x∈l,x∈r)->l.length<=r.length
 |[],r,_,_=>by simp
 |a::l,r,hn,hs=>by
  rw[dr] at hn;have ha:=hs a (by simp);have:=Hk (l:=l) (r:=r.erase a) hn.2 λx hx=>by
   have oi:x≠a:=λe=>hn.1 (e▸hx);exact(List.mem_erase_of_ne oi).mpr (hs x (aE _ hx))
  rw[List.length_erase_of_mem ha] at this;have hp:=List.length_pos_of_mem ha;simp only[dn];lia
noncomputable def HD:List Row:=(ba 14).map (mq 0)++(ba 14).map (mq 1)
section
variable {n m:Nat}{Y:St}{W W':Wd}{f:Nat}{P P':Nat->One->Prop}{l:List (Nat×Kd)}
theorem IP (T:TabAt n m Y W)(D:oG f P W l)(hs:((l.map (·.2)).flatMap (·.2)).length<=30):(mE W (l.map (·.1))).length<=60:=by
 have hn:(mE W (l.map (·.1))).Nodup:=KD dv;have e0:(mE W (l.map (·.1))).length=((mE W (l.map (·.1))).filter (mO W)).length+((mE W (l.map (·.1))).filter (λp=>!mO W p)).length:=by
  generalize mE W (l.map (·.1))=K
  induction K with
  |nil=>rfl
  |cons a r ih=>cases h:mO W a<;>simp[h,ih]<;>lia
 have e3:((mE W (l.map (·.1))).filter (mO W)).length<=(((l.map (·.1)).flatMap (l8 W)).filter (mO W)).length:=by
  have:=GO (mO W) ((l.map (·.1)).flatMap (l8 W)) [];unfold mE;simpa using this
 have e4:∀l':List (Nat×Kd),(∀x∈l',x∈l)->(((l'.map (·.1)).flatMap (l8 W)).filter (mO W)).length<=((l'.map (·.2)).flatMap (·.2)).length:=by
  intro l'
  induction l' with
  |nil=>intro _;simp
  |cons x r ih =>
   intro hx;have:=ih λy hy=>hx y (aE _ hy);have:=(D.den x (hx x (by simp))).cnt;simp only[a9,cX,bK,ar];lia
 have e5:=e4 l λx h=>h;have e6:((mE W (l.map (·.1))).filter (λp=>!mO W p)).length<=28:=by
  have pz:∀p∈(mE W (l.map (·.1))).filter (λp=>!mO W p),W.rows[p]?∈HD.map some:=λp hp=>by
   obtain⟨hp,wz⟩:=List.mem_filter.mp hp;rcases D.F1 hp with⟨i,hi,_,ha⟩|⟨x,_,o,_,hP⟩
   ·rcases ha with h|⟨_,h⟩
    ·rw[h];exact List.mem_map.mpr ⟨_,List.mem_append.mpr (.inl (List.mem_map.mpr ⟨i,by simpa using hi,rfl⟩)),rfl⟩
    ·rw[h];exact List.mem_map.mpr ⟨_,List.mem_append.mpr (.inr (List.mem_map.mpr ⟨i,by simpa using hi,rfl⟩)),rfl⟩
   ·obtain⟨r,hr,hO⟩:=D.uK _ _ hP;simp only[mO,hr,hO] at wz;cases wz
  have hn2:(((mE W (l.map (·.1))).filter (λp=>!mO W p)).map λp=>W.rows[p]?).Nodup:=by
   rw[List.nodup_iff_pairwise_ne,List.pairwise_map];refine lr (R:=λa b=>a≠b) (λ{a b} ha hb oi e=>?_) (hn.filter _);obtain⟨r,hr⟩:∃r,W.rows[a]? =some r:=by
    obtain⟨r,_,e⟩:=List.mem_map.mp (pz a ha);exact⟨r,e.symm⟩
   exact oi (zi T.nodup hr (e▸hr))
  have:=Hk hn2 (r:=HD.map some) λx hx=>by obtain⟨p,hp,rfl⟩:=List.mem_map.mp hx;exact pz p hp
  simpa[HD] using this
 lia
theorem Ls (T:TabAt n m Y W)(D:oG f P W l)(hs:((l.map (·.2)).flatMap (·.2)).length<=30)(hl:W.rows.length+1<=900000)(v:PV)(hv:∀τ,l7 n m Y W τ W 0->ug τ v=some ((l.map (·.1)).map iv)/\oD τ (.seq v)=some ((l.map (·.1)).map iv))(k:Nat){R:PV->St->Prop}
  (h:∀(u:Nat) σ' W',l7 n m Y W σ' W' 1->W'.lU=W.lU->(∀P',(∀p o,P p o->P' p o)->Den f P' W' u ((l.map (·.2)).foldl both (0,[])))->R (iv u) σ'):WC (lY (k+3) .union [.loc n,v] Y) R:=by
 refine Lr T (l.map (·.1)) (λt ht=>by obtain⟨x,hx,rfl⟩:=List.mem_map.mp ht;exact(D.den x hx).lt) v hv hl (IP T D hs) k λu σ' W' st hb hu hp=>?_;exact h u σ' W' st hb λP' hm=>L4 T D st.tab st.le hu hp hm
theorem Hl (T:TabAt n m Y W)(D:oG f P W l)(hs:((l.map (·.2)).flatMap (·.2)).length<=30)(hl:W.rows.length+1<=900000)(v:PV)(hv:v=.tup ((l.map (·.1)).map iv)\/v=.lst ((l.map (·.1)).map iv))(k:Nat){R:PV->St->Prop}
  (h:∀(u:Nat) σ' W',l7 n m Y W σ' W' 1->W'.lU=W.lU->(∀P',(∀p o,P p o->P' p o)->Den f P' W' u ((l.map (·.2)).foldl both (0,[])))->R (iv u) σ'):WC (lY (k+3) .union [.loc n,v] Y) R :=
 Ls T D hs hl v (λτ _=>by rcases hv with rfl|rfl<;>exact⟨rfl,rfl⟩) k h
end
section
variable {n m:Nat}{Y:St}{W:Wd}{t p q:Nat}{r:Row}
theorem TabAt.aeW (T:TabAt n m Y W):ql mI Y "force" (.loc m)=some .xM:=(wY T.host).trans rfl
theorem TabAt.aeX (T:TabAt n m Y W):ql mI Y "bound" (.loc m)=some .xN:=(wY T.host).trans rfl
theorem TabAt.mLP (T:TabAt n m Y W):ql mI Y "list_prop" (.loc m)=some .xI:=(wY T.host).trans rfl
theorem TabAt.mLI (T:TabAt n m Y W):ql mI Y "list_index" (.loc m)=some .xH:=(wY T.host).trans rfl
theorem TabAt.aeY (T:TabAt n m Y W):ql mI Y "shape" (.loc m)=some .xJ:=(wY T.host).trans rfl
theorem TabAt.ahh (T:TabAt n m Y W):ql mI Y "fits" (.loc m)=some .y7:=(wY T.host).trans rfl
theorem X5 (a v:PV)(Y:St)(k:Nat):lY (k+1) .xM [a,v] Y=some (v,Y):=by
 refine nr (S7 _ _) λR hR=>?_;kd_p;exact hR _ _ rfl
theorem X6 (a v:PV)(Y:St)(k:Nat):lY (k+1) .xN [a,v] Y=some (v,Y):=by
 refine nr (S8 _ _) λR hR=>?_;kd_p;exact hR _ _ rfl
theorem X7 (a v w:PV)(Y:St)(k:Nat):lY (k+1) .xI [a,v,w] Y=some (.none,Y):=by
 refine nr (Sq _ _ _) λR hR=>?_;kd_p;exact hR _ _ rfl
theorem WB (a v:PV)(Y:St)(k:Nat):lY (k+1) .xH [a,v] Y=some (.tup [],Y):=by
 refine nr (Sn _ _) λR hR=>?_;kd_p;exact hR _ _ rfl
end
theorem aeZ {n m:Nat}{Y:St}{W:Wd}(T:TabAt n m Y W){P:PV->Prop}(q:P (.loc (n+1))):VO (oc Y "rows" (.loc n)) P:=.e T.xd q
theorem ahi {n m:Nat}{Y:St}{W:Wd}(T:TabAt n m Y W){P:PV->Prop}(q:P (.loc n)):VO (oc Y "tab" (.loc m)) P:=.e T.aiF q
theorem acs {n m:Nat}{Y:St}{W:Wd}(T:TabAt n m Y W){P:PV->Prop}(q:P (.loc (n+2))):VO (oc Y "index" (.loc n)) P:=.e T.Ii q
theorem acu {n m:Nat}{Y:St}{W:Wd}(T:TabAt n m Y W){P:PV->Prop}(q:P (.loc (n+3))):VO (oc Y "decls" (.loc n)) P:=.e T.aeT q
theorem ahj {n m:Nat}{Y:St}{W:Wd}(T:TabAt n m Y W){P:Fn->Prop}(q:P .wJ):VO (ql mI Y "put" (.loc n)) P:=.e T.Jj q
theorem acv {n m:Nat}{Y:St}{W:Wd}(T:TabAt n m Y W){P:Fn->Prop}(q:P .xM):VO (ql mI Y "force" (.loc m)) P:=.e T.aeW q
theorem acw {n m:Nat}{Y:St}{W:Wd}(T:TabAt n m Y W){P:Fn->Prop}(q:P .xN):VO (ql mI Y "bound" (.loc m)) P:=.e T.aeX q
theorem aiJ {n m:Nat}{Y:St}{W:Wd}(T:TabAt n m Y W){P:Fn->Prop}(q:P .xI):VO (ql mI Y "list_prop" (.loc m)) P:=.e T.mLP q
theorem aiK {n m:Nat}{Y:St}{W:Wd}(T:TabAt n m Y W){P:Fn->Prop}(q:P .xH):VO (ql mI Y "list_index" (.loc m)) P:=.e T.mLI q
theorem acx {n m:Nat}{Y:St}{W:Wd}(T:TabAt n m Y W){P:Fn->Prop}(q:P .xJ):VO (ql mI Y "shape" (.loc m)) P:=.e T.aeY q
theorem ae0 {n m:Nat}{Y:St}{W:Wd}(T:TabAt n m Y W){P:Fn->Prop}(q:P .y7):VO (ql mI Y "fits" (.loc m)) P:=.e T.ahh q
theorem acy {a v:PV}{Y:St}{k:Nat}{R:PV->St->Prop}(q:R v Y):WC (lY (k+1) .xM [a,v] Y) R:=md (X5 a v Y k) q
theorem acz {a v:PV}{Y:St}{k:Nat}{R:PV->St->Prop}(q:R v Y):WC (lY (k+1) .xN [a,v] Y) R:=md (X6 a v Y k) q
theorem acA {a v w:PV}{Y:St}{k:Nat}{R:PV->St->Prop}(q:R .none Y):WC (lY (k+1) .xI [a,v,w] Y) R:=md (X7 a v w Y k) q
theorem Z6 {a v:PV}{Y:St}{k:Nat}{R:PV->St->Prop}(q:R (.tup []) Y):WC (lY (k+1) .xH [a,v] Y) R:=md (WB a v Y k) q
local macro_rules |`(tactic| tb_start)=>`(tactic| first|refine acy ?_|refine acz ?_|refine acA ?_|refine Z6 ?_|(refine(?_:VO ..);first|refine aeZ (by assumption) ?_|refine ahi (by assumption) ?_|refine acs (by assumption) ?_|refine acu (by assumption) ?_|refine ahj (by assumption) ?_|refine acv (by assumption) ?_|refine acw (by assumption) ?_|refine aiJ (by assumption) ?_|refine aiK (by assumption) ?_|refine acx (by assumption) ?_|refine ae0 (by assumption) ?_))
def ta (W:Wd)(p q:Nat):Prop:=p=q\/∃d,W.rows[p]? =some (.ref (d+1))/\W.lU[d]? =some q
noncomputable def E1:Row->Bool
 |.obj .. =>true|_=>false
section
variable {n m:Nat}{Y:St}{W:Wd}{t p q:Nat}{r:Row}
structure ahk (n:Nat)(Y:St)(d b x:Nat):Prop where
 at':mA Y (iv (d+1)) (.loc (n+3))=some (.loc x)
 body:oc Y "body" (.loc x)=some (iv b)
 bases:oc Y "bases" (.loc x)=some (.tup [])
theorem TabAt.acB (T:TabAt n m Y W){d b:Nat}(h:W.lU[d]? =some b):∃x,ahk n Y d b x:=T.decl.elim λdl x =>
 have hd:d<dl.length:=x.2.1▸nf h
 have y:=x.2.2 d _ b (aQ hd) h
 ⟨dl[d],zy x.1 (Nat.succ_le_of_lt (aW (x.2.1▸hd) (ae T.size (by decide)))) (by rw[i_,cJ,aQ hd];rfl),y.2.1,y.2.2⟩
theorem acC {r:Row}(h:E1 r=true){P:Row->Prop}(k:∀a b c d e f,P (.obj a b c d e f)):P r:=by
 cases r with
 |obj a b c d e f=>exact k ..
 |_=>cases h
theorem Fl (c:Nat):ltB (c:Int) 0=false:=decide_eq_false (Int.not_lt.mpr (di c))
theorem WD (T:TabAt n m Y W)(hs:ta W p q)(hq:W.rows[q]? =some r)(hr:E1 r=true)(hp:p<=1000000)(oj:q<=1000000)(k:Nat):lY (k+1) .AJ [.loc n,iv p] Y=some (iv q,Y):=by
 have iq:=T.nD hq oj;have ik:=o3 Y r;have hk:=acC hr (P:=λr=>r.kind=8) λ_ _ _ _ _ _=>rfl;rw[hk] at ik;refine nr (Ky _ _) λR hR=>?_;kd_p;refine EP (ba 40) iv (λi:Nat×Option PV×Option PV=>[some (.loc n),some (iv i.1),i.2.1,i.2.2]) (λbs i=>(i.1=q/\bs.length<=1)\/(bs=[]/\i.1=p/\∃d,W.rows[p]? =some (.ref (d+1))/\W.lU[d]? =some q)) (p,none,none) rfl ?_ (hs.elim (λe=>.inl ⟨e,aC _⟩) λh=>.inr ⟨rfl,rfl,h⟩) (λbs a cs i e J N hN=>?_) λi J=>?_
 ·kd_p;exact⟨by decide,u9,wQ 40,rfl⟩
 ·refine J.elim (λJ=>?_) λJ=>J.2.2.elim λd' h=>(T.acB h.2).elim λx X=>?_
  ·have iq:=J.1▸iq;kd_p;refine pj (Fl _) ?_;kd_p;refine pO rfl ?_;kd_p;exact hR _ _ (lT (λn:Nat=>iv n) J.1)
  ·have ip:mA Y (iv i.1) (.loc (n+1))=some (.tup [.int 9,iv (d'+1),.tup []]):=J.2.1.symm▸T.nD h.1 hp
   have h1:=X.at'
   have h2:=X.body
   have h3:=X.bases;kd_p;refine pj (Fl _) ?_;kd_p;refine pj rfl ?_;kd_p;refine pj rfl ?_;kd_p;refine pj rfl ?_;kd_p;refine pj rfl ?_;kd_p;exact hN (q,_,_) (.inl ⟨rfl,ax (by rw[J.1];rfl)⟩)
 ·exact absurd (J.elim (λh=>h.2) λh=>h.1▸aC _) (by rw[cW];decide)
end
def nX (D:Nat->Kd->Prop):List (String×Nat×Nat)->List mj->Prop
 |[],[]=>True
 |x::xs,p::ps=>x.1=p.1/\x.2.2=p.2.2/\D x.2.1 p.2.1/\nX D xs ps
 |_,_=>False
def su (D:Nat->Kd->Prop):Option Nat->Option Kd->Prop
 |none,none=>True
 |some t,some k=>D t k
 |_,_=>False
structure uy (f:Nat)(D:Nat->Kd->Prop)(W:Wd)(p:Nat)(o:One)(q:Nat)(ps:List (String×Nat×Nat))(cs ct:List Nat)(si ni:Option Nat)(fl:Nat):Prop where
 pC:ta W p q
 row:W.rows[q]? =some (.obj ps cs ct si ni fl)
 rJ:nX D ps o.ps
 wA:su D si o.tx
 wB:su D ni o.nx
 Aj:cs=[]↔o.called≠1
 Ak:ct=[]↔o.called≠2
 yH:o.called<=2
 Rh:fl<=1
 ex:f=1->(o.how<2->p=q/\fl=o.how)/\(o.how=2->∃d,W.rows[p]? =some (.ref d))
inductive yI (f:Nat)(D:Nat->Kd->Prop)(W:Wd)(p:Nat)(o:One):Prop
 |obj (q:Nat) (ps:List (String×Nat×Nat)) (cs ct:List Nat) (si ni:Option Nat) (fl:Nat) (h:o.how<=2) (R:uy f D W p o q ps cs ct si ni fl)
 |arr (e:Nat) (k:Kd) (h:o.how=3) (r:W.rows[p]? =some (.arr e)) (tx:o.tx=some k) (d:D e k)
 |tK (e:Nat) (k:Kd) (h:o.how=4) (r:W.rows[p]? =some (.tK e)) (tx:o.tx=some k) (d:D e k)
def PF (f:Nat):Nat->Wd->Nat->One->Prop
 |0,_,_,_=>False
 |d+1,W,p,o=>yI f (Den f (PF f d W) W) W p o
theorem PF.e {f d:Nat}{W:Wd}{p:Nat}{o:One}{G:Prop}(h:PF f (d+1) W p o)(k1:∀(q:Nat) (ps:List (String×Nat×Nat)) (cs ct:List Nat) (si ni:Option Nat) (fl:Nat),o.how<=2->uy f (Den f (PF f d W) W) W p o q ps cs ct si ni fl->G)
  (k2:∀(e:Nat) (k:Kd),o.how=3->W.rows[p]? =some (.arr e)->o.tx=some k->Den f (PF f d W) W e k->G) (k3:∀(e:Nat) (k:Kd),o.how=4->W.rows[p]? =some (.tK e)->o.tx=some k->Den f (PF f d W) W e k->G):G:=yI.rec k1 k2 k3 h
theorem PF.row:∀{f d:Nat} {W:Wd} {p:Nat} {o:One},PF f d W p o->∃r,W.rows[p]? =some r/\n7 r=true
 |_,0,_,_,_,h=>h.elim
 |_,_+1,_,_,_,h=>PF.e h (λ_ _ _ _ _ _ _ _ R=>R.pC.elim (λe=>e▸⟨_,R.row,rfl⟩) λh=>h.elim λ_ h=>⟨_,h.1,rfl⟩) (λ_ _ _ r _ _=>⟨_,r,rfl⟩) λ_ _ _ r _ _=>⟨_,r,rfl⟩
theorem za {W W':Wd}(le:W.le W'){t:Nat}(h:t<W.rows.length):l8 W' t=l8 W t:=by
 unfold l8;rw[aQ h,le.row (aQ h)]
theorem Den.mono {f:Nat}{P P':Nat->One->Prop}{W W':Wd}{t:Nat}{k:Kd}(D:Den f P W t k)(le:W.le W')(hP:∀p o,P p o->P' p o)(hr:∀p o,P p o->∃r,W.rows[p]? =some r):Den f P' W' t k:=by
 have e:=za le D.lt;refine⟨aW D.lt le.len,λp hp=>?_,λi hi hb=>?_,λo ho=>?_,?_⟩
 ·rw[e] at hp;exact(D.sound p hp).imp (λ⟨i,hi,hb,ha⟩=>⟨i,hi,hb,ha.mono le⟩) λ⟨o,ho,h⟩=>⟨o,ho,hP _ _ h⟩
 ·obtain⟨p,hp,ha⟩:=D.atoms i hi hb;exact⟨p,by rw[e];exact hp,ha.mono le⟩
 ·obtain⟨p,hp,h⟩:=D.ones o ho;exact⟨p,by rw[e];exact hp,hP _ _ h⟩
 ·rw[e];have:(l8 W t).filter (mO W')=(l8 W t).filter (mO W):=by
   apply gv;intro p hp;obtain⟨r,pz⟩:∃r,W.rows[p]? =some r:=by
    rcases D.sound p hp with⟨i,_,_,ha⟩|⟨o,_,h⟩
    ·obtain⟨g,_,h,_⟩:=ha.row;exact⟨_,h⟩
    ·exact hr _ _ h
   simp only[mO,pz,le.row pz]
  rw[this];exact D.cnt
theorem nX.mono {D D':Nat->Kd->Prop}(h:∀t k,D t k->D' t k):∀{xs:List (String×Nat×Nat)} {ps:List mj},nX D xs ps->nX D' xs ps
 |[],[],_=>trivial
 |_::_,_::_,x=>⟨x.1,x.2.1,h _ _ x.2.2.1,nX.mono h x.2.2.2⟩
theorem su.mono {D D':Nat->Kd->Prop}(h:∀t k,D t k->D' t k):∀{a:Option Nat} {b:Option Kd},su D a b->su D' a b
 |none,none,_=>trivial
 |some _,some _,x=>h _ _ x
theorem ta.mono {W W':Wd}{p q:Nat}(h:ta W p q)(le:W.le W'):ta W' p q:=h.imp id λ⟨d,a,b⟩=>⟨d,le.row a,le.bod b⟩
theorem uy.mono {f:Nat}{D D':Nat->Kd->Prop}{W W':Wd}{p q:Nat}{o:One}{ps:List (String×Nat×Nat)}{cs ct:List Nat}{si ni:Option Nat}{fl:Nat}(R:uy f D W p o q ps cs ct si ni fl)(le:W.le W')(h:∀t k,D t k->D' t k):uy f D' W' p o q ps cs ct si ni fl :=
 ⟨R.pC.mono le,le.row R.row,R.rJ.mono h,R.wA.mono h,R.wB.mono h,R.Aj,R.Ak,R.yH,R.Rh,λe=>⟨(R.ex e).1,λh=>((R.ex e).2 h).elim λd x=>⟨d,le.row x⟩⟩⟩
theorem PF.mono {f:Nat}{W W':Wd}(le:W.le W'):∀{d p:Nat} {o:One},PF f d W p o->PF f d W' p o
 |0,_,_,h=>h.elim
 |d+1,p,o,h =>
  have hD:∀t k,Den f (PF f d W) W t k->Den f (PF f d W') W' t k:=λt k D=>D.mono le (λp o h=>PF.mono le h) λp o h=>h.row.elim λr h=>⟨r,h.1⟩
  PF.e h (λq ps cs ct si ni fl h R=>yI.obj q ps cs ct si ni fl h (R.mono le hD)) (λe k h r tx d=>yI.arr e k h (le.row r) tx (hD _ _ d)) λe k h r tx d=>yI.tK e k h (le.row r) tx (hD _ _ d)
theorem Den.up {f d:Nat}{W W':Wd}{t:Nat}{k:Kd}(D:Den f (PF f d W) W t k)(le:W.le W'):Den f (PF f d W') W' t k:=D.mono le (λ_ _ h=>h.mono le) λp o h=>h.row.elim λr h=>⟨r,h.1⟩
theorem H0 {l:List Row}{p:Nat}{r r':Row}(h:l[p]? =some r)(h':l[p]? =some r')(hf:r.fresh=true)(hn:r'.fresh=false){G:Prop}:G:=absurd (hn.symm.trans (aq (h'.symm.trans h)▸hf)) (by decide)
theorem PF.twin:∀{d:Nat} {W:Wd} {p q:Nat} {o:One} {r:Row},PF 0 d W p o->W.rows[p]? =some r->r.fresh=true->W.rows[q]? =some r.qw->PF 0 d W q o
 |0,_,_,_,_,_,h,_,_,_=>h.elim
 |_+1,_,_,q,_,_,h,hp,hf,hq=>PF.e h (λ_ ps cs ct si ni _ hw R=>R.pC.elim (λe=>yI.obj q ps cs ct si ni 0 hw ⟨.inl rfl,by
   have:=aq (hp.symm.trans (e▸R.row));rw[this] at hq;exact hq,R.rJ,R.wA,R.wB,R.Aj,R.Ak,R.yH,aC _,λe=>nomatch e⟩) λh=>h.elim λ_ h=>H0 hp h.1 hf rfl) (λ_ _ _ h1 _ _=>H0 hp h1 hf rfl) λ_ _ _ h1 _ _=>H0 hp h1 hf rfl
noncomputable def tN:Option (String×Nat×Nat)->PV
 |none=>.none
 |some x=>nj x
theorem ae1 {x:Option (String×Nat×Nat)}{A B:Prop}(h1:x=none->A)(h2:∀y,x=some y->B):oJ (.bool (decide (tN x=.none))) A B:=by
 cases x with
 |none=>exact qC (h1 rfl)
 |some y=>exact nF (h2 y rfl)
theorem Bk (Y:St)(x:String×Nat×Nat):mA Y (.int 0) (nj x)=some (.str x.1):=ui _ _ _
theorem NI (Y:St)(x:String×Nat×Nat):mA Y (.int 1) (nj x)=some (iv x.2.1):=qY _ _ _ _
theorem ED (Y:St)(x:String×Nat×Nat):mA Y (.int 2) (nj x)=some (iv x.2.2):=Ou _ _ _ _ _
theorem acD (Y:St)(x:String×Nat×Nat):mA Y (.int 3) (nj x)=some (.int 0):=Ov _ _ _ _ _ _
section
variable {n m:Nat}{Y:St}{W:Wd}{t p q:Nat}{r:Row}
theorem wM (T:TabAt n m Y W)(hs:ta W p q)(hq:W.rows[q]? =some r)(hr:E1 r=true)(hp:p<=1000000)(oj:q<=1000000)(k:Nat):lY (k+2) .xJ [.loc m,iv p] Y=some (iv q,Y):=by
 refine nr (Ku _ _) λR hR=>?_;kd_p;refine md (WD T hs hq hr hp oj _) ?_;kd_p;exact hR _ _ rfl
theorem OM {ps:List (String×Nat×Nat)}{name:String}{x:Option (String×Nat×Nat)}(h:ps.find? (λx=>decide (x.1=name))=x):tN x=tN (ps.find? λx=>decide (x.1=name)):=lT tN h.symm
theorem MK (ps:List (String×Nat×Nat))(cs ct:List Nat)(si ni:Option Nat)(fl:Nat)(name:String)(Y:St)(k:Nat):lY (k+1) .DH [(Row.obj ps cs ct si ni fl).pv,.str name] Y=some (tN (ps.find? λx=>decide (x.1=name)),Y):=by
 have i1:mA Y (.int 1) (Row.obj ps cs ct si ni fl).pv=some (.tup (ps.map nj)):=qY _ _ _ _;refine nr (TA _ _) λR hR=>?_;kd_p;refine vS ps nj (λx=>[some (Row.obj ps cs ct si ni fl).pv,some (.str name),x]) (λx=>decide (x.1=name)) none rfl ?_ (λa i ha hf N hN=>?_) λhf i=>?_
 ·refine(?_:VO _ _);refine .e i1 ?_;kd_p;exact SI.t rfl
 ·have i0:=Bk Y a;kd_p;refine nh (λh=>?_) λh=>?_
  ·kd_p;exact hR _ _ (OM (hf h))
  ·kd_p;exact hN _ h
 ·kd_p;exact hR _ _ (OM hf)
theorem IS {x:Option (String×Nat×Nat)}{y:String×Nat×Nat}{k v:PV}(e:x=some y)(h:mA Y k (nj y)=some v):mA Y k (tN x)=some v:=e▸h
theorem ahl {ps:List (String×Nat×Nat)}{name:String}{x:String×Nat×Nat}(h:ps.find? (λx=>decide (x.1=name))=some x):PV.tup [.str name,iv x.2.1,iv x.2.2,.int 0]=tN (ps.find? λx=>decide (x.1=name)):=by
 rw[h,← l9 (cH (p:=λx:String×Nat×Nat=>decide (x.1=name)) h)];rfl
structure yq (W:Wd)(p:Nat)(r:Row):Prop where
 at':W.rows[p]? =some r
 kind:r.kind=8\/r.kind=9
 n7:n7 r=true
theorem ta.row {ps:List (String×Nat×Nat)}{cs ct:List Nat}{si ni:Option Nat}{fl:Nat}(hs:ta W p q)(hq:W.rows[q]? =some (.obj ps cs ct si ni fl)):∃r,yq W p r:=hs.elim (λe=>e▸⟨_,hq,.inl rfl,rfl⟩) λh=>h.elim λd h=>⟨_,h.1,.inr rfl,rfl⟩
theorem yq.no {r:Row}(x:yq W p r)(a:Nat)(h8:8≠a)(h9:9≠a):decide ((r.kind:Int)=(a:Int))=false:=decide_eq_false λe=>x.kind.elim (λh=>h8 (h.symm.trans (q6.mp e))) λh=>h9 (h.symm.trans (q6.mp e))
theorem HE (T:TabAt n m Y W){ps:List (String×Nat×Nat)}{cs ct:List Nat}{si ni:Option Nat}{fl:Nat}(hs:ta W p q)(hq:W.rows[q]? =some (.obj ps cs ct si ni fl))(hp:p<=1000000)(oj:q<=1000000)(name:String)(k:Nat) :
  lY (k+3) .vQ [.loc m,iv p,.str name] Y=some (tN (ps.find? λx=>decide (x.1=name)),Y):=by
 refine(hs.row hq).elim λrp x=>?_;have ip:=T.nD x.at' hp;have iq:=T.nD hq oj;have ik:=o3 Y rp;refine nr (GU _ _ _) λR hR=>?_;kd_p;refine mD (qe (x.no 11 (by decide) (by decide)) (x.no 12 (by decide) (by decide))) (nF ?_);kd_p;refine md (wM T hs hq rfl hp oj _) ?_;kd_p;refine md (MK _ _ _ _ _ _ _ _ _) ?_;kd_p;refine ae1 (λhf=>?_) λx hf=>?_
 ·kd_p;exact hR _ _ (hf▸rfl)
 ·have i1:=IS (Y:=Y) hf (NI Y x)
  have i2:=IS (Y:=Y) hf (ED Y x)
  have i3:=IS (Y:=Y) hf (acD Y x);kd_p;exact hR _ _ (ahl hf)
theorem GY (T:TabAt n m Y W)(pz:W.rows[p]? =some r)(hk:r.kind=11\/r.kind=12)(hp:p<=1000000)(name:PV)(k:Nat):lY (k+3) .vQ [.loc m,iv p,name] Y=some (.none,Y):=by
 have ip:=T.nD pz hp;have ik:=o3 Y r;refine nr (GU _ _ _) λR hR=>?_;kd_p;refine mD (b:=true) (hk.elim (λh=>by rw[h];rfl) λh=>by rw[h];rfl) (qC ?_);kd_p;refine pO rfl ?_;kd_p;exact hR _ _ rfl
theorem Df (name:String)(h:name="0"\/name="p"\/name="q"\/name="r")(Y:St)(k:Nat):lY (k+2) .AE [.str name] Y=some (.bool (decide (name="0")),Y):=by
 rcases h with rfl|rfl|rfl|rfl<;>with_unfolding_all rfl
end
noncomputable def B7 (m:Nat):Bool:=d8 m (2^14)&&ao (nR m) m
theorem Fm {m:Nat}(h:B7 m=true):mT m:=El.nL h λh1 h2=>⟨a8 h1,gw h2⟩
theorem Bl {i:Nat}(h:i<14):mT (2^i):=Fm ((by decide:∀i<14,B7 (2^i)=true) i h)
def TK (z:Bool)(d:Nat)(k:Kd):Prop:=mT k.1/\k.2.length<=2/\∀o∈k.2,mJ z d o
theorem wR {m:Nat}(h:m∈vd):mT m:=Fm ((by decide:∀m∈vd,B7 m=true) m h)
theorem DV {m:Nat}(h:m∈vW):mT m:=Fm ((by decide:∀m∈vW,B7 m=true) m h)
theorem TK.atom {z:Bool}{d m:Nat}(h:mT m):TK z d (m,[]):=⟨h,aC _,λ_ h=>nomatch h⟩
theorem A7 {z:Bool}{d:Nat}{k:Kd}(h:xc (mJ z d) k):TK z d k:=h.elim (λh=>h.elim λm h=>h.2▸.atom (DV h.1)) λh=>h.elim λos h=>h.1▸⟨⟨(by decide:(0:Nat)<2^14),(by decide:nR 0=0)⟩,h.2.2.1,h.2.2.2⟩
theorem X8 {a b:Kd}(ha:mT a.1)(hb:mT b.1):mT (both a b).1:=⟨NH (i7 ha.lt hb.lt),Hi _⟩
theorem H2 {z:Bool}{d:Nat}{p:mj}(h:Jh z d p):TK z d p.2.1:=h.2.elim (λh=>h.2.elim λm h=>h.2▸.atom (wR h.1)) λh=>A7 h.2
theorem TK.undef {z:Bool}{d:Nat}{k:Kd}(h:TK z d k):TK z d (both k (512,[])):=⟨X8 h.1 (Bl (i:=9) (by decide)),by rw[both,bc];exact h.2.1,by rw[both,bc];exact h.2.2⟩
theorem tW.tk {z:Bool}{d:Nat}{l:List Nat}{x:Option Kd}{g:Kd}(h:tW l x)(e:x=some g)(hl:∀m∈l,mT m):TK z d g:=h.elim (λh=>by rw[h] at e;cases e) λh=>h.elim λm h=>by rw[h.2] at e;cases e;exact .atom (hl m h.1)
theorem E2 {o:One}{n:String}{g:Kd}(e:m3 o n=some g){G:Prop}(k1:∀p∈o.ps,p.1=n->(p.2.2&&&1≠0->g=both p.2.1 (512,[]))->(p.2.2&&&1=0->g=p.2.1)->G)(k2:n="0"->o.nx=some g->G)(k3:¬o.how=3->o.tx=some g->G):G:=by
 rw[A5] at e;cases h:o.ps.find? λp=>decide (p.1=n)&&!decide ((o.how:Int)=3) with
 |some p =>
  rw[h] at e;refine k1 p (cU h) (El.nL (cH (p:=λp:mj=>decide (p.1=n)&&!decide ((o.how:Int)=3)) h) λa _=>l9 a) (λh=>?_) λh=>?_
  ·exact(aq e).symm.trans (lW h)
  ·exact(aq e).symm.trans (lX (not_not_intro h))
 |none =>
  rw[h] at e;dsimp only at e;by_cases h0:n="0"/\o.nx.isSome
  ·rw[lW h0] at e;exact k2 h0.1 e
  ·rw[lX h0] at e;by_cases h3:o.how=3
   ·rw[lW h3] at e;cases e
   ·rw[lX h3] at e;exact k3 h3 e
theorem vU {z:Bool}{d:Nat}{o:One}(h:mJ z (d+1) o){n:String}{g:Kd}(e:m3 o n=some g):TK z d g :=
 h.elim (λh=>h.2.elim λkd h=>E2 e (by rw[h.2];exactλ_ h=>nomatch h) (by rw[h.2];exactλ_ h=>nomatch h) λh3=>absurd (by rw[h.2];rfl) h3)
  λh=>E2 e (λp hm _ h1 h0=>if hf:p.2.2&&&1=0 then h0 hf▸H2 (h.2.2.2.1 p hm) else h1 hf▸(H2 (h.2.2.2.1 p hm)).undef) (λ_ e=>tW.tk h.2.2.2.2.2 e λ_=>wR) λ_ e=>tW.tk h.2.2.2.2.1 e λ_=>DV
theorem acE {z:Bool}{d:Nat}{o:One}(h:mJ z (d+1) o){g:Kd}(e:ry o=some g):TK z d g :=
 h.elim (λh=>h.2.elim λkd h=>by rw[h.2] at e;exact aq e▸A7 h.1) λh=>by
  unfold ry at e;by_cases h3:o.how=3\/o.nx.isNone
  ·rw[lW h3] at e;exact tW.tk h.2.2.2.2.1 e λ_=>DV
  ·rw[lX h3] at e;exact tW.tk h.2.2.2.2.2 e λ_=>wR
theorem X9 {g:Kd}(h:mT g.1):both (0,[]) g=g:=by rw[both,Nat.zero_or,h.Ct];rfl
theorem DA {z:Bool}{n:String}(h:n∈namesOf z):n="0"\/n="p"\/n="q"\/n="r":=by
 cases z with
 |true=>exact(by decide:∀n∈["0","p","q"],n="0"\/n="p"\/n="q"\/n="r") n h
 |false=>exact(by decide:∀n∈["p","q","r"],n="0"\/n="p"\/n="q"\/n="r") n h
section
variable {n m:Nat}{Y:St}{W W':Wd}{t p q:Nat}{r:Row}{d:Nat}{f:Nat}{P:Nat->One->Prop}
theorem zm {m:Nat}{o:One}(h:o∈ou (m,[])){G:Prop}:G:=nomatch tA h
theorem acF {W:Wd}{p:Nat}{r:Row}(hp:l8 W p=[p])(hr:W.rows[p]? =some r)(ho:n7 r=false):((l8 W p).filter (mO W)).length=0:=by
 have:mO W p=false:=by rw[mO,hr];exact ho
 rw[hp,d9 (by rw[this];decide)];rfl
theorem zo (h2:p≠2){i g:Nat}(hi:i<14)(hr:W.rows[p]? =some (mq g i))(hg:g=0\/(g=1/\f=1)):Den f P W p (2^i,[]) :=
 have hp:l8 W p=[p]:=vT h2 hr (AF _ _)
 have ha:AR f W p i:=hg.elim (λe=>.inl (e▸hr)) λe=>.inr ⟨e.2,e.1▸hr⟩
 ⟨nf hr,λx hx=>.inl ⟨i,hi,gx,List.mem_singleton.mp (hp▸hx)▸ha⟩,λj _ hb=>⟨p,hp▸List.mem_singleton.mpr rfl,l9 (dw▸hb)▸ha⟩,λo ho=>zm ho,ax (acF hp hr (wL _ _))⟩
theorem Ik {l:List (Nat×Kd)}(h:∀x∈l,Den 0 (PF 0 d W) W x.1 x.2)(hm:∀x∈l,mT x.2.1):oG 0 (PF 0 d W) W l :=
 ⟨h,hm,λp o h=>h.row,λp q o r hP _ hr hf hq _=>hP.twin hr hf hq⟩
theorem TabAt.undef (T:TabAt n m Y W):Den f P W 4 (512,[]):=zo (g:=0) (i:=9) (by decide) (by decide) (T.nJ rfl) (.inl rfl)
theorem w6 {V:Type}{a b:V}{P:V->Prop}(ha:P a)(hb:P b):∀x∈[a,b],P x:=List.forall_mem_cons.mpr ⟨ha,List.forall_mem_cons.mpr ⟨hb,λ_ h=>nomatch h⟩⟩
theorem Z7 (T:TabAt n m Y W){g:Kd}(D:Den 0 (PF 0 d W) W t g)(hg:mT g.1)(xp:g.2.length<=20)(hl:W.rows.length+1<=900000)(k:Nat){R:PV->St->Prop}
  (h:∀(u:Nat) σ' W',l7 n m Y W σ' W' 1->W'.lU=W.lU->Den 0 (PF 0 d W') W' u (both g (512,[]))->R (iv u) σ'):WC (lY (k+4) .zg [.loc n,iv t] Y) R:=by
 have DL:oG 0 (PF 0 d W) W [(t,g),(4,(512,[]))]:=Ik (w6 D T.undef) (w6 hg (Bl (i:=9) (by decide)));refine nS (Tw _ _) λR' hR=>?_;kd_p;refine Hl T DL (ae (ax (lT bG (bc g.2))) (ae xp (by decide))) hl _ (.inl rfl) k λu σ' W' st hb hD=>?_;kd_p;refine hR _ _ _ (h u σ' W' st hb ?_)
 have:=hD (PF 0 d W') (λp o h=>h.mono st.le);rw[← X9 hg];exact this
inductive v8 (D:Nat->Kd->Prop):Option (String×Nat×Nat)->Option mj->Prop
 |no:v8 D none none
 |yes (x:String×Nat×Nat) (p:mj) (h1:x.1=p.1) (h2:x.2.2=p.2.2) (h3:D x.2.1 p.2.1):v8 D (some x) (some p)
theorem nX.find {D:Nat->Kd->Prop}(name:String):∀{xs:List (String×Nat×Nat)} {ps:List mj},nX D xs ps->v8 D (xs.find? λx=>decide (x.1=name)) (ps.find? λp=>decide (p.1=name))
 |[],[],_=>.no
 |x::xs,p::ps,h=>if e:p.1=name then by
   rw[cE (p:=λx:String×Nat×Nat=>decide (x.1=name)) (mY (h.1.trans e)),cE (p:=λp:mj=>decide (p.1=name)) (mY e)];exact .yes x p h.1 h.2.1 h.2.2.1
  else by
   rw[cF (p:=λx:String×Nat×Nat=>decide (x.1=name)) (λh'=>e (h.1.symm.trans (l9 h'))),cF (p:=λp:mj=>decide (p.1=name)) (λh'=>e (l9 h'))];exact nX.find name h.2.2.2
end
theorem BS (ps:List (String×Nat×Nat))(cs ct:List Nat)(si ni:Option Nat)(fl:Nat):(Row.obj ps cs ct si ni fl).pv=.tup [.int 8,.tup (ps.map nj),.tup (cs.map iv),.tup (ct.map iv),pq si,pq ni,iv fl]:=rfl
section
variable {n m:Nat}{Y:St}{W W':Wd}{t p q:Nat}{r:Row}{d:Nat}{f:Nat}{P:Nat->One->Prop}{o:One}{z:Bool}{name:String}
theorem A8 (c:Option Nat)(Y:St):oW Y .NotEq (pq c) (.tup [])=some c.isSome:=by cases c<;>rfl
theorem A9 (c:Option Nat)(Y:St):oW Y .Eq (pq c) (.tup [])=some c.isNone:=by cases c<;>rfl
noncomputable def intOf:Option Nat->PV
 |none=>.int (-1)
 |some t=>iv t
theorem su.some {D:Nat->Kd->Prop}{a:Option Nat}{b:Option Kd}(h:su D a b):a.isSome=b.isSome:=by cases a<;>cases b<;>first|rfl|exact h.elim
def rk (D:Nat->Kd->Prop)(v:PV):Option Kd->Prop
 |none=>v=.int (-1)
 |some g=>∃u,v=iv u/\D u g
theorem ML (ni si:Option Nat){name:String}{b:Bool}(h:(decide (name="0")&&ni.isSome)=b):(if name="0"/\ni.isSome then ni else si)=bif b then ni else si:=by
 subst h;by_cases h:name="0"/\ni.isSome
 ·rw[lW h,mY h.1,h.2];rfl
 ·rw[lX h,← Bool.decide_coe ni.isSome,← ec,decide_eq_false h];rfl
theorem su.ty {D:Nat->Kd->Prop}:∀{a:Option Nat} {b:Option Kd},su D a b->rk D (intOf a) b
 |none,none,_=>rfl
 |ja a,ja _,h=>⟨a,rfl,h⟩
theorem ae2 {V:Type}{x:Option V}{b:Bool}(h:(b&&x.isSome)=true){G:Prop}(k:∀y,x=some y->G):G:=El.nL h λ_ h=>match x,h with|some y,_=>k y rfl
theorem zL {c:Option Nat}{e:Nat}(h:c=some e)(Y:St):mA Y (.int 0) (pq c)=some (iv e):=h▸ui _ _ _
theorem A_ {c:Option Nat}{A B:Prop}(h1:c=none->A)(h2:∀e,c=some e->B):oJ (.bool c.isNone) A B:=match c,h1,h2 with
 |none,h1,_=>qC (h1 rfl)
 |some e,_,h2=>nF (h2 e rfl)
theorem X_ (T:TabAt n m Y W){ps:List (String×Nat×Nat)}{cs ct:List Nat}{si ni:Option Nat}{fl:Nat}(hs:ta W p q)(hq:W.rows[q]? =some (.obj ps cs ct si ni fl))(hp:p<=1000000)(oj:q<=1000000)(hn:name="0"\/name="p"\/name="q"\/name="r")(k:Nat) :
  lY (k+3) .AM [.loc m,iv p,.str name] Y=some (intOf (if name="0"/\ni.isSome then ni else si),Y):=by
 refine(hs.row hq).elim λrp x=>?_;have ip:=T.nD x.at' hp;have iq:=T.nD hq oj;rw[BS] at iq;have ik:=o3 Y rp;have cne:=A8 ni Y;have ceq:=A9 si Y;refine nr (KA _ _ _) λR hR=>?_;kd_p;refine mD (qe (x.no 11 (by decide) (by decide)) (x.no 12 (by decide) (by decide))) (nF ?_);kd_p;refine md (wM T hs hq rfl hp oj _) ?_;kd_p
 ·refine md (Df name hn _ _) ?_;kd_p
 refine nh (λh=>?_) λh=>?_
 ·refine ae2 h λe he=>?_;have hi:=zL he Y;kd_p;exact hR _ _ ((lT intOf he).symm.trans (lT intOf (ML ni si h)).symm)
 ·have hd:=lT intOf (ML ni si h).symm;kd_p;refine A_ (λe=>?_) λe he=>?_
  ·kd_p;exact hR _ _ ((lT intOf e).symm.trans hd)
  ·have hi:=zL he Y;kd_p;exact hR _ _ ((lT intOf he).symm.trans hd)
theorem Em {z:Bool}{d:Nat}{o:One}(h:mJ z (d+1) o){p:mj}(hm:p∈o.ps):TK z d p.2.1:=h.elim (λh=>h.2.elim λkd h=>by rw[h.2] at hm;cases hm) λh=>H2 (h.2.2.2.1 p hm)
theorem TabAt.vi (T:TabAt n m Y W){i:Nat}{r r':Row}(h:pP[i]? =some r')(hr:W.rows[p]? =some r)(oi:r≠r'):p≠i:=λe=>oi (aq ((e▸hr).symm.trans (T.nJ h)))
theorem zM {r:Row}(h:n7 r=true)(s:String):r≠.key s:=λe=>by subst e;cases h
theorem ae3 (hw:o.how≠3){pr:mj}(h:o.ps.find? (λp=>decide (p.1=name))=some pr):m3 o name=some (if pr.2.2&&&1≠0 then both pr.2.1 (512,[]) else pr.2.1):=by rw[m3,lX hw,h]
theorem acG (hw:o.how≠3)(h:o.ps.find? (λp=>decide (p.1=name))=none):m3 o name=if name="0"/\o.nx.isSome then o.nx else o.tx:=by rw[m3,lX hw,h];dsimp only;rw[lX hw]
theorem rk.cells {D:Nat->Kd->Prop}{ni si:Option Nat}{nx tx:Option Kd}(hn:su D ni nx)(hs:su D si tx):rk D (intOf (if name="0"/\ni.isSome then ni else si)) (if name="0"/\nx.isSome then nx else tx):=by
 rw[hn.some];by_cases h:name="0"/\nx.isSome
 ·rw[lW h,lW h];exact hn.ty
 ·rw[lX h,lX h];exact hs.ty
theorem pZ {i l:Nat}(h:i<l)(hl:l+1<=900000):i<=1000000:=ae (aS h) (ae (bE hl) (by decide))
theorem Yb (T:TabAt n m Y W){x:String×Nat×Nat}{pr:mj}(h4:x.2.2=pr.2.2)(h5:Den 0 (PF 0 d W) W x.2.1 pr.2.1)(hT:TK z d pr.2.1)(hl:W.rows.length+1<=900000)(k:Nat){R:PV->St->Prop}
  (h:∀v σ' W',l7 n m Y W σ' W' 1->W'.lU=W.lU->rk (Den 0 (PF 0 d W') W') v (some (if pr.2.2&&&1≠0 then both pr.2.1 (512,[]) else pr.2.1))->R v σ'):WC (lY (k+5) .DI [.loc n,nj x] Y) R:=by
 have i2:=ED Y x
 have i1:=NI Y x;refine nS (TB _ _) λR' hR=>?_;kd_p;rw[h4];refine uk (λh6=>?_) λh6=>?_
 ·rw[lW h6] at h;kd_p;refine Z7 T h5 hT.1 (ae hT.2.1 (by decide)) hl _ λu σ' W' st hb hD=>?_;kd_p;exact hR _ _ _ (h _ σ' W' st hb ⟨u,rfl,hD⟩)
 ·rw[lX (not_not_intro h6)] at h;kd_p;exact hR _ _ _ (h _ Y W ((l7.refl T).weaken (aC _)) rfl ⟨_,rfl,h5⟩)
theorem ae4 {x:Option (String×Nat×Nat)}{A B:Prop}(h1:∀y,x=some y->A)(h2:x=none->B):oJ (.bool (!decide (tN x=.none))) A B:=by
 cases x with
 |none=>exact nF (h2 rfl)
 |some y=>exact qC (h1 y rfl)
theorem vX {a b:Nat}(h:a≠b):decide ((a:Int)=(b:Int))=false:=decide_eq_false λe=>h (q6.mp e)
theorem ne_self (a:Nat):(!decide ((a:Int)=(a:Int)))=false:=by rw[mY rfl];rfl
theorem v8.aiL {D:Nat->Kd->Prop}{b:Option mj}(h:v8 D none b):b=none:=by cases h;rfl
theorem v8.ahm {D:Nat->Kd->Prop}{x:String×Nat×Nat}{b:Option mj}(h:v8 D (some x) b){G:Prop}(k:∀p,b=some p->x.2.2=p.2.2->D x.2.1 p.2.1->G):G:=by cases h with|yes _ p h1 h2 h3=>exact k p rfl h2 h3
theorem acH {O:oh Fn}{f:Fn}{x v w:PV}{Y:St}{R:PV->St->Prop}(e:v=w)(h:WC (O f [x,w] Y) R):WC (O f [x,v] Y) R:=e▸h
theorem Uo (T:TabAt n m Y W){q:Nat}{ps:List (String×Nat×Nat)}{cs ct:List Nat}{si ni:Option Nat}{fl:Nat}(R0:uy 0 (Den 0 (PF 0 d W) W) W p o q ps cs ct si ni fl)(hw:o.how≠3)(hA:mJ z (d+1) o)(hn:name∈namesOf z)(hl:W.rows.length+1<=900000)(k:Nat){R:PV->St->Prop}
  (h:∀v σ' W',l7 n m Y W σ' W' 1->W'.lU=W.lU->rk (Den 0 (PF 0 d W') W') v (m3 o name)->R v σ'):WC (lY (k+6) .tp [.loc m,iv p,.str name] Y) R:=by
 refine(R0.pC.row R0.row).elim λrp x=>?_;have hp:=pZ (nf x.at') hl;have oj:=pZ (nf R0.row) hl;refine nS (KH _ _ _) λR' hR=>?_;kd_p;refine mD (qe (vX (T.vi (i:=0) rfl x.at' (zM x.n7 _))) (vX (T.vi (i:=13) rfl x.at' (zM x.n7 _)))) (nF ?_);kd_p;refine md (Ei T x.at' hp _) ?_;refine pj (x.no 6 (by decide) (by decide)) ?_;kd_p;refine mD (b:=false&&ltB 0 60) (v7 (ne_self p) rfl) (nF ?_);kd_p;refine md (HE T R0.pC R0.row hp oj name _) ?_;kd_p;refine ae4 (λy hy=>?_) λhy=>?_
 ·have hf:=R0.rJ.find name;rw[hy] at hf;kd_p;refine hf.ahm λpr h2 h4 h5=>?_;refine acH (lT tN hy) ?_;refine Yb T h4 h5 (Em hA (cU h2)) hl k λv σ' W' st hb hv=>?_;kd_p;exact hR _ _ _ (h v σ' W' st hb (ae3 hw h2▸hv))
 ·have hf:=R0.rJ.find name;rw[hy] at hf;kd_p;refine md (X_ T R0.pC R0.row hp oj (DA hn) _) ?_;kd_p;exact hR _ _ _ (h _ Y W ((l7.refl T).weaken (aC _)) rfl (acG hw (hf.aiL)▸rk.cells R0.wB R0.wA))
end
section
variable {n m:Nat}{Y:St}{W W':Wd}{t p q:Nat}{r:Row}{d:Nat}{f:Nat}{P:Nat->One->Prop}{o:One}{z:Bool}{name:String}
theorem Pq {name:String}{b:Bool}(h:decide (name="0")=b){x y:PV}:(if name="0" then x else y)=bif b then x else y:=by
 subst h;by_cases h:name="0"
 ·rw[lW h,mY h];rfl
 ·rw[lX h,decide_eq_false h];rfl
theorem Yc (T:TabAt n m Y W){e:Nat}(hn:name="0"\/name="p"\/name="q"\/name="r")(k:Nat):lY (k+4) .DJ [.loc m,(Row.arr e).pv,.str name] Y=some (if name="0" then iv e else .int (-1),Y):=by
 have i0:mA Y (.int 0) (Row.arr e).pv=some (.int 11):=ui _ _ _;have i1:mA Y (.int 1) (Row.arr e).pv=some (iv e):=qY _ _ _ _;refine nr (TC _ _ _) λR hR=>?_;kd_p;refine pO rfl ?_;kd_p;refine md (Df name hn _ _) ?_;kd_p;refine nh (λh=>?_) λh=>?_
 ·kd_p;exact hR _ _ (Pq h).symm
 ·kd_p;exact hR _ _ (Pq h).symm
theorem KS (T:TabAt n m Y W){e:Nat}(hr:W.rows[p]? =some (.arr e))(hp:p<=1000000)(hn:name="0"\/name="p"\/name="q"\/name="r")(k:Nat) :
  lY (k+6) .tp [.loc m,iv p,.str name] Y=some (if name="0" then iv e else .int (-1),Y):=by
 have ip:=T.nD hr hp
 have i0:mA Y (.int 0) (Row.arr e).pv=some (.int 11):=ui _ _ _
 have ahn:lY (k+5) .AM [.loc m,iv p,.str name] Y=some (if name="0" then iv e else .int (-1),Y):=by
  refine nr (KA _ _ _) λR hR=>?_;kd_p;refine pO rfl ?_;kd_p;refine md (Yc T hn k) ?_;kd_p;by_cases h:name="0"
  ·rw[lW h] at hR⊢;refine pj (Fl e) ?_;kd_p;exact hR _ _ rfl
  ·rw[lX h] at hR⊢;refine pO rfl ?_;kd_p;exact hR _ _ rfl
 refine nr (KH _ _ _) λR hR=>?_;kd_p;refine mD (qe (vX (T.vi (i:=0) rfl hr nofun)) (vX (T.vi (i:=13) rfl hr nofun))) (nF ?_);kd_p;refine md (Ei T hr hp _) ?_;kd_p;refine pj rfl ?_;kd_p;refine mD (b:=false&&ltB 0 60) (v7 (ne_self p) rfl) (nF ?_);kd_p;refine md (GY T hr (.inl rfl) hp _ _) ?_;kd_p;refine pj rfl ?_;kd_p;refine md ahn ?_;kd_p;exact hR _ _ rfl
theorem Qo (h:mJ z (d+1) o)(hw:o.how=3):z=false/\∃kd,xc (mJ z d) kd/\o=.mk [] (some kd) none 0 3:=h.resolve_right λh=>absurd (hw▸h.1) (by decide)
theorem FG (h:mJ z (d+1) o)(hw:o.how=4){G:Prop}:G:=h.elim (λh=>h.2.elim λkd h=>by rw[h.2] at hw;cases hw) λh=>absurd (hw▸h.1) (by decide)
theorem acI {name:String}(h:name∈namesOf false):¬name="0":=λe=>by subst e;revert h;decide
theorem IT {k':Kd}(h:o=.mk [] (some k') none 0 3):m3 o name=none:=by subst h;rw[A5];exact lX λh=>nomatch h.2
theorem E3 {a b:Nat}(h:a<=2):a≠3:=λe=>absurd (e▸h) (by decide)
theorem Yd (T:TabAt n m Y W)(hP:PF 0 (d+1) W p o)(hA:mJ z (d+1) o)(hn:name∈namesOf z)(hl:W.rows.length+1<=900000)(k:Nat){R:PV->St->Prop}
  (h:∀v σ' W',l7 n m Y W σ' W' 1->W'.lU=W.lU->rk (Den 0 (PF 0 d W') W') v (m3 o name)->R v σ'):WC (lY (k+6) .tp [.loc m,iv p,.str name] Y) R :=
 hP.e (λq ps cs ct si ni fl hw R0=>Uo T R0 (E3 (b:=0) hw) hA hn hl k h)
  (λe k' hw h1 _ _=>(Qo hA hw).2.elim λkd x=>md (KS T h1 (pZ (nf h1) hl) (DA hn) k) ((lX (acI ((Qo hA hw).1▸hn))).symm▸h _ Y W ((l7.refl T).weaken (aC _)) rfl (IT x.2▸rfl)))
  λe k' hw _ _ _=>FG hA hw
theorem NJ {c:Option Nat}{e:Nat}(h:c=some e)(Y:St):mA Y (.int 1) (pq c)=some (.int 0):=h▸qY _ _ _ _
theorem EE (T:TabAt n m Y W){ps:List (String×Nat×Nat)}{cs ct:List Nat}{si ni:Option Nat}{fl:Nat}(hs:ta W p q)(hq:W.rows[q]? =some (.obj ps cs ct si ni fl))(hp:p<=1000000)(oj:q<=1000000)(b:Bool)(k:Nat) :
  lY (k+3) .wU [.loc m,iv p,.int (bN b)] Y=some (pq (if b then ni else si),Y):=by
 refine(hs.row hq).elim λrp x=>?_;have ip:=T.nD x.at' hp;have iq:=T.nD hq oj;rw[BS] at iq;have ik:=o3 Y rp;have cn:=A9 ni Y;have cs:=A9 si Y;refine nr (KQ _ _ _) λR hR=>?_;kd_p;refine mD (qe (x.no 11 (by decide) (by decide)) (x.no 12 (by decide) (by decide))) (nF ?_);kd_p;refine pj (x.no 6 (by decide) (by decide)) ?_;kd_p;refine md (wM T hs hq rfl hp oj _) ?_;kd_p;refine mD (FE b) (nh (λhb=>?_) λhb=>?_)
 ·subst hb;kd_p;refine A_ (λe=>?_) λe he=>?_
  ·kd_p;exact hR _ _ (lT pq e).symm
  ·have hi:=zL he Y
   have wu:=NJ he Y;kd_p;exact hR _ _ (lT pq he).symm
 ·subst hb;kd_p;refine A_ (λe=>?_) λe he=>?_
  ·kd_p;exact hR _ _ (lT pq e).symm
  ·have hi:=zL he Y
   have wu:=NJ he Y;kd_p;exact hR _ _ (lT pq he).symm
theorem Le (T:TabAt n m Y W){e:Nat}(hr:W.rows[p]? =some (.arr e))(hp:p<=1000000)(b:Bool)(k:Nat) :
  lY (k+3) .wU [.loc m,iv p,.int (bN b)] Y=some (.tup [],Y):=by
 have ip:=T.nD hr hp
 have i0:mA Y (.int 0) (Row.arr e).pv=some (.int 11):=ui _ _ _;refine nr (KQ _ _ _) λR hR=>?_;kd_p;refine pO rfl ?_;kd_p;refine nh (λh=>?_) λh=>?_
 ·kd_p;exact hR _ _ rfl
 ·kd_p;exact hR _ _ rfl
theorem acJ (x:Option (String×Nat×Nat)):(!decide (tN x=.none))=x.isSome:=by cases x<;>rfl
theorem acK (x:Option (String×Nat×Nat)):decide (tN x=.none)=x.isNone:=by cases x<;>rfl
theorem Z8 {V:Type}{l:List V}{p:V->Bool}:(l.find? p).isSome=l.any p:=by rw[bg,List.find?_isSome,bS]
theorem v8.some {D:Nat->Kd->Prop}{a:Option (String×Nat×Nat)}{b:Option mj}(h:v8 D a b):a.isSome=b.isSome:=by cases h<;>rfl
theorem nX.any {D:Nat->Kd->Prop}{xs:List (String×Nat×Nat)}{ps:List mj}(h:nX D xs ps)(name:String):(xs.find? λx=>decide (x.1=name)).isSome=ps.any λp=>decide (p.1=name):=(h.find name).some.trans Z8
theorem NK {b:Bool}(hw:o.how≠3)(h:(o.ps.any (λp=>decide (p.1=name))||o.tx.isSome)=b):(b||(decide (name="0")&&o.nx.isSome))=qZ o name:=by
 subst h;exact(lX hw).symm
theorem acL (hw:o.how=3):qZ o name=false:=lW hw
theorem WE (T:TabAt n m Y W)(hP:PF 0 (d+1) W p o)(hA:mJ z (d+1) o)(hn:name∈namesOf z)(hl:W.rows.length<=900000)(k:Nat) :
  lY (k+4) .BP [.loc m,iv p,.str name] Y=some (.bool (qZ o name),Y):=by
 have le:∀{i:Nat},i<W.rows.length->i<=1000000:=λh=>ae (aS h) (ae hl (by decide));refine nr (Ww _ _ _) λR hR=>hP.e (λq ps cs ct si ni fl hw R0=>(R0.pC.row R0.row).elim λrp x=>?_) (λe k' hw h1 _ _=>?_) λ_ _ hw _ _ _=>FG hA hw
 ·have hp:=le (nf x.at')
  have oj:=le (nf R0.row)
  have c1:=A8 si Y
  have c2:=A8 ni Y;kd_p
  ·refine md (HE T R0.pC R0.row hp oj name _) ?_;kd_p
  ·refine md (EE T R0.pC R0.row hp oj false _) ?_;kd_p
  refine mD (qe ((acJ _).trans (R0.rJ.any name)) R0.wA.some) (nh (λh=>?_) λh=>?_)
  ·kd_p;exact hR _ _ (lT PV.bool (NK (E3 (b:=0) hw) h))
  ·kd_p
   ·refine md (Df name (DA hn) _ _) ?_;kd_p
   ·refine md (EE T R0.pC R0.row hp oj true _) ?_;kd_p
   kd_p;exact hR _ _ (lT PV.bool ((v7 rfl R0.wB.some).trans (NK (E3 (b:=0) hw) h)))
 ·have hp:=le (nf h1);kd_p
  ·refine md (GY T h1 (.inl rfl) hp _ _) ?_;kd_p
  ·refine md (Le T h1 hp false _) ?_;kd_p
  refine pj rfl ?_;kd_p
  ·refine md (Df name (DA hn) _ _) ?_;kd_p
  ·refine md (Le T h1 hp true _) ?_;kd_p
  kd_p;exact hR _ _ (lT PV.bool ((cV _).trans (acL hw).symm))
end
mutual
theorem Lu:∀{v:PV},v.isKey=true->v.isData=true
 |.int _,_=>rfl
 |.str _,_=>rfl
 |.tup l,h=>K1 (l:=l) h
 |.none,h=>nomatch h
 |.bool _,h=>nomatch h
 |.lst _,h=>nomatch h
 |.loc _,h=>nomatch h
theorem K1:∀{l:List PV},PV.areKeys l=true->PV.pF l=true
 |[],_=>rfl
 |a::r,h=>El.nL (a:=a.isKey) (b:=PV.areKeys r) h λh1 h2=>(aL a.isData (PV.pF r)).mpr ⟨Lu h1,K1 h2⟩
end
theorem pw.data {n:Nat}{v:PV}(h:pw n v)(hn:n<=40):v.nQ=true:=(aL v.isData _).mpr ⟨Lu h.key,mY (ae h.dep hn)⟩
theorem MM {V β:Type}{a:Option V}{b:Option β}(h:a.isSome=b.isSome):a=none↔b=none:=by rw[← fj,← fj,← gy,← gy,h]
theorem ae5 (ps:List (String×Nat×Nat))(cs ct:List Nat)(si ni:Option Nat):(PV.tup [.tup (ps.map nj),.tup (cs.map iv),.tup (ct.map iv),pq si,pq ni]).nQ=true :=
 (pw.tup (n:=2) (sr (.map (λ_=>⟨rfl,a8 rfl⟩) ps) (sr (.map (pw.iv · 1) cs) (sr (.map (pw.iv · 1) ct) (sr (.cell si) (sr (.cell ni) Ja)))))).data (by decide)
section
variable {n m:Nat}{Y:St}{W W':Wd}{t p q:Nat}{r:Row}{d:Nat}{f:Nat}{P:Nat->One->Prop}{o:One}{z:Bool}{name:String}
noncomputable def B8 (r:Row):Bool:=decide (r=.key "any")||decide (r=.key "unknown")||decide (r=.key "error")||decide (r=.key "object")
theorem DW (T:TabAt n m Y W)(hr:W.rows[p]? =some r){i:Nat}{s:String}(h:pP[i]? =some (.key s)):decide (iv p=PV.int (i:Int))=decide (r=.key s) :=
 pH.mpr ⟨λe=>aq (hr.symm.trans ((lT (λj=>W.rows[j]?) (xW e)).trans (T.nJ h))),λe=>lT (λn:Nat=>iv n) (T.A6 h (e▸hr))⟩
theorem aiM (x a b c d:PV):decide (x∈[a,b,c,d])=(decide (x=a)||decide (x=b)||decide (x=c)||decide (x=d)):=by
 rw[← dN,← dN,← dN];exact pH.mpr (by simp only[bT,ez,or_false,or_assoc])
theorem MN (T:TabAt n m Y W)(hr:W.rows[p]? =some r):decide (iv p∈[PV.int 0,PV.int 1,PV.int 13,PV.int 10])=B8 r:=by
 rw[aiM];exact qe (qe (qe (DW T hr (i:=0) rfl) (DW T hr (i:=1) rfl)) (DW T hr (i:=13) rfl)) (DW T hr (i:=10) rfl)
noncomputable def Bm:Row->Bool
 |.obj .. =>true|.ref _=>true|_=>false
theorem G8 (r:Row):decide (iv r.kind∈[PV.int 8,PV.int 9])=Bm r:=by cases r<;>rfl
theorem NL (r:Row):decide ((r.kind:Int)=7)=false:=by cases r<;>rfl
theorem L5 (T:TabAt n m Y W)(hr:W.rows[p]? =some r)(hp:p<=1000000)(wz:Bm r=false)(k:Nat):lY (k+4) .takes_all [.loc m,iv p] Y=some (.bool (B8 r),Y):=by
 have ip:=T.nD hr hp;have ik:=o3 Y r;refine nr (KJ _ _) λR hR=>?_;kd_p;refine mD (MN T hr) (nh (λh=>?_) λh=>?_)
 ·kd_p;exact hR _ _ (lT PV.bool h.symm)
 ·kd_p;refine mD (NL r) (nF ?_);kd_p;refine mD (lT not ((G8 r).trans wz)) (qC ?_);kd_p;exact hR _ _ (lT PV.bool h.symm)
theorem acM (h:n7 r=true):B8 r=false:=by cases r<;>first|rfl|cases h
theorem yq.shaped {r:Row}(x:yq W p r):Bm r=true:=by
 rw[← G8];exact mY (x.kind.elim (λh=>h▸aG ..) λh=>h▸aE _ (aG ..))
theorem MO {c:Option Nat}:pq c=.tup []↔c=none:=by cases c<;>simp[pq]
theorem nX.nil {D:Nat->Kd->Prop}:∀{xs:List (String×Nat×Nat)} {ps:List mj},nX D xs ps->(xs=[]↔ps=[])
 |[],[],_=>⟨λ_=>rfl,λ_=>rfl⟩
 |_::_,_::_,_=>⟨(λh=>nomatch h),(λh=>nomatch h)⟩
theorem acN {D:Nat->Kd->Prop}{ps:List (String×Nat×Nat)}{cs ct:List Nat}{si ni:Option Nat}{fl:Nat}(R0:uy f D W p o q ps cs ct si ni fl):(cs=[]/\ct=[])↔o.called=0:=by
 rw[R0.Aj,R0.Ak];exact(by decide:∀c<3,(c≠1/\c≠2)↔c=0) o.called (fa R0.yH)
theorem aiN {a b c d e a' b' c' d' e':PV}:PV.tup [a,b,c,d,e]=.tup [a',b',c',d',e']↔a=a'/\b=b'/\c=c'/\d=d'/\e=e':=⟨λh=>by cases h;exact⟨rfl,rfl,rfl,rfl,rfl⟩,λ⟨a,b,c,d,e⟩=>by rw[a,b,c,d,e]⟩
theorem map_nil {V:Type}{l:List V}{f:V->PV}:PV.tup (l.map f)=.tup []↔l=[]:=⟨λh=>List.map_eq_nil_iff.mp (PV.tup.inj h),λh=>by rw[h];rfl⟩
theorem Z9 (hw:o.how<=2):qp o=true↔(o.ps=[]/\o.tx=none/\o.nx=none/\o.called=0):=by
 unfold qp;rw[aL,aL,aL,aL,decide_eq_true_eq,decide_eq_true_eq,gz,fj,fj];exact⟨λh=>⟨h.1.1.1.2,h.1.1.2,h.1.2,h.2⟩,λh=>⟨⟨⟨⟨E3 (b:=0) hw,h.1⟩,h.2.1⟩,h.2.2.1⟩,h.2.2.2⟩⟩
theorem ae6 {D:Nat->Kd->Prop}{ps:List (String×Nat×Nat)}{cs ct:List Nat}{si ni:Option Nat}{fl:Nat}(R0:uy f D W p o q ps cs ct si ni fl)(hw:o.how<=2):oW Y .Eq (.tup [.tup (ps.map nj),.tup (cs.map iv),.tup (ct.map iv),pq si,pq ni]) (.tup [.tup [],.tup [],.tup [],.tup [],.tup []])=some (qp o):=by
 refine(zK (ae5 ps cs ct si ni) (by decide)).trans (lT some ?_);rw[bg,decide_eq_true_eq,aiN,map_nil,map_nil,map_nil,MO,MO,Z9 hw,R0.rJ.nil,MM R0.wA.some,MM R0.wB.some,← acN R0];exact⟨λh=>⟨h.1,h.2.2.2.1,h.2.2.2.2,h.2.1,h.2.2.1⟩,λh=>⟨h.1,h.2.2.2.1,h.2.2.2.2,h.2.1,h.2.2.1⟩⟩
theorem aho (hw:o.how=3):qp o=false:=by unfold qp;rw[hw];rfl
theorem WG (T:TabAt n m Y W)(hP:PF 0 (d+1) W p o)(hA:mJ z (d+1) o)(hl:W.rows.length<=900000)(k:Nat) :
  lY (k+4) .takes_all [.loc m,iv p] Y=some (.bool (qp o),Y):=by
 have le:∀{i:Nat},i<W.rows.length->i<=1000000:=λh=>ae (aS h) (ae hl (by decide));refine hP.e (λq ps cs ct si ni fl hw R0=>(R0.pC.row R0.row).elim λrp x=>?_) (λe k' hw h1 _ _=>?_) λ_ _ hw _ _ _=>FG hA hw
 ·have hp:=le (nf x.at')
  have oj:=le (nf R0.row)
  have ip:=T.nD x.at' hp
  have iq:=T.nD R0.row oj;rw[BS] at iq
  have ik:=o3 Y rp;refine nr (KJ _ _) λR hR=>?_;kd_p;refine mD ((MN T x.at').trans (acM x.n7)) (nF ?_);kd_p;refine mD (NL rp) (nF ?_);kd_p;refine mD (lT not ((G8 rp).trans x.shaped)) (nF ?_);kd_p;refine md (wM T R0.pC R0.row rfl hp oj _) ?_;kd_p;refine .e (ae6 R0 hw) ?_;exact hR _ _ rfl
 ·exact(L5 T h1 (le (nf h1)) rfl k).trans (by rw[aho hw];rfl)
theorem Ye (T:TabAt n m Y W){e:Nat}(k:Nat):lY (k+1) .Ea [.loc n,(Row.arr e).pv] Y=some (iv e,Y):=by
 have i0:mA Y (.int 0) (Row.arr e).pv=some (.int 11):=ui _ _ _;have i1:mA Y (.int 1) (Row.arr e).pv=some (iv e):=qY _ _ _ _;refine nr (Ua _ _) λR hR=>?_;kd_p;refine pO rfl ?_;kd_p;exact hR _ _ rfl
theorem UQ (T:TabAt n m Y W){e:Nat}(hr:W.rows[p]? =some (.arr e))(hp:p<=1000000)(k:Nat):lY (k+2) .AQ [.loc m,iv p] Y=some (iv e,Y):=by
 have ip:=T.nD hr hp;have i0:mA Y (.int 0) (Row.arr e).pv=some (.int 11):=ui _ _ _;refine nr (TF _ _) λR hR=>?_;kd_p;refine pO rfl ?_;kd_p;refine md (Ye T k) ?_;kd_p;exact hR _ _ rfl
end
theorem NM:∀{l r:List Nat},l.Pairwise (·<·)->r.Pairwise (·<·)->(∀x,x∈l↔x∈r)->l=r
 |[],[],_,_,_=>rfl
 |[],b::r,_,_,h=>by have:=(h b).mpr (by simp);cases this
 |a::l,[],_,_,h=>by have:=(h a).mp (by simp);cases this
 |a::l,b::r,hl,hr,h=>by
  rw[ej] at hl hr;have Co:a=b:=by
   have h1:=(h a).mp (by simp);have h2:=(h b).mpr (by simp);rcases List.mem_cons.mp h1 with h1|h1
   ·exact h1
   ·rcases List.mem_cons.mp h2 with h2|h2
    ·exact h2.symm
    ·have:=hl.1 b h2;have:=hr.1 a h1;lia
  subst Co;rw[NM hl.2 hr.2 λx=>by
   have:=h x;simp only[bT] at this;constructor
   ·intro hx;rcases this.mp (.inr hx) with rfl|h
    ·exact absurd (hl.1 x hx) (dR _)
    ·exact h
   ·intro hx;rcases this.mpr (.inr hx) with rfl|h
    ·exact absurd (hr.1 x hx) (dR _)
    ·exact h]
section
variable {n m:Nat}{Y σ':St}{W W':Wd}{t p q x y:Nat}{r:Row}{d:Nat}{f:Nat}{P:Nat->One->Prop}{o:One}{z:Bool}{name:String}
theorem TabAt.Hm (T:TabAt n m Y W)(t:Nat):(l8 W t).Pairwise (·<·):=by
 unfold l8
 split
 ·simp
 ·split
  ·rename_i ps h;exact(T.wx ps (bj h)).asc
  ·simp
theorem TabAt.Z_ (T:TabAt n m Y W)(h:l8 W x=l8 W y):x=y:=by
 have key:∀t,(t=2/\l8 W t=[])\/(t≠2/\l8 W t=[t])\/(∃ps,W.rows[t]? =some (.oK ps)/\l8 W t=ps/\2<=ps.length):=λt=>by
  unfold l8;by_cases h2:t=2
  ·exact .inl ⟨h2,by rw[lW h2]⟩
  ·rw[lX h2]
   split
   ·rename_i ps h;exact .inr (.inr ⟨ps,h,rfl,(T.wx ps (bj h)).two⟩)
   ·exact .inr (.inl ⟨h2,rfl⟩)
 rcases key x with⟨a,b⟩|⟨a,b⟩|⟨ps,a,b,c⟩<;>rcases key y with⟨a',b'⟩|⟨a',b'⟩|⟨ps',a',b',c'⟩<;>rw[b,b'] at h
 ·rw[a,a']
 ·cases h
 ·subst h;simp at c'
 ·cases h
 ·simpa using h
 ·subst h;simp at c'
 ·subst h;simp at c
 ·subst h;simp at c
 ·subst h;exact zi T.nodup a a'
theorem Il (T:TabAt n m Y W){k:Nat}(D:Den 0 P W x (k,[]))(D':Den 0 P W y (k,[])):x=y:=by
 have sub:∀{x y:Nat},Den 0 P W x (k,[])->Den 0 P W y (k,[])->∀p,p∈l8 W x->p∈l8 W y:=λ{x y} D D' p hp=>by
  rcases D.sound p hp with⟨i,hi,hb,ha⟩|⟨o,ho,_⟩
  ·obtain⟨p',Al,ha'⟩:=D'.atoms i hi hb;have h1:W.rows[p]? =some (mq 0 i):=ha.elim id λh=>absurd h.1 (by decide);have h2:W.rows[p']? =some (mq 0 i):=ha'.elim id λh=>absurd h.1 (by decide);exact zi T.nodup h2 h1▸Al
  ·have:=tA ho;cases this
 exact T.Z_ (NM (T.Hm x) (T.Hm y) λp=>⟨sub D D' p,sub D' D p⟩)
theorem Pr (T:TabAt n m Y W){k:Nat}{g:Kd}(hk:mT k)(uI:k.testBit 12=false)(sI:k.testBit 11=false)(hg:mT g.1)(D:Den 0 P W x (k,[]))(D':Den 0 P W x g)(hP:∀p o,P p o->∃r,W.rows[p]? =some r/\n7 r=true):g=(k,[]):=by
 have qt:∀{p i},AR 0 W p i->W.rows[p]? =some (mq 0 i):=λha=>ha.elim id λh=>absurd h.1 (by decide);have b1:∀i,i<14->g.1.testBit i=true->k.testBit i=true:=λi hi hb=>by
  obtain⟨p,hp,ha⟩:=D'.atoms i hi hb;rcases D.sound p hp with⟨j,hj,Ga,Cv⟩|⟨o,ho,_⟩
  ·have e1:=qt ha
   have e2:=qt Cv;rw[e1] at e2;rw[vN hi hj (aq e2)];exact Ga
  ·have:=tA ho;cases this
 have b2:∀i,i<14->k.testBit i=true->g.1.testBit i=true:=λi hi hb=>by
  obtain⟨p,hp,ha⟩:=D.atoms i hi hb;rcases D'.sound p hp with⟨j,hj,Ga,Cv⟩|⟨o,ho,uK⟩
  ·have e1:=qt ha
   have e2:=qt Cv;rw[e1] at e2;rw[vN hi hj (aq e2)];exact Ga
  ·obtain⟨r,e,hO⟩:=hP _ _ uK;rw[qt ha] at e;cases e;rw[wL] at hO;cases hO
 have e1:g.1=k:=by
  apply cY;intro i;by_cases hi:i<14
  ·rw[bg];exact⟨b1 i hi,b2 i hi⟩
  ·have h1:=dx (aW hg.lt (cZ (by decide) (b8 hi)))
   have h2:=dx (aW hk.lt (cZ (by decide) (b8 hi)));rw[h1,h2]
 have e2:g.2=[]:=by
  have he:=DU (k:=g) (by rw[e1];exact uI) (by rw[e1];exact sI);cases Cw:g.2 with
  |nil=>rfl
  |cons o os =>
   obtain⟨p,hp,uK⟩:=D'.ones o (by rw[he,Cw];simp);obtain⟨r,e,hO⟩:=hP _ _ uK;rcases D.sound p hp with⟨j,hj,Ga,Cv⟩|⟨o,ho,_⟩
   ·rw[qt Cv] at e;cases e;rw[wL] at hO;cases hO
   ·have:=tA ho;cases this
 obtain⟨g1,g2⟩:=g;simp only at e1 e2;rw[e1,e2]
noncomputable def yd (W:Wd)(p:Nat):Bool:=match W.rows[p]? with
 |some r=>decide (p=4)||(decide (p=5)||literal r)
 |none=>false
noncomputable def zN (W:Wd)(x:Nat):Bool:=!(l8 W x).isEmpty&&(l8 W x).all (yd W)
theorem ae7 (i:Nat):i<14->(decide (mq 0 i=.key "undefined")||(decide (mq 0 i=.key "null")||literal (mq 0 i)))=(987:Nat).testBit i :=
 s6 (C:=λi=>i<14->(decide (mq 0 i=.key "undefined")||(decide (mq 0 i=.key "null")||literal (mq 0 i)))=(987:Nat).testBit i) (λ_=>rfl) (λ_=>rfl) (λ_=>rfl) (λ_=>rfl) (λ_=>rfl) (λ_=>rfl) (λ_=>rfl) (λ_=>rfl) (λ_=>rfl) (λ_=>rfl) (λ_=>rfl) (λ_=>rfl) (λ_=>rfl) (λ_=>rfl)
  (λn h=>absurd h (Nat.not_lt.mpr (aY 14 n))) i
theorem L6 (T:TabAt n m Y W){i:Nat}(hi:i<14)(hr:W.rows[p]? =some (mq 0 i)):yd W p=(987:Nat).testBit i:=by
 have e4:p=4↔mq 0 i=.key "undefined":=⟨λe=>aq (hr.symm.trans (e▸T.nJ (i:=4) rfl)),λe=>T.A6 rfl (e▸hr)⟩;have e5:p=5↔mq 0 i=.key "null":=⟨λe=>aq (hr.symm.trans (e▸T.nJ (i:=5) rfl)),λe=>T.A6 rfl (e▸hr)⟩;simp only[yd,hr];rw[pH.mpr e4,pH.mpr e5];exact ae7 i hi
theorem G4 (g:Kd)(hg:mT g.1):oI g=true↔g.2=[]/\g.1≠0/\∀i,i<14->g.1.testBit i=true->(987:Nat).testBit i=true:=by
 unfold oI;simp only[aL,gz,decide_eq_true_eq,and_assoc];have:(g.1 - (g.1&&&987)=0)↔∀i,i<14->g.1.testBit i=true->(987:Nat).testBit i=true:=by
  constructor
  ·intro h i _ hb;have:=AK i g.1 987;rw[h,c6,hb] at this;simpa using this
  ·intro h;apply cY;intro i;rw[AK,c6];by_cases hi:i<14
   ·cases hb:g.1.testBit i with
    |false=>rfl
    |true=>rw[h i hi hb];rfl
   ·rw[dx (aW hg.lt (cZ (by decide) (b8 hi)))];rfl
 rw[this];constructor
 ·rintro⟨a,b,c⟩;exact⟨a,by lia,c⟩
 ·rintro⟨a,b,c⟩;exact⟨a,by lia,c⟩
theorem NN {k:Nat}(hk:mT k)(h:k≠0):∃i,i<14/\k.testBit i=true:=by
 obtain⟨i,hi⟩:=jb h;refine⟨i,?_,hi⟩;apply fk;intro hn;rw[dx (aW hk.lt (cZ (by decide) hn))] at hi;cases hi
theorem K2 (T:TabAt n m Y W){g:Kd}(hg:mT g.1)(D:Den 0 P W x g)(hP:∀p o,P p o->∃r,W.rows[p]? =some r/\n7 r=true):zN W x=oI g:=by
 have qt:∀{p i},AR 0 W p i->W.rows[p]? =some (mq 0 i):=λha=>ha.elim id λh=>absurd h.1 (by decide);rw[bg,G4 g hg];unfold zN;simp only[aL,bV,List.all_eq_true];constructor
 ·rintro⟨oi,uz⟩;have pV:∀i,i<14->g.1.testBit i=true->(987:Nat).testBit i=true:=λi hi hb=>by
   obtain⟨p,hp,ha⟩:=D.atoms i hi hb;rw[← L6 T hi (qt ha)];exact uz p hp
  have he:=DU (k:=g) (by cases h:g.1.testBit 12 with|false=>rfl|true=>exact El.bf (pV 12 (by decide) h)) (by cases h:g.1.testBit 11 with|false=>rfl|true=>exact El.bf (pV 11 (by decide) h));have vA:g.2=[]:=by
   cases Cw:g.2 with
   |nil=>rfl
   |cons o os =>
    obtain⟨p,hp,uK⟩:=D.ones o (by rw[he,Cw];simp);obtain⟨r,e,hO⟩:=hP _ _ uK;have hu:=uz p hp;have h4:p≠4:=T.vi (i:=4) rfl e (zM hO _);have h5:p≠5:=T.vi (i:=5) rfl e (zM hO _);simp only[yd,e,h4,h5,decide_false,dH] at hu;cases r<;>first|(simp[literal] at hu;done)|(simp[n7] at hO;done)
  refine⟨vA,λh0=>?_,pV⟩;cases pK:l8 W x with
  |nil=>rw[pK] at oi;cases oi
  |cons p ps =>
   rcases D.sound p (by rw[pK];simp) with⟨i,hi,hb,ha⟩|⟨o,ho,_⟩
   ·rw[h0,c6] at hb;cases hb
   ·have:=tA ho;rw[vA] at this;cases this
 ·rintro⟨vA,h0,pV⟩;have uz:∀p∈l8 W x,yd W p=true:=λp hp=>by
   rcases D.sound p hp with⟨i,hi,hb,ha⟩|⟨o,ho,_⟩
   ·rw[L6 T hi (qt ha)];exact pV i hi hb
   ·have:=tA ho;rw[vA] at this;cases this
  refine⟨?_,uz⟩;obtain⟨i,hi,hb⟩:=NN hg h0;obtain⟨p,hp,_⟩:=D.atoms i hi hb;cases pK:l8 W x with
  |nil=>rw[pK] at hp;cases hp
  |cons _ _=>rfl
theorem Yg (T:TabAt n m Y W)(hx:x<W.rows.length)(hl:W.rows.length<=900000)(k:Nat):lY (k+3) .DF [.loc n,iv x] Y=some (.bool (zN W x),Y):=by
 refine nr (Tx _ _) λR hR=>?_;kd_p;refine md (u4 T (aQ hx) (by lia) _) ?_;kd_p
 ·refine sW (l8 W x) iv (λp=>.bool (yd W p)) ?_ (λp hp=>?_) ?_
  ·kd_p;exact SI.t rfl
  ·refine(T.wW (aQ hx) p hp).ex.elim λr hr=>?_;kd_p;refine md (ZX T hr.1 (by have:=nf hr.1;lia) _) ?_;kd_p;exact .i (lT PV.bool (by simp only[yd,hr.1]))
  refine(?_:VO _ _);refine .e (Hz _ _ _) ?_;kd_p
 exact hR _ _ (by rw[show gtB ((dO iv (l8 W x)).length:Int) 0=_ from JH _,EC];rfl)
end
theorem Lv:∀{a b:List Row},a.map Row.pv=b.map Row.pv->a=b
 |[],[],_=>rfl
 |[],_::_,h=>by simp at h
 |_::_,[],h=>by simp at h
 |x::a,y::b,h=>by
  simp only[a9,List.cons.injEq] at h;rw[Row.EU h.1,Lv h.2]
theorem acO {Y:St}{d:Nat}{ks:List Nat}(h:Y[d]? =some (dI ks))(hl:ks.length<=1000):w4 Y (.loc d)=some (ks.map iv):=by
 have:(ks.map λk:Nat=>((k:Int),PV.int 1)).length<=2^20:=by rw[au];lia
 refine(abW h).trans ((lW this).trans ?_);rw[aR];rfl
theorem ae8 {Y:St}{d:Nat}{ks:List Nat}(h:Y[d]? =some (dI ks))(hl:ks.length<=1000):qr Y .len (.loc d)=some (iv ks.length):=by
 have:ks.length<=2^20:=by lia
 refine(um h).trans ((lW (by rw[au];exact this)).trans ?_);rw[au]
section
variable {n m:Nat}{Y σ':St}{W W' pa:Wd}{t p q x y:Nat}{r:Row}{d:Nat}{f:Nat}{P:Nat->One->Prop}{o:One}{z:Bool}{name:String}
theorem TabAt.uniq (T:TabAt n m Y W)(T':TabAt n m Y W')(hb:W.lU=W'.lU):W=W':=by
 have h:=T.rows.symm.trans T'.rows;have:W.rows=W'.rows:=Lv (mC.list.inj (aq h));cases W;cases W';simp_all
abbrev xe (d:Nat)(W:Wd)(v:PV)(x:Option Kd):Prop:=rk (Den 0 (PF 0 d W) W) v x
structure PtA (n m d:Nat)(Y:St)(W:Wd)(x:Option Kd)(v:PV)(σ':St):Prop where
 ex:∃W',l7 n m Y W σ' W' 1/\W'.lU=W.lU/\xe d W' v x
theorem NO (T:TabAt n m Y W)(hP:PF 0 (d+1) W p o)(hA:mJ z (d+1) o)(hn:name∈namesOf z)(hl:W.rows.length+1<=900000)(k:Nat):WC (lY (k+6) .tp [.loc m,iv p,.str name] Y) (PtA n m d Y W (m3 o name)) :=
 Yd T hP hA hn hl k λ_ _ W' st hb hm=>⟨W',st,hb,hm⟩
theorem WC.e {x:Option (PV×St)}{R:PV->St->Prop}(h:WC x R){G:Prop}(k:∀v Y,x=some (v,Y)->R v Y->G):G:=h.rec λ_ _ e q=>k _ _ e q
theorem DB (T:TabAt n m Y W)(hP:PF 0 (d+1) W p o)(hA:mJ z (d+1) o)(hn:name∈namesOf z)(hl:W.rows.length+1<=900000)(k:Nat){R:PV->St->Prop}
  (h:∀v σ' W',l7 n m Y W σ' W' 1->W'.lU=W.lU->(∀o,PF 0 (d+1) W p o->mJ z (d+1) o->xe d W' v (m3 o name))->R v σ'):WC (lY (k+6) .tp [.loc m,iv p,.str name] Y) R :=
 (NO T hP hA hn hl k).e λv σ' e x=>x.ex.elim λW' y=>md e (h v σ' W' y.1 y.2.1 λo' uN xv=>(NO T uN xv hn hl k).e λv2 σ2 e2 x2=>x2.ex.elim λW2 y2=>by
  cases e.symm.trans e2;exact y.1.tab.uniq y2.1.tab (y.2.1.trans y2.2.1.symm)▸y2.2.2)
structure oU (d:Nat)(z:Bool)(W:Wd)(pl:List Nat)(os:List One):Prop where
 ask:∀o∈os,mJ z d o
 c1:∀p∈pl,∃o∈os,PF 0 d W p o
 c2:∀o∈os,∃p∈pl,PF 0 d W p o
theorem oU.mono {pl:List Nat}{os:List One}(C:oU d z W pl os)(le:W.le W'):oU d z W' pl os :=
 ⟨C.ask,λp hp=>let ⟨o,h,x⟩:=C.c1 p hp;⟨o,h,x.mono le⟩,λo ho=>let ⟨p,h,x⟩:=C.c2 o ho;⟨p,h,x.mono le⟩⟩
structure TI (d:Nat)(name:String)(W:Wd)(os:List One)(bs ks:List Nat)(W1:Wd):Prop where
 nd:ks.Nodup
 len:ks.length<=bs.length
 h1:∀x∈ks,∃o∈os,∃g,m3 o name=some g/\Den 0 (PF 0 d W1) W1 x g
 h2:∀p∈bs,∀o∈os,PF 0 (d+1) W p o->∀g,m3 o name=some g->∃x∈ks,Den 0 (PF 0 d W1) W1 x g
def Jl (d:Nat)(z:Bool)(name:String)(W W2:Wd)(p:Nat)(w:PV):Prop:=∀o,PF 0 (d+1) W p o->mJ z (d+1) o->xe d W2 w (m3 o name)
section
variable {os:List One}{bs ks pl:List Nat}{W1 W2:Wd}
theorem TI.skip (I:TI d name W os bs ks W1)(le:W1.le W2)(ha:∀o∈os,mJ z (d+1) o)(hR:Jl d z name W W2 p (.int (-1))):TI d name W os (bs++[p]) ks W2 where
 nd:=I.nd
 len:=ae I.len (by simp)
 h1:=λx hx=>let ⟨o,ho,g,hg,hD⟩:=I.h1 x hx;⟨o,ho,g,hg,hD.up le⟩
 h2:=λp' hp o ho hP g hg=>(List.mem_append.mp hp).elim (λhp=>let ⟨x,hx,hD⟩:=I.h2 p' hp o ho hP g hg;⟨x,hx,hD.up le⟩) λhp=>by
  cases List.mem_singleton.mp hp;have:=hR o hP (ha o ho);rw[hg] at this;obtain⟨u,hu,_⟩:=this;cases hu
theorem TI.put (I:TI d name W os bs ks W1)(le:W1.le W2)(ha:∀o∈os,mJ z (d+1) o){u:Nat}(ho:o∈os){g0:Kd}(hg:m3 o name=some g0)(hD:Den 0 (PF 0 d W2) W2 u g0)(hR:Jl d z name W W2 p (iv u)):TI d name W os (bs++[p]) (ins ks u) W2 where
 nd:=DR I.nd
 len:=by
  have:(ins ks u).length<=ks.length+1:=by unfold ins;split<;>simp
  have:=I.len;rw[ar];exact ae ‹_› (aU this)
 h1:=λx hx=>(ud.mp hx).elim (λhx=>let ⟨o,ho,g,hg,hD⟩:=I.h1 x hx;⟨o,ho,g,hg,hD.up le⟩) λe=>⟨o,ho,g0,hg,e▸hD⟩
 h2:=λp' hp o ho hP g hg=>(List.mem_append.mp hp).elim (λhp=>let ⟨x,hx,hD⟩:=I.h2 p' hp o ho hP g hg;⟨x,ud.mpr (.inl hx),hD.up le⟩) λhp=>by
  cases List.mem_singleton.mp hp;have:=hR o hP (ha o ho);rw[hg] at this;obtain⟨u',Am,hD⟩:=this;cases xW Am;exact⟨u,ud.mpr (.inr rfl),hD⟩
theorem zp {g:Kd}:g∈nT os name↔∃o∈os,m3 o name=some g:=List.mem_filterMap
theorem TI.lt (I:TI d name W os bs ks W1){x:Nat}(hx:x∈ks):x<W1.rows.length:=let ⟨_,_,_,_,hD⟩:=I.h1 x hx;hD.lt
theorem TI.units (I:TI d name W os pl ks W1)(T:TabAt n m Y W1)(C:oU (d+1) z W pl os):ks.any (zN W1)=(nT os name).any oI:=by
 have tk:∀o∈os,∀g,m3 o name=some g->mT g.1:=λo ho g hg=>(vU (C.ask o ho) hg).1;rw[bg,bS,bS];constructor
 ·rintro⟨x,hx,hu⟩;obtain⟨o,ho,g,hg,hD⟩:=I.h1 x hx;exact⟨g,zp.mpr ⟨o,ho,hg⟩,by rw[← K2 T (tk o ho g hg) hD λp o h=>h.row];exact hu⟩
 ·rintro⟨g,hg,hs⟩;obtain⟨o,ho,hg⟩:=zp.mp hg;obtain⟨p,hp,hP⟩:=C.c2 o ho;obtain⟨x,hx,hD⟩:=I.h2 p hp o ho hP g hg;exact⟨x,hx,by rw[K2 T (tk o ho g hg) hD λp o h=>h.row];exact hs⟩
theorem TI.apart (I:TI d name W os pl ks W1)(T:TabAt n m Y W1)(C:oU (d+1) z W pl os)(Jm:(nT os name).any oI=true):decide (ks.length>1)=sk os name:=by
 have tk:∀o∈os,∀g,m3 o name=some g->mT g.1:=λo ho g hg=>(vU (C.ask o ho) hg).1;obtain⟨⟨a0,l0⟩,xn,JN⟩:=List.any_eq_true.mp Jm;obtain⟨o0,uO,yJ⟩:=zp.mp xn;obtain⟨rK,hz0,An⟩:=(G4 _ (tk o0 uO _ yJ)).mp JN;cases(rK:l0=[]);obtain⟨p0,hp0,hP0⟩:=C.c2 o0 uO;obtain⟨x0,Cm,Ri⟩:=I.h2 p0 hp0 o0 uO hP0 _ yJ;have bit:∀i,i<14->(987:Nat).testBit i=false->a0.testBit i=false:=λi hi h=>by
  cases q:a0.testBit i with
  |false=>rfl
  |true=>exact(An i hi q).symm.trans h
 have same:∀g,g∈nT os name->∀x,Den 0 (PF 0 d W1) W1 x g->(x=x0↔g=(a0,[])):=λg hg x hD=>by
  obtain⟨o,ho,hg⟩:=zp.mp hg;refine⟨λe=>?_,λe=>Il T (e▸hD) Ri⟩;exact Pr T (tk o0 uO _ yJ) (bit 12 (by decide) rfl) (bit 11 (by decide) rfl) (tk o ho g hg) Ri (e▸hD) λp o h=>h.row
 have one:∀g,mz g=mz (a0,[])->g=(a0,[]):=λ⟨a,l⟩ e=>by
  have e:=PV.tup.inj ((sT _).symm.trans (e.trans (sT _)));have e1:=q6.mp (PV.int.inj (bu e).1);have e2:l=[]:=List.map_eq_nil_iff.mp (PV.tup.inj (bu (bu e).2).1);cases(e1:a=a0);cases e2;rfl
 obtain⟨gh,r,ht⟩:∃gh r,nT os name=gh::r:=by
  cases ht:nT os name with
  |nil=>rw[ht] at xn;cases xn
  |cons a r=>exact⟨a,r,rfl⟩
 have hgh:gh∈nT os name:=by rw[ht];exact aG ..
 have hap:sk os name=true↔∃g∈nT os name,mz g≠mz gh:=by
  unfold sk;rw[bS,ht];simp
 rw[bg,decide_eq_true_eq,hap];constructor
 ·intro hlen;obtain⟨x1,hx1,oi⟩:∃x1∈ks,x1≠x0:=by
   match ks,I.nd,hlen with
   |a::b::r,nd,_ =>
    by_cases h:a=x0
    ·exact⟨b,by simp,λe=>(List.nodup_cons.mp nd).1 (by rw[h,← e];simp)⟩
    ·exact⟨a,by simp,h⟩
   |[],_,h=>exact absurd h (by decide)
   |[a],_,h=>exact absurd h (by simp)
  obtain⟨o1,ho1,g1,vB,hD1⟩:=I.h1 x1 hx1;have Gb:g1∈nT os name:=zp.mpr ⟨o1,ho1,vB⟩;by_cases hh:mz g1=mz gh
  ·exact⟨_,xn,λe=>oi ((same g1 Gb x1 hD1).mpr (one g1 (hh.trans e.symm)))⟩
  ·exact⟨g1,Gb,hh⟩
 ·rintro⟨g1,Gb,oi⟩;refine fk λhle=>?_;have B9:∀g∈nT os name,g=(a0,[]):=λg hg=>by
   obtain⟨o,ho,Ao⟩:=zp.mp hg;obtain⟨p,hp,hP⟩:=C.c2 o ho;obtain⟨x,hx,hD⟩:=I.h2 p hp o ho hP g Ao;refine(same g hg x hD).mp ?_
   match ks,hle,hx,Cm with
   |[a],_,hx,Cm=>rw[List.mem_singleton.mp hx,List.mem_singleton.mp Cm]
   |[],_,hx,_=>cases hx
   |a::b::r,h,_,_=>exact absurd h (by simp)
  exact oi (by rw[B9 g1 Gb,B9 gh hgh])
theorem TI.fin (I:TI d name W os pl ks W1)(T:TabAt n m Y W1)(C:oU (d+1) z W pl os):(decide (ks.length>1)&&ks.any (zN W1))=(sk os name&&(nT os name).any oI):=by
 rw[I.units T C];cases hs:(nT os name).any oI with
 |false=>rw[cV,cV]
 |true=>rw[I.apart T C hs]
structure Rj where
 τ:St
 x:Option PV
 y:Option PV
structure TlJ (n m:Nat)(Y:St)(W:Wd)(d:Nat)(name:String)(os:List One)(bs:List Nat)(s:Rj):Prop where
 ex:∃(ks:List Nat) (W1:Wd),l7 n m Y W s.τ W1 bs.length/\W1.lU=W.lU/\s.τ[Y.length]? =some (dI ks)/\TI d name W os bs ks W1
theorem l7.obj {j c:Nat}{o:mC}(st:l7 n m Y W σ' W' c)(h:Y[j]? =some o)(h3:n+3<j):σ'[j]? =some o:=(st.keep j (px h) (by omega) (by omega) (by omega)).trans h
end
theorem tB {V:Type}{bs cs pl:List V}{p:V}(h:pl=bs++p::cs):bs.length+1<=pl.length:=by rw[h,ar];exact av (aU (aC _)) _
theorem ae9 {u:Nat}{A B:Prop}(h:A):oJ (.bool (JF (u:Int) 0)) A B:=pO (mY (di u)) h
theorem ae_ {l:List Nat}:gtB ((l.length:Nat):Int) 1=decide (l.length>1):=JI
theorem Yh (T:TabAt n m Y W){pl:List Nat}{os:List One}(C:oU (d+1) z W pl os)(pK:pl.length<=900)(hn:name∈namesOf z)(hl:W.rows.length+pl.length<=900000)(v:PV)(hv:v=.tup (pl.map iv)\/v=.lst (pl.map iv))(k:Nat){R:PV->St->Prop}
  (h:∀σ' W',l7 n m Y W σ' W' pl.length->W'.lU=W.lU->R (.bool (sk os name&&(nT os name).any oI)) σ'):WC (lY (k+7) .Dm [.loc m,v,.str name] Y) R:=by
 have it:∀τ,ug τ v=some (pl.map iv)/\oD τ (.seq v)=some (pl.map iv):=λτ=>hv.elim (λe=>e▸⟨rfl,rfl⟩) λe=>e▸⟨rfl,rfl⟩;refine nS (SN _ _ _) λR' hR=>?_;kd_p;refine sV pl iv (.seq v) (λs:Rj=>[some (.loc m),some v,some (.str name),some (.loc Y.length),s.x,s.y,none]) (λs=>s.τ) (TlJ n m Y W d name os) ?_ (λbs p cs s hs J N hN=>J.ex.elim λks J=>J.elim λW1 J=>(C.c1 p (mem_mid hs)).elim λo hP=>?_) λs J=>J.ex.elim λks J=>J.elim λW1 J=>?_
 ·kd_p;refine .e (it _).1 ?_;exact⟨⟨_,none,none⟩,rfl,rfl,rfl,rfl,[],W,l7.push T _,rfl,cL ..,dv,aB _,(λ_ h=>nomatch h),λ_ h=>nomatch h⟩
 ·have hc:W1.rows.length+1<=900000:=ae (ae (aU J.1.cost) (av (tB hs) _)) hl;kd_p;refine DB J.1.tab (hP.2.mono J.1.le) (C.ask o hP.1) hn hc _ λw τ2 W2 mG ox hR=>?_
  have hd2:=mG.obj J.2.2.1 (aW T.yp (aB _))
  have r5:=J.1.trans mG
  have hR:Jl d z name W W2 p w:=λo hP=>hR o (hP.mono J.1.le)
  have uP:=hR o hP.2 (C.ask o hP.1);cases hg:m3 o name with
  |none =>
   rw[hg] at uP;cases(uP:w=.int (-1));kd_p;refine pj rfl ?_;kd_p;exact hN ⟨τ2,_,_⟩ (it _).2 ⟨ks,W2,ar▸r5,ox.trans J.2.1,hd2,J.2.2.2.skip mG.le C.ask hR⟩
  |some g0 =>
   rw[hg] at uP;refine uP.elim λu hu=>?_;cases hu.1;kd_p;refine ae9 ?_;kd_p;refine .e (EZ hd2 (ae J.2.2.2.len (ae (bE (tB hs)) (ae pK (by decide)))) u) ?_;kd_p;exact hN ⟨_,_,_⟩ (it _).2 ⟨ins ks u,W2,ar▸r5.set T (aB _) (HZ hd2),ox.trans J.2.1,bx (px hd2),J.2.2.2.put mG.le C.ask hP.1 hg hu.2 hR⟩
 ·have Rk:ks.length<=1000:=ae J.2.2.2.len (ae pK (by decide))
  have T1:=J.1.tab
  have kd:=acO J.2.2.1 Rk
  have ld:=ae8 J.2.2.1 Rk
  have hW:W1.rows.length<=900000:=ae J.1.cost hl;kd_p;refine u1 ks iv iv (zN W1) ?_ (λx hx=>?_) (λx hx _=>?_) ?_
  ·kd_p;exact⟨kd,rfl,rfl⟩
  ·kd_p;refine md (Yg J.1.tab (J.2.2.2.lt hx) hW _) ?_;kd_p
  ·kd_p
  kd_p;exact hR _ _ _ (((v7 ae_ (zB ks _ iv)).trans (J.2.2.2.fin T1 C)).symm▸h s.τ W1 J.1 J.2.1)
end
section
variable {n m:Nat}{Y σ':St}{W W' pa:Wd}{t p q x y:Nat}{r:Row}{d:Nat}{f:Nat}{P:Nat->One->Prop}{o:One}{z:Bool}{name:String}
theorem Up {g i:Nat}(h:(mq g i).fresh=false)(hg:g<=1):mq g i=mq 0 i:=match g,hg,h with
 |0,_,_=>rfl
 |1,_,h=>s6 (C:=λi=>(mq 1 i).fresh=false->mq 1 i=mq 0 i) (λh=>nomatch h) (λh=>nomatch h) (λ_=>rfl) (λh=>nomatch h) (λh=>nomatch h) (λ_=>rfl) (λh=>nomatch h) (λh=>nomatch h) (λ_=>rfl) (λ_=>rfl) (λ_=>rfl) (λ_=>rfl) (λ_=>rfl) (λ_=>rfl) (λ_ _=>rfl) i h
theorem HF (T:TabAt n m Y W){g i:Nat}(hg:g<=1)(hr:W.rows[t]? =some (mq g i))(hl:W.rows.length+1<=900000)(k:Nat){R:PV->St->Prop}
  (h:∀(u:Nat) σ' W',l7 n m Y W σ' W' 1->W'.lU=W.lU->W'.rows[u]? =some (mq 0 i)->((mq g i).fresh=false->u=t/\σ'=Y)->R (iv u) σ'):WC (lY (k+2) .AI [.loc n,iv t] Y) R:=by
 have ht:=pZ (nf hr) hl
 have ir:=T.nD hr ht;refine nS (Kx _ _) λR' hR=>?_;kd_p;refine md (Hh T hr ht _) ?_;kd_p;refine nh (λhf=>(OG (K0 hf)).elim λl x=>?_) λhf=>?_
 ·kd_p;refine .e x.ri ?_;kd_p;refine .e x.add ?_;kd_p;refine u_ T (mq g i).qw (λps e=>absurd (y_ g i▸e) (AF _ _ _)) hl _ λu σ' W' st hu hb=>?_;kd_p;exact hR _ _ _ (h u σ' W' st hb (y_ g i▸hu) λe=>by rw[e] at hf;cases hf)
 ·kd_p;exact hR _ _ _ (h t Y W ((l7.refl T).weaken (aC _)) rfl (Up hf hg▸hr) λ_=>⟨rfl,rfl⟩)
structure xw (P:Nat->One->Prop)(W:Wd)(k:Nat)(ps:List Nat)(l:List (Nat×Kd)):Prop where
 ids:l.map (·.1)=ps
 den:∀x∈l,Den 0 P W x.1 x.2
 Cu:∀x∈l,mT x.2.1
 nil:∀x∈l,x.2.2=[]
 sub:∀x∈l,∀i,x.2.1.testBit i=true->k.testBit i=true
 all:∀p∈ps,∀i,i<14->W.rows[p]? =some (mq 0 i)->∃x∈l,x.2.1.testBit i=true
theorem acP {i j:Nat}(h:(2^i).testBit j=true):i=j:=l9 (dw▸h)
theorem xw.cons {k p i:Nat}{ps:List Nat}{l:List (Nat×Kd)}(x:xw P W k ps l)(h2:p≠2)(hi:i<14)(hb:k.testBit i=true)(hr:W.rows[p]? =some (mq 0 i)):xw P W k (p::ps) ((p,(2^i,[]))::l) :=
 ⟨lT (p::·) x.ids,List.forall_mem_cons.mpr ⟨zo (g:=0) h2 hi hr (.inl rfl),x.den⟩,List.forall_mem_cons.mpr ⟨Bl hi,x.Cu⟩,List.forall_mem_cons.mpr ⟨rfl,x.nil⟩,List.forall_mem_cons.mpr ⟨λj hj=>acP hj▸hb,x.sub⟩,
  List.forall_mem_cons.mpr ⟨λj hj JO=>⟨_,aG ..,vN hi hj (aq (hr.symm.trans JO))▸gx⟩,λq hq j hj JO=>(x.all q hq j hj JO).elim λy h=>⟨y,aE _ h.1,h.2⟩⟩⟩
theorem Lw {k:Nat}:∀{ps:List Nat},(∀p∈ps,p≠2/\∃i,i<14/\k.testBit i=true/\W.rows[p]? =some (mq 0 i))->∃l:List (Nat×Kd),xw P W k ps l
 |[],_=>⟨[],rfl,λ_ h=>(nomatch h),λ_ h=>(nomatch h),λ_ h=>(nomatch h),λ_ h=>(nomatch h),λ_ h=>nomatch h⟩
 |p::ps,h=>(Lw (ps:=ps) λq hq=>h q (aE _ hq)).elim λl x=>(h p (aG ..)).2.elim λi y=>⟨_,x.cons (h p (aG ..)).1 y.1 y.2.1 y.2.2⟩
theorem qt {i:Nat}(ha:AR 0 W p i):W.rows[p]? =some (mq 0 i):=ha.elim id λh=>absurd h.1 (by decide)
theorem Den.Ba {k:Nat}(D:Den 0 P W t (k,[])):∀p∈l8 W t,∃i,i<14/\k.testBit i=true/\W.rows[p]? =some (mq 0 i):=λp hp =>
 (D.sound p hp).elim (λh=>h.elim λi h=>⟨i,h.1,h.2.1,qt h.2.2⟩) λh=>h.elim λo h=>zm h.1
theorem Pt {k i:Nat}(hk:mT k)(hb:k.testBit i=true):i<14:=fk λhn=>by
 rw[dx (aW hk.lt (cZ (by decide) hn))] at hb;cases hb
theorem xw.Qp {k:Nat}{ps:List Nat}{l:List (Nat×Kd)}(x:xw P W k ps l):(l.map (·.2)).flatMap (·.2)=[]:=List.flatMap_eq_nil_iff.mpr λy hy=>(List.mem_map.mp hy).elim λa h=>h.2▸x.nil a h.1
theorem xw.or {k:Nat}{l:List (Nat×Kd)}(x:xw P W k (l8 W t) l)(hk:mT k)(D:Den 0 P W t (k,[])):nH (l.map (·.2))=k:=cY λi=>Bool.eq_iff_iff.mpr
 ⟨λhb=>(va.mp hb).elim λkk h=>(List.mem_map.mp h.1).elim λy e=>x.sub y e.1 i (e.2▸h.2),
 λhb=>(D.atoms i (Pt hk hb) hb).elim λp h=>(x.all p h.1 i (Pt hk hb) (qt h.2)).elim λy e=>va.mpr ⟨y.2,List.mem_map.mpr ⟨y,e.1,rfl⟩,e.2⟩⟩
theorem Vu (T:TabAt n m Y W){k:Nat}(hk:mT k)(D:Den 0 (PF 0 d W) W t (k,[]))(hl:W.rows.length+1<=900000)(fu:Nat){R:PV->St->Prop}
  (h:∀(u:Nat) σ' W',l7 n m Y W σ' W' 1->W'.lU=W.lU->Den 0 (PF 0 d W') W' u (k,[])->R (iv u) σ'):WC (lY (fu+4) .regular [.loc n,iv t] Y) R:=by
 have ht:=pZ D.lt hl
 have Gd:W.rows[t]? =some (W.rows[t]'D.lt):=aQ D.lt;refine nS (KZ _ _) λR' hR=>?_;kd_p;refine md (Ei T Gd ht _) ?_;kd_p;refine IK (λps e=>?_) λhu=>?_
 ·have uG:=D.Ba
  have hpo:=T.wW Gd;kd_p;refine sW (l8 W t) iv iv ?_ (λp hp=>(uG p hp).elim λi x=>?_) ?_
  ·kd_p;refine md (u4 T Gd ht _) ?_;kd_p;exact SI.t rfl
  ·kd_p;refine HF T (g:=0) (by decide) x.2.2 hl _ λu σ' W' st hb hu IU=>?_;have hs:=IU (KO i);kd_p;exact⟨lT (λn:Nat=>iv n) hs.1,hs.2⟩
  refine(Lw (W:=W) (P:=PF 0 d W) (k:=k) λp hp=>⟨(hpo p hp).ne,uG p hp⟩).elim λl x=>?_;kd_p;refine Hl T (Ik x.den x.Cu) (by rw[x.Qp];decide) hl _ (.inr (lT (λl:List Nat=>PV.lst (l.map iv)) x.ids.symm)) _ λu σ' W' st hb hD=>?_;kd_p;have hD:=hD (PF 0 d W') λp o h=>h.mono st.le;rw[sS,x.Qp,x.or hk D,hk.Ct] at hD;exact hR _ _ _ (h u σ' W' st hb hD)
 ·kd_p;by_cases h2:t=2
  ·subst h2;have e2:W.rows[2]? =some (.key "never"):=T.nJ rfl;refine nS (Kx _ _) λR2 hR2=>?_;kd_p;refine md (Hh T e2 ht _) ?_;kd_p;refine pj rfl ?_;kd_p;exact hR2 _ _ _ (hR _ _ _ (h 2 Y W ((l7.refl T).weaken (aC _)) rfl D))
  ·have pK:l8 W t=[t]:=vT h2 Gd hu;refine(D.Ba t (pK▸aG ..)).elim λi x=>?_;refine HF T (g:=0) (by decide) x.2.2 hl _ λu σ' W' st hb hu IU=>?_
   have hs:=IU (KO i);cases hs.1;cases hs.2;kd_p;exact hR _ _ _ (h _ _ W' st hb (D.up st.le))
end
section
variable {n m:Nat}{Y σ':St}{W W' pa:Wd}{t p q x y:Nat}{r:Row}{d:Nat}{f:Nat}{P:Nat->One->Prop}{o:One}{z:Bool}{name:String}
noncomputable def sD (i k:Nat):Bool:=k.testBit 12||k.testBit 11||(k.testBit i||(k.testBit 2&&(decide (i=0)||decide (i=1)))||(k.testBit 5&&(decide (i=3)||decide (i=4)))||(k.testBit 10&&decide (i=9)))
theorem Pw {k:Nat}(hk:mT k)(h:k.testBit 12=true):k=2^12:=by
 have e:=hk.Ct;unfold nR at e;rw[lW ((sU k 12).mpr h)] at e;exact e.symm
theorem ahp {k:Nat}(hk:mT k)(h:k.testBit 12=false)(h2:k.testBit 11=true):k=2^11:=by
 have e:=hk.Ct;unfold nR at e;rw[lX (λe=>by rw[(sU k 12).mp e] at h;cases h),lW ((sU k 11).mpr h2)] at e;exact e.symm
theorem acQ (T:TabAt n m Y W){k:Nat}(hk:mT k)(D:Den 0 P W t (k,[])):(t=0↔k.testBit 12=true)/\(t=1↔(k.testBit 12=false/\k.testBit 11=true))/\t≠13:=by
 have sH:∀{i j:Nat},i<14->pP[j]? =some (mq 0 i)->j≠2->t=j->k.testBit i=true:=λ{i j} hi hj h2 e =>
  (D.Ba t ((vT (e▸h2) (e▸T.nJ hj) (AF _ _))▸aG ..)).elim λi' x=>vN hi x.1 (aq ((T.nJ hj).symm.trans (e▸x.2.2)))▸x.2.1
 refine⟨⟨λe=>sH (i:=12) (by decide) rfl (by decide) e,λh=>?_⟩,⟨λe=>?_,λh=>?_⟩,λe=>?_⟩
 ·cases Pw hk h;exact Il T D (zo (g:=0) (i:=12) (by decide) (by decide) (T.nJ rfl) (.inl rfl))
 ·have sI:=sH (i:=11) (by decide) rfl (by decide) e;refine⟨?_,sI⟩;cases h:k.testBit 12 with
  |false=>rfl
  |true=>cases Pw hk h;exact absurd sI (by decide)
 ·cases ahp hk h.1 h.2;exact Il T D (zo (g:=0) (i:=11) (by decide) (by decide) (T.nJ rfl) (.inl rfl))
 ·have hr:W.rows[t]? =some (.key "error"):=e▸T.nJ rfl;exact(D.Ba t ((vT (e▸by decide) hr λ_=>nofun)▸aG ..)).elim λi' x=>absurd ((KR 0 i').symm.trans (lT (λr=>match r with|.key s=>decide (s="error")|_=>false) (aq (x.2.2.symm.trans hr)))) (by decide)
theorem EF (T:TabAt n m Y W){k i:Nat}(hi:i<14)(D:Den 0 P W t (k,[]))(hr:W.rows[p]? =some (mq 0 i)):decide (p∈l8 W t)=k.testBit i:=by
 rw[bg,decide_eq_true_eq];exact⟨λh=>(D.Ba p h).elim λj x=>vN hi x.1 (aq (hr.symm.trans x.2.2))▸x.2.1,λh=>(D.atoms i hi h).elim λp' x=>zi T.nodup hr (qt x.2)▸x.1⟩
theorem ON (l:List Nat):(l.map iv).all PV.nQ=true:=List.all_eq_true.mpr λ_ hx=>(List.mem_map.mp hx).elim λ_ h=>h.2▸rfl
theorem E4 (Y:St)(a:Nat)(l:List Nat):oW Y .In (iv a) (.tup (l.map iv))=some (decide (a∈l)) :=
 (Mt (Y:=Y) rfl (ON l)).trans (lT some (pH.mpr ⟨λh=>(List.mem_map.mp h).elim λ_ x=>xW x.2▸x.1,λh=>List.mem_map.mpr ⟨a,h,rfl⟩⟩))
theorem afa (Y:St)(l:List Nat):oW Y .In (.int (-1)) (.tup (l.map iv))=some false :=
 (Mt (Y:=Y) rfl (ON l)).trans (lT some (decide_eq_false λh=>(List.mem_map.mp h).elim λ_ x=>nomatch PV.int.inj x.2))
theorem WH (r:Row)(hr:r.kind≠5)(v w:PV)(k:Nat):lY (k+1) .Dl [v,r.pv,w] Y=some (.bool false,Y):=by
 have ik:=o3 Y r;refine nr (SM _ _ _) λR hR=>?_;kd_p;refine mD (lT not (vX (b:=5) hr)) (qC ?_);kd_p;exact hR _ _ rfl
theorem afb {A B:Prop}[Decidable A][Decidable B]{b1 b2:Bool}(h0:A↔b1=true)(h1:B↔(b1=false/\b2=true)):(decide A||(decide B||false))=(b1||b2):=by
 rw[show decide A=b1 from Bool.eq_iff_iff.mpr (decide_eq_true_iff.trans h0),show decide B=(!b1&&b2) from Bool.eq_iff_iff.mpr (decide_eq_true_iff.trans (h1.trans (by rw[aL,bV])))];cases b1<;>cases b2<;>rfl
noncomputable def IV:Row->Bool|.key s=>decide (s="never")|_=>false
theorem WI (g i:Nat):IV (mq g i)=false:=s6 (C:=λi=>IV (mq g i)=false) rfl rfl rfl rfl rfl rfl rfl rfl rfl rfl rfl rfl rfl rfl (λ_=>rfl) i
theorem KU (g i:Nat):mq g i≠.key "never":=λe=>absurd ((lT IV e).symm.trans (WI g i)) (by decide)
theorem aaa (T:TabAt n m Y W){g i:Nat}(hg:g<=1)(hr:W.rows[t]? =some (mq g i))(hl:W.rows.length+1<=900000)(k:Nat){R:PV->St->Prop}
  (h:∀(u:Nat) σ' W',l7 n m Y W σ' W' 1->W'.lU=W.lU->W'.rows[u]? =some (mq 0 i)->R (iv u) σ'):WC (lY (k+4) .regular [.loc n,iv t] Y) R:=by
 refine nS (KZ _ _) λR' hR=>?_;kd_p;refine md (Ei T hr (pZ (nf hr) hl) _) ?_;kd_p;refine pj (vX (b:=6) (GW g i).1) ?_;kd_p;refine HF T hg hr hl _ λu σ' W' st hb hu _=>?_;kd_p;exact hR _ _ _ (h u σ' W' st hb hu)
noncomputable def E5 (k i:Nat):Bool:=(k.testBit 2&&(decide (i=0)||decide (i=1)))||(k.testBit 5&&(decide (i=3)||decide (i=4)))
theorem Yi (T:TabAt n m Y W){k i:Nat}(hi:i<14)(D:Den 0 P W t (k,[])):oW Y .In (.int (mq 0 i).whole) (.tup ((l8 W t).map iv))=some (E5 k i):=by
 have a2:=EF T (i:=2) (by decide) D (T.nJ (i:=6) rfl);have a5:=EF T (i:=5) (by decide) D (T.nJ (i:=7) rfl);have m6:oW Y .In (.int 6) (.tup ((l8 W t).map iv))=some (k.testBit 2):=a2▸E4 Y 6 _;have m7:oW Y .In (.int 7) (.tup ((l8 W t).map iv))=some (k.testBit 5):=a5▸E4 Y 7 _;have mn:=afa Y (l8 W t);revert m6 m7 mn;generalize PV.tup ((l8 W t).map iv)=v;unfold E5;generalize k.testBit 2=x;generalize k.testBit 5=y;intro m6 m7 mn;refine s6 (C:=λi=>oW Y .In (.int (mq 0 i).whole) v=some ((x&&(decide (i=0)||decide (i=1)))||(y&&(decide (i=3)||decide (i=4))))) ?_ ?_ ?_ ?_ ?_ ?_ ?_ ?_ ?_ ?_ ?_ ?_ ?_ ?_ ?_ i
 ·exact m6.trans (by cases x<;>cases y<;>rfl)
 ·exact m6.trans (by cases x<;>cases y<;>rfl)
 ·exact mn.trans (by cases x<;>cases y<;>rfl)
 ·exact m7.trans (by cases x<;>cases y<;>rfl)
 ·exact m7.trans (by cases x<;>cases y<;>rfl)
 all_goals first|exact mn.trans (by cases x<;>cases y<;>rfl)|exactλn=>mn.trans (by cases x<;>cases y<;>rfl)
theorem ahq {k i:Nat}(h:(k.testBit 12||k.testBit 11)=false):(!(k.testBit i||(E5 k i||false))&&!(decide (i=9)&&k.testBit 10))=!sD i k:=by
 have h:=Bool.or_eq_false_iff.mp h;unfold sD E5;rw[h.1,h.2];generalize k.testBit i=a;generalize (k.testBit 2&&(decide (i=0)||decide (i=1)))=b;generalize (k.testBit 5&&(decide (i=3)||decide (i=4)))=c;generalize k.testBit 10=e;generalize decide (i=9)=f;revert a b c e f;decide
theorem acR (T:TabAt n m Y W){u i:Nat}(hi:i<14)(h:W.rows[u]? =some (mq 0 i)):decide ((u:Int)=4)=decide (i=9):=(rv u 4).trans (pH.mpr ⟨λe=>(vN (f:=0) (g:=0) (i:=9) (by decide) hi (aq ((T.nJ (i:=4) rfl).symm.trans (e▸h)))).symm,λe=>T.A6 (r:=mq 0 9) rfl (by rw[e] at h;exact h)⟩)
theorem acS (T:TabAt n m Y W){k i g:Nat}(hk:mT k)(hi:i<14)(hg:g<=1)(hr:W.rows[p]? =some (mq g i))(D:Den 0 (PF 0 d W) W t (k,[]))(hl:W.rows.length+2<=900000)(fu:Nat){R:PV->St->Prop}
  (h:∀σ' W',l7 n m Y W σ' W' 2->W'.lU=W.lU->R (.bool (sD i k)) σ'):WC (lY (fu+5) .DG [.loc n,iv p,iv t] Y) R:=by
 have tb:=acQ T hk D;refine nS (Tz _ _ _) λR' hR=>?_;kd_p;refine mD ((qe (rv t 0) (qe (rv t 1) (vX (b:=13) tb.2.2))).trans (afb tb.1 tb.2.1)) (nh (λh1=>?_) λh1=>?_)
 ·have e:sD i k=true:=by unfold sD;rw[h1];rfl
  kd_p;exact hR _ _ _ (e▸h Y W ((l7.refl T).weaken (aC _)) rfl)
 kd_p;refine Vu T hk D (bE hl) _ λu σ1 W1 nU rL D1=>?_;have pY:W1.rows.length+1<=900000:=ae (aU nU.cost) hl;kd_p;refine md (u4 nU.tab (aQ D1.lt) (pZ D1.lt pY) _) ?_;kd_p;refine Bg ?_;kd_p;refine aaa nU.tab hg (nU.le.row hr) pY _ λu2 σ2 W2 mG ox pR=>?_;have T2:=mG.tab;have z7:l8 W2 u2=[u2]:=vT (T2.vi (i:=2) rfl pR (KU 0 i)) pR (AF _ _);have h6:u2<=1000000:=ae (aS (aW (nf pR) (ae mG.cost pY))) (by decide);have Rl:=u4 T2 pR h6 (fu+3);rw[z7] at Rl;kd_p;refine md Rl ?_;kd_p;have D2:=D1.up mG.le;have Ge:l8 W2 u=l8 W1 u:=za mG.le D1.lt;have ir:=T2.nD pR h6;have mi:=E4 σ2 u2 (l8 W1 u);rw[← Ge,EF T2 hi D2 pR,Ge] at mi;have mw:=Ge▸Yi T2 hi D2;have mv:oW σ2 .In (.int 3) (.tup ((l8 W1 u).map iv))=some (k.testBit 10):=Ge▸EF T2 (i:=10) (by decide) D2 (T2.nJ (i:=3) rfl)▸E4 σ2 3 _;refine Ie rfl λN hN=>?_;kd_p
 ·refine md (L0 _ _) ?_;kd_p
 ·refine md (WH _ (GW 0 i).2 _ _ _) ?_;kd_p
 ·exact .r
 kd_p;refine mD ((v7 rfl (lT not (v7 (acR T2 hi pR) rfl))).trans (ahq h1)) (nh (λhf=>?_) λhf=>?_)
 ·kd_p;exact hR _ _ _ ((bV _).mp hf▸h σ2 W2 (nU.trans mG) (ox.trans rL))
 ·refine hN _ ?_;kd_p;exact hR _ _ _ ((f9 _).mp hf▸h σ2 W2 (nU.trans mG) (ox.trans rL))
end
theorem pick {V β:Type}[Inhabited β]{pl:List V}{C:V->β->Prop}(h:∀p∈pl,∃b,C p b):∃B:V->β,∀p∈pl,C p (B p):=by
 have h':∀p,∃b,p∈pl->C p b:=λp=>by
  by_cases hp:p∈pl
  ·obtain⟨b,hb⟩:=h p hp;exact⟨b,λ_=>hb⟩
  ·exact⟨default,λx=>absurd x hp⟩
 exact⟨λp=>Classical.choose (h' p),λp hp=>Classical.choose_spec (h' p) hp⟩
theorem afc (i:Nat):(512:Nat).testBit i=decide (i=9):=by
 have:(512:Nat)=2^9:=rfl;rw[this,dw];exact pH.mpr eq_comm
theorem IW {c:Prop}[Decidable c](a i:Nat)(b:Bool)(h:c↔b=true):(if c then a else 0).testBit i=(b&&a.testBit i):=by
 cases b with
 |true=>rw[lW (h.mpr rfl)];rfl
 |false=>rw[lX (λe=>by have:=h.mp e;cases this),c6];rfl
theorem aab (g i:Nat):(yb g).testBit i=(g.testBit i||(g.testBit 2&&(decide (i=0)||decide (i=1)))||(g.testBit 5&&(decide (i=3)||decide (i=4)))||(g.testBit 10&&decide (i=9))):=by
 unfold yb;rw[ey,ey,ey,IW 3 i (g.testBit 2) (sU g 2),IW 24 i (g.testBit 5) (sU g 5),IW 512 i (g.testBit 10) (sU g 10),Qn,Pp,afc]
theorem B_ {k i:Nat}(hk:k<2^14)(h:k.testBit i=true):i<14:=by
 apply fk;intro hn;rw[dx (aW hk (cZ (by decide) hn))] at h;cases h
theorem afd {i g:Nat}(h:g.testBit 12=true\/g.testBit 11=true):sD i g=true:=by unfold sD;exact h.elim (λh=>by rw[h];rfl) λh=>by rw[h,jc];rfl
theorem afe {i g:Nat}(h:¬(g.testBit 12=true\/g.testBit 11=true)):sD i g=(yb g).testBit i:=by
 rw[aab,sD,Bool.eq_false_iff.mpr λe=>h (.inl e),Bool.eq_false_iff.mpr λe=>h (.inr e),dH,dH]
theorem aac {mk:Nat}{g:Kd}(hk:mT mk):qD (mk,[]) (some g)=true↔∃i,i<14/\mk.testBit i=true/\sD i g.1=true:=by
 unfold qD;dsimp only;by_cases h0:mk=0
 ·rw[lW h0];exact⟨λh=>(nomatch h),λh=>h.elim λi h=>by rw[h0,c6] at h;cases h.2.1⟩
 rw[lX h0];by_cases h1:g.1&&&6144≠0
 ·rw[lW h1];exact⟨λ_=>(NN hk h0).elim λi h=>⟨i,h.1,h.2,afd ((wZ _).mp h1)⟩,λ_=>rfl⟩
 ·rw[lX h1,decide_eq_true_eq];have hf:∀i,sD i g.1=(yb g.1).testBit i:=λi=>afe λe=>h1 ((wZ _).mpr e);exact⟨λh=>(jb h).elim λi hi=>El.nL (gu ..▸hi) λa b=>⟨i,B_ hk.lt a,a,(hf i).trans b⟩,λh e=>h.elim λi h=>by
   have:(mk&&&yb g.1).testBit i=true:=by rw[gu,h.2.1,← hf,h.2.2];rfl
   rw[e,c6] at this;cases this⟩
theorem tW.nil {l:List Nat}{x:Option Kd}{g:Kd}(h:tW l x)(e:x=some g):g.2=[]:=h.elim (λh=>by rw[h] at e;cases e) λh=>h.elim λm h=>by rw[h.2] at e;cases e;rfl
theorem Yj {z:Bool}{d:Nat}{o:One}{name:String}(h:mJ z (d+1) o)(hn:name≠rz z){g:Kd}(e:m3 o name=some g):g.2=[] :=
 h.elim (λh=>h.2.elim λkd h=>absurd ((IT h.2).symm.trans e) nofun)
  λh=>E2 e (λp hm hp h1 h0=>(h.2.2.2.1 p hm).2.elim (λx=>x.2.elim λm x=>if hf:p.2.2&&&1=0 then by rw[h0 hf,x.2] else by rw[h1 hf,x.2];rfl) λx=>absurd (hp.symm.trans x.1) hn) (λ_=>tW.nil h.2.2.2.2.2) λ_=>tW.nil h.2.2.2.2.1
section
variable {n m:Nat}{Y σ':St}{W W' pa:Wd}{t p q x y:Nat}{r:Row}{d:Nat}{f:Nat}{P:Nat->One->Prop}{o:One}{z:Bool}{name:String}
theorem ahr {r:Row}{i g:Nat}(e:W.rows[p]? =some (mq g i))(h:∃r,W.rows[p]? =some r/\n7 r=true){G:Prop}:G:=h.elim λr h=>absurd ((aq (h.1.symm.trans e))▸h.2:n7 (mq g i)=true) (by rw[wL];decide)
theorem HG {g g':Kd}(D:Den 0 P W x g)(D':Den 0 P W x g')(hP:∀p o,P p o->∃r,W.rows[p]? =some r/\n7 r=true){i:Nat}(hi:i<14)(h:g.1.testBit i=true):g'.1.testBit i=true :=
 (D.atoms i hi h).elim λp y=>(D'.sound p y.1).elim (λz=>z.elim λj z=>vN z.1 hi (aq ((qt z.2.2).symm.trans (qt y.2)))▸z.2.1) λz=>z.elim λo z=>ahr (r:=.sig) (qt y.2) (hP _ _ z.2)
theorem aad {g g':Kd}(D:Den 0 P W x g)(D':Den 0 P W x g')(hg:mT g.1)(Ao:mT g'.1)(hP:∀p o,P p o->∃r,W.rows[p]? =some r/\n7 r=true):g.1=g'.1:=by
 apply cY;intro i;rw[bg];exact⟨λh=>HG D D' hP (B_ hg.lt h) h,λh=>HG D' D hP (B_ Ao.lt h) h⟩
structure Rm (W:Wd)(mk p i:Nat):Prop where
 lt:i<14
 bit:mk.testBit i=true
 row:∃g,g<=1/\W.rows[p]? =some (mq g i)
theorem aff {mk:Nat}{P:Nat->One->Prop}(D:Den 1 P W t (mk,[])):∀p∈l8 W t,∃i,Rm W mk p i:=λp hp =>
 (D.sound p hp).elim (λh=>h.elim λi h=>h.2.2.row.elim λg x=>⟨i,h.1,h.2.1,g,x.1,x.2.1⟩) λh=>h.elim λo h=>zm h.1
theorem NQ {V:Type}{a:V}{P:V->Prop}(h:P a):∀x∈[a],P x:=λ_ hx=>List.mem_singleton.mp hx▸h
theorem Lx (T:TabAt n m Y W){mk:Nat}(hk:mT mk)(D:Den 1 P W t (mk,[])):(l8 W t).length<=60:=by
 have D':Den 1 (λ_ _=>False) W t (mk,[]):=⟨D.lt,λp hp=>(D.sound p hp).imp id λh=>h.elim λo h=>zm h.1,D.atoms,λo ho=>zm ho,D.cnt⟩;have DL:oG 1 (λ_ _=>False) W [(t,(mk,[]))]:=⟨NQ D',NQ hk,λ_ _ h=>h.elim,λ_ _ _ _ h=>h.elim⟩;refine ae (Hk (r:=mE W [t]) (lu (S:=λa b=>a≠b) (λh=>aZ h) (T.Hm t)) λx hx=>Dd.mpr (.inr ?_)) (IP T DL (aC _));exact List.mem_flatMap.mpr ⟨t,List.mem_singleton.mpr rfl,hx⟩
theorem Yk {v:PV}{a:Nat}{x:Option Kd}(h:xe d W v x)(hv:v=.int (-1)):false=qD (a,[]) x:=match x,h with
 |none,_=>rfl
 |some _,h=>h.elim λu h=>nomatch PV.int.inj (h.1.symm.trans hv)
structure FtJ (n m:Nat)(Y:St)(W:Wd)(f:Nat->Bool)(bs:List Nat)(os:List PV)(τ:St):Prop where
 ex:∃W2,l7 n m Y W τ W2 (2*bs.length)/\W2.lU=W.lU
 os:os=bs.map λq=>PV.bool (f q)
theorem aae {mk gm u id:Nat}(hk:mT mk)(vC:mT gm){P1:Nat->One->Prop}(Dk:Den 1 P1 W id (mk,[]))(D:Den 0 (PF 0 d W') W' u (gm,[])){ix:Nat->Nat}(xx:∀p∈l8 W id,Rm W mk p (ix p)){o':One}(xv:mJ z (d+1) o')(h:xe d W' (iv u) (m3 o' name)):((l8 W id).any λq=>sD (ix q) gm)=qD (mk,[]) (m3 o' name):=by
 cases hg:m3 o' name with
 |none=>rw[hg] at h;exact nomatch PV.int.inj h
 |some g' =>
  rw[hg] at h;refine h.elim λu' h=>?_;have D':=xW h.1▸h.2;have e1:gm=g'.1:=aad D D' vC (vU xv hg).1 λp o h=>h.row;rw[bg,aac hk,bS,← e1];exact⟨λh=>h.elim λq h=>⟨ix q,(xx q h.1).lt,(xx q h.1).bit,h.2⟩,λh=>h.elim λi h=>(Dk.atoms i h.1 h.2.1).elim λq y=>⟨q,y.1,y.2.row.elim λg1 y2=>(xx q y.1).row.elim λg2 y3=>vN h.1 (xx q y.1).lt (aq (y2.2.1.symm.trans y3.2))▸h.2.2⟩⟩
theorem Yl (T:TabAt n m Y W){k i g:Nat}(hk:mT k)(hi:i<14)(hg:g<=1)(hr:W.rows[p]? =some (mq g i))(D:Den 0 (PF 0 d W) W t (k,[]))(hl:W.rows.length+2<=900000)(fu:Nat){R:PV->St->Prop}
  (h:∀σ' W',l7 n m Y W σ' W' 2->W'.lU=W.lU->R (.bool (sD i k)) σ'):WC (lY (fu+6) .y7 [.loc m,iv p,iv t] Y) R:=by
 refine nS (SD _ _ _) λR' hR=>?_;kd_p;refine acS T hk hi hg hr D hl _ λσ' W' st hb=>?_;kd_p;exact hR _ _ _ (h σ' W' st hb)
theorem Uq (T:TabAt n m Y W)(hP:PF 0 (d+1) W p o)(hA:mJ z (d+1) o)(hn:name∈namesOf z)(xy:name≠rz z){mk id fl:Nat}(hk:mT mk){P1:Nat->One->Prop}(Dk:Den 1 P1 W id (mk,[]))(hl:W.rows.length+200<=900000)(k:Nat){R:PV->St->Prop}
  (h:∀b σ' W',l7 n m Y W σ' W' 121->W'.lU=W.lU->(∀o,PF 0 (d+1) W p o->mJ z (d+1) o->b=qD (mk,[]) (m3 o name))->R (.bool b) σ'):WC (lY (k+7) .DM [.loc m,iv p,nj (name,id,fl)] Y) R:=by
 have i0:∀τ,mA τ (.int 0) (nj (name,id,fl))=some (.str name):=λτ=>ui _ _ _
 have i1:∀τ,mA τ (.int 1) (nj (name,id,fl))=some (iv id):=λτ=>qY _ _ _ _
 have j0:=i0 Y
 have xp:∀{a:Nat},a<=200->W.rows.length+a<=900000:=λh=>ae (av h _) hl;refine nS (TG _ _ _) λR' Gf=>?_;kd_p;refine DB T hP hA hn (xp (by decide)) _ λv σ1 W1 nU rL hR=>?_
 have T1:=nU.tab
 have j1:=i1 σ1
 have aiO:W1.rows[id]? =some (W.rows[id]'Dk.lt):=nU.le.row (aQ Dk.lt)
 have Rn:=u4 T1 aiO (pZ Dk.lt (xp (by decide))) (k+5);rw[za nU.le Dk.lt] at Rn;kd_p;refine md Rn ?_;refine(?_:VB _ _ _ _ _ _ _)
 have uP:=hR o hP hA;cases hg:m3 o name with
 |none =>
  rw[hg] at uP;cases(uP:v=.int (-1));refine Oo ?_ ?_
  ·kd_p
  exact Gf _ _ _ (h false σ1 W1 (nU.weaken (by decide)) rL λo' uN xv=>Yk (hR o' uN xv) rfl)
 |some g =>
  have Cy:g.2=[]:=Yj hA xy hg
  have vC:mT g.1:=(vU hA hg).1;rw[hg] at uP;revert Cy vC uP;cases g with|mk gm gl =>
  intro uP Cy vC;cases(Cy:gl=[]);refine uP.elim λu hu=>?_;cases hu.1;refine(pick (aff Dk)).elim λix xx=>?_;refine aen ?_ ?_
  ·kd_p
  kd_p;refine Bx (l8 W id) iv (.seq (.tup ((l8 W id).map iv))) (FtJ n m σ1 W1 λq=>sD (ix q) gm) ?_ (λbs q cs os τ hs J=>J.ex.elim λW2 J2=>(xx q (mem_mid hs)).row.elim λg hg=>?_) λos τ J=>J.ex.elim λW2 J2=>?_
  ·kd_p;exact⟨rfl,rfl,⟨W1,l7.refl T1,rfl⟩,rfl⟩
  ·have T2:=J2.1.tab
   have tc:2*bs.length+2<=120:=cx 2 (ae (tB hs) (Lx T hk Dk))
   have rM:W2.rows.length+2<=900000:=ae (ak J2.1.cost 2) (ae (av tc _) (ae (ak nU.cost 120) (xp (a:=121) (by decide))));kd_p;refine Yl T2 vC (xx q (mem_mid hs)).lt hg.1 ((nU.trans J2.1).le.row hg.2) (hu.2.up J2.1.le) rM _ λτ2 W3 nP qx=>?_;kd_p;exact⟨rfl,⟨W3,(J2.1.trans nP).weaken (by rw[ar];exact aB _),qx.trans J2.2⟩,by rw[J.os,aO];rfl⟩
  ·refine(?_:VO _ _);rw[J.os];refine .e (Mv _ _ _) ?_;exact Gf _ _ _ (h _ τ W2 ((nU.trans J2.1).weaken (ae (av (cx 2 (Lx T hk Dk)) 1) (by decide))) (J2.2.trans rL) λo' uN xv=>aae hk vC Dk hu.2 xx xv (hR o' uN xv))
end
structure Qq (D:Nat->Kd->Prop)(xs:List (String×Nat×Nat))(ps:List mj)(zs:List ((String×Nat×Nat)×mj)):Prop where
 a:zs.map (·.1)=xs
 b:zs.map (·.2)=ps
 r:∀y∈zs,y.1.1=y.2.1/\y.1.2.2=y.2.2.2/\D y.1.2.1 y.2.2.1
theorem nX.zip {D:Nat->Kd->Prop}:∀{xs:List (String×Nat×Nat)} {ps:List mj},nX D xs ps->∃zs,Qq D xs ps zs
 |[],[],_=>⟨[],rfl,rfl,λ_ h=>nomatch h⟩
 |x::_,p::_,h=>(nX.zip h.2.2.2).elim λzs z=>⟨(x,p)::zs,lT (x::·) z.a,lT (p::·) z.b,List.forall_mem_cons.mpr ⟨⟨h.1,h.2.1,h.2.2.1⟩,z.r⟩⟩
theorem acT (z:Bool):("0":String)≠rz z:=by cases z<;>decide
theorem OO {m:Nat}(h:m∈vW):oI (m,[])=false/\oI (both (m,[]) (512,[]))=false:=(by decide:∀m∈vW,oI (m,[])=false/\oI (both (m,[]) (512,[]))=false) m h
theorem OP {k:Kd}(h:1<=k.2.length):oI k=false:=by
 have:k.2.isEmpty=false:=by cases hk:k.2 with|nil=>rw[hk] at h;cases h|cons _ _=>rfl
 rw[oI,this];rfl
theorem OQ {A:One->Prop}{k:Kd}(h:xc A k):oI k=false/\oI (both k (512,[]))=false:=h.elim (λh=>h.elim λm h=>h.2▸OO h.1) λh=>h.elim λos h=>h.1▸⟨OP h.2.1,OP (by rw[both,bc];exact h.2.1)⟩
theorem UR {z:Bool}{d:Nat}{os:List One}(hA:∀o∈os,mJ z (d+1) o):(nT os (rz z)).any oI=false:=List.any_eq_false.mpr λg hg=>(List.mem_filterMap.mp hg).elim λo x=>by
 have key:oI g=false:=(hA o x.1).elim (λh=>h.2.elim λkd h=>absurd ((IT h.2).symm.trans x.2) nofun) λh=>E2 x.2
  (λp hm hp h1 h0=>(h.2.2.2.1 p hm).2.elim (λy=>absurd hp y.1) λy=>if hf:p.2.2&&&1=0 then h0 hf▸(OQ y.2).1 else h1 hf▸(OQ y.2).2)
  (λe _=>absurd e.symm (acT z)) λ_ e=>h.2.2.2.2.1.elim (λh=>by rw[h] at e;cases e) λh=>h.elim λm h=>by rw[h.2] at e;cases e;exact(OO h.1).1
 rw[key];decide
theorem WJ (ps:List mj)(p:mj)(os:List One):nY (ps++[p]) os=qj os (nY ps os) p:=by simp[nY]
section
variable {n m:Nat}{Y σ':St}{W W' pa:Wd}{t p q x y:Nat}{r:Row}{d:Nat}{f:Nat}{P:Nat->One->Prop}{o:One}{z:Bool}{name:String}
def ye (z:Bool)(ps:List mj):Prop:=∀p∈ps,p.1∈namesOf z/\(p.1≠rz z->∃mk,mT mk/\p.2.1=(mk,[]))
structure Ro where
 τ:St
 pl:List Nat
 x:Option PV
 y:Option PV
structure TdJ (n m d:Nat)(z:Bool)(Y:St)(W:Wd)(pl:List Nat)(os:List One)(bs:List ((String×Nat×Nat)×mj))(s:Ro):Prop where
 ex:∃W1,l7 n m Y W s.τ W1 (bs.length*(pl.length*122))/\W1.lU=W.lU/\oU (d+1) z W1 s.pl (nY (bs.map (·.2)) os)
 sub:∀p∈s.pl,p∈pl
 len:s.pl.length<=pl.length
structure Cz (n m d:Nat)(z:Bool)(nm:String)(mk:Nat)(Y:St)(W:Wd)(xs:List Nat)(l:List Nat)(τ:St)(W3:Wd):Prop where
 st:l7 n m Y W τ W3 (xs.length*121)
 lU:W3.lU=W.lU
 sub:∀p∈l,p∈xs
 len:l.length<=xs.length
 iff:∀p∈xs,∀o,PF 0 (d+1) W p o->mJ z (d+1) o->(p∈l↔qD (mk,[]) (m3 o nm)=true)
theorem Cz.push {nm:String}{mk:Nat}{xs l:List Nat}{τ τ4:St}{W3 W4:Wd}(J:Cz n m d z nm mk Y W xs l τ W3)(st:l7 n m τ W3 τ4 W4 121)(hb:W4.lU=W3.lU){b:Bool}(hB:∀o,PF 0 (d+1) W p o->mJ z (d+1) o->(b=true↔qD (mk,[]) (m3 o nm)=true))(ho:∃o,PF 0 (d+1) W p o/\mJ z (d+1) o):Cz n m d z nm mk Y W (xs++[p]) (bif b then l++[p] else l) τ4 W4 where
 st:=(J.st.trans st).weaken (by rw[ar,cq];exact aB _)
 lU:=hb.trans J.lU
 sub:=λq hq=>by
  cases b with
  |true=>exact(List.mem_append.mp hq).elim (λh=>dp _ (J.sub q h)) λh=>dj _ h
  |false=>exact dp _ (J.sub q hq)
 len:=by
  rw[ar];cases b with
  |true=>exact ae (ax ar) (aU J.len)
  |false=>exact ef J.len
 iff:=λq hq o hP hA=>by
  by_cases e:q=p
  ·subst e;rw[← hB o hP hA];cases b with
   |true=>exact⟨λ_=>rfl,λ_=>dj _ (List.mem_singleton.mpr rfl)⟩
   |false=>exact⟨λh=>ho.elim λo' h'=>((hB o' h'.1 h'.2).mpr ((J.iff q (J.sub q h) o' h'.1 h'.2).mp h)),λh=>nomatch h⟩
  ·have hq:q∈xs:=(List.mem_append.mp hq).resolve_right λh=>e (List.mem_singleton.mp h);rw[← J.iff q hq o hP hA];cases b with
   |true=>exact⟨λh=>(List.mem_append.mp h).resolve_right λh=>e (List.mem_singleton.mp h),λh=>dp _ h⟩
   |false=>exact Iff.rfl
theorem oU.aiP {nm:String}{mk:Nat}{xs l:List Nat}{τ:St}{W3:Wd}{os:List One}(J:Cz n m d z nm mk Y W xs l τ W3)(C:oU (d+1) z W xs os):oU (d+1) z W3 l (os.filter λo=>qD (mk,[]) (m3 o nm)) :=
 ⟨λo ho=>C.ask o (List.mem_filter.mp ho).1,λp hp=>(C.c1 p (J.sub p hp)).elim λo h=>⟨o,List.mem_filter.mpr ⟨h.1,(J.iff p (J.sub p hp) o h.2 (C.ask o h.1)).mp hp⟩,h.2.mono J.st.le⟩,
 λo ho=>(C.c2 o (List.mem_filter.mp ho).1).elim λp h=>⟨p,(J.iff p h.1 o h.2 (C.ask o (List.mem_filter.mp ho).1)).mpr (List.mem_filter.mp ho).2,h.2.mono J.st.le⟩⟩
theorem oU.nil {os:List One}(C:oU d z W [] os):os=[]:=List.eq_nil_iff_forall_not_mem.mpr λo ho=>(C.c2 o ho).elim λ_ h=>nomatch h.1
theorem oU.cons {os:List One}{p:Nat}{l:List Nat}(C:oU d z W (p::l) os):os.isEmpty=false:=(C.c1 p (aG ..)).elim λo h=>by cases os with|nil=>exact nomatch h.1|cons _ _=>rfl
theorem oU.of {pl:List Nat}{os Rp:List One}(C:oU d z W pl Rp)(e:os=Rp):oU d z W pl os:=e▸C
theorem afg {a b c:Nat}(ha:a<3)(hb:b<=30)(hl:W.rows.length+20000<=900000)(hc:c<=W.rows.length+a*(b*122)):c+11000<=900000:=by
 exact ae (ak (ae hc (av (jd (cK ha) (aM 122 hb)) _)) 11000) (ae (ax (aP ..)) (ae (av (by decide) _) hl))
theorem OS {a b c:Nat}(h:c<=b):a*(b*122)+b+c*121<=(a+1)*(b*122):=by
 rw[cq,bU,je b 121,aP,b9 b];exact av (ak (aM 121 h) b) _
theorem Im {bs:List ((String×Nat×Nat)×mj)}{y:(String×Nat×Nat)×mj}{os:List One}{x:List One}(h:qj os (nY (bs.map (·.2)) os) y.2=x):nY ((bs++[y]).map (·.2)) os=x:=by rw[aO];exact(WJ _ _ _).trans h
theorem ahs {os left:List One}{p:mj}(h:(sk os p.1&&(nT os p.1).any oI)=true)(h2:(left.filter λo=>qD p.2.1 (m3 o p.1)).isEmpty=true):qj os left p=left:=(lW h).trans (lW h2)
theorem aht {os left:List One}{p:mj}(h:(sk os p.1&&(nT os p.1).any oI)=true)(h2:(left.filter λo=>qD p.2.1 (m3 o p.1)).isEmpty=false):qj os left p=left.filter λo=>qD p.2.1 (m3 o p.1):=(lW h).trans (lX (by rw[h2];decide))
theorem aaf (T:TabAt n m Y W){s ds:Nat}{ps:List (String×Nat×Nat)}{cs ct:List Nat}{si ni:Option Nat}{fl:Nat}{ops:List mj}(pz:W.rows[s]? =some (.obj ps cs ct si ni fl))(hz:nX (Den 1 (PF 1 ds W) W) ps ops)(sE:ye z ops)
  {pl:List Nat} {os:List One} (C:oU (d+1) z W pl os) (pK:pl.length<=30) (uG:ops.length<=3) (hl:W.rows.length+20000<=900000) (k:Nat) {R:PV->St->Prop}
  (h:∀sJ σ' W',l7 n m Y W σ' W' (ops.length*(pl.length*122))->W'.lU=W.lU->oU (d+1) z W' sJ (nY ops os)->(∀p∈sJ,p∈pl)->sJ.length<=pl.length->R (.lst (sJ.map iv)) σ'):WC (lY (k+8) .Dv [.loc m,iv s,.lst (pl.map iv)] Y) R:=by
 refine hz.zip.elim λzs lP=>?_;have rY:∀τ:St,oD τ (.seq (.tup (ps.map nj)))=some (zs.map λa=>nj a.1):=λ_=>lT some (by rw[← lP.a,aR];rfl);have hlz:zs.length<=3:=ae (ax ((au _).symm.trans (lT bG lP.b))) uG;have ir:=T.nD pz (pZ (nf pz) (ae (av (by decide) _) hl));have i1:mA Y (.int 1) (Row.obj ps cs ct si ni fl).pv=some (.tup (ps.map nj)):=qY _ _ _ _;refine nS (S9 _ _ _) λR' hR=>?_;kd_p;refine sV zs (λa=>nj a.1) (.seq (.tup (ps.map nj))) (λu:Ro=>[some (.loc m),some (iv s),some (.lst (pl.map iv)),some (.lst (u.pl.map iv)),u.x,u.y]) (λu=>u.τ) (TdJ n m d z Y W pl os) ?_ (λbs y Rq u qR J N hN=>J.ex.elim λW1 J1=>?_) λu J=>J.ex.elim λW1 J1=>?_
 ·kd_p;exact⟨⟨Y,pl,none,none⟩,rfl,by rw[← lP.a,aR];rfl,rfl,rfl,⟨W,(l7.refl T).weaken (aC _),rfl,C⟩,λ_ h=>h,aB _⟩
 ·have zr:=lP.r y (mem_mid qR)
  have z8:y.2∈ops:=lP.b▸c7 (mem_mid qR)
  have td:=afg (aW (tB qR) hlz) pK hl J1.1.cost
  have T1:=J1.1.tab;kd_p;refine BA (lT PV.str zr.1) ?_;refine Yh T1 (C.mono J1.1.le) (ae pK (by decide)) (sE y.2 z8).1 (ae (av (ae pK (by decide)) _) td) _ (.inr rfl) _ λτ2 W2 mG ox=>?_;kd_p;refine nh (λhc=>?_) λhc=>?_
  ·have xy:y.2.1≠rz z:=λe=>by rw[e,UR C.ask,cV] at hc;cases hc
   refine((sE y.2 z8).2 xy).elim λmk CA=>?_;have zD:=CA.2▸zr.2.2;have hl9:∀{c b:Nat},c<=W2.rows.length+b->b<=30*121->c+200<=900000:=λh hb=>ae (ak (ae h (bh (ae mG.cost (av pK _)) hb)) 200) (ae (by omega) td);kd_p;refine abN u.pl iv (.seq (.lst (u.pl.map iv))) (λxs vs τ=>∃l W3,Cz n m d z y.2.1 mk τ2 W2 xs l τ W3/\vs=l.map iv) ?_ (λxs p ys vs τ3 vD J3=>J3.elim λl J3=>J3.elim λW3 J3=>(J1.2.2.c1 p (mem_mid vD)).elim λo ho=>?_) λvs τ3 J3=>J3.elim λl J3=>J3.elim λW3 J3=>?_
   ·kd_p;exact⟨rfl,rfl,[],W2,⟨l7.refl mG.tab,rfl,λ_ h=>(nomatch h),aB _,λ_ h=>nomatch h⟩,rfl⟩
   ·have Gg:=mG.le.trans J3.1.st.le
    have uQ:PF 0 (d+1) W2 p o/\mJ z (d+1) o:=⟨ho.2.mono mG.le,J1.2.2.ask o ho.1⟩
    have T3:=J3.1.st.tab;kd_p;refine Uq T3 (ho.2.mono Gg) uQ.2 (zr.1.symm▸(sE y.2 z8).1) (zr.1.symm▸xy) CA.1 (zD.up (J1.1.le.trans Gg)) (hl9 J3.1.st.cost (aM _ (ae (bE (tB vD)) (ae J.len pK)))) _ λb τ4 W4 qg sL hB=>?_
    have hJ:=J3.1.push (b:=b) qg sL (λo hP hA=>by rw[hB o (hP.mono J3.1.st.le) hA,zr.1]) ⟨o,uQ⟩;kd_p;refine nh (λe=>?_) λe=>?_
    ·subst e;kd_p;exact⟨rfl,l++[p],W4,hJ,by rw[J3.2,aO];rfl⟩
    ·subst e;exact⟨rfl,l,W4,hJ,J3.2⟩
   ·have Cn:=oU.aiP J3.1 (J1.2.2.mono mG.le)
    have r5:=((J1.1.trans mG).trans J3.1.st).weaken (OS (a:=bs.length) J.len)
    have Gg:=mG.le.trans J3.1.st.le;rw[J3.2];kd_p;cases l with
    |nil =>
     refine pj rfl ?_;kd_p;exact hN ⟨τ3,u.pl,_,_⟩ (rY _) ⟨⟨W3,by rw[ar];exact r5,(J3.1.lU.trans ox).trans J1.2.1,(J1.2.2.mono Gg).of (Im (ahs hc (CA.2▸List.isEmpty_iff.mpr Cn.nil)))⟩,J.sub,J.len⟩
    |cons p0 l0 =>
     refine pO rfl ?_;kd_p;exact hN ⟨τ3,p0::l0,_,_⟩ (rY _) ⟨⟨W3,by rw[ar];exact r5,(J3.1.lU.trans ox).trans J1.2.1,Cn.of ((Im (aht hc (CA.2▸Cn.cons))).trans (CA.2▸rfl))⟩,λp hp=>J.sub p (J3.1.sub p hp),ae J3.1.len J.len⟩
  ·kd_p;exact hN ⟨τ2,u.pl,_,_⟩ (rY _) ⟨⟨W2,(J1.1.trans mG).weaken (by rw[ar];exact ae (aD _ (0*121)) (OS (aC _))),ox.trans J1.2.1,(J1.2.2.mono mG.le).of (Im (OA hc))⟩,J.sub,J.len⟩
 ·kd_p;exact hR _ _ _ (h u.pl u.τ W1 (J1.1.weaken (ax (by rw[← lP.b,au]))) J1.2.1 (lP.b▸J1.2.2) J.sub J.len)
end
theorem MP (m:Nat):(m&&&14336≠0)↔(m.testBit 13=true\/m.testBit 12=true\/m.testBit 11=true):=by
 have e:m&&&14336=(m&&&2^13)|||(m&&&6144):=by rw[← i8];rfl
 have yz:=sU m 13;have h6:=wZ m;rw[e,← yz,← h6];constructor
 ·intro h;by_cases a:m&&&2^13=0
  ·right;intro b;rw[a,b] at h;exact h rfl
  ·exact .inl a
 ·rintro(h|h) e2
  ·exact h (Nat.or_eq_zero_iff.mp e2).1
  ·exact h (Nat.or_eq_zero_iff.mp e2).2
structure rB (f:Nat)(P:Nat->One->Prop)(W:Wd)(t:Nat)(k:Kd):Prop where
 lt:t<W.rows.length
 sound:∀p∈l8 W t,(∃i,i<14/\k.1.testBit i=true/\AR f W p i)\/∃o∈ou k,P p o
 atoms:∀i,i<14->k.1.testBit i=true->∃p∈l8 W t,AR f W p i
 ones:∀o∈ou k,∃p∈l8 W t,P p o
theorem Den.weak {f:Nat}{P:Nat->One->Prop}{W:Wd}{t:Nat}{k:Kd}(D:Den f P W t k):rB f P W t k:=⟨D.lt,D.sound,D.atoms,D.ones⟩
noncomputable def q7 (k:Kd):Bool:=decide (k.1&&&14336≠0)||k.2.any qp
theorem K3 (ps:List mj):nY ps []=[]:=List.eq_nil_iff_forall_not_mem.mpr λo ho=>by have:=AV ps [] o ho;cases this
section
variable {n m:Nat}{Y σ':St}{W W' pa:Wd}{t p q x y:Nat}{r:Row}{d:Nat}{f:Nat}{P:Nat->One->Prop}{o:One}{z:Bool}{name:String}
theorem Ym (T:TabAt n m Y W){os:List One}(C:oU (d+1) z W [p] os)(hn:name∈namesOf z)(hl:W.rows.length+1<=900000):(sk os name&&(nT os name).any oI)=false:=by
 cases hs:(nT os name).any oI with
 |false=>rw[cV]
 |true =>
  rw[f7];obtain⟨g0,xn,JN⟩:=List.any_eq_true.mp hs;obtain⟨o0,uO,yJ⟩:=List.mem_filterMap.mp xn;have JP:∀o∈os,PF 0 (d+1) W p o:=λo ho=>by
   obtain⟨p',Al,hP⟩:=C.c2 o ho;rw[bH] at Al;subst Al;exact hP
  obtain⟨v,σ1,_,W1,nU,hR⟩:=(DB T (JP o0 uO) (C.ask o0 uO) hn hl 0 (R:=λv σ1=>∃W1,l7 n m Y W σ1 W1 1/\∀o,PF 0 (d+1) W p o->mJ z (d+1) o->xe d W1 v (m3 o name)) λv σ1 W1 st _ h=>⟨W1,st,h⟩);obtain⟨rK,hz0,An⟩:=(G4 g0 (vU (C.ask o0 uO) yJ).1).mp JN;have eg0:g0=(g0.1,[]):=by rw[← rK]
  have xu:g0.1.testBit 12=false:=by cases h:g0.1.testBit 12 with|false=>rfl|true=>exact El.bf (An 12 (by decide) h)
  have yG:g0.1.testBit 11=false:=by cases h:g0.1.testBit 11 with|false=>rfl|true=>exact El.bf (An 11 (by decide) h)
  have h0:=hR o0 (JP o0 uO) (C.ask o0 uO);rw[yJ] at h0;obtain⟨u,rfl,D0⟩:=h0
  have B9:∀g∈nT os name,g=g0:=λg hg=>by
   obtain⟨o,ho,hr⟩:=List.mem_filterMap.mp hg;have h1:=hR o (JP o ho) (C.ask o ho);rw[hr] at h1;obtain⟨u',Am,D1⟩:=h1;have:=xW Am;subst this;rw[eg0] at D0⊢;exact Pr nU.tab (vU (C.ask o0 uO) yJ).1 xu yG (vU (C.ask o ho) hr).1 D0 D1 λp o h=>h.row
  unfold sk;rw[e8];intro g hg;have:(nT os name).head? =some g0:=by
   cases ht:nT os name with
   |nil=>rw[ht] at hg;cases hg
   |cons a r=>rw[List.head?_cons,B9 a (by rw[ht];simp)]
  rw[this,B9 g hg];simp
theorem aag (T:TabAt n m Y W){os:List One}(C:oU (d+1) z W [p] os){ops:List mj}(sE:∀q∈ops,q.1∈namesOf z)(hl:W.rows.length+1<=900000):nY ops os=os:=by
 unfold nY;have key:∀l:List mj,(∀q∈l,q.1∈namesOf z)->l.foldl (qj os) os=os:=by
  intro l
  induction l with
  |nil=>intro _;rfl
  |cons q l ih =>
   intro h;rw[cI];have:qj os os q=os:=by
    unfold qj;rw[lX (by rw[Ym T C (h q (by simp)) hl];decide)]
   rw[this];exact ih λq hq=>h q (aE _ hq)
 exact key ops sE
theorem EG {dt:Nat}(h:mJ z dt o):∃d,dt=d+1:=by cases dt with|zero=>exact h.elim|succ d=>exact⟨d,rfl⟩
theorem Yn (i:Nat)(hi:i<14):B8 (mq 0 i)=(decide (i=13)||decide (i=12)||decide (i=11)):=(by decide:∀i<14,B8 (mq 0 i)=(decide (i=13)||decide (i=12)||decide (i=11))) i hi
theorem Vv (i:Nat):Bm (mq 0 i)=false:=s6 (C:=λi=>Bm (mq 0 i)=false) rfl rfl rfl rfl rfl rfl rfl rfl rfl rfl rfl rfl rfl rfl (λ_=>rfl) i
def r7 (m:Nat)(Y:St)(p:Nat)(b:Bool):Prop:=∀fu,lY (fu+4) .takes_all [.loc m,iv p] Y=some (.bool b,Y)
theorem r7.u {b c:Bool}(h:r7 m Y p b)(h':r7 m Y p c):b=c:=PV.bool.inj (jf (aq ((h 0).symm.trans (h' 0)))).1
theorem r7.atom (T:TabAt n m Y W){i:Nat}(hi:i<14)(hr:W.rows[p]? =some (mq 0 i))(hl:W.rows.length<=900000):r7 m Y p (decide (i=13)||decide (i=12)||decide (i=11)):=λfu=>Yn i hi▸L5 T hr (ae (aS (nf hr)) (ae hl (by decide))) (Vv i) fu
theorem r7.one (T:TabAt n m Y W){dt:Nat}(hA:mJ z dt o)(hP:PF 0 dt W p o)(hl:W.rows.length<=900000):r7 m Y p (qp o):=(EG hA).elim λd e=>by subst e;exactλfu=>WG T hP hA hl fu
theorem aiQ {i:Nat}(h:(decide (i=13)||decide (i=12)||decide (i=11))=true):i=13\/i=12\/i=11:=by
 rw[bM,bM,decide_eq_true_eq,decide_eq_true_eq,decide_eq_true_eq,or_assoc] at h;exact h
theorem aiR {i:Nat}(h:i=13\/i=12\/i=11):(decide (i=13)||decide (i=12)||decide (i=11))=true:=by
 rw[bM,bM,decide_eq_true_eq,decide_eq_true_eq,decide_eq_true_eq,or_assoc];exact h
theorem MQ (T:TabAt n m Y W){dt:Nat}{k:Kd}(D:rB 0 (PF 0 dt W) W t k)(hk:mT k.1)(hA:∀o∈k.2,mJ z dt o)(hl:W.rows.length<=900000) :
  ∃B:Nat->Bool,(∀p∈l8 W t,r7 m Y p (B p))/\(l8 W t).any B=q7 k:=by
 refine(pick (C:=r7 m Y) λp (hp:p∈l8 W t)=>(D.sound p hp).elim (λh=>h.elim λi h=>⟨_,r7.atom T h.1 (qt h.2.2) hl⟩) λh=>h.elim λo h=>⟨_,r7.one T (hA o (tA h.1)) h.2 hl⟩).elim λB hB=>⟨B,hB,?_⟩;rw[bg,bS];unfold q7;rw[bM,decide_eq_true_eq,MP,bS];have top:∀i,i=13\/i=12\/i=11->k.1.testBit i=true->∃p∈l8 W t,B p=true:=λi hi hb =>
  have Rr:i<14:=hi.elim (λe=>e▸by decide) λhi=>hi.elim (λe=>e▸by decide) λe=>e▸by decide
  (D.atoms i Rr hb).elim λp x=>⟨p,x.1,((hB p x.1).u (r7.atom T Rr (qt x.2) hl)).trans (aiR hi)⟩
 refine⟨λh=>h.elim λp h=>(D.sound p h.1).elim (λx=>x.elim λi x=>.inl ((aiQ (((hB p h.1).u (r7.atom T x.1 (qt x.2.2) hl)).symm.trans h.2)).elim (λe=>.inl (e▸x.2.1)) λe=>e.elim (λe=>.inr (.inl (e▸x.2.1))) λe=>.inr (.inr (e▸x.2.1)))) λx=>x.elim λo x=>.inr ⟨o,tA x.1,((hB p h.1).u (r7.one T (hA o (tA x.1)) x.2 hl)).symm.trans h.2⟩,λh=>h.elim (λh=>h.elim (top 13 (.inl rfl)) λh=>h.elim (top 12 (.inr (.inl rfl))) (top 11 (.inr (.inr rfl)))) λh=>h.elim λo h=>?_⟩;by_cases h6:k.1&&&6144≠0
 ·exact((wZ _).mp h6).elim (top 12 (.inr (.inl rfl))) (top 11 (.inr (.inr rfl)))
 ·exact(D.ones o (by rw[ou,lX h6];exact h.1)).elim λp x=>⟨p,x.1,((hB p x.1).u (r7.one T (hA o h.1) x.2 hl)).trans h.2⟩
theorem MR {k:Kd}(h:q7 k=false):ou k=k.2:=by
 unfold q7 at h;rw[fg] at h;have h1:¬k.1&&&14336≠0:=by simpa using h.1
 have h6:¬k.1&&&6144≠0:=λe=>h1 ((MP _).mpr (.inr ((wZ _).mp e)));unfold ou;rw[lX h6]
theorem vb {r:Row}(h:W.rows[p]? =some r):mO W p=n7 r:=by rw[mO,h]
theorem rB.cor {dt:Nat}{k:Kd}(D:rB 0 (PF 0 dt W) W t k)(he:ou k=k.2)(hA:∀o∈k.2,mJ z dt o):oU dt z W ((l8 W t).filter (mO W)) k.2 :=
 ⟨hA,λp hp=>(D.sound p (List.mem_filter.mp hp).1).elim (λh=>h.elim λi h=>absurd ((List.mem_filter.mp hp).2.symm.trans ((vb (qt h.2.2)).trans (wL 0 i))) (by decide)) λh=>h.elim λo h=>⟨o,tA h.1,h.2⟩,
 λo ho=>(D.ones o (he.symm▸ho)).elim λp h=>⟨p,List.mem_filter.mpr ⟨h.1,h.2.row.elim λr x=>(vb x.1).trans x.2⟩,h.2⟩⟩
theorem Yo (r:Row):decide (iv r.kind∈[PV.int 8,PV.int 9,PV.int 11,PV.int 12,PV.int 7])=n7 r:=by cases r<;>rfl
theorem Vx (T:TabAt n m Y W){s ds:Nat}{ps:List (String×Nat×Nat)}{cs ct:List Nat}{si ni:Option Nat}{fl:Nat}{ops:List mj}(pz:W.rows[s]? =some (.obj ps cs ct si ni fl))(hz:nX (Den 1 (PF 1 ds W) W) ps ops)(sE:ye z ops)
  {dt:Nat} {kd:Kd} (D:rB 0 (PF 0 dt W) W t kd) (hk:mT kd.1) (hA:∀o∈kd.2,mJ z dt o) {c:Nat} (hc:((l8 W t).filter (mO W)).length<=c) (Qr:c<=30) (uG:ops.length<=3) (hl:W.rows.length+20000<=900000) (k:Nat) {R:PV->St->Prop}
  (h1:q7 kd=true->R (.lst []) Y)
  (h2:q7 kd=false->∀sJ σ' W',l7 n m Y W σ' W' 11000->W'.lU=W.lU->oU dt z W' sJ (nY ops kd.2)->sJ.length<=c->R (.lst (sJ.map iv)) σ'):WC (lY (k+9) .C_ [.loc m,iv s,iv t] Y) R:=by
 have yK:=aQ D.lt
 have pY:W.rows.length+1<=900000:=ae (av (by decide) _) hl;refine(MQ T D hk hA (bE pY)).elim λB hB=>?_;refine nS (Sr _ _ _) λR' hR=>?_;kd_p;refine md (u4 T yK (pZ D.lt pY) _) ?_;kd_p;refine u1 (l8 W t) iv iv B ?_ (λp hp=>?_) (λp hp _=>?_) ?_
 ·kd_p;exact SI.t rfl
 ·kd_p;refine md (hB.1 p hp _) ?_;kd_p
 ·kd_p
 kd_p;refine mD ((zB _ _ _).trans hB.2) (nh (λGh=>?_) λGh=>?_)
 ·kd_p;exact hR _ _ _ (h1 Gh)
 have h2:=h2 Gh
 have C:=D.cor (MR Gh) hA;kd_p;refine .e (Eg (by decide)) ?_;kd_p;refine .e (Eg (by decide)) ?_;kd_p;refine u1 (l8 W t) iv iv (mO W) ?_ (λp hp=>(T.wW yK p hp).ex.elim λr hr=>?_) (λp hp _=>?_) ?_
 ·kd_p;exact SI.t rfl
 ·have ir:=T.nD hr.1 (pZ (nf hr.1) pY)
  have i0:=o3 Y r;kd_p;exact .i (lT PV.bool ((Yo r).trans (vb hr.1).symm))
 ·kd_p
 revert hc C;generalize (l8 W t).filter (mO W)=pl;intro hc C;kd_p;refine mD (JI.trans (lT (λn=>decide (n>1)) (au _))) (rx (λhlen=>?_) λhlen=>?_)
 ·have hd:∃d,dt=d+1:=by
   cases pl with
   |nil=>cases hlen
   |cons p pl=>exact(C.c1 p (aG ..)).elim λo ho=>EG (hA o ho.1)
  kd_p;refine hd.elim λd e=>?_;subst e;refine aaf T pz hz sE C (ae hc Qr) uG hl _ λsJ σ' W' st hb C' _ hle=>?_;kd_p;exact hR _ _ _ (h2 sJ σ' W' (st.weaken (ae (jd uG (aM 122 (ae hc Qr))) (by decide))) hb C' (ae hle hc))
 ·kd_p;refine hR _ _ _ (h2 pl Y W ((l7.refl T).weaken (aC _)) rfl ?_ hc)
  match pl,C,hlen with
  |[],C,_ =>
   have e:=C.nil;rw[e] at C⊢;rw[K3];exact C
  |[p],C,_ =>
   refine(C.c1 p (aG ..)).elim λo ho=>(EG (hA o ho.1)).elim λd e=>?_;subst e;rw[aag T C (λq hq=>(sE q hq).1) pY];exact C
  |_::_::_,_,hlen=>exact absurd (aU (aU (aC _))) hlen
end
theorem EH {k:Kd}{o:One}:o∈ou k↔(¬k.1&&&6144≠0)/\o∈k.2:=by
 unfold ou
 split
 ·rename_i h;constructor
  ·intro h;cases h
  ·rintro⟨h1,_⟩;exact absurd h h1
 ·rename_i h;exact⟨λx=>⟨h,x⟩,λx=>x.2⟩
def xj (d:Nat)(os:List One)(rd:One->Option Kd)(W0 W1:Wd)(x:Nat×Option Nat):Prop :=
 (x.2=none->∀o∈os,PF 0 (d+1) W0 x.1 o->rd o=none) /\
 ∀u,x.2=some u->(∃o∈os,PF 0 (d+1) W0 x.1 o)/\∀o∈os,PF 0 (d+1) W0 x.1 o->∃g,rd o=some g/\Den 0 (PF 0 d W1) W1 u g
theorem xj.mono {d:Nat}{os:List One}{rd:One->Option Kd}{W0 W1 W2:Wd}{x:Nat×Option Nat}(h:xj d os rd W0 W1 x)(le:W1.le W2):xj d os rd W0 W2 x :=
 ⟨h.1,λu hu=>⟨(h.2 u hu).1,λo ho hP=>let ⟨g,e,D⟩:=(h.2 u hu).2 o ho hP;⟨g,e,D.up le⟩⟩⟩
noncomputable def vq (rd:One->Option Kd)(sel:Nat->One)(mP:List (Nat×Option Nat)):List (Nat×Kd):=mP.filterMap λx=>x.2.map λu=>(u,(rd (sel x.1)).getD (0,[]))
theorem HH (rd:One->Option Kd)(sel:Nat->One)(mP:List (Nat×Option Nat)):(vq rd sel mP).map (·.1)=mP.filterMap (·.2):=by
 unfold vq
 induction mP with
 |nil=>rfl
 |cons x r ih =>
  obtain⟨p,v⟩:=x;cases v with
  |none=>simpa using ih
  |some u=>simpa using ih
def Good (d:Nat)(os:List One)(W0:Wd)(mP:List (Nat×Option Nat))(sel:Nat->One):Prop:=∀x∈mP,∀u,x.2=some u->sel x.1∈os/\PF 0 (d+1) W0 x.1 (sel x.1)
theorem aah {l:List Kd}{c:Nat}(h:∀g∈l,g.2.length<=c):(l.flatMap (·.2)).length<=c*l.length:=by
 induction l with
 |nil=>simp
 |cons a r ih =>
  have h1:=h a (by simp)
  have h2:=ih λg hg=>h g (aE _ hg);simp only[cX,ar,dn,fh,Nat.mul_one];lia
section
variable {n m:Nat}{Y σ':St}{W W0 W1 W' pa:Wd}{t p q x y:Nat}{r:Row}{d:Nat}{f:Nat}{P:Nat->One->Prop}{o:One}{z:Bool}{name:String}
theorem WK (T1:TabAt n m Y W1){os:List One}{rd:One->Option Kd}{mP:List (Nat×Option Nat)}(yr:∀x∈mP,xj d os rd W0 W1 x)(FH:∀o∈os,∃x∈mP,PF 0 (d+1) W0 x.1 o)
  (xA:∀o∈os,∀g,rd o=some g->TK z d g) (FI:(mP.filterMap (·.2)).length<=15) (hl:W1.rows.length+1<=900000) (k:Nat) {R:PV->St->Prop}
  (h:∀u σ' W',l7 n m Y W1 σ' W' 1->W'.lU=W1.lU->rB 0 (PF 0 d W') W' u ((os.filterMap rd).foldl both (0,[]))->((l8 W' u).filter (mO W')).length<=2*(mP.filterMap (·.2)).length->R (iv u) σ') :
  WC (lY (k+3) .union [.loc n,.lst ((mP.filterMap (·.2)).map iv)] Y) R:=by
 have Bn:∀{sel:Nat->One},Good d os W0 mP sel->∀y∈vq rd sel mP,∃x∈mP,∃u g,x.2=some u/\rd (sel x.1)=some g/\y=(u,g)/\Den 0 (PF 0 d W1) W1 u g:=λ{sel} G y hy=>by
  obtain⟨x,hx,e⟩:=List.mem_filterMap.mp hy;cases p1:x.2 with
  |none=>rw[p1] at e;cases e
  |some u =>
   rw[p1] at e;obtain⟨g1,g2⟩:=G x hx u p1;obtain⟨g,hg,D⟩:=((yr x hx).2 u p1).2 _ g1 g2;refine⟨x,hx,u,g,p1,hg,?_,D⟩;simp only[jg,dM,hg,jh] at e;exact e.symm
 have MS:∀{sel:Nat->One} {x:Nat×Option Nat} {u:Nat} {g:Kd},x∈mP->x.2=some u->rd (sel x.1)=some g->(u,g)∈vq rd sel mP:=λ{sel x u g} hx hu hg =>
  List.mem_filterMap.mpr ⟨x,hx,by rw[hu];simp[hg]⟩
 have DL:∀{sel:Nat->One},Good d os W0 mP sel->oG 0 (PF 0 d W1) W1 (vq rd sel mP):=λ{sel} G=>Ik
  (λy hy=>by obtain⟨x,hx,u,g,p1,hg,rfl,D⟩:=Bn G y hy;exact D)
  (λy hy=>by obtain⟨x,hx,u,g,p1,hg,rfl,D⟩:=Bn G y hy;exact(xA _ (G x hx u p1).1 g hg).1)
 have bits:∀{sel:Nat->One},Good d os W0 mP sel->(((vq rd sel mP).map (·.2)).foldl both (0,[])).1=((os.filterMap rd).foldl both (0,[])).1:=λ{sel} G=>by
  rw[sS,sS];dsimp only
  congr 1
  apply cY;intro i;rw[bg,va,va];constructor
  ·rintro⟨kk,hk,hb⟩;obtain⟨y,hy,rfl⟩:=List.mem_map.mp hk;obtain⟨x,hx,u,g,p1,hg,rfl,D⟩:=Bn G y hy;exact⟨g,List.mem_filterMap.mpr ⟨_,(G x hx u p1).1,hg⟩,hb⟩
  ·rintro⟨g,hg,hb⟩;obtain⟨o,ho,hg⟩:=List.mem_filterMap.mp hg;obtain⟨x,hx,hP⟩:=FH o ho;cases p1:x.2 with
   |none=>rw[(yr x hx).1 p1 o ho hP] at hg;cases hg
   |some u =>
    obtain⟨g',Ao,D'⟩:=((yr x hx).2 u p1).2 o ho hP;rw[hg] at Ao;cases Ao;obtain⟨s1,s2⟩:=G x hx u p1;obtain⟨g2,Cw,D2⟩:=((yr x hx).2 u p1).2 _ s1 s2;exact⟨g2,List.mem_map.mpr ⟨(u,g2),MS hx p1 Cw,rfl⟩,HG D' D2 (λp o h=>h.row) (B_ (xA o ho g hg).1.lt hb) hb⟩
 haveI:Inhabited One:=⟨.mk [] none none 0 0⟩
 obtain⟨sel,aiS⟩:=pick (pl:=(mP.filter (·.2.isSome)).map (·.1)) (C:=λp o=>o∈os/\PF 0 (d+1) W0 p o) λp hp=>by
  obtain⟨x,hx,rfl⟩:=List.mem_map.mp hp;obtain⟨hx,hs⟩:=List.mem_filter.mp hx;obtain⟨u,hu⟩:=Option.isSome_iff_exists.mp hs;exact((yr x hx).2 u hu).1
 have G:Good d os W0 mP sel:=λx hx u hu=>aiS _ (List.mem_map.mpr ⟨x,List.mem_filter.mpr ⟨hx,by rw[hu];rfl⟩,rfl⟩)
 have Qs:∀{sel:Nat->One},Good d os W0 mP sel->(((vq rd sel mP).map (·.2)).flatMap (·.2)).length<=2*(mP.filterMap (·.2)).length:=λ{sel} G=>by
  have:=aah (l:=(vq rd sel mP).map (·.2)) (c:=2) λg vC=>by
   obtain⟨y,hy,rfl⟩:=List.mem_map.mp vC;obtain⟨x,hx,u,g,p1,hg,rfl,D⟩:=Bn G y hy;exact(xA _ (G x hx u p1).1 g hg).2.1
  rw[au] at this;have e:=lT bG (HH rd sel mP);rw[au] at e;rw[e] at this;exact this
 have hk:=IP T1 (DL G) (by have:=Qs G;lia);rw[HH] at hk;refine L2 T1 (mP.filterMap (·.2)) (λt ht=>?_) _ (.inr rfl) hl hk k λu σ' W' st hb hu hp=>?_
 ·obtain⟨x,hx,e⟩:=List.mem_filterMap.mp ht;obtain⟨⟨o,ho,hP⟩,h2⟩:=(yr x hx).2 t e;obtain⟨g,_,D⟩:=h2 o ho hP;exact D.lt
 have Du:∀{sel:Nat->One},Good d os W0 mP sel->Den 0 (PF 0 d W') W' u (((vq rd sel mP).map (·.2)).foldl both (0,[])):=λ{sel} G =>
  L4 T1 (DL G) st.tab st.le hu (by rw[HH];exact hp) λp o h=>h.mono st.le
 have D:=Du G
 have pV:=bits G
 have ahu:∀{sel:Nat->One},Good d os W0 mP sel->∀o,o∈(((vq rd sel mP).map (·.2)).foldl both (0,[])).2->o∈((os.filterMap rd).foldl both (0,[])).2:=λ{sel} G o ho=>by
  rw[sS] at ho⊢;obtain⟨g,vC,ho⟩:=List.mem_flatMap.mp ho;obtain⟨y,hy,rfl⟩:=List.mem_map.mp vC;obtain⟨x,hx,u,g,p1,hg,rfl,D⟩:=Bn G y hy;exact List.mem_flatMap.mpr ⟨g,List.mem_filterMap.mpr ⟨_,(G x hx u p1).1,hg⟩,ho⟩
 refine h u σ' W' st hb ⟨hu,λp hp=>?_,λi hi JQ=>?_,λo ho=>?_⟩ ?_
 ·rcases D.sound p hp with⟨i,hi,JQ,ha⟩|⟨o,ho,hP⟩
  ·exact .inl ⟨i,hi,by rw[← pV];exact JQ,ha⟩
  ·obtain⟨h1,h2⟩:=EH.mp ho;exact .inr ⟨o,EH.mpr ⟨by rw[← pV];exact h1,ahu G o h2⟩,hP⟩
 ·exact D.atoms i hi (by rw[pV];exact JQ)
 ·obtain⟨h1,h2⟩:=EH.mp ho;rw[sS] at h2;obtain⟨g,hg,uQ⟩:=List.mem_flatMap.mp h2;obtain⟨o',uD,hg⟩:=List.mem_filterMap.mp hg;obtain⟨x,hx,hP⟩:=FH o' uD;cases p1:x.2 with
  |none=>rw[(yr x hx).1 p1 o' uD hP] at hg;cases hg
  |some u' =>
   have G':Good d os W0 mP (λp=>if p=x.1 then o' else sel p):=λy hy v hv=>by
    by_cases e:y.1=x.1
    ·simp only[e,if_true];exact⟨uD,hP⟩
    ·simp only[e,if_false];exact G y hy v hv
   refine(Du G').ones o (EH.mpr ⟨by rw[bits G'];exact h1,?_⟩);rw[sS];exact List.mem_flatMap.mpr ⟨g,List.mem_map.mpr ⟨(u',g),MS hx p1 (by simp[hg]),rfl⟩,uQ⟩
 ·refine ae D.cnt ?_;rw[sS];exact Qs G
end
def qO (A:One->Prop)(k:Kd):Prop:=mT k.1/\k.2.length<=1/\(∀q∈k.2,A q)/\ou k=k.2
def oX (z:Bool):Nat->One->Prop
 |0,_=>False
 |d+1,o=>(o.how<=2/\o.ps.length<=3/\ye z o.ps/\(o.ps.map λp=>p.2.1.2.length).sum<=1/\∀p∈o.ps,qO (oX z d) p.2.1) \/
   ((o.how=3\/o.how=4)/\∃k,o.tx=some k/\qO (oX z d) k/\o.ps=[])
noncomputable def firstOf (l:List String):String:=(l.find? λx=>decide (x≠"")).getD ""
theorem Lf:firstOf []="":=rfl
theorem K4 (l:List String)(s:String):firstOf (l++[s])=if firstOf l="" then s else firstOf l:=by
 unfold firstOf;rw[eY];cases h:l.find? (λx=>decide (x≠"")) with
 |some x =>
  have:x≠"":=by simpa using cH h
  simp[this]
 |none =>
  by_cases hs:s=""<;>simp[hs]
theorem Lg (l r:List String):firstOf (l++r)=if firstOf l="" then firstOf r else firstOf l:=by
 unfold firstOf;rw[eY];cases h:l.find? (λx=>decide (x≠"")) with
 |some x =>
  have:x≠"":=by simpa using cH h
  simp[this]
 |none=>simp
theorem y9 (s:String)(l:List String):firstOf (s::l)=if s="" then firstOf l else s:=by
 unfold firstOf;by_cases h:s=""<;>simp[h]
theorem GZ {l:List String}(h:∀s∈l,s=""):firstOf l="":=by
 unfold firstOf;rw[List.find?_eq_none.mpr λs hs=>by rw[h s hs];decide];rfl
theorem Yp (m:Nat)(s s' t:Kd)(h:s.2=s'.2):mM m s t=mM m s' t:=by
 cases m with
 |zero=>rfl
 |succ m=>simp only[mM,h]
theorem WL (m:Nat)(s t:Kd)(h:s.2=[]):mM m s t="":=by
 cases m with
 |zero=>rfl
 |succ m=>simp only[mM,h,List.filter_nil]
section
variable {n m:Nat}{Y σ':St}{W W0 W1 W' pa:Wd}{t p q x y:Nat}{r:Row}{d:Nat}{f:Nat}{P:Nat->One->Prop}{o:One}{z:Bool}{name:String}
noncomputable def objs (W:Wd)(t:Nat):Nat:=((l8 W t).filter (mO W)).length
def Vals (z:Bool)(m0:Nat)(W:Wd)(qy:Nat)(t:Kd)(val:Nat->String):Prop :=
 ∀p∈l8 W qy,(mO W p=false/\val p="")\/∃o,PF 1 m0 W p o/\oX z m0 o/\val p=mM (m0+1) (0,[o]) t
structure Jn (z:Bool)(m0:Nat)(W:Wd)(x:Nat)(k t:Kd)(val:Nat->String):Prop where
 vals:Vals z m0 W x t val
 first:firstOf ((l8 W x).map val)=mM (m0+1) k t
 cnt:objs W x<=k.2.length
theorem Bo {i:Nat}(h:AR f W p i):mO W p=false:=h.row.elim λg x=>(vb x.2.1).trans (wL _ _)
theorem E6 {f d:Nat}(h:PF f d W p o):mO W p=true:=h.row.elim λr x=>(vb x.1).trans x.2
theorem Yq {l:List String}{s:String}(Gi:s∈l)(uz:∀x∈l,x=s\/x=""):firstOf l=s:=by
 induction l with
 |nil=>cases Gi
 |cons a r ih =>
  rw[y9];refine(uz a (aG ..)).elim (λh=>?_) λh=>?_
  ·subst h;by_cases h:a=""
   ·rw[lW h,h];exact GZ λs hs=>(uz s (aE _ hs)).elim (λe=>e.trans h) id
   ·rw[lX h]
  ·rw[lW h];refine(List.mem_cons.mp Gi).elim (λe=>?_) λe=>ih e λs hs=>uz s (aE _ hs);subst h;subst e;exact GZ λs hs=>(uz s (aE _ hs)).elim id id
theorem Yr {m0 mk:Nat}{t:Kd}(D:Den 1 (PF 1 m0 W) W x (mk,[])):∃val,Jn z m0 W x (mk,[]) t val :=
 ⟨λ_=>"",λp hp=>.inl ⟨(D.sound p hp).elim (λh=>h.elim λi h=>Bo h.2.2) λh=>h.elim λo h=>zm h.1,rfl⟩,(GZ λs hs=>by obtain⟨_,_,rfl⟩:=List.mem_map.mp hs;rfl).trans (WL _ _ _ rfl).symm,D.cnt⟩
theorem Ys {m0 mk:Nat}{t:Kd}(ho:oX z m0 o)(he:ou (mk,[o])=[o])(D:Den 1 (PF 1 m0 W) W x (mk,[o])):∃val,Jn z m0 W x (mk,[o]) t val:=by
 refine⟨λp=>bif mO W p then mM (m0+1) (0,[o]) t else "",λp hp=>(D.sound p hp).elim (λh=>h.elim λi h=>.inl ⟨Bo h.2.2,?_⟩) λh=>h.elim λo' h=>.inr ⟨o,?_,ho,?_⟩,?_,D.cnt⟩
 ·rw[Bo h.2.2];rfl
 ·exact List.mem_singleton.mp (he▸h.1)▸h.2
 ·rw[E6 h.2];rfl
 ·refine(D.ones o (he.symm▸List.mem_singleton.mpr rfl)).elim λp h=>(Yq (List.mem_map.mpr ⟨p,h.1,by rw[E6 h.2];rfl⟩) λs hs=>?_).trans (Yp _ _ _ _ rfl);obtain⟨q,_,rfl⟩:=List.mem_map.mp hs;cases mO W q with
  |true=>exact .inl rfl
  |false=>exact .inr rfl
theorem MT {m0:Nat}{t:Kd}:∀{k:Kd},qO (oX z m0) k->Den 1 (PF 1 m0 W) W x k->∃val,Jn z m0 W x k t val
 |(_,[]),_,D=>Yr D
 |(_,[o]),h,D=>Ys (h.2.2.1 o (List.mem_singleton.mpr rfl)) h.2.2.2 D
 |(_,_::_::_),h,_=>absurd h.2.1 (by simp)
theorem HI (r:Row):decide (iv r.kind∈[PV.int 8,PV.int 9])=decide (r.kind=8\/r.kind=9):=by cases r<;>rfl
theorem Io {r:Row}(h:n7 r=false):decide (iv r.kind∈[PV.int 11,PV.int 12])=false/\decide (iv r.kind∈[PV.int 8,PV.int 9])=false:=by cases r<;>first|exact⟨rfl,rfl⟩|cases h
theorem US (T:TabAt n m Y W)(hr:W.rows[p]? =some r)(hO:n7 r=false)(hl:W.rows.length+1<=900000)(v:PV)(k:Nat):lY (k+7) .zd [.loc m,iv p,v] Y=some (.int (-1),Y):=by
 have ip:=T.nD hr (pZ (nf hr) hl);have ik:=o3 Y r;refine nr (GN _ _ _) λR hR=>?_;kd_p;refine mD (Io hO).1 (nF ?_);kd_p;refine mD (lT not (Io hO).2) (qC ?_);kd_p;exact hR _ _ rfl
theorem yq.yL (x:yq W p r):decide (iv r.kind∈[PV.int 11,PV.int 12])=false/\decide (iv r.kind∈[PV.int 8,PV.int 9])=true:=x.kind.elim (λh=>by rw[h];exact⟨rfl,rfl⟩) λh=>by rw[h];exact⟨rfl,rfl⟩
noncomputable def Gj {V:Type}:Option V->Option V->Option V
 |some x,_=>some x
 |none,y=>y
theorem Yt (hw:o.how<=2):ry o=Gj o.nx o.tx:=by
 unfold ry;cases o.nx with
 |none=>exact lW (.inr rfl)
 |some g=>exact lX λh=>h.elim (λe=>absurd (e▸hw) (by decide)) nofun
theorem aai {D:Nat->Kd->Prop}{a b:Option Nat}{c e:Option Kd}(h:su D a c)(h':su D b e):rk D (intOf (Gj a b)) (Gj c e):=match a,c,h with
 |none,none,_=>h'.ty
 |some _,some _,h=>⟨_,rfl,h⟩
theorem K5 (T:TabAt n m Y W)(hP:PF 0 (d+1) W p o)(hA:mJ z (d+1) o)(hl:W.rows.length+1<=900000)(b:Bool)(k:Nat):∃v,lY (k+7) .zd [.loc m,iv p,.int (if b then -1 else 0)] Y=some (v,Y)/\xe d W v (ry o):=by
 have le:∀{i:Nat},i<W.rows.length->i<=1000000:=λh=>pZ h hl;refine hP.e (λq ps cs ct si ni fl hw R0=>⟨intOf (Gj ni si),(R0.pC.row R0.row).elim λrp x=>?_,Yt hw▸aai R0.wB R0.wA⟩) (λe k' hw h1 h2 h3=>⟨iv e,?_,?_⟩) λe k' hw _ _ _=>FG hA hw
 ·have ip:=T.nD x.at' (le (nf x.at'))
  have ik:=o3 Y rp
  have e1:=A9 ni Y
  have e0:=A9 si Y;refine nr (GN _ _ _) λR hR=>?_;kd_p;refine mD x.yL.1 (nF ?_);kd_p;refine mD (lT not x.yL.2) (nF ?_);kd_p;refine md (EE T R0.pC R0.row (le (nf x.at')) (le (nf R0.row)) true (k+3)) ?_;kd_p;refine A_ (λe=>?_) λu e=>?_
  ·subst e;kd_p;refine md (EE T R0.pC R0.row (le (nf x.at')) (le (nf R0.row)) false (k+3)) ?_;kd_p;refine A_ (λe=>?_) λu e=>?_
   ·subst e;kd_p;exact hR _ _ rfl
   ·have hi:=zL e Y;subst e;kd_p;exact hR _ _ rfl
  ·have hi:=zL e Y;subst e;kd_p;refine pj rfl ?_;kd_p;exact hR _ _ rfl
 ·have ip:=T.nD h1 (le (nf h1))
  have ik:=o3 Y (.arr e);refine nr (GN _ _ _) λR hR=>?_;kd_p;refine pO rfl ?_;kd_p;cases b with
  |true =>
   refine pO rfl ?_;kd_p;refine md (UQ T h1 (le (nf h1)) _) ?_;kd_p;exact hR _ _ rfl
  |false =>
   refine pj rfl ?_;kd_p;refine md (KS T h1 (le (nf h1)) (name:="0") (.inl rfl) _) ?_;kd_p;exact hR _ _ rfl
 ·rw[ry,lW (.inl hw),h2];exact⟨e,rfl,h3⟩
end
noncomputable def pb (m0:Nat):Nat:=11200*m0
def yM (z:Bool)(m0:Nat):Prop:=∀{n m:Nat} {Y:St} {W:Wd} {qy tid dt:Nat} {t:Kd} (T:TabAt n m Y W) (val:Nat->String),Vals z m0 W qy t val->qy<W.rows.length->rB 0 (PF 0 dt W) W tid t->mT t.1->(∀o∈t.2,mJ z dt o)->objs W tid*2^dt<=24 ->
  W.rows.length+objs W qy*pb m0+25000<=900000->∀(k:Nat) {R:PV->St->Prop},(∀σ' W',l7 n m Y W σ' W' (objs W qy*pb m0)->W'.lU=W.lU->R (.str (firstOf ((l8 W qy).map val))) σ')->WC (lY (k+3*m0+11) .uh [.loc m,iv qy,iv tid] Y) R
theorem acU (rd:One->Option Kd)(os:List One):∀w,os.foldl (λw o=>pU w (rd o)) w=(os.filterMap rd).foldl both w:=by
 induction os with
 |nil=>intro w;rfl
 |cons o os ih =>
  intro w;rw[cI,ih];cases h:rd o with
  |none=>simp[h,pU]
  |some g=>simp[h,pU]
theorem L7 (mP:List (Nat×Option Nat)):(mP.filter λx=>x.2.isSome).map (λx=>intOf x.2)=(mP.filterMap (·.2)).map iv:=by
 induction mP with
 |nil=>rfl
 |cons x r ih =>
  obtain⟨p,v⟩:=x;cases v with
  |none=>simpa using ih
  |some u=>simpa[intOf] using ih
theorem MU (x:Option Nat)(Y:St):oW Y .GtE (intOf x) (.int 0)=some x.isSome:=by
 cases x with
 |none=>rfl
 |some u=>exact lT some (mY (di u))
theorem aaj {z:Bool}{d:Nat}{os:List One}{rd:One->Option Kd}(h:∀o∈os,∀g,rd o=some g->TK z d g):mT ((os.filterMap rd).foldl both (0,[])).1/\∀o∈((os.filterMap rd).foldl both (0,[])).2,mJ z d o :=
 ⟨MJ λk hk=>(List.mem_filterMap.mp hk).elim λo x=>(h o x.1 k x.2).1,λo ho=>by
  rw[sS] at ho;exact(List.mem_flatMap.mp ho).elim λg x=>(List.mem_filterMap.mp x.1).elim λo' y=>(h o' y.1 g y.2).2.2 o x.2⟩
section
variable {n m:Nat}{Y σ':St}{W W0 W1 W' pa:Wd}{t p q x y:Nat}{r:Row}{d:Nat}{f:Nat}{P:Nat->One->Prop}{o:One}{z:Bool}{name:String}
theorem rk.no {D:Nat->Kd->Prop}:∀{x:Option Kd},rk D (.int (-1)) x->x=none
 |none,_=>rfl
 |some _,h=>h.elim λu h=>nomatch PV.int.inj h.1
theorem rk.yes {D:Nat->Kd->Prop}{u:Nat}:∀{x:Option Kd},rk D (iv u) x->∃g,x=some g/\D u g
 |none,h=>nomatch PV.int.inj h
 |some g,h=>h.elim λv h=>⟨g,rfl,xW h.1▸h.2⟩
theorem rk.int {D:Nat->Kd->Prop}{v:PV}:∀{x:Option Kd},rk D v x->∃y:Option Nat,v=intOf y
 |none,h=>⟨none,h⟩
 |some _,h=>h.elim λu h=>⟨some u,h.1⟩
theorem NR {os:List One}{rd:One->Option Kd}{W3:Wd}{v:PV}(hR:∀o∈os,PF 0 (d+1) W0 p o->xe d W3 v (rd o))(ho:o∈os)(hP:PF 0 (d+1) W0 p o) :
  ∃x:Option Nat,v=intOf x/\xj d os rd W0 W3 (p,x) :=
 (hR o ho hP).int.elim λx e=>⟨x,e,λh o' uD uN=>rk.no (by cases(h:x=none);cases e;exact hR o' uD uN),λu h=>⟨⟨o,ho,hP⟩,λo' uD uN=>rk.yes (by cases(h:x=some u);cases e;exact hR o' uD uN)⟩⟩
structure vE (n m d c:Nat)(os:List One)(rd:One->Option Kd)(Y:St)(W:Wd)(xs:List Nat)(vs:List PV)(τ:St)(mP:List (Nat×Option Nat))(W2:Wd):Prop where
 st:l7 n m Y W τ W2 (c*xs.length)
 lU:W2.lU=W.lU
 vs:vs=mP.map λx=>intOf x.2
 fst:mP.map (·.1)=xs
 rel:∀x∈mP,xj d os rd W W2 x
 cnt:(mP.filterMap (·.2)).length<=(xs.filter (mO W)).length
theorem vE.nil {c:Nat}{os:List One}{rd:One->Option Kd}(T:TabAt n m Y W):vE n m d c os rd Y W [] [] Y [] W:=⟨(l7.refl T).weaken (aC _),rfl,rfl,rfl,λ_ h=>(nomatch h),aB _⟩
theorem vE.push {c:Nat}{os:List One}{rd:One->Option Kd}{xs:List Nat}{vs:List PV}{τ τ':St}{mP:List (Nat×Option Nat)}{W2 W3:Wd}(K:vE n m d c os rd Y W xs vs τ mP W2)(st:l7 n m τ W2 τ' W3 c)(hb:W3.lU=W2.lU){x:Option Nat}(hx:xj d os rd W W3 (p,x))
  (hO:∀u,x=some u->mO W p=true):vE n m d c os rd Y W (xs++[p]) (vs++[intOf x]) τ' (mP++[(p,x)]) W3 where
 st:=(K.st.trans st).weaken (by rw[ar];exact aB _)
 lU:=hb.trans K.lU
 vs:=by rw[K.vs,aO];rfl
 fst:=by rw[aO,K.fst];rfl
 rel:=λy hy=>(List.mem_append.mp hy).elim (λh=>(K.rel y h).mono st.le) λh=>List.mem_singleton.mp h▸hx
 cnt:=by
  rw[List.filterMap_append,bK,ar,ar];refine bh K.cnt ?_;cases x with
  |none=>exact aC _
  |some u=>rw[dK (hO u rfl)];exact aB _
theorem OT {a d:Nat}(h:a*2^(d+1)<=24):a<=12:=Nat.le_of_mul_le_mul_right (ae (cx a (cZ (by decide:0<2) (aY 1 d))) h:a*2^1<=12*2^1) (by decide)
theorem afh {a b d:Nat}(h:a<=2*b)(h2:b*2^(d+1)<=24):a*2^d<=24 :=
 ae (aM _ h) (ae (ax (by rw[iL,e9 2,f_,e9 2])) h2)
theorem afi {w1 w2 w3 a b c e:Nat}(h2:w2<=w1+a)(h3:w3<=w2+1)(hb:b<=c)(hl:w1+a+1+c+e<=900000):w3+b+e<=900000:=ae (ak (bh (ae h3 (ak h2 1)) hb) e) hl
theorem Ly {m0 c:Nat}(ih:yM z m0){os:List One}{rd:One->Option Kd}{pl:List Nat}{vs:List PV}{τ:St}{mP:List (Nat×Option Nat)}{W2:Wd}(K:vE n m d c os rd Y W pl vs τ mP W2)(FH:∀o∈os,∃p∈pl,PF 0 (d+1) W p o)
  (xA:∀o∈os,∀g,rd o=some g->TK z d g) (rh:(pl.filter (mO W)).length*2^(d+1)<=24) {k0:Kd} {id:Nat} (De:Den 1 (PF 1 m0 W) W id k0) (qJ:qO (oX z m0) k0)
  (hl:W.rows.length+c*pl.length+1+k0.2.length*pb m0+25000<=900000) (kk k:Nat) {R:PV->St->Prop}
  (h:∀v τ4,(∀{R':PV->St->Prop},(∀τ5 W5,l7 n m Y W τ5 W5 (c*pl.length+1+k0.2.length*pb m0)->W5.lU=W.lU->R' (.str (mM (m0+1) k0 (os.foldl (λw o=>pU w (rd o)) (0,[])))) τ5)->WC (lY (k+3*m0+11) .uh [.loc m,iv id,v] τ4) R')->R v τ4) :
  WC (lY (kk+3) .union [.loc n,.lst ((mP.filterMap (·.2)).map iv)] τ) R:=by
 have pY:W2.rows.length+1<=900000:=ae (ak K.st.cost 1) (ae (aD _ _) (ae (aD _ 25000) hl));refine WK K.st.tab K.rel (λo ho=>(FH o ho).elim λp x=>?_) xA (ae K.cnt (ae (OT rh) (by decide))) pY _ λu τ4 W3 nP qx Du hob=>?_
 ·rw[← K.fst] at x;exact(List.mem_map.mp x.1).elim λy e=>⟨y,e.1,e.2.symm▸x.2⟩
 have Dk:=De.up (K.st.le.trans nP.le)
 have wm:=aaj xA;rw[← acU] at Du wm;refine(MT (t:=os.foldl (λw o=>pU w (rd o)) (0,[])) qJ Dk).elim λval lQ=>h _ _ λ{R'} Gf=>?_
 have hmul:objs W3 id*pb m0<=k0.2.length*pb m0:=aM _ lQ.cnt;refine ih nP.tab val lQ.vals Dk.lt Du wm.1 wm.2 (afh (ae hob (cx 2 K.cnt)) rh) (afi K.st.cost nP.cost hmul hl) k λτ5 W4 qK qS=>?_;rw[lQ.first];exact Gf τ5 W4 (((K.st.trans nP).trans qK).weaken (av hmul _)) ((qS.trans qx).trans K.lU)
structure Gk where
 τ:St
 x:Option PV
 y:Option PV
 z:Option PV
noncomputable def ur (bs:List ((String×Nat×Nat)×mj)):Nat:=(bs.map λa=>a.2.2.1.2.length).sum
noncomputable def Rt (m0:Nat)(bs:List ((String×Nat×Nat)×mj)):Nat:=bs.length*13+ur bs*pb m0
structure XwJ (n m m0:Nat)(Y:St)(W:Wd)(os:List One)(bs:List ((String×Nat×Nat)×mj))(s:Gk):Prop where
 ex:∃W1,l7 n m Y W s.τ W1 (Rt m0 bs)/\W1.lU=W.lU
 nil:firstOf (bs.map λa=>mM (m0+1) a.2.2.1 (wantOf os a.2.1))=""
theorem L8 (bs:List ((String×Nat×Nat)×mj))(y:(String×Nat×Nat)×mj):ur (bs++[y])=ur bs+y.2.2.1.2.length:=by simp[ur]
theorem acV {bs cs zs:List ((String×Nat×Nat)×mj)}{y:(String×Nat×Nat)×mj}(h:zs=bs++y::cs)(hs:ur zs<=1):ur bs+y.2.2.1.2.length<=1:=by
 have e:ur zs=ur bs+y.2.2.1.2.length+ur cs:=by rw[h];simp[ur,aP]
 exact ae (aD _ _) (e▸hs)
theorem aiT (w x y:Nat):w+(2*13+x)+12+1+y+25000=w+(x+y)+25039:=by omega
theorem aiU {w w1 b S l C p:Nat}(h1:w1<=w+(b*13+S*C))(hb:b+1<=3)(hS:S+l<=1)(hp:p<=12)(hl:w+C+25200<=900000):w1+1*p+1+l*C+25000<=900000:=by
 have h:=aM C hS;rw[cq,bU] at h;have h2:w1+1*p+1+l*C+25000<=w+(2*13+S*C)+12+1+l*C+25000 :=
  ak (ak (ak (bh (ae h1 (av (ak (aM 13 (ji hb)) _) _)) (ae (ax (bU p)) hp)) 1) _) 25000
 rw[aiT] at h2;exact ae h2 (ae (bh (av h w) (by decide:25039<=25200)) hl)
theorem aiV {b S l C p:Nat}(hp:p<=12):b*13+S*C+(1*p+1+l*C)<=(b+1)*13+(S+l)*C:=by
 rw[cq S,cq b,bU,bU,iX];exact ak (av (aU hp) _) _
theorem Qt {b S C:Nat}(hb:b<=3)(hS:S<=1):b*13+S*C<=100+C:=bh (ae (aM 13 hb) (by decide)) (ae (aM C hS) (ax (bU C)))
theorem aiW {w2 w1 a p e q:Nat}(h:w2<=w1+1*a)(hp:a+1<=p)(hl:w1+1*p+1+q+e<=900000):w2+1<=900000:=ae (ak (ae h (av (cx 1 (bE hp)) _)) 1) (ae (aD _ q) (ae (aD _ e) hl))
theorem Yu {bs cs:List ((String×Nat×Nat)×mj)}{y:(String×Nat×Nat)×mj}{F:mj->String}(h:firstOf (bs.map λa=>F a.2)="")(hy:F y.2≠""):firstOf (((bs++y::cs).map (·.2)).map F)=F y.2:=by
 rw[aR,aO,Lg];refine(lW h).trans ?_;rw[a9,y9];exact lX hy
theorem UT {m0:Nat}(ih:yM z m0)(T:TabAt n m Y W){s:Nat}{ps:List (String×Nat×Nat)}{cs ct:List Nat}{si ni:Option Nat}{fl:Nat}{ops:List mj}(pz:W.rows[s]? =some (.obj ps cs ct si ni fl))(hz:nX (Den 1 (PF 1 m0 W) W) ps ops)(sE:ye z ops)
  (FJ:(ops.map λp=>p.2.1.2.length).sum<=1) (qJ:∀p∈ops,qO (oX z m0) p.2.1) {pl:List Nat} {os:List One} (C:oU (d+1) z W pl os) (pK:pl.length*2^(d+1)<=24) (hlen:ops.length<=3) (hl:W.rows.length+pb m0+25200<=900000) (k:Nat) {R:PV->St->Prop}
  (h:∀σ' W',l7 n m Y W σ' W' (100+pb m0)->W'.lU=W.lU->R (.str (firstOf (ops.map λp=>mM (m0+1) p.2.1 (wantOf os p.1)))) σ'):WC (lY (k+3*m0+12) .Dc [.loc m,iv s,.lst (pl.map iv)] Y) R:=by
 have Px:=OT pK;refine hz.zip.elim λzs lP=>?_
 have rY:∀τ:St,oD τ (.seq (.tup (ps.map nj)))=some (zs.map λa=>nj a.1):=λ_=>lT some (by rw[← lP.a,aR];rfl)
 have Ru:zs.length<=3:=ae (ax ((au _).symm.trans (lT bG lP.b))) hlen
 have Qu:ur zs<=1:=by rw[← lP.b,aR] at FJ;exact FJ
 have ir:=T.nD pz (pZ (nf pz) (ae (bh (aD _ _) (by decide)) hl))
 have i1:mA Y (.int 1) (Row.obj ps cs ct si ni fl).pv=some (.tup (ps.map nj)):=qY _ _ _ _;refine nS (Su _ _ _) λR' hR=>?_;kd_p;refine sV zs (λa=>nj a.1) (.seq (.tup (ps.map nj))) (λu:Gk=>[some (.loc m),some (iv s),some (.lst (pl.map iv)),u.x,u.y,u.z]) (λu=>u.τ) (XwJ n m m0 Y W os) ?_ (λbs y Rq u qR J N hN=>J.ex.elim λW1 J1=>?_) λu J=>J.ex.elim λW1 J1=>?_
 ·kd_p;exact⟨⟨Y,none,none,none⟩,rfl,by rw[← lP.a,aR];rfl,rfl,rfl,⟨W,(l7.refl T).weaken (aC _),rfl⟩,rfl⟩
 ·have zr:=lP.r y (mem_mid qR)
  have z8:y.2∈ops:=lP.b▸c7 (mem_mid qR)
  have tc:=ae (tB qR) Ru
  have Rv:=acV qR Qu
  have tX:=aiU J1.1.cost tc Rv Px hl
  have T1:=J1.1.tab
  have C1:=C.mono J1.1.le;kd_p;refine Bx pl iv (.seq (.lst (pl.map iv))) (λxs vs τ=>∃mP W2,vE n m d 1 os (λo=>m3 o y.2.1) u.τ W1 xs vs τ mP W2) ?_ (λxs p ys vs τ3 vD J3=>J3.elim λmP J3=>J3.elim λW2 K=>(C1.c1 p (mem_mid vD)).elim λo ho=>?_) λvs τ3 J3=>J3.elim λmP J3=>J3.elim λW2 K=>?_
  ·kd_p;exact⟨rfl,rfl,[],W1,vE.nil T1⟩
  ·have T3:=K.st.tab
   have hA:=C1.ask o ho.1;kd_p;refine BA (lT PV.str zr.1) ?_;refine DB T3 (ho.2.mono K.st.le) hA (sE y.2 z8).1 (aiW K.st.cost (tB vD) tX) _ λv τ4 W3 nP qx hR3=>?_;refine(NR (W0:=W1) (rd:=λo=>m3 o y.2.1) (λo ho hP=>hR3 o (hP.mono K.st.le) (C1.ask o ho)) ho.1 ho.2).elim λx e=>?_;kd_p;exact⟨rfl,mP++[(p,x)],W3,e.1▸K.push nP qx e.2 λ_ _=>E6 ho.2⟩
  ·have T3:=K.st.tab;rw[K.vs];kd_p;refine ze (L:=(mP.filterMap (·.2)).map iv) mP (λx=>intOf x.2) (λx=>intOf x.2) (λx=>x.2.isSome) (L7 mP) ?_ (λx hx=>?_) (λx hx _=>?_) ?_
   ·kd_p;exact⟨rfl,rfl,rfl⟩
   ·have ge:=MU x.2 τ3;kd_p
   ·kd_p
   kd_p;refine Ly ih K C1.c2 (λo ho g hg=>vU (C1.ask o ho) hg) (ae (aM _ (ed _ _)) pK) (zr.2.2.up J1.1.le) (qJ y.2 z8) tX _ k λv τ4 hv=>?_;kd_p;refine hv λτ5 W5 qK qS=>?_;kd_p;have r5:=(J1.1.trans qK).weaken (aiV Px);refine zJ (λoi=>?_) λoi=>?_
   ·kd_p;refine hR _ _ _ (sC ?_ (h τ5 W5 (r5.weaken (Qt tc (L8 bs y▸Rv))) (qS.trans J1.2)));rw[← lP.b,qR];exact lT PV.str (Yu J.nil oi)
   ·exact hN ⟨τ5,_,_,_⟩ (rY _) ⟨⟨W5,r5.weaken (ax (by rw[Rt,ar,L8];rfl)),qS.trans J1.2⟩,by
     rw[aO];exact(K4 _ _).trans ((lW J.nil).trans oi)⟩
 ·kd_p;refine hR _ _ _ (sC ?_ (h u.τ W1 (J1.1.weaken (Qt Ru Qu)) J1.2));rw[← lP.b,aR];exact lT PV.str J.nil
end
theorem aak {os left:List One}{p:mj}(h:left≠[]):qj os left p≠[]:=by
 unfold qj
 split
 ·dsimp only
  split
  ·exact h
  ·rename_i h2;exactλe=>h2 (by rw[e];rfl)
 ·exact h
theorem aal {ps:List mj}{os:List One}(h:os≠[]):nY ps os≠[]:=by
 suffices ∀(ps:List mj) (left:List One),left≠[]->ps.foldl (qj os) left≠[] from this ps os h
 intro ps
 induction ps with
 |nil=>exactλ_ h=>h
 |cons p ps ih=>exactλleft h=>ih _ (aak h)
section
variable {n m:Nat}{Y σ':St}{W W0 W1 W' pa:Wd}{t p q x y:Nat}{r:Row}{d:Nat}{f:Nat}{P:Nat->One->Prop}{o:One}{z:Bool}{name:String}
def Ap (m:Nat)(Y:St)(name:String)(p:Nat)(b:Bool):Prop:=∀fu,lY (fu+4) .BP [.loc m,iv p,.str name] Y=some (.bool b,Y)
theorem Ap.u {b c:Bool}(h:Ap m Y name p b)(h':Ap m Y name p c):b=c:=PV.bool.inj (jf (aq ((h 0).symm.trans (h' 0)))).1
theorem aam (T:TabAt n m Y W){pl:List Nat}{os:List One}(C:oU (d+1) z W pl os)(hn:name∈namesOf z)(hl:W.rows.length<=900000) :
  ∃B:Nat->Bool,(∀p∈pl,Ap m Y name p (B p))/\pl.any B=os.any λo=>qZ o name:=by
 have key:∀{p:Nat} {o:One},o∈os->PF 0 (d+1) W p o->Ap m Y name p (qZ o name):=λho hP fu=>WE T hP (C.ask _ ho) hn hl fu;refine(pick (C:=Ap m Y name) λp (hp:p∈pl)=>(C.c1 p hp).elim λo x=>⟨_,key x.1 x.2⟩).elim λB hB=>⟨B,hB,?_⟩;rw[bg,bS,bS];exact⟨λh=>h.elim λp h=>(C.c1 p h.1).elim λo x=>⟨o,x.1,((hB p h.1).u (key x.1 x.2)).symm.trans h.2⟩,λh=>h.elim λo h=>(C.c2 o h.1).elim λp x=>⟨p,x.1,((hB p x.1).u (key h.1 x.2)).trans h.2⟩⟩
theorem NS (hw:o.how=1\/o.how=3\/o.how=4):[o].filter qm=[o]:=dK (by unfold qm;rcases hw with h|h|h<;>rw[h]<;>rfl)
noncomputable def Ip (m0:Nat)(ps:List mj)(t:Kd)(os:List One):String:=match ps.find? (λp=>!(os.any λq=>qZ q p.1)) with
 |some p=>p.1
 |none=>firstOf (ps.map λp=>mM m0 p.2.1 (wantOf os p.1))
theorem Yv {m0:Nat}{t:Kd}(hw:o.how=1):mM (m0+1) (0,[o]) t=if q7 t=true then "" else if t.2=[] then "" else Ip m0 o.ps t (nY o.ps t.2):=by
 rw[mM,NS (.inl hw)];dsimp only;rw[lX (show¬o.how>1 by rw[hw];decide)];rfl
theorem WM {m0:Nat}{t k:Kd}(hw:o.how=3\/o.how=4)(hk:o.tx=some k):mM (m0+1) (0,[o]) t=if q7 t=true then "" else mM m0 k (vR t.2):=by
 rw[mM,NS (.inr hw)];dsimp only;rw[lW (show o.how>1 from hw.elim (λh=>by rw[h];decide) λh=>by rw[h];decide),hk];rfl
theorem L9 {m0:Nat}{t:Kd}(hw:o.how=0\/o.how=2):mM (m0+1) (0,[o]) t="":=by
 rw[mM,d9 (by unfold qm;rcases hw with h|h<;>rw[h]<;>decide)];rfl
theorem EI {D:Nat->Kd->Prop}{xs:List (String×Nat×Nat)}{ps:List mj}{zs:List ((String×Nat×Nat)×mj)}(lP:Qq D xs ps zs){F:mj->Bool}{x:Option ((String×Nat×Nat)×mj)}(h:zs.find? (λa=>F a.2)=x):ps.find? F=x.map (·.2):=by
 rw[← lP.b,iM];exact lT (b4 (·.2)) h
theorem Py (m0:Nat):pb (m0+1)=pb m0+11200:=je _ _
theorem ahv {a d:Nat}(h:a*2^d<=24):a<=30:=ae (ae (iK a (i6 d)) h) (by decide)
theorem oU.afj {os:List One}(C:oU d z W [] (nY o.ps os)):os=[]:=Decidable.by_contra λe=>aal e C.nil
theorem Yw {m0:Nat}(ih:yM z m0)(T:TabAt n m Y W){s:Nat}{ps:List (String×Nat×Nat)}{cs ct:List Nat}{si ni:Option Nat}{fl:Nat}(pz:W.rows[s]? =some (.obj ps cs ct si ni fl))(hz:nX (Den 1 (PF 1 m0 W) W) ps o.ps)(hw:o.how=1)(sE:ye z o.ps)
  (FJ:(o.ps.map λp=>p.2.1.2.length).sum<=1) (qJ:∀p∈o.ps,qO (oX z m0) p.2.1) (hlen:o.ps.length<=3) {dt:Nat} {kd:Kd} (D:rB 0 (PF 0 dt W) W t kd) (hk:mT kd.1) (hA:∀o∈kd.2,mJ z dt o) (rh:objs W t*2^dt<=24)
  (hl:W.rows.length+pb (m0+1)+25000<=900000) (k:Nat) {R:PV->St->Prop}
  (h:∀σ' W',l7 n m Y W σ' W' (pb (m0+1))->W'.lU=W.lU->R (.str (mM (m0+2) (0,[o]) kd)) σ'):WC (lY (k+3*m0+13) .Dw [.loc m,iv s,iv t] Y) R:=by
 rw[Py] at hl h;rw[Yv hw] at h;have hla:∀{a b:Nat},b<=W.rows.length+11000->a<=25200->b+pb m0+a<=900000:=λh1 h2=>ae (bh (ak h1 _) h2) (by omega);have JR:∀{a:Nat},a<=25000->W.rows.length+a<=900000:=λh=>ae (bh (aD _ _) h) hl;refine nS (S_ _ _ _) λR' hR=>?_;kd_p;refine Vx (c:=objs W t) T pz hz sE D hk hA (aB _) (ahv rh) hlen (JR (by decide)) _ (λht=>?_) λht sJ σ1 W1 nU rL C1 pK=>?_
 ·kd_p;refine pO rfl ?_;kd_p;exact hR _ _ _ (sC (lT PV.str (lW ht)) (h Y W ((l7.refl T).weaken (aC _)) rfl))
 rw[lX (by rw[ht];decide)] at h;have T1:=nU.tab;cases z7:sJ with
 |nil =>
  subst z7;kd_p;refine pO rfl ?_;kd_p;exact hR _ _ _ (sC (lT PV.str (lW C1.afj)) (h σ1 W1 (nU.weaken (ae (by decide) (aY _ _))) rL))
 |cons p0 pr0 =>
  have hk2:¬kd.2=[]:=λe=>by
   rw[z7,e,K3] at C1;exact nomatch C1.cons
  rw[lX hk2] at h;have hdt:∃d,dt=d+1:=(C1.c1 p0 (z7▸aG ..)).elim λq x=>EG (C1.ask q x.1);refine hdt.elim λd e=>?_;subst e;kd_p;refine pj rfl ?_;rw[← z7];refine hz.zip.elim λzs lP=>?_;have ir:=T1.nD (nU.le.row pz) (ae (aS (nf pz)) (ae (aD _ _) (ae (JR (aB _)) (by decide))));have i1:mA σ1 (.int 1) (Row.obj ps cs ct si ni fl).pv=some (.tup (ps.map nj)):=qY _ _ _ _;kd_p;refine vS zs (λa=>nj a.1) (λx:Option PV=>[some (.loc m),some (iv s),some (iv t),some (.lst (sJ.map iv)),x]) (λa=>!((nY o.ps kd.2).any λq=>qZ q a.2.1)) none rfl ?_ (λa i ha hf N hN=>?_) λhf i=>?_
  ·kd_p;exact SI.t (by rw[← lP.a,aR];rfl)
  ·have zr:=lP.r a ha
   have j0:=Bk σ1 a.1;refine(aam T1 C1 (sE a.2 (lP.b▸c7 ha)).1 (ae nU.cost (JR (by decide)))).elim λB hB=>?_;kd_p;refine u1 sJ iv iv B ?_ (λp hp=>?_) (λp hp _=>?_) ?_
   ·kd_p;exact SI.l rfl
   ·kd_p;refine BA (lT PV.str zr.1) ?_;refine md (hB.1 p hp _) ?_;kd_p
   ·kd_p
   kd_p;refine mD ((Mz _ _ _).trans (lT not hB.2)) (nh (λh1=>?_) λh1=>?_)
   ·kd_p;refine hR _ _ _ (sC ?_ (h σ1 W1 (nU.weaken (ae (by decide) (aY _ _))) rL));rw[Ip,EI lP (hf h1)];exact lT PV.str zr.1.symm
   ·exact hN _ h1
  ·kd_p;refine UT ih T1 (nU.le.row pz) (hz.mono λt k D=>D.up nU.le) sE FJ qJ C1 (ae (aM _ pK) rh) hlen (hla nU.cost (aB _)) k λσ2 W2 mG ox=>?_;kd_p;refine hR _ _ _ (sC ?_ (h σ2 W2 ((nU.trans mG).weaken (by omega)) (ox.trans rL)));rw[Ip,EI lP hf];rfl
end
section
variable {n m:Nat}{Y σ':St}{W W0 W1 W' pa:Wd}{t p q x y:Nat}{r:Row}{d:Nat}{f:Nat}{P:Nat->One->Prop}{o:One}{z:Bool}{name:String}
structure Qv (d:Nat)(z:Bool)(W:Wd)(t:Nat)(os:List One):Prop where
 ask:∀o∈os,mJ z (d+1) o
 c1:∀p∈l8 W t,mO W p=true->∃o∈os,PF 0 (d+1) W p o
 c2:∀o∈os,∃p∈l8 W t,PF 0 (d+1) W p o
 obj:objs W t*2^(d+1)<=24
theorem rB.els {dt:Nat}{kd:Kd}(D:rB 0 (PF 0 dt W) W t kd)(he:ou kd=kd.2)(hA:∀o∈kd.2,mJ z dt o)(rh:objs W t*2^dt<=24):∃d,Qv d z W t kd.2:=by
 cases dt with
 |zero =>
  have wz:∀p∈l8 W t,mO W p=false:=λp hp=>(D.sound p hp).elim (λh=>h.elim λi h=>Bo h.2.2) λh=>h.elim λo h=>h.2.elim
  have h0:objs W t=0:=lT bG (List.filter_eq_nil_iff.mpr λp hp=>by rw[wz p hp];decide);exact⟨0,λo ho=>(hA o ho).elim,λp hp h=>absurd ((wz p hp).symm.trans h) nofun,λo ho=>(hA o ho).elim,by rw[h0];decide⟩
 |succ d=>exact⟨d,hA,λp hp h=>(D.sound p hp).elim (λx=>x.elim λi x=>absurd ((Bo x.2.2).symm.trans h) nofun) λx=>x.elim λo x=>⟨o,tA x.1,x.2⟩,λo ho=>D.ones o (he.symm▸ho),rh⟩
structure ahw (k m d:Nat)(b:Bool)(os:List One)(Y:St)(W:Wd)(p:Nat)(x:Option Nat):Prop where
 run:lY (k+7) .zd [.loc m,iv p,.int (if b then -1 else 0)] Y=some (intOf x,Y)
 rel:xj d os ry W W (p,x)
 own:∀u,x=some u->mO W p=true
theorem acW (T:TabAt n m Y W){os:List One}(E:Qv d z W t os)(yK:W.rows[t]? =some r)(hl:W.rows.length+1<=900000)(b:Bool)(k:Nat){p:Nat}(hp:p∈l8 W t):∃x,ahw k m d b os Y W p x:=by
 cases hO:mO W p with
 |false=>exact(T.wW yK p hp).ex.elim λrp h=>⟨none,US T h.1 ((vb h.1).symm.trans hO) hl _ k,⟨λ_ o ho hP=>absurd ((E6 hP).symm.trans hO) nofun,λu hu=>nomatch hu⟩,λu hu=>nomatch hu⟩
 |true =>
  refine(E.c1 p hp hO).elim λo ho=>(K5 (k:=k) T ho.2 (E.ask o ho.1) hl b).elim λv hv=>?_;refine(NR (W0:=W) (W3:=W) (v:=v) (rd:=ry) (λo' uD uN=>(K5 (k:=k) T uN (E.ask o' uD) hl b).elim λv' yN=>?_) ho.1 ho.2).elim λx hx=>⟨x,hx.1▸hv.1,hx.2,λ_ _=>hO⟩;cases hv.1.symm.trans yN.1;exact yN.2
structure Rw where
 τ:St
 x:Option PV
 y:Option PV
 z:Option PV
def LsJ (n m m0:Nat)(Y:St)(W:Wd)(E:Prop)(bs:List Unit)(s:Rw):Prop:=(bs=[]/\s.τ=Y)\/(bs=[()]/\E/\∃W1,l7 n m Y W s.τ W1 (pb (m0+1))/\W1.lU=W.lU)
noncomputable def vF (b:Bool)(e:Nat):Row:=bif b then .arr e else .tK e
theorem Pz {b:Bool}{e:Nat}:decide (((vF b e).kind:Int)=11)=b:=by cases b<;>rfl
theorem afk {bs cs:List Unit}{u:Unit}(h:[()]=bs++u::cs):bs=[]:=by cases bs with|nil=>rfl|cons a bs=>cases bs<;>simp at h
theorem aiX {w a b c:Nat}(h:1+b<=c)(hl:w+c+25000<=900000):w+0*a+1+b+25000<=900000:=ae (ak (ae (ax (by rw[jj];exact aP w 1 b)) (av h w)) _) hl
theorem WN {m0:Nat}(ih:yM z m0)(T:TabAt n m Y W){s e:Nat}{b:Bool}(pz:W.rows[s]? =some (vF b e)){k0:Kd}(De:Den 1 (PF 1 m0 W) W e k0)(qJ:qO (oX z m0) k0)
  {dt:Nat} {kd:Kd} (D:rB 0 (PF 0 dt W) W t kd) (hA:∀o∈kd.2,mJ z dt o) (aiY:q7 kd=false) (rh:objs W t*2^dt<=24) (hl:W.rows.length+pb (m0+1)+25000<=900000) (k:Nat) {R:PV->St->Prop}
  (h:∀σ' W',l7 n m Y W σ' W' (pb (m0+1))->W'.lU=W.lU->R (.str (mM (m0+1) k0 (vR kd.2))) σ'):WC (lY (k+3*m0+13) .Dn [.loc m,iv s,iv t] Y) R:=by
 have yK:=aQ D.lt
 have pY:W.rows.length+1<=900000:=ae (bh (aD _ _) (by decide)) hl
 have Rx:1+k0.2.length*pb m0<=pb (m0+1):=by
  rw[Py,b9];exact bh (ae (aM _ qJ.2.1) (ax (bU _))) (by decide)
 refine(D.els (MR aiY) hA rh).elim λd E=>?_;have ir:=T.nD pz (pZ (nf pz) pY);have ik:=o3 Y (vF b e);refine nS (SO _ _ _) λR' hR=>?_;kd_p;refine md (u4 T yK (pZ D.lt pY) _) ?_;refine(?_:nE _ (.cons _ _) _ _ _ _ _);refine tJ (λ_:Unit=>[some (.loc m),some (iv s),some (iv t),some (vF b e).pv,some (.tup ((l8 W t).map iv)),some (.lst [iv e]),none,none,none]) (λ_=>Y) (λ_=>True) (λN hN=>?_) λ_ _=>?_
 ·kd_p;refine mD Pz ?_;cases b with
  |true =>
   have i1:mA Y (.int 1) (vF true e).pv=some (iv e):=qY _ _ _ _;refine qC ?_;kd_p;exact hN () trivial
  |false =>
   have i1:mA Y (.int 1) (vF false e).pv=some (.tup [.tup [iv e,.int 0]]):=qY _ _ _ _;refine nF ?_;kd_p;refine sW [e] (λe=>.tup [iv e,.int 0]) iv ?_ (λa ha=>?_) ?_
   ·kd_p;exact SI.t rfl
   ·kd_p
   exact hN () trivial
 kd_p;refine sV [()] (λ_=>PV.int 0) (.seq (.tup (p4 1))) (λu:Rw=>[some (.loc m),some (iv s),some (iv t),some (vF b e).pv,some (.tup ((l8 W t).map iv)),some (.lst [iv e]),u.x,u.y,u.z]) (λu=>u.τ) (LsJ n m m0 Y W (mM (m0+1) k0 (vR kd.2)="")) ?_ (λbs y Rq u qR J N hN=>?_) λu J=>?_
 ·kd_p;exact⟨(by decide:1<=100000),⟨⟨Y,_,_,_⟩,rfl,rfl,rfl,rfl,.inl ⟨rfl,rfl⟩⟩⟩
 ·have An:=afk qR;subst An;refine J.elim (λJ=>?_) λJ=>nomatch J.1;obtain⟨τ,x0,y0,z0⟩:=u
  have hτ:Y=τ:=J.2.symm;subst hτ;kd_p;refine Bx (l8 W t) iv (.seq (.tup ((l8 W t).map iv))) (λxs vs τ=>∃mP,vE n m d 0 kd.2 ry Y W xs vs τ mP W/\τ=Y) ?_ (λxs p ys vs τ vD J3=>J3.elim λmP K=>(acW T E yK pY b (k+3*m0+5) (mem_mid vD)).elim λx X=>?_) λvs τ J3=>J3.elim λmP K=>?_
  ·kd_p;exact⟨rfl,rfl,[],vE.nil T,rfl⟩
  ·cases K.2.symm;kd_p;refine mD Pz ?_;cases b with
   |true =>
    refine qC ?_;kd_p;refine md X.run ?_;kd_p;exact⟨rfl,mP++[(p,x)],K.1.push ((l7.refl T)) rfl X.rel X.own,rfl⟩
   |false =>
    refine nF ?_;kd_p;refine md X.run ?_;kd_p;exact⟨rfl,mP++[(p,x)],K.1.push ((l7.refl T)) rfl X.rel X.own,rfl⟩
  ·cases K.2.symm;rw[K.1.vs];kd_p;refine ze (L:=(mP.filterMap (·.2)).map iv) mP (λx=>intOf x.2) (λx=>intOf x.2) (λx=>x.2.isSome) (L7 mP) ?_ (λx hx=>?_) (λx hx _=>?_) ?_
   ·kd_p;exact⟨rfl,rfl,rfl⟩
   ·have ge:=MU x.2 Y;kd_p
   ·kd_p
   kd_p;refine Ly ih K.1 E.c2 (λo ho g hg=>acE (E.ask o ho) hg) E.obj De qJ (aiX Rx hl) _ (k+1) λv τ4 hv=>?_;kd_p;rw[show k+3*m0+12=(k+1)+3*m0+11 by omega];refine hv λτ5 W5 qK qS=>?_;kd_p;have r5:=qK.weaken (ae (ax (by rw[jj,Nat.zero_add])) Rx);refine zJ (λoi=>?_) λoi=>?_
   ·kd_p;exact hR _ _ _ (h τ5 W5 r5 qS)
   ·exact hN ⟨τ5,_,_,_⟩ rfl (.inr ⟨rfl,oi,W5,r5,qS⟩)
 ·refine J.elim (λJ=>nomatch J.1) λJ=>J.2.2.elim λW1 J1=>?_;kd_p;exact hR _ _ _ (sC (lT PV.str J.2.1) (h u.τ W1 J1.1 J1.2))
end
section
variable {n m:Nat}{Y σ':St}{W W0 W1 W' pa:Wd}{t p q x y:Nat}{r:Row}{d:Nat}{f:Nat}{P:Nat->One->Prop}{o:One}{z:Bool}{name:String}
theorem Yx (le:W.le W')(h:p<W.rows.length):mO W' p=mO W p:=by rw[vb (aQ h),vb (le.row (aQ h))]
theorem rB.up {dt:Nat}{k:Kd}(D:rB f (PF f dt W) W t k)(le:W.le W'):rB f (PF f dt W') W' t k :=
 have e:=za le D.lt
 ⟨aW D.lt le.len,λp hp=>(D.sound p (e▸hp)).elim (λh=>h.elim λi h=>.inl ⟨i,h.1,h.2.1,h.2.2.mono le⟩) λh=>h.elim λo h=>.inr ⟨o,h.1,h.2.mono le⟩,
  λi hi hb=>(D.atoms i hi hb).elim λp h=>⟨p,e.symm▸h.1,h.2.mono le⟩,λo ho=>(D.ones o ho).elim λp h=>⟨p,e.symm▸h.1,h.2.mono le⟩⟩
theorem Yy (T:TabAt n m Y W)(le:W.le W')(h:t<W.rows.length):objs W' t=objs W t:=by
 rw[objs,za le h,gv λp hp=>(T.wW (aQ h) p hp).ex.elim λr hr=>Yx le (nf hr.1)];rfl
inductive sx (z:Bool)(m0:Nat)(W:Wd)(t:Kd)(r:Row)(v:String):Prop
 |one (m1:Nat) (e:m0=m1+1) (o:One) (ps:List (String×Nat×Nat)) (cs ct:List Nat) (si ni:Option Nat) (hr:r=.obj ps cs ct si ni 1) (hz:nX (Den 1 (PF 1 m1 W) W) ps o.ps) (hw:o.how=1) (len:o.ps.length<=3) (own:ye z o.ps) (sum:(o.ps.map λp=>p.2.1.2.length).sum<=1)
   (kd:∀p∈o.ps,qO (oX z m1) p.2.1) (hv:v=mM (m1+2) (0,[o]) t)
 |lst (m1:Nat) (e:m0=m1+1) (b:Bool) (u:Nat) (hr:r=vF b u) (k0:Kd) (D:Den 1 (PF 1 m1 W) W u k0) (kd:qO (oX z m1) k0) (top:q7 t=false) (hv:v=mM (m1+1) k0 (vR t.2))
 |skip (h1:(decide ((r.kind:Int)=8)&&r.fresh)=false) (h2:(decide (iv r.kind∈[PV.int 11,PV.int 12])&&!q7 t)=false) (hv:v="")
theorem oX.lists {d:Nat}{k:Kd}(h:oX z (d+1) o)(hw:o.how=3\/o.how=4)(hk:o.tx=some k):qO (oX z d) k:=h.elim (λh=>absurd h.1 (hw.elim (λe=>by rw[e];decide) λe=>by rw[e];decide)) λh=>h.2.elim λk' x=>by cases hk.symm.trans x.1;exact x.2.1
theorem MV {m1 e:Nat}{b:Bool}{t k':Kd}{v:String}(hO:oX z (m1+1) o)(hw:o.how=3\/o.how=4)(Gl:o.tx=some k')(D:Den 1 (PF 1 m1 W) W e k')(hv:v=mM (m1+2) (0,[o]) t):sx z (m1+1) W t (vF b e) v:=by
 rw[WM hw Gl] at hv;cases ht:q7 t with
 |true=>exact .skip (by cases b<;>rfl) (by rw[ht];exact cV _) (hv.trans (lW ht))
 |false=>exact .lst m1 rfl b e rfl k' D (hO.lists hw Gl) ht (hv.trans (lX (by rw[ht];decide)))
theorem aan {m1:Nat}{q:Nat}{t:Kd}{v:String}{ps:List (String×Nat×Nat)}{cs ct:List Nat}{si ni:Option Nat}{fl:Nat}(hr:W.rows[p]? =some r)(hO:oX z (m1+1) o)(hw:o.how<=2)(R:uy 1 (Den 1 (PF 1 m1 W) W) W p o q ps cs ct si ni fl)(hv:v=mM (m1+2) (0,[o]) t):sx z (m1+1) W t r v:=by
 by_cases h2:o.how<2
 ·have Ry:=(R.ex rfl).1 h2
  have pz:=R.row;rw[← Ry.1,hr] at pz;cases pz
  match fl,R.Rh,Ry.2 with
  |0,_,e=>exact .skip rfl rfl (hv.trans (L9 (.inl e.symm)))
  |1,_,e=>exact hO.elim (λx=>.one m1 rfl o ps cs ct si ni rfl R.rJ e.symm x.2.1 x.2.2.1 x.2.2.2.1 x.2.2.2.2 hv) λx=>absurd hw (x.1.elim (λe=>by rw[e];decide) λe=>by rw[e];decide)
  |_+2,h,_=>exact absurd h (by simp)
 ·have h2:o.how=2:=eA hw (b8 h2);refine((R.ex rfl).2 h2).elim λd h=>?_;cases hr.symm.trans h;exact .skip rfl rfl (hv.trans (L9 (.inr h2)))
theorem afl {m0:Nat}{t:Kd}{v:String}(hr:W.rows[p]? =some r)(h:(mO W p=false/\v="")\/∃o,PF 1 m0 W p o/\oX z m0 o/\v=mM (m0+1) (0,[o]) t):sx z m0 W t r v:=by
 refine h.elim (λh=>?_) λh=>h.elim λo h=>?_
 ·have hO:n7 r=false:=(vb hr).symm.trans h.1;exact .skip (by cases r<;>first|rfl|cases hO) (by rw[(Io hO).1];rfl) h.2
 ·cases m0 with
  |zero=>exact h.1.elim
  |succ m1 =>
   refine h.1.e (λq ps cs ct si ni fl hw R=>aan hr h.2.1 hw R h.2.2) (λe k' hw h1 h2 h3=>?_) λe k' hw h1 h2 h3=>?_
   ·cases hr.symm.trans h1;exact MV (b:=true) h.2.1 (.inl hw) h2 h3 h.2.2
   ·cases hr.symm.trans h1;exact MV (b:=false) h.2.1 (.inr hw) h2 h3 h.2.2
theorem sx.n7 {m0:Nat}{t:Kd}{v:String}(h:sx z m0 W t r v):n7 r=true\/((decide ((r.kind:Int)=8)&&r.fresh)=false/\(decide (iv r.kind∈[PV.int 11,PV.int 12])&&!q7 t)=false/\v="") :=
 sx.rec (λ_ _ _ _ _ _ _ _ e _ _ _ _ _ _ _=>.inl (e▸rfl)) (λ_ _ b _ e _ _ _ _ _=>.inl (by subst e;cases b<;>rfl)) (λa b c=>.inr ⟨a,b,c⟩) h
theorem sx.c1 {m0:Nat}{t:Kd}{v:String}(h:sx z m0 W t r v)(c:(decide ((r.kind:Int)=8)&&r.fresh)=true){G:Prop}(k:∀(m1:Nat) (e:m0=m1+1) (o:One) (ps:List (String×Nat×Nat)) (cs ct:List Nat) (si ni:Option Nat),r=.obj ps cs ct si ni 1->nX (Den 1 (PF 1 m1 W) W) ps o.ps->o.how=1->o.ps.length<=3->ye z o.ps->(o.ps.map λp=>p.2.1.2.length).sum<=1 ->
   (∀p∈o.ps,qO (oX z m1) p.2.1)->v=mM (m1+2) (0,[o]) t->G):G:=match h with
 |.one m1 e o ps cs ct si ni hr hz hw len own sum kd hv=>k m1 e o ps cs ct si ni hr hz hw len own sum kd hv
 |.lst _ _ b _ hr _ _ _ _ _=>by subst hr;cases b<;>cases c
 |.skip h1 _ _=>nomatch h1.symm.trans c
theorem sx.c2 {m0:Nat}{t:Kd}{v:String}(h:sx z m0 W t r v)(c:(decide (iv r.kind∈[PV.int 11,PV.int 12])&&!q7 t)=true){G:Prop}(k:∀(m1:Nat) (e:m0=m1+1) (b:Bool) (u:Nat),r=vF b u->∀(k0:Kd),Den 1 (PF 1 m1 W) W u k0->qO (oX z m1) k0->q7 t=false->v=mM (m1+1) k0 (vR t.2)->G):G:=match h with
 |.one _ _ _ _ _ _ _ _ hr _ _ _ _ _ _ _=>by subst hr;cases c
 |.lst m1 e b u hr k0 D kd top hv=>k m1 e b u hr k0 D kd top hv
 |.skip _ h2 _=>nomatch h2.symm.trans c
theorem sx.c3 {m0:Nat}{t:Kd}{v:String}(h:sx z m0 W t r v)(c1:(decide ((r.kind:Int)=8)&&r.fresh)=false)(c2:(decide (iv r.kind∈[PV.int 11,PV.int 12])&&!q7 t)=false):v="":=match h with
 |.one _ _ _ _ _ _ _ _ hr _ _ _ _ _ _ _=>by subst hr;cases c1
 |.lst _ _ b _ hr _ _ _ top _=>by rw[top] at c2;subst hr;cases b<;>cases c2
 |.skip _ _ h=>h
theorem sx.own {m0:Nat}{t:Kd}{v:String}(h:sx z m0 W t r v)(hr:W.rows[p]? =some r)(c:((decide ((r.kind:Int)=8)&&r.fresh)=true)\/(decide (iv r.kind∈[PV.int 11,PV.int 12])&&!q7 t)=true):([p].filter (mO W)).length=1:=by
 rw[dK ((vb hr).trans (h.n7.resolve_right λx=>c.elim (λc=>nomatch x.1.symm.trans c) λc=>nomatch x.2.1.symm.trans c))];rfl
structure ExJ (n m m0:Nat)(Y:St)(W:Wd)(val:Nat->String)(bs:List Nat)(s:Gk):Prop where
 ex:∃W1,l7 n m Y W s.τ W1 ((bs.filter (mO W)).length*pb m0)/\W1.lU=W.lU
 nil:firstOf (bs.map val)=""
theorem aiZ {w w1 a b C:Nat}(h:w1<=w+a*C)(Co:a+1<=b)(hl:w+b*C+25000<=900000):w1+C+25000<=900000:=ae (ak (ae (ak h C) (ae (ax (by rw[cq,bU,aP])) (av (aM C Co) w))) 25000) hl
theorem MW {m0:Nat}(ih:∀m1,m0=m1+1->yM z m1):yM z m0:=by
 intro n m Y W qy tid dt t T val ai0 Qw D hk hA rh hl k R h;have Rz:=aQ Qw;have hle:∀{W1:Wd} {a b i:Nat},W1.rows.length<=W.rows.length+a*pb m0->a<=objs W qy->i<W1.rows.length->b<=25000->W1.rows.length+b<=900000:=λh1 h2 _ h3=>ae (bh (ae h1 (av (aM _ h2) _)) h3) hl;refine nS (Vr _ _ _) λR' hR=>?_;kd_p;refine sV (l8 W qy) iv (.seq (.tup ((l8 W qy).map iv))) (λu:Gk=>[some (.loc m),some (iv qy),some (iv tid),u.x,u.y,u.z]) (λu=>u.τ) (ExJ n m m0 Y W val) ?_ (λbs p cs u qR J N hN=>J.ex.elim λW1 J1=>?_) λu J=>J.ex.elim λW1 J1=>?_
 ·kd_p;refine md (u4 T Rz (pZ Qw (ae (bh (aD _ _) (by decide)) hl)) _) ?_;kd_p;exact⟨⟨Y,none,none,none⟩,rfl,rfl,rfl,rfl,⟨W,(l7.refl T).weaken (aC _),rfl⟩,rfl⟩
 ·have hp:=mem_mid qR
  have T1:=J1.1.tab
  have D1:=D.up J1.1.le
  have FI:(bs.filter (mO W)).length+([p].filter (mO W)).length<=objs W qy:=by
   rw[objs,qR,List.append_cons,bK,bK,ar,ar];exact aD _ _
  have FK:∀{b:Nat},b<=25000->W1.rows.length+b<=900000:=λh=>hle J1.1.cost (ae (aD _ _) FI) D1.lt h;refine(T.wW Rz p hp).ex.elim λr hr=>?_
  have vB:=J1.1.le.row hr.1
  have ir:=T1.nD vB (pZ (nf vB) (FK (by decide)))
  have ik:=o3 u.τ r;refine(?_:nE _ (.cons (.asg _ _) (.cons (.ite _ _ _) _)) _ _ _ _ _);refine tJ (λ_:Unit=>[some (.loc m),some (iv qy),some (iv tid),some (iv p),some (.str ""),some (iv r.kind)]) (λ_=>u.τ) (λ_=>True) (λN hN=>?_) λ_ _=>?_
  ·kd_p;exact hN () trivial
  refine tJ (λ_:St=>[some (.loc m),some (iv qy),some (iv tid),some (iv p),some (.str (val p)),some (iv r.kind)]) id (λτ2=>∃W2,l7 n m u.τ W1 τ2 W2 (([p].filter (mO W)).length*pb m0)/\W2.lU=W1.lU) (λN hN=>?_) λτ2 J2=>J2.elim λW2 J2=>?_
  ·have hP:=afl hr.1 (ai0 p hp)
   have hC:∀{m1:Nat} {a:Nat},m0=m1+1->a=([p].filter (mO W)).length->a=1->W1.rows.length+pb (m1+1)+25000<=900000/\pb (m1+1)<=([p].filter (mO W)).length*pb m0:=λe h1 h2=>e▸⟨aiZ J1.1.cost (h2▸h1▸FI) hl,ax (by rw[← h1,h2,bU])⟩
   have PA:objs W1 tid*2^dt<=24:=by rw[Yy T J1.1.le D.lt];exact rh
   kd_p
   ·refine md (Hh T1 vB (pZ (nf vB) (FK (by decide))) _) ?_;kd_p
   refine nh (λc1=>?_) λc1=>?_
   ·refine hP.c1 c1 λm1 e o ps cs ct si ni er hz hw len own sum kd hv=>?_;have hC:=hC e rfl (hP.own hr.1 (.inl c1));subst e;subst er;kd_p;refine Yw (k:=k) (ih m1 rfl) T1 vB (hz.mono λt k D=>D.up J1.1.le) hw own sum kd len D1 hk hA PA hC.1 λτ2 W2 mG ox=>?_;kd_p;rw[← hv];exact hN τ2 ⟨W2,mG.weaken hC.2,ox⟩
   ·refine(MQ T1 D1 hk hA (FK (aC _))).elim λB hB=>?_;kd_p
    ·refine sW (l8 W1 tid) iv (λp=>.bool (B p)) ?_ (λq hq=>?_) ?_
     ·kd_p;refine md (u4 T1 (aQ D1.lt) (pZ D1.lt (FK (by decide))) _) ?_;kd_p;exact SI.t rfl
     ·kd_p;refine md (hB.1 q hq _) ?_;kd_p
     ·refine(?_:VO _ _);refine .e (Mv _ _ _) ?_;kd_p
    refine mD (lT (λb=>decide (iv r.kind∈[PV.int 11,PV.int 12])&&!b) hB.2) (nh (λc2=>?_) λc2=>?_)
    ·refine hP.c2 c2 λm1 e b u er k0 Dk kd top hv=>?_;have hC:=hC e rfl (hP.own hr.1 (.inr c2));subst e;subst er;kd_p;refine WN (k:=k) (ih m1 rfl) T1 vB (Dk.up J1.1.le) kd D1 hA top PA hC.1 λτ2 W2 mG ox=>?_;kd_p;rw[← hv];exact hN τ2 ⟨W2,mG.weaken hC.2,ox⟩
    ·rw[hP.c3 c1 c2] at hN;exact hN u.τ ⟨W1,(l7.refl T1).weaken (aC _),rfl⟩
  ·have r5:=J1.1.trans J2.1;rw[← cq] at r5;kd_p;refine zJ (λoi=>?_) λoi=>?_
   ·kd_p;refine hR _ _ _ (sC (lT PV.str ?_) (h τ2 W2 (r5.weaken (aM _ FI)) (J2.2.trans J1.2)));rw[qR,aO,Lg,J.nil,lW rfl,a9,y9,lX oi]
   ·exact hN ⟨τ2,_,_,_⟩ rfl ⟨⟨W2,r5.weaken (ax (by rw[bK,ar])),J2.2.trans J1.2⟩,by
     rw[aO];exact(K4 _ _).trans ((lW J.nil).trans oi)⟩
 ·kd_p;exact hR _ _ _ (sC (lT PV.str J.nil) (h u.τ W1 J1.1 J1.2))
end
theorem NT (z:Bool)(m0:Nat):yM z m0:=by
 induction m0 with
 |zero=>exact @MW z 0 (λm1 h=>absurd h (by lia))
 |succ m0 ih =>
  refine @MW z (m0+1) λm1 h=>?_;have:m0=m1:=by lia
  subst this;exact @ih
section
variable {n m:Nat}{Y σ':St}{W W0 W1 W' pa:Wd}{t p q x y:Nat}{r:Row}{d:Nat}{f:Nat}{P:Nat->One->Prop}{o:One}{z:Bool}{name:String}
theorem afm (T:TabAt n m Y W)(s:String)(f:Nat)(hl:W.rows.length+1<=900000)(k:Nat){R:PV->St->Prop}
  (h:∀(t:Nat) σ' W',l7 n m Y W σ' W' 1->W'.rows[t]? =some (.str s f)->W'.lU=W.lU->R (iv t) σ'):WC (lY (k+2) .D6 [.loc n,.str s,iv f] Y) R:=by
 refine nS (TY _ _ _) λR' hR=>?_;kd_p;refine u_ T (.str s f) nofun hl _ λu σ' W' st hu hb=>?_;kd_p;exact hR _ _ _ (h u σ' W' st hu hb)
theorem OU (T:TabAt n m Y W)(s f:Nat)(hl:W.rows.length+1<=900000)(k:Nat){R:PV->St->Prop}
  (h:∀(t:Nat) σ' W',l7 n m Y W σ' W' 1->W'.rows[t]? =some (.num s f)->W'.lU=W.lU->R (iv t) σ'):WC (lY (k+2) .A0 [.loc n,iv s,iv f] Y) R:=by
 refine nS (TZ _ _ _) λR' hR=>?_;kd_p;refine u_ T (.num s f) nofun hl _ λu σ' W' st hu hb=>?_;kd_p;exact hR _ _ _ (h u σ' W' st hu hb)
theorem acX (T:TabAt n m Y W)(s f:Nat)(hs:s=0\/s=1)(hl:W.rows.length+1<=900000)(k:Nat){R:PV->St->Prop}
  (h:∀(t:Nat) σ' W',l7 n m Y W σ' W' 1->W'.rows[t]? =some (.bool s f)->W'.lU=W.lU->R (iv t) σ'):WC (lY (k+2) .DE [.loc n,iv s,iv f] Y) R:=by
 have e:(if s≠0 then 1 else 0)=s:=by rcases hs with e|e<;>rw[e]<;>rfl
 refine nS (Tu _ _ _) λR' hR=>?_;kd_p;refine ET ?_;rw[e];kd_p;refine u_ T (.bool s f) nofun hl _ λu σ' W' st hu hb=>?_;kd_p;exact hR _ _ _ (h u σ' W' st hu hb)
theorem afn (T:TabAt n m Y W)(e:Nat)(hl:W.rows.length+1<=900000)(k:Nat){R:PV->St->Prop}
  (h:∀(t:Nat) σ' W',l7 n m Y W σ' W' 1->W'.rows[t]? =some (.arr e)->W'.lU=W.lU->R (iv t) σ'):WC (lY (k+2) .AL [.loc n,iv e] Y) R:=by
 refine nS (SX _ _) λR' hR=>?_;kd_p;refine u_ T (.arr e) nofun hl _ λu σ' W' st hu hb=>?_;kd_p;exact hR _ _ _ (h u σ' W' st hu hb)
theorem afo (T:TabAt n m Y W)(hl:W.rows.length+1<=900000)(k:Nat){R:PV->St->Prop}
  (h:∀(t:Nat) σ' W',l7 n m Y W σ' W' 1->W'.rows[t]? =some .sig->W'.lU=W.lU->R (iv t) σ'):WC (lY (k+2) .sig_type [.loc n,.tup [],.tup [],.int 3] Y) R:=by
 refine nS (T7 _ _ _ _) λR' hR=>?_;kd_p;refine u_ T .sig nofun hl _ λu σ' W' st hu hb=>?_;kd_p;exact hR _ _ _ (h u σ' W' st hu hb)
theorem afp (T:TabAt n m Y W)(e:Nat)(hl:W.rows.length+1<=900000)(k:Nat){R:PV->St->Prop}
  (h:∀(t:Nat) σ' W',l7 n m Y W σ' W' 1->W'.rows[t]? =some (.ref e)->W'.lU=W.lU->R (iv t) σ'):WC (lY (k+2) .D7 [.loc n,iv e,.tup []] Y) R:=by
 refine nS (T4 _ _ _) λR' hR=>?_;kd_p;refine u_ T (.ref e) nofun hl _ λu σ' W' st hu hb=>?_;kd_p;exact hR _ _ _ (h u σ' W' st hu hb)
theorem afq {i f:Nat}(h:ltB (i:Int) 2=true):∃s,(∀Y,mA Y (iv i) (.str "ab")=some (.str s))/\mq f i=.str s f:=match i,h with
 |0,_=>⟨"a",λ_=>abP,rfl⟩
 |1,_=>⟨"b",λ_=>abQ,rfl⟩
 |i+2,h=>absurd (Int.ofNat_lt.mp (l9 h):i+2<2) (Nat.not_lt.mpr (aY ..))
theorem OW {a b i:Nat}{P:Nat->Prop}(h:(decide ((i:Int)=(a:Int))||decide ((i:Int)=(b:Int)))=true)(ha:P a)(hb:P b):P i :=
 ((bM _ _).mp h).elim (λh=>q6.mp (l9 h)▸ha) λh=>q6.mp (l9 h)▸hb
noncomputable def Jo:List Nat:=[0,0,6,0,0,7,0,0,5,4,3,1,0,10]
def IX (f i:Nat):Prop:=ltB (i:Int) 2=false->(decide ((i:Int)=3)||decide ((i:Int)=4))=false->(decide ((i:Int)=6)||decide ((i:Int)=7))=false->i<14->∃j,(Jo.map iv)[i]? =some (iv j)/\pP[j]? =some (mq f i)
theorem xB {f i:Nat}(j:Nat)(h1:(Jo.map iv)[i]? =some (iv j))(h2:pP[j]? =some (mq f i)):IX f i:=λ_ _ _ _=>⟨j,h1,h2⟩
theorem afr {f:Nat}:∀i,IX f i:=s6 (C:=IX f) (λh=>nomatch h) (λh=>nomatch h) (xB 6 rfl rfl) (λ_ h=>nomatch h) (λ_ h=>nomatch h) (xB 7 rfl rfl) (λ_ _ h=>nomatch h) (λ_ _ h=>nomatch h)
 (xB 5 rfl rfl) (xB 4 rfl rfl) (xB 3 rfl rfl) (xB 1 rfl rfl) (xB 0 rfl rfl) (xB 10 rfl rfl) λn _ _ _ h=>absurd h (Nat.not_lt.mpr (aY ..))
theorem acY (T:TabAt n m Y W){i f:Nat}(hi:i<14)(hl:W.rows.length+1<=900000)(k:Nat){R:PV->St->Prop}
  (h:∀(t:Nat) σ' W',l7 n m Y W σ' W' 1->W'.rows[t]? =some (mq f i)->W'.lU=W.lU->R (iv t) σ'):WC (lY (k+3) .Ec [.loc n,iv i,iv f] Y) R:=by
 refine nS (Ue _ _ _) λR' hR=>?_;kd_p;refine nh (λh1=>(afq (f:=f) h1).elim λs hs=>?_) λh1=>?_
 ·have i0:=hs.1 Y;rw[hs.2] at h;kd_p;refine afm T s f hl _ λu σ' W' st hu hb=>?_;kd_p;exact hR _ _ _ (h u σ' W' st hu hb)
 kd_p;refine nh (λh2=>?_) λh2=>?_
 ·refine(OW (a:=3) (b:=4) (P:=λi=>∃s:Nat,(i:Int) - 3=(s:Int)/\mq f i=.num s f) h2 ⟨0,rfl,rfl⟩ ⟨1,rfl,rfl⟩).elim λs hs=>?_;rw[hs.2] at h;kd_p;rw[hs.1];refine OU T s f hl _ λu σ' W' st hu hb=>?_;kd_p;exact hR _ _ _ (h u σ' W' st hu hb)
 kd_p;refine nh (λh3=>?_) λh3=>?_
 ·refine(OW (a:=6) (b:=7) (P:=λi=>∃s:Nat,(i:Int) - 6=(s:Int)/\(s=0\/s=1)/\mq f i=.bool s f) h3 ⟨0,rfl,.inl rfl,rfl⟩ ⟨1,rfl,.inr rfl,rfl⟩).elim λs hs=>?_;rw[hs.2.2] at h;kd_p;rw[hs.1];refine acX T s f hs.2.1 hl _ λu σ' W' st hu hb=>?_;kd_p;exact hR _ _ _ (h u σ' W' st hu hb)
 refine(afr (f:=f) i h1 h2 h3 hi).elim λj hj=>?_;kd_p;refine .e (Hw (l:=Jo.map iv) hj.1 (ae (aS hi) (by decide))) ?_;kd_p;exact hR _ _ _ (h j Y W ((l7.refl T).weaken (aC _)) (T.nJ hj.2) rfl)
end
theorem Hn {Y:St}{d:Nat}{l:List PV}(h:Y[d]? =some (.list l)):∀(a:String) (v:PV),oc Y a (.loc d)≠some v:=by
 intro a v e;rw[tC h] at e;exact nomatch e
def BK (c:Nat)(A:One->Prop)(k:Kd):Prop:=mT k.1/\k.2.length<=c/\∀q∈k.2,A q
def BW (z:Bool)(c:Nat):Nat->One->Prop
 |0,_=>False
 |d+1,o=>(o.how<=2/\o.called<=2/\(o.ps.map (·.1)).Sublist (namesOf z)/\(∀p∈o.ps,BK c (BW z c d) p.2.1)/\(∀k,o.tx=some k->mT k.1/\k.2=[])/\(∀k,o.nx=some k->mT k.1/\k.2=[])) \/
   ((o.how=3\/o.how=4)/\∃k,o.tx=some k/\BK c (BW z c d) k)
noncomputable def NB (c:Nat):Nat->Nat
 |0=>0
 |d+1=>1+3*c*NB c d
def FN (z:Bool)(c f d K:Nat):Prop:=∀{n m:Nat} {Y:St} {W:Wd} (T:TabAt n m Y W) (o:One),BW z c d o->W.rows.length+80*NB c d<=900000->W.lU.length+NB c d<=800000->∀{R:PV->St->Prop},
  (∀p σ' W',l7 n m Y W σ' W' (80*NB c d)->W'.lU.length<=W.lU.length+NB c d->PF f d W' p o->R (iv p) σ')->WC (lY K .uZ [.loc n,o.pv,iv f] Y) R
theorem Yz (g i:Nat):mq g i≠.key "never":=KU g i
section
variable {n m:Nat}{Y σ':St}{W W0 W1 W' pa:Wd}{t p q x y:Nat}{r:Row}{d:Nat}{f:Nat}{P:Nat->One->Prop}{o:One}{z:Bool}{name:String}
theorem Bp (T:TabAt n m Y W)(h:PF f d W p o):l8 W p=[p]:=h.row.elim λr x=>Ej ⟨T.vi (i:=2) rfl x.1 (zM x.2 _),r,x.1,λqs e=>nomatch (lT n7 e).symm.trans x.2⟩
theorem ai1:mT 0:=⟨by decide,by decide⟩
theorem w0 (T:TabAt n m Y W)(h:PF f d W p o):Den f (PF f d W) W p (0,[o]) :=
 have hp:=Bp T h
 have he:ou (0,[o])=[o]:=lX (show¬((0:Nat)&&&6144≠0) by decide)
 have e1:∀{q:Nat},q∈l8 W p->p=q:=λhq=>(List.mem_singleton.mp (hp▸hq)).symm
 ⟨h.row.elim λr x=>nf x.1,λq hq=>.inr ⟨o,he.symm.subst (motive:=λl=>o∈l) (List.mem_singleton.mpr rfl),e1 hq▸h⟩,λi hi hb=>absurd ((c6 i).symm.trans hb) (by decide),
  λo' ho=>⟨p,hp▸List.mem_singleton.mpr rfl,List.mem_singleton.mp (he▸ho)▸h⟩,ae (ed _ _) (hp▸aB _)⟩
theorem Ho (T:TabAt n m Y W){g i:Nat}(hr:W.rows[p]? =some (mq g i)):p≠2/\l8 W p=[p] :=
 have h2:=T.vi (i:=2) rfl hr (Yz g i)
 ⟨h2,Ej ⟨h2,_,hr,AF _ _⟩⟩
theorem acZ (m i:Nat):decide (((m>>>i&&&1:Nat):Int)≠0)=m.testBit i:=by
 have e:m.testBit i=(1&&&(m>>>i) != 0):=rfl;rw[EB,e,Nat.and_comm];generalize 1&&&m>>>i=a;by_cases h:a=0
 ·subst h;rfl
 ·rw[mY h];exact(bne_iff_ne.mpr h).symm
structure sM (f k:Nat)(W:Wd)(bs:List Nat)(l:List (Nat×Nat)):Prop where
 sub:∀x∈l,x.2<14/\k.testBit x.2=true/\W.rows[x.1]? =some (mq f x.2)
 all:∀i∈bs,k.testBit i=true->∃x∈l,x.2=i
 len:l.length<=bs.length
theorem sM.mono {k:Nat}{bs:List Nat}{l:List (Nat×Nat)}(h:sM f k W bs l)(le:W.le W'):sM f k W' bs l:=⟨λx hx=>⟨(h.sub x hx).1,(h.sub x hx).2.1,le.row (h.sub x hx).2.2⟩,h.all,h.len⟩
theorem sM.push {k i u:Nat}{bs:List Nat}{l:List (Nat×Nat)}(h:sM f k W bs l)(hi:i<14)(hb:k.testBit i=true)(hr:W.rows[u]? =some (mq f i)):sM f k W (bs++[i]) (l++[(u,i)]) where
 sub:=λx hx=>(List.mem_append.mp hx).elim (h.sub x) λe=>by rw[bH] at e;subst e;exact⟨hi,hb,hr⟩
 all:=λj hj hb=>(List.mem_append.mp hj).elim (λhj=>(h.all j hj hb).elim λx hx=>⟨x,dp _ hx.1,hx.2⟩) λe=>⟨(u,i),dj _ (List.mem_singleton.mpr rfl),(List.mem_singleton.mp e).symm⟩
 len:=by rw[ar,ar];exact aU h.len
theorem sM.skip {k i:Nat}{bs:List Nat}{l:List (Nat×Nat)}(h:sM f k W bs l)(hb:k.testBit i=false):sM f k W (bs++[i]) l where
 sub:=h.sub
 all:=λj hj JS=>(List.mem_append.mp hj).elim (λhj=>h.all j hj JS) λe=>by rw[bH] at e;subst e;rw[hb] at JS;cases JS
 len:=by rw[ar];exact ef h.len
structure vG (f d:Nat)(W:Wd)(bs:List One)(l:List (Nat×One)):Prop where
 eq:l.map (·.2)=bs
 pf:∀x∈l,PF f d W x.1 x.2
theorem vG.push {bs:List One}{l:List (Nat×One)}{u:Nat}(h:vG f d W bs l)(le:W.le W')(hP:PF f d W' u o):vG f d W' (bs++[o]) (l++[(u,o)]) where
 eq:=by rw[aO,h.eq];rfl
 pf:=λx hx=>(List.mem_append.mp hx).elim (λhx=>(h.pf x hx).mono le) λe=>by rw[bH] at e;subst e;exact hP
theorem vG.len {bs:List One}{l:List (Nat×One)}(h:vG f d W bs l):l.length=bs.length:=(au _).symm.trans (lT bG h.eq)
noncomputable def atK (x:Nat×Nat):Nat×Kd:=(x.1,(2^x.2,[]))
noncomputable def JT (x:Nat×One):Nat×Kd:=(x.1,(0,[x.2]))
noncomputable def encL (l:List (Nat×Nat))(l2:List (Nat×One)):List (Nat×Kd):=l.map atK++l2.map JT
theorem En {l:List (Nat×Nat)}{l2:List (Nat×One)}{x:Nat×Kd}(h:x∈encL l l2){P:Nat×Kd->Prop}(h1:∀y∈l,P (atK y))(h2:∀y∈l2,P (JT y)):P x :=
 (List.mem_append.mp h).elim (λh=>(List.mem_map.mp h).elim λy e=>e.2▸h1 y e.1) λh=>(List.mem_map.mp h).elim λy e=>e.2▸h2 y e.1
theorem YA {k:Nat}{bs:List Nat}{os:List One}{l:List (Nat×Nat)}{l2:List (Nat×One)}(A:sM f k W bs l)(B:vG f d W os l2):((encL l l2).map (·.2)).flatMap (·.2)=os:=by
 rw[encL,aO,gk,aR,aR,List.flatMap_eq_nil_iff.mpr λy hy=>by obtain⟨x,_,rfl⟩:=List.mem_map.mp hy;rfl,jk,← B.eq];clear B
 induction l2 with
 |nil=>rfl
 |cons a r ih=>exact lT (a.2::·) ih
theorem ac0 {k:Nat}{os:List One}{l:List (Nat×Nat)}{l2:List (Nat×One)}(hk:k<2^14)(A:sM f k W (ba 14) l)(B:vG f d W os l2):nH ((encL l l2).map (·.2))=k:=by
 apply cY;intro i;rw[bg,va];refine⟨λh=>h.elim λkk h=>(List.mem_map.mp h.1).elim λx e=>En (P:=λx=>x.2.1.testBit i=true->k.testBit i=true) e.1 (λy hy hb=>?_) (λy hy hb=>absurd ((c6 i).symm.trans hb) (by decide)) (e.2.symm▸h.2),λhb=>?_⟩
 ·exact l9 (Nat.testBit_two_pow.symm.trans hb)▸(A.sub y hy).2.1
 ·exact(A.all i (List.mem_range.mpr (B_ hk hb)) hb).elim λx hx=>⟨(2^x.2,[]),List.mem_map.mpr ⟨atK x,dp _ (c7 hx.1),rfl⟩,hx.2▸gx⟩
theorem MX (T:TabAt n m Y W){k:Nat}{bs:List Nat}{os:List One}{l:List (Nat×Nat)}{l2:List (Nat×One)}(A:sM f k W bs l)(B:vG f d W os l2)(hp:p∈mE W ((encL l l2).map (·.1)))(hr:W.rows[p]? =some r)(hO:n7 r=true):∃x∈l2,x.1=p:=by
 obtain⟨x,hx,JM⟩:=Fj.mp hp;refine En (P:=λx=>p∈l8 W x.1->∃x∈l2,x.1=p) hx (λy hy h=>?_) (λy hy h=>⟨y,hy,?_⟩) JM
 ·have h4:=(A.sub y hy).2.2;rw[show l8 W (atK y).1=_ from(Ho T h4).2,bH] at h;rw[h] at hr;cases hr.symm.trans h4;rw[wL] at hO;cases hO
 ·rw[show l8 W (JT y).1=_ from Bp T (B.pf y hy),bH] at h;exact h.symm
theorem aao (T:TabAt n m Y W){k:Nat}{bs:List Nat}{os:List One}{l:List (Nat×Nat)}{l2:List (Nat×One)}(hf:f=0\/(f=1/\os.length<=1))(A:sM f k W bs l)(B:vG f d W os l2):oG f (PF f d W) W (encL l l2) where
 den:=λx hx=>En (P:=λx=>Den f (PF f d W) W x.1 x.2) hx (λy hy=>zo (Ho T (A.sub y hy).2.2).1 (A.sub y hy).1 (A.sub y hy).2.2 (hf.imp id λh=>⟨h.1,h.1⟩)) λy hy=>w0 T (B.pf y hy)
 Cu:=λx hx=>En (P:=λx=>mT x.2.1) hx (λy hy=>Bl (A.sub y hy).1) λy _=>ai1
 uK:=λp o h=>h.row
 wy:=λp q o r hP hp hr Aq JU hqK=>by
  rcases hf with rfl|⟨rfl,h1⟩
  ·exact hP.twin hr Aq JU
  ·obtain⟨rp,hrp,RA⟩:=hP.row;cases hr.symm.trans hrp;obtain⟨x,hx,rfl⟩:=MX T A B hp hr RA;obtain⟨y,hy,rfl⟩:=MX T A B hqK JU (Bj RA);have:x=y:=match l2,B.len,hx,hy with
    |[a],_,hx,hy=>(List.mem_singleton.mp hx).trans (List.mem_singleton.mp hy).symm
    |a::b::c',Af,_,_=>absurd h1 (by rw[← Af];simp)
   subst this;rw[aq (hr.symm.trans JU),DT] at Aq;cases Aq
theorem aap {l:List (Nat×Nat)}{l2:List (Nat×One)}:((encL l l2).map (·.1)).map iv=(l.map λx=>iv x.1)++l2.map λx=>iv x.1:=by rw[encL,aO,aO,aR,aR,aR,aR];rfl
structure TyS where
 τ:St
 x:Option PV
structure Gm (n m f d L N:Nat)(Y:St)(W W1:Wd)(l:List (Nat×Nat))(bs:List One)(τ:St)(l2:List (Nat×One))(W2:Wd):Prop where
 st:l7 n m Y W τ W2 (14+80*(bs.length*N))
 le:W1.le W2
 lU:W2.lU.length<=W.lU.length+bs.length*N
 lst:τ[L]? =some (.list ((l.map λx=>iv x.1)++l2.map λx=>iv x.1))
 on:vG f d W2 bs l2
theorem ai2 {w w1 b e:Nat}(h:w1<=w+b)(hb:b<=14)(hl:w+e+15<=900000):w1+1<=900000:=ae (ak (ae h (av hb w)) 1) (ae (ak (aD w e) 15) hl)
theorem Qx {b c N:Nat}(h:b+1<=c):b*N+N<=c*N:=(dQ b N)▸aM N h
theorem ai3 {w w2 b c N:Nat}(h:w2<=w+(14+80*(b*N)))(hb:b+1<=c)(hl:w+80*(c*N)+15<=900000):w2+80*N<=900000:=by
 have h2:w2+80*N<=w+(14+80*(b*N))+80*N:=ak h _;rw[aP w,aP 14,← fh,b9 14,← aP] at h2;exact ae h2 (ae (bh (av (cx 80 (Qx hb)) w) (by decide)) hl)
theorem ai4 {w w2 b c N:Nat}(h:w2<=w+b*N)(hb:b+1<=c)(hl:w+c*N<=800000):w2+N<=800000:=ae (ak h N) (ae (ax (aP w _ N)) (ae (av (Qx hb) w) hl))
theorem ai5 {w b c N:Nat}(hb:b<=c)(hl:w+80*(c*N)+15<=900000):w+(14+80*(b*N))+1<=900000:=by
 rw[b9 14,← aP];exact ae (ak (av (cx 80 (aM N hb)) w) 15) hl
theorem ai6 {b c N:Nat}(hb:b<=c):14+80*(b*N)+1<=15+80*(c*N):=by rw[eg];exact av (cx 80 (aM N hb)) 15
theorem Gm.push {L N:Nat}{W1 W2 W3:Wd}{l:List (Nat×Nat)}{bs:List One}{τ τ3:St}{l2:List (Nat×One)}{u:Nat}(K:Gm n m f d L N Y W W1 l bs τ l2 W2)(T:TabAt n m Y W)(hL:Y.length<=L)(st:l7 n m τ W2 τ3 W3 (80*N))(hb:W3.lU.length<=W2.lU.length+N)(hP:PF f d W3 u o)
  (h3:τ3[L]? =some (.list ((l.map λx=>iv x.1)++l2.map λx=>iv x.1))):Gm n m f d L N Y W W1 l (bs++[o]) (τ3.set L (.list (((l.map λx=>iv x.1)++l2.map λx=>iv x.1)++[iv u]))) (l2++[(u,o)]) W3 where
 st:=l7.set ((K.st.trans st).weaken (by rw[ar,cq,fh,← aP];exact ax (lT (_+80*·) (bU N).symm))) T hL (Hn h3)
 le:=K.le.trans st.le
 lU:=by rw[ar,cq,← aP];exact ae hb (bh K.lU (ax (bU N).symm))
 lst:=by rw[bx (px h3),bR,aO];rfl
 on:=K.on.push st.le hP
theorem l7.kept {τ:St}{c L:Nat}{o:mC}(st:l7 n m Y W τ W' c)(hL:n+3<L)(h:Y[L]? =some o):τ[L]? =some o :=
 (st.keep _ (px h) (bJ (aT (av (by decide) n) hL)) (bJ (aT (av (by decide) n) hL)) (bJ hL)).trans h
theorem HJ {c K:Nat}(Ar:f=0\/(f=1/\c<=1))(rM:c<=3)(ih:FN z c f d (K+4))(T:TabAt n m Y W){kd:Kd}(hb:BK c (BW z c d) kd)(hl:W.rows.length+80*(c*NB c d)+15<=900000)(oH:W.lU.length+c*NB c d<=800000){R:PV->St->Prop}
  (h:∀u σ' W',l7 n m Y W σ' W' (15+80*(c*NB c d))->W'.lU.length<=W.lU.length+c*NB c d->Den f (PF f d W') W' u kd->R (iv u) σ'):WC (lY (K+5) .tw [.loc n,mz kd,iv f] Y) R:=by
 refine nS (Ug _ _ _) λR' hR=>?_;kd_p;refine Zx (ba 14) iv (.seq (.tup (p4 14))) (λbs os τ=>∃l W1,l7 n m Y W τ W1 bs.length/\W1.lU=W.lU/\os=l.map (λx=>iv x.1)/\sM f kd.1 W1 bs l) ?_ (λbs i cs os τ hs J=>J.elim λl J=>J.elim λW1 J=>?_) λos τ J=>J.elim λl J=>J.elim λW1 J=>?_
 ·kd_p;exact⟨by decide,rfl,wQ 14,[],W,l7.refl T,rfl,rfl,λ_ h=>(nomatch h),λ_ h=>(nomatch h),aB _⟩
 ·have hi:=List.mem_range.mp (mem_mid hs)
  have T1:=J.1.tab
  have td:=ai2 J.1.cost (aS (aW (tB hs) (ax cW))) hl;kd_p;refine mD (acZ kd.1 i) (nh (λJp=>?_) λJp=>?_)
  ·kd_p;refine acY T1 hi td _ λu τ2 W2 mG hu ox=>?_;kd_p;exact⟨u9,l++[(u,i)],W2,(J.1.trans mG).weaken (by rw[ar];exact aB _),ox.trans J.2.1,by rw[J.2.2.1,aO];rfl,(J.2.2.2.mono mG.le).push hi Jp hu⟩
  ·exact⟨u9,l,W1,J.1.weaken (by rw[ar];exact aD _ _),J.2.1,J.2.2.1,J.2.2.2.skip Jp⟩
 ·have Af:l.length<=14:=J.2.2.2.len
  have stL:l7 n m Y W (τ++[.list (l.map λx=>iv x.1)]) W1 14:=J.1.trans (l7.push J.1.tab _)
  have hL:=J.1.len
  have RB:=aW T.yp hL;rw[J.2.2.1];kd_p;refine sV kd.2 One.pv (.seq (.tup (kd.2.map One.pv))) (λu:TyS=>[some (.loc n),some (mz kd),some (iv f),some (.loc τ.length),u.x]) (λu=>u.τ) (λbs u=>∃l2 W2,Gm n m f d τ.length (NB c d) Y W W1 l bs u.τ l2 W2) ?_ (λbs o cs u qR J3 N hN=>J3.elim λl2 J3=>J3.elim λW2 K=>?_) λu J3=>J3.elim λl2 J3=>J3.elim λW2 K=>?_
  ·kd_p;exact⟨⟨_,none⟩,rfl,rfl,rfl,rfl,[],W1,stL.weaken (aD _ _),.refl W1,ae (ax (lT bG J.2.1)) (aD _ _),by rw[jl,bc];exact cL,rfl,λ_ h=>nomatch h⟩
  ·have tc:=ae (tB qR) hb.2.1
   have hlen:((l.map λx=>iv x.1)++l2.map λx=>iv x.1).length<=1000000:=by
    rw[ar,au,au,K.on.len];exact ae (bh Af (bE (ae tc rM))) (by decide)
   kd_p;refine⟨xP K.lst,?_⟩;kd_p;refine ih K.st.tab o (hb.2.2 o (mem_mid qR)) (ai3 K.st.cost tc hl) (ai4 K.lU tc oH) λu τ3 W3 nP qx hP=>?_;have h3:=nP.kept RB K.lst;have ha:=xO (v:=iv u) h3 hlen;kd_p;exact hN ⟨_,_⟩ rfl ⟨_,W3,K.push T hL nP qx hP h3⟩
  ·have DL:=aao K.st.tab (Ar.imp id λh=>⟨h.1,ae hb.2.1 h.2⟩) (J.2.2.2.mono K.le) K.on
   have PC:=YA (J.2.2.2.mono K.le) K.on
   have IY:((encL l l2).map (·.2)).foldl both (0,[])=kd:=by rw[sS,PC,ac0 hb.1.lt (J.2.2.2.mono K.le) K.on,hb.1.Ct]
   kd_p;refine Ls K.st.tab DL (by rw[PC];exact ae hb.2.1 (ae rM (by decide))) (ae (ak K.st.cost 1) (ai5 hb.2.1 hl)) _ (λτ3 nP=>?_) _ λu τ4 W4 qg sL hD=>?_
   ·have h3:=nP.kept RB K.lst;rw[← aap] at h3;exact⟨Nk h3,Nk h3⟩
   kd_p;have hD:=hD (PF f d W4) λp o h=>h.mono qg.le;rw[IY] at hD;exact hR _ _ _ (h u τ4 W4 ((K.st.trans qg).weaken (ai6 hb.2.1)) (ae (ax (lT bG sL)) (ae K.lU (av (aM _ hb.2.1) _))) hD)
end
theorem ac1 {O:oh Fn}{t:Tg}{aa:Ss Fn}{U:Loc}{Y:St}{N:Loc->St->Prop}{R:PV->Loc->St->Prop}{x:PV}{src:Src}(h:∀N':Loc->St->Prop,(∀ρ' τ,oD τ src=some [x]->N ρ' τ->N' ρ' τ)->o4 t x U λρ'=>nE O aa ρ' Y N' N' R):Ci O t aa U N R src [x] Y :=
 ⟨λC=>.bm (.bm (h (λρ' σ'=>oD σ' src=some [x]/\N ρ' σ') λ_ _ e h=>⟨e,h⟩) λ_ h=>nE.ok aa h) λp h=>match p,h with
  |(.next,_,_),h=>.it (h:_/\_).1 (h:_/\_).2
  |(.cont,_,_),h=>.it (h:_/\_).1 (h:_/\_).2
  |(.ret _,_,_),h=>h⟩
theorem YB {f:Nat}{P P':Nat->One->Prop}{W:Wd}{t:Nat}{k:Kd}(hk:k.2=[])(D:Den f P W t k):Den f P' W t k :=
 have he:∀{o},o∈ou k->False:=λho=>nomatch (hk▸tA ho)
 ⟨D.lt,λp hp=>(D.sound p hp).imp id λh=>h.elim λo h=>(he h.1).elim,D.atoms,λo ho=>(he ho).elim,D.cnt⟩
section
variable {n m:Nat}{Y σ':St}{W W0 W1 W' pa:Wd}{t p q x y:Nat}{r:Row}{d:Nat}{f:Nat}{P:Nat->One->Prop}{o:One}{z:Bool}{name:String}
theorem WO {P:Wd->Nat->One->Prop}(hf:f<=1)(T:TabAt n m Y W){kd:Kd}(hm:mT kd.1)(h2:kd.2=[])(hl:W.rows.length+15<=900000)(oH:W.lU.length<=800000)(k:Nat){R:PV->St->Prop}
  (h:∀u σ' W',l7 n m Y W σ' W' 15->W'.lU.length<=W.lU.length->Den f (P W') W' u kd->R (iv u) σ'):WC (lY (k+5) .tw [.loc n,mz kd,iv f] Y) R :=
 HJ (K:=k) (z:=true) (c:=1) (d:=0) ((Nat.le_one_iff_eq_zero_or_eq_one.mp hf).imp id λh=>⟨h,aB _⟩) (by decide) (λT o ho=>ho.elim) T ⟨hm,by rw[h2];exact aC _,λq hq=>nomatch (h2▸hq)⟩ hl oH λu σ' W' st hb D=>h u σ' W' st hb (YB h2 D)
theorem Lz {P:Wd->Nat->One->Prop}(hf:f<=1)(T:TabAt n m Y W){x:Option Kd}(hx:∀k,x=some k->mT k.1/\k.2=[])(hl:W.rows.length+15<=900000)(oH:W.lU.length<=800000)(k:Nat){R:PV->St->Prop}
  (h:∀c σ' W',l7 n m Y W σ' W' 15->W'.lU.length<=W.lU.length->su (Den f (P W') W') c x->R (pq c) σ'):WC (lY (k+6) .AS [.loc n,mS x,iv f] Y) R:=by
 refine nS (TJ _ _ _) λR' hR=>?_;cases x with
 |none =>
  kd_p;refine pO rfl ?_;kd_p;exact hR _ _ _ (h none Y W ((l7.refl T).weaken (aC _)) (aB _) trivial)
 |some kd =>
  kd_p;refine mD (AU (some kd)) (nF ?_);kd_p;refine WO (P:=P) hf T (hx kd rfl).1 (hx kd rfl).2 hl oH _ λu σ' W' st hb D=>?_;kd_p;exact hR _ _ _ (h (some u) σ' W' st hb D)
theorem HK (v:PV)(e:Nat)(ms:List PV)(b:Bool)(hlen:qr Y .len v=some (.int 1))(Jq:mA Y (.int 0) v=some (.tup [iv e,.int 0]))(hb:oW Y .In (.int 0) (.tup ms)=some b)(k:Nat) :
  lY (k+1) .zf [v,.tup ms] Y=some (.int (if b then 0 else -1),Y):=by
 refine nr (Tv _ _) λR hR=>?_;kd_p;refine Bg ?_;kd_p;refine⟨by decide,Ie (x:=.int 0) rfl λN hN=>?_⟩;kd_p;refine nh (λh=>?_) λh=>?_
 ·subst h;kd_p;refine hN _ ?_;kd_p;exact hR _ _ rfl
 ·subst h;refine hN _ ?_;kd_p;exact hR _ _ rfl
noncomputable def te (e:Nat):PV:=.tup [iv e,.int 0]
theorem WQ (T:TabAt n m Y W)(e k:Nat){R:PV->St->Prop}(h:∀τ L,l7 n m Y W τ W 0->τ[L]? =some (.list [te e])->R (.loc L) τ):WC (lY (k+2) .C7 [.loc n,.lst [te e]] Y) R:=by
 have st0:=l7.push T (.list []);have h0:(Y++[mC.list []])[Y.length]? =some (.list []):=cL;have hr:=HK (.lst [te e]) e [.int 0] true rfl (ES Y _ _) rfl k;refine nS (Sp _ _) λR' hR=>?_;kd_p;refine md hr ?_;kd_p;refine Bg ?_;kd_p;refine⟨(by decide:1<=100000),ac1 (x:=.int 0) λN hN=>?_⟩;kd_p;refine pj rfl ?_;kd_p;refine⟨xP h0,?_⟩;have ha:=xO (v:=te e) h0 (by decide);kd_p;refine hN _ _ rfl ?_;kd_p;exact hR _ _ _ (h _ _ (st0.set T (aB _) (Hn h0)) (bx (px h0)))
theorem aaq {L:Nat}{e:Nat}(h:Y[L]? =some (.list [te e]))(v:PV)(k:Nat):lY (k+2) .D8 [v,.loc L] Y=some (.loc L,Y):=by
 have i0:mA Y (.int 0) (.loc L)=some (te e):=zy (k:=0) h (by decide) rfl;have i1:mA Y (.int 1) (te e)=some (.int 0):=qY _ _ _ _;have l0:qr Y .len (.loc L)=some (.int 1):=um h;have hr:=HK (.loc L) e [.int 2,.int 1] false l0 i0 rfl k;refine nr (T5 _ _) λR hR=>?_;kd_p;refine Bg ?_;kd_p;refine⟨by decide,Ie (x:=.int 0) rfl λN hN=>?_⟩;kd_p;refine pj rfl ?_;refine hN _ ?_;kd_p;refine md hr ?_;kd_p;refine pO rfl ?_;kd_p;exact hR _ _ rfl
theorem ac2 (T:TabAt n m Y W)(e:Nat)(hl:W.rows.length+1<=900000)(k:Nat){R:PV->St->Prop}
  (h:∀(t:Nat) σ' W',l7 n m Y W σ' W' 1->W'.rows[t]? =some (.tK e)->W'.lU=W.lU->R (iv t) σ'):WC (lY (k+3) .Dq [.loc n,.lst [.tup [iv e,.int 0]]] Y) R:=by
 have hr:=HK (.lst [te e]) e [.int 3] false rfl (ES Y _ _) rfl (k+1);refine nS (SY _ _) λR' hR=>?_;kd_p;refine sW [e] te te ?_ (λa ha=>?_) ?_
 ·kd_p;exact SI.l rfl
 ·kd_p
 kd_p;refine md hr ?_;kd_p;refine pO rfl ?_;kd_p;refine WQ T e k λτ L st hL=>?_;kd_p;refine md (aaq hL _ k) ?_;have T1:=st.tab;have i0:mA τ (.int 0) (.loc L)=some (te e):=zy (k:=0) hL (by decide) rfl;have i1:mA τ (.int 1) (te e)=some (.int 0):=qY _ _ _ _;have l0:qr τ .len (.loc L)=some (.int 1):=um hL;have t0:qr τ .tuple (.loc L)=some (.tup [te e]):=um hL;kd_p;refine pj rfl ?_;kd_p;refine u_ st.tab (.tK e) nofun hl _ λu σ' W' mG hu hb=>?_;kd_p;exact hR _ _ _ (h u σ' W' ((st.trans mG).weaken (by decide)) hu hb)
end
noncomputable def subs {V:Type}:List V->List (List V)
 |[]=>[[]]
 |a::l=>subs l++(subs l).map (a::·)
theorem ac3 {V:Type}{l k:List V}(h:l.Sublist k):l∈subs k:=by
 induction h with
 |slnil=>exact List.mem_singleton.mpr rfl
 |cons a h ih=>exact dp _ ih
 |cons_cons a h ih=>exact dj _ (c7 ih)
theorem G9 {z:Bool}{ns:List String}(h:ns.Sublist (namesOf z)):Fe ns=ns/\ns.Nodup/\ns.all (λs=>(single s).isSome)=true/\ns.length<=3 :=
 (by decide:∀z,∀ns∈subs (namesOf z),Fe ns=ns/\ns.Nodup/\ns.all (λs=>(single s).isSome)=true/\ns.length<=3) z ns (ac3 h)
theorem L_ {V β:Type}[DecidableEq V]{k:V}{v:β}:∀{l:List (V×β)},(∀p∈l,p.1≠k)->putAt k v l=l++[(k,v)]
 |[],_=>rfl
 |p::l,h=>(lX (h p (aG ..))).trans (lT (p::·) (L_ λq hq=>h q (aE _ hq)))
noncomputable def s7 (a:String)(l:List (String×PV)):Option PV:=(l.find? λp=>decide (p.1=a)).map (·.2)
theorem BB {a:String}{p:String×PV}{l:List (String×PV)}(h:p.1=a):s7 a (p::l)=some p.2:=lT (b4 λp:String×PV=>p.2) (cE (p:=λq:String×PV=>decide (q.1=a)) (mY h))
theorem zO {a:String}{p:String×PV}{l:List (String×PV)}(h:¬p.1=a):s7 a (p::l)=s7 a l:=lT (b4 λp:String×PV=>p.2) (cF (p:=λq:String×PV=>decide (q.1=a)) λe=>h (l9 e))
theorem WR {x:String×Nat×Nat}{xs:List (String×Nat×Nat)}(hn:(xs.map (·.1)).Nodup)(hx:x∈xs):s7 x.1 (xs.map λx=>(x.1,nj x))=some (nj x):=by
 induction xs with
 |nil=>cases hx
 |cons a r ih =>
  rw[a9,dr] at hn;exact(List.mem_cons.mp hx).elim (λe=>e▸BB rfl) λhx=>(zO λe=>hn.1 (List.mem_map.mpr ⟨x,hx,e.symm⟩)).trans (ih hn.2 hx)
theorem WS {Y:St}{d:Nat}{l:List (String×PV)}(h:Y[d]? =some (.p5 l)):∀(a:String) (v:PV),oc Y a (.loc d)≠some v:=by
 intro a v e;rw[tC h] at e;exact nomatch e
section
variable {n m:Nat}{Y σ':St}{W W0 W1 W' pa:Wd}{t p q x y:Nat}{r:Row}{d:Nat}{f:Nat}{P:Nat->One->Prop}{o:One}{z:Bool}{name:String}
structure SoS where
 τ:St
 x:Option PV
theorem WT (T:TabAt n m Y W){xs:List (String×Nat×Nat)}(hx:(xs.map (·.1)).Sublist (namesOf z))(k:Nat){R:PV->St->Prop}
  (h:∀σ',l7 n m Y W σ' W 0->R (.tup (xs.map nj)) σ'):WC (lY (k+1) .Dg [.lst (xs.map nj)] Y) R:=by
 have S:=G9 hx
 have RC:(xs.map λx=>(x.1,nj x)).length<=3:=ae (ax ((au _).trans (au _).symm)) S.2.2.2;refine nS (Sx _) λR' hR=>?_;kd_p;refine sV xs nj (.seq (.lst (xs.map nj))) (λu:SoS=>[some (.lst (xs.map nj)),some (.loc Y.length),u.x]) (λu=>u.τ) (λbs u=>l7 n m Y W u.τ W 0/\u.τ[Y.length]? =some (.p5 (bs.map λx=>(x.1,nj x)))) ?_ (λbs x cs u vD J N hN=>?_) λu J=>?_
 ·kd_p;exact⟨⟨_,none⟩,rfl,rfl,rfl,rfl,l7.push T _,cL⟩
 ·have i0:=Bk u.τ x
  have ai7:∀p∈bs.map (λx=>(x.1,nj x)),p.1≠x.1:=λp hp e=>(List.mem_map.mp hp).elim λy hy=>by
   have s2:=S.2.1;rw[vD,aO,a9,fe] at s2;exact s2.2.2 y.1 (List.mem_map.mpr ⟨y,hy.1,rfl⟩) x.1 (aG ..) ((lT (·.1) hy.2).trans e)
  have hle:(bs.map λx=>(x.1,nj x)).length<=1000000:=by
   refine ae ?_ (ae RC (by decide));rw[vD,aO,ar];exact aD _ _
  have Ca:=(ZG J.2 hle).trans (lT (λl=>some (u.τ.set Y.length (.p5 l))) (L_ (v:=nj x) ai7));kd_p;exact hN ⟨_,_⟩ rfl ⟨J.1.set T (aB _) (WS J.2),(bx (px J.2)).trans (by rw[aO];rfl)⟩
 ·have al2:qr u.τ .sorted (.loc Y.length)=some (.lst (xs.map λx=>.str x.1)):=by
   refine(um J.2).trans ((lW (by rw[mY (aT RC (by decide)),eZ];exact((eZ (f:=(·.1)) (l:=xs)).symm.trans S.2.2.1))).trans ?_);rw[aR];exact lT (λl=>some (PV.lst l)) ((lT (dO PV.str) S.1).trans aR)
  kd_p;refine sW xs (λx=>.str x.1) nj ?_ (λx hx=>?_) ?_
  ·kd_p;exact SI.l rfl
  ·have hi:=XC J.2 (WR S.2.1 hx);kd_p
  kd_p;exact hR _ _ _ (h u.τ J.1)
theorem afs (T:TabAt n m Y W){xs:List (String×Nat×Nat)}(hx:(xs.map (·.1)).Sublist (namesOf z))(cs ct:List Nat)(si ni:Option Nat)(fl:Nat)(hl:W.rows.length+1<=900000)(k:Nat){R:PV->St->Prop}
  (h:∀(t:Nat) σ' W',l7 n m Y W σ' W' 1->W'.rows[t]? =some (.obj xs cs ct si ni fl)->W'.lU=W.lU->R (iv t) σ') :
  WC (lY (k+2) .D9 [.loc n,.lst (xs.map nj),.tup (cs.map iv),.tup (ct.map iv),pq si,pq ni,iv fl] Y) R:=by
 have mp:=T.Jj;refine nS (T6 _ _ _ _ _ _ _) λR' hR=>?_;kd_p;refine WT T hx _ λσ1 nU=>?_;kd_p;refine u_ nU.tab (.obj xs cs ct si ni fl) nofun hl _ λu σ' W' mG hu hb=>?_;kd_p;exact hR _ _ _ (h u σ' W' ((nU.trans mG).weaken (by decide)) hu hb)
end
structure vf (D:Nat)(Y τ:St)(fs:List (String×PV))(c:Nat):Prop where
 at':τ[D]? =some (.inst .Decl fs)
 keep:∀j,j<D->τ[j]? =Y[j]?
 len:fs.length<=c
theorem G_ {V β:Type}[DecidableEq V](k:V)(v:β):∀(l:List (V×β)),(putAt k v l).length<=l.length+1
 |[]=>aB _
 |p::l=>by
  unfold putAt
  split
  ·exact eh _
  ·exact aU (G_ k v l)
theorem DC (k a:String)(v:PV):∀(l:List (String×PV)),s7 a (putAt k v l)=if k=a then some v else s7 a l
 |[]=>if h:k=a then(BB h).trans (lW h).symm else(zO h).trans (lX h).symm
 |p::l=>by
  unfold putAt;by_cases hp:p.1=k
  ·rw[lW hp];by_cases h:k=a
   ·rw[BB h,lW h]
   ·rw[zO h,lX h,zO (hp.symm▸h)]
  ·rw[lX hp];by_cases h:p.1=a
   ·rw[BB h,BB h,lX λe=>hp (h.trans e.symm)]
   ·rw[zO h,zO h,DC k a v l]
theorem vf.set {D c:Nat}{Y τ:St}{fs:List (String×PV)}(h:vf D Y τ fs c)(hc:c<=500)(a:String)(v:PV):wN τ a v (.loc D)=some (τ.set D (.inst .Decl (putAt a v fs)))/\vf D Y (τ.set D (.inst .Decl (putAt a v fs))) (putAt a v fs) (c+1) :=
 ⟨Hy h.at' (ae h.len hc),bx (px h.at'),λj hj=>(aX (bJ hj)).trans (h.keep j hj),ae (G_ a v fs) (aU h.len)⟩
theorem vf.push {D c:Nat}{Y τ:St}{fs:List (String×PV)}(h:vf D Y τ fs c)(o:mC):vf D Y (τ++[o]) fs c :=
 ⟨(bB (px h.at')).trans h.at',λj hj=>(bB (fm hj (px h.at'))).trans (h.keep j hj),h.len⟩
structure yf (D:Nat)(Y τ:St)(c:Nat)(x y:Option PV):Prop where
 ex:∃fs,vf D Y τ fs c/\s7 "did" fs=x/\s7 "bases" fs=y
theorem yf.step {D c:Nat}{Y τ:St}{x y:Option PV}(h:yf D Y τ c x y)(hc:c<=500){a:String}{v:PV}{Q:St->Prop}(q:∀τ',yf D Y τ' (c+1) (if a="did" then some v else x) (if a="bases" then some v else y)->Q τ'):VO (wN τ a v (.loc D)) Q :=
 h.ex.elim λfs h=>.e (h.1.set hc a v).1 (q _ ⟨_,(h.1.set hc a v).2,h.2.1▸DC _ _ _ _,h.2.2▸DC _ _ _ _⟩)
theorem yf.push {D c:Nat}{Y τ:St}{x y:Option PV}(h:yf D Y τ c x y)(o:mC):yf D Y (τ++[o]) c x y:=h.ex.elim λfs h=>⟨fs,h.1.push o,h.2⟩
theorem Ur {D:Nat}{Y τ:St}(h0:vf D Y τ [] 0)(v1 v2 v3:PV)(k:Nat){R:PV->St->Prop}
  (h:∀τ' fs,vf D Y τ' fs 15->s7 "did" fs=some v1->s7 "bases" fs=some (.tup [])->R .none τ'):WC (lY (k+1) .Hd [.loc D,v1,v2,v3] τ) R:=by
 have s:yf D Y τ 0 none none:=⟨[],h0,rfl,rfl⟩;refine nS (Tt _ _ _ _) λR' hR=>?_;kd_p
 iterate 9 (refine s.step (by decide) λτ s=>?_;kd_p)
 iterate 2 (refine(s.push (.list [])).step (by decide) λτ s=>?_;kd_p)
 iterate 4 (refine s.step (by decide) λτ s=>?_;kd_p)
 exact s.ex.elim λfs s=>hR _ _ _ (h _ fs s.1 s.2.1 s.2.2)
theorem nX.snoc {D:Nat->Kd->Prop}{a:String×Nat×Nat}{p:mj}(h1:a.1=p.1)(h2:a.2.2=p.2.2)(h3:D a.2.1 p.2.1):∀{xs:List (String×Nat×Nat)} {ps:List mj},nX D xs ps->nX D (xs++[a]) (ps++[p])
 |[],[],_=>⟨h1,h2,h3,trivial⟩
 |_::_,_::_,h=>⟨h.1,h.2.1,h.2.2.1,nX.snoc h1 h2 h3 h.2.2.2⟩
theorem nX.names {D:Nat->Kd->Prop}{xs:List (String×Nat×Nat)}{ps:List mj}(h:nX D xs ps):xs.map (·.1)=ps.map (·.1):=h.zip.elim λzs lP=>by
 rw[← lP.a,← lP.b,aR,aR];exact gA λy hy=>(lP.r y hy).1
section
variable {n m:Nat}{Y σ':St}{W W0 W1 W' pa:Wd}{t p q x y:Nat}{r:Row}{d:Nat}{f:Nat}{P:Nat->One->Prop}{o:One}{z:Bool}{name:String}
structure Jr (n:Nat)(Y:St)(W:Wd)(dl:List Nat):Prop where
 at':Y[n+3]? =some (.list (.none::dl.map .loc))
 len:dl.length=W.lU.length
 all:∀(i d b:Nat),dl[i]? =some d->W.lU[i]? =some b->n+3<d/\oc Y "body" (.loc d)=some (iv b)/\oc Y "bases" (.loc d)=some (.tup [])
theorem TabAt.dcl (T:TabAt n m Y W):∃dl,Jr n Y W dl:=T.decl.elim λdl x=>⟨dl,x.1,x.2.1,x.2.2⟩
structure Js (n:Nat)(Y:St)(W:Wd)(dl:List Nat)(fs:List (String×PV))(τ:St):Prop where
 at':τ[Y.length]? =some (.inst .Decl fs)
 len:fs.length<=15
 did:s7 "did" fs=some (iv (W.lU.length+1))
 bases:s7 "bases" fs=some (.tup [])
 lst:τ[n+3]? =some (.list (.none::(dl++[Y.length]).map .loc))
 keep:∀j,j<Y.length->j≠n+3->τ[j]? =Y[j]?
theorem UU (T:TabAt n m Y W){dl:List Nat}(L:Jr n Y W dl)(hb:W.lU.length+1<=900000)(k:Nat){R:PV->St->Prop}
  (h:∀τ fs,Js n Y W dl fs τ->R (.loc Y.length) τ):WC (lY (k+2) .D_ [.loc n,.int 2,.str "I"] Y) R:=by
 have hlen:(PV.none::dl.map PV.loc).length=W.lU.length+1:=by rw[dn,au,L.len]
 have ll:qr Y .len (.loc (n+3))=some (iv (W.lU.length+1)):=(um L.at').trans (lT (λk:Nat=>some (PV.int (k:Int))) hlen);refine nS (T8 _ _ _) λR' hR=>?_;kd_p
 have d0:vf Y.length Y (Y++[.inst .Decl []]) [] 0:=⟨cL,λj hj=>bB hj,aB _⟩;refine Ur d0 _ _ _ _ λτ fs hD ai8 ai9=>?_
 have T':TabAt n m τ W:=T.same λj o e _=>(hD.keep j (px e)).trans e
 have xy:=(hD.keep _ T.yp).trans L.at'
 have ha:=xO (v:=.loc Y.length) xy (ae (ax hlen) (ae hb (by decide)));kd_p;refine⟨rfl,?_⟩;kd_p;refine⟨xP xy,?_⟩;kd_p;exact hR _ _ _ (h _ fs ⟨(aX (aZ T.yp)).trans hD.at',hD.len,ai8,ai9,(bx (px xy)).trans (by rw[aO];rfl),λj hj Cq=>(aX (cp Cq)).trans (hD.keep j hj)⟩)
theorem H3 {V:Type}{l:List V}{x d:V}{i:Nat}(h:(l++[x])[i]? =some d):l[i]? =some d\/(i=l.length/\d=x):=by
 rw[List.getElem?_append] at h
 split at h
 ·exact .inl h
 ·rw[List.getElem?_singleton] at h
  split at h
  ·exact .inr ⟨eA (Nat.le_of_sub_eq_zero (by assumption)) (b8 (by assumption)),(aq h).symm⟩
  ·cases h
theorem Js.Gn {dl:List Nat}{fs:List (String×PV)}{τ:St}{made:Nat}(D:Js n Y W dl fs τ)(T:TabAt n m Y W)(L:Jr n Y W dl)(hb:W.lU.length+1<=900000) :
  l7 n m Y W (τ.set Y.length (.inst .Decl (putAt "body" (iv made) fs))) ⟨W.rows,W.lU++[made]⟩ 0/\oc (τ.set Y.length (.inst .Decl (putAt "body" (iv made) fs))) "did" (.loc Y.length)=some (iv (W.lU.length+1)):=by
 have r8:=px D.at'
 have h7:(τ.set Y.length (.inst .Decl (putAt "body" (iv made) fs)))[Y.length]? =some (.inst .Decl (putAt "body" (iv made) fs)):=bx r8
 have JV:∀{a v},(if "body"=a then some (iv made) else s7 a fs)=some v->oc (τ.set Y.length (.inst .Decl (putAt "body" (iv made) fs))) a (.loc Y.length)=some v:=λ{a v} h=>(tC h7).trans ((DC "body" a (iv made) fs).trans h)
 have keep:∀j,j<Y.length->j≠n+3->(τ.set Y.length (.inst .Decl (putAt "body" (iv made) fs)))[j]? =Y[j]?:=λj hj yy=>(aX (bJ hj)).trans (D.keep j hj yy)
 have h3:=T.yp
 have hle:∀{a},a<3->n+a<Y.length/\n+a≠n+3:=λh=>⟨fm (gB h n) h3,aZ (gB h n)⟩
 have kp:∀{a} {ob},a<3->Y[n+a]? =some ob->(τ.set Y.length (.inst .Decl (putAt "body" (iv made) fs)))[n+a]? =some ob:=λh e=>(keep _ (hle h).1 (hle h).2).trans e
 have hm:=T.hm;refine⟨⟨⟨kp (a:=0) (by decide) T.inst,kp (by decide) T.rows,kp (by decide) T.index,⟨dl++[Y.length],(aX (bJ h3)).trans D.lst,by rw[ar,ar,L.len];rfl,λi d b e1 e2=>?_⟩,(keep m (px T.host) (bJ hm)).trans T.host,hm,T.first,T.nodup,T.wx,ae (ax ar) hb⟩,
  by rw[bw];exact aS r8,λj hj _ _ yy=>keep j hj yy,⟨⟨[],(bc _).symm⟩,[made],rfl⟩,aB _⟩,JV ((lX (by decide)).trans D.did)⟩
 refine(H3 e1).elim (λe1=>?_) λe1=>?_
 ·have e2:W.lU[i]? =some b:=(H3 e2).resolve_right λe=>aZ (L.len▸nf e1) e.1
  have a:=L.all i d b e1 e2
  have kd:∀ob,Y[d]? =some ob->(τ.set Y.length (.inst .Decl (putAt "body" (iv made) fs)))[d]? =some ob:=λob e=>(keep d (px e) (bJ a.1)).trans e;exact⟨a.1,zE a.2.1 kd,zE a.2.2 kd⟩
 ·have e2:b=made:=((H3 e2).resolve_left λe=>aZ (nf e) (e1.1.trans L.len)).2;rw[e1.2,e2];exact⟨h3,JV (lW rfl),JV ((lX (by decide)).trans D.bases)⟩
theorem l7.BU {k b lO:Nat}{τ:St}{W1:Wd}(st:l7 n m Y W τ W1 (k+3*lO))(h:k+b<=35)(hl:W.rows.length+(35+3*lO)<=900000):W1.rows.length+b<=900000 :=
 ae (ak st.cost b) (ae (ax ((aP _ _ _).trans (lT (W.rows.length+·) (eg k (3*lO) b)))) (ae (av (ak h _) _) hl))
theorem l7.z9 {k c lO:Nat}{τ τ':St}{W1 W2:Wd}(x:l7 n m Y W τ W1 (k+3*lO))(y:l7 n m τ W1 τ' W2 c):l7 n m Y W τ' W2 (k+c+3*lO):=(x.trans y).weaken (ax (eg k (3*lO) c))
theorem Qy {b N:Nat}(h:b+1<=3):b*N+N<=3*N:=dQ b N▸aM N h
theorem ai_ {w w1 b lO:Nat}(h:w1<=w+b*lO)(hb:b+1<=3)(hl:w+(35+3*lO)<=900000):w1+lO<=900000 :=
 ae (ak h lO) (ae (ax (aP _ _ _)) (ae (av (ae (Qy hb) (aY _ 35)) w) hl))
theorem aja {w w1 b N:Nat}(h:w1<=w+b*N)(hb:b+1<=3)(hl:w+(1+3*N)<=800000):w1+N<=800000 :=
 ae (ak h N) (ae (ax (aP _ _ _)) (ae (av (ae (Qy hb) (aY _ 1)) w) hl))
noncomputable def RD (n f:Nat)(o:One)(xs:List (String×Nat×Nat))(c:Option PV):Loc :=
 [some (.loc n),some (.tup [.tup (o.ps.map oT),mS o.tx,mS o.nx,.int (o.called:Int),.int (o.how:Int)]),some (iv f),some (.tup (o.ps.map oT)),some (mS o.tx),some (mS o.nx),some (.int (o.called:Int)),some (.int (o.how:Int)),some (.lst (xs.map nj)),c,none,none]
theorem OX {a:Nat}(b:Nat){A B:Prop}(h1:a<b->A)(h2:b<=a->B):oJ (.bool (ltB (a:Int) (b:Int))) A B:=nh (λh=>h1 (Int.ofNat_lt.mp (l9 h))) λh=>h2 (b8 λh'=>xg h (Int.ofNat_lt.mpr h'))
structure SgJ (n m lO:Nat)(Y:St)(W W1:Wd)(o:One)(cs:List Nat)(τ:St)(W2:Wd):Prop where
 st:l7 n m Y W τ W2 (1+3*lO)
 lU:W2.lU=W1.lU
 le:W1.le W2
 iff:cs=[]↔o.called=0
structure CB (o:One)(v:PV)(j:List Nat×List Nat):Prop where
 i0:∀Y,mA Y (.int 0) v=some (.tup (j.1.map iv))
 i1:∀Y,mA Y (.int 1) v=some (.tup (j.2.map iv))
 h1:j.1=[]↔o.called≠1
 h2:j.2=[]↔o.called≠2
theorem CB.mk' {c1 c2:List Nat}(h1:c1=[]↔o.called≠1)(h2:c2=[]↔o.called≠2):∃j,CB o (.tup [.tup (c1.map iv),.tup (c2.map iv)]) j:=⟨(c1,c2),λ_=>ui _ _ _,λ_=>qY _ _ _ _,h1,h2⟩
theorem aar {c K:Nat}(Ar:f=0\/(f=1/\c<=1))(rM:c<=3)(ih:FN z c f d (K+5)):FN z c f (d+1) (K+7):=by
 intro n m Y W T o hB hl oH R h;have hf:f<=1:=Ar.elim (λe=>e▸aC _) λe=>ax e.1;have hN:NB c (d+1)=1+3*(c*NB c d):=lT (1+·) (f_ 3 c _);have hU:80*(1+3*(c*NB c d))=35+3*(80*(c*NB c d)+15):=by omega
 rw[hN,hU] at hl;rw[hN] at oH;rw[hN,hU] at h;have rt:∀{kd:Kd} {τ:St} {W1:Wd} {R:PV->St->Prop},TabAt n m τ W1->BK c (BW z c d) kd->W1.rows.length+(80*(c*NB c d)+15)<=900000->W1.lU.length+c*NB c d<=800000->(∀u σ' W',l7 n m τ W1 σ' W' (80*(c*NB c d)+15)->W'.lU.length<=W1.lU.length+c*NB c d->Den f (PF f d W') W' u kd->R (iv u) σ')->WC (lY (K+6) .tw [.loc n,mz kd,iv f] τ) R :=
  λT1 hb h1 h2 h=>HJ (K:=K+1) Ar rM ih T1 hb h1 h2 λu σ' W' st hb D=>h u σ' W' (st.weaken (ax (b9 _ _))) hb D
 revert hl oH h rt;generalize c*NB c d=N;generalize 80*N+15=lO;intro hl oH h rt;refine nS (TL _ _ _) λR' hR=>?_;rw[One.tH];kd_p;refine hB.elim (λhB=>mD (rv o.how 3) (mD (decide_eq_false λe=>absurd (e▸hB.1) (by decide)) (nF ?_))) λhB=>?_
 ·kd_p;refine mD (rv o.how 4) (mD (decide_eq_false λe=>absurd (e▸hB.1) (by decide)) (nF ?_));have pK:=(G9 hB.2.2.1).2.2.2;rw[au] at pK;kd_p;refine Bx o.ps oT (.seq (.tup (o.ps.map oT))) (λbs os τ=>∃xs W1,l7 n m Y W τ W1 (bs.length*lO)/\W1.lU.length<=W.lU.length+bs.length*N/\os=xs.map nj/\nX (Den f (PF f d W1) W1) xs bs) ?_ (λbs p cs os τ hs J=>J.elim λxs J=>J.elim λW1 J=>?_) λos τ J=>J.elim λxs J=>J.elim λW1 J=>?_
  ·kd_p;exact⟨rfl,rfl,[],W,(l7.refl T).weaken (aC _),aD _ _,rfl,trivial⟩
  ·have tc:=ae (tB hs) pK;rw[ER];kd_p;refine rt J.1.tab (hB.2.2.2.1 p (mem_mid hs)) (ai_ J.1.cost tc hl) (aja J.2.1 tc oH) λu τ2 W2 mG ox D=>?_;kd_p;exact⟨rfl,xs++[(p.1,u,p.2.2)],W2,(J.1.trans mG).weaken (ax (by rw[ar];exact(dQ _ _).symm)),ae ox (ae (ak J.2.1 _) (ax (by rw[ar,aP];exact lT (W.lU.length+·) (dQ _ _).symm))),by rw[J.2.2.1,aO];rfl,nX.snoc rfl rfl D (J.2.2.2.mono λt k D=>D.up mG.le)⟩
  ·have rL:W1.lU.length<=W.lU.length+3*N:=ae J.2.1 (av (aM N pK) _)
   have nU:l7 n m Y W τ W1 (0+3*lO):=J.1.weaken (ae (aM lO pK) (aY _ _))
   have Qz:=J.2.2.2
   have T1:=nU.tab;rw[J.2.2.1];refine(?_:nE _ (.cons (.asg _ _) _) _ _ _ _ _);refine tJ (λi:List Nat×St=>RD n f o xs (some (.tup (i.1.map iv)))) (λi=>i.2) (λi=>∃W2,SgJ n m lO Y W W1 o i.1 i.2 W2) (λN hN=>?_) λi J=>J.elim λW2 S=>?_
   ·kd_p;refine uk (λhc=>?_) λhc=>?_
    ·kd_p;refine afo T1 (nU.BU (by decide) hl) _ λu τ2 W2 mG hu ox=>?_;kd_p;exact hN ([u],τ2) ⟨W2,nU.z9 mG,ox,mG.le,⟨λe=>(nomatch e),λe=>absurd e hc⟩⟩
    ·kd_p;exact hN ([],τ) ⟨W1,nU.weaken (ak (aC _) _),rfl,.refl W1,⟨λ_=>hc,λ_=>rfl⟩⟩
   refine tJ (λv:PV=>RD n f o xs (some v)) (λ_=>i.2) (λv=>∃j,CB o v j) (λN hN=>?_) λv hj=>hj.elim λj hj=>?_
   ·kd_p;refine OX 2 (λhc=>?_) λhc=>?_
    ·kd_p;exact hN _ (CB.mk' (c2:=[]) (S.iff.trans ((by decide:∀a<2,(a=0↔a≠1)) _ hc)) ⟨λ_=>aZ hc,λ_=>rfl⟩)
    ·have e:=eA hB.2.1 hc;kd_p;exact hN _ (CB.mk' (c1:=[]) ⟨λ_=>by rw[e];decide,λ_=>rfl⟩ (S.iff.trans ⟨λh=>by rw[h];decide,λh=>absurd e h⟩))
   have j0:=hj.i0 i.2
   have j1:=hj.i1 i.2
   have T2:=S.st.tab
   have ox:=ae (ax (lT bG S.lU)) rL
   have CC:∀{b:Nat},b<=W.lU.length+3*N->b<=800000:=λh=>ae h (ae (av (aY _ 1) _) oH);kd_p;refine Lz (P:=λW=>PF f d W) hf T2 hB.2.2.2.2.1 (S.st.BU (by decide) hl) (CC ox) _ λsi τ3 W3 nP qx hsi=>?_
   have S3:=S.st.z9 nP
   have qx:=ae qx ox;kd_p;refine Lz (P:=λW=>PF f d W) hf S3.tab hB.2.2.2.2.2 (S3.BU (by decide) hl) (CC qx) _ λni τ4 W4 qg sL hni=>?_
   have S4:=S3.z9 qg
   have sL:=ae sL qx;kd_p;refine .e (show binOp .Mod (.int (o.how:Int)) (.int 2)=some (iv (o.how%2)) from zA (by decide)) ?_;kd_p;refine afs S4.tab (by rw[Qz.names];exact hB.2.2.1) j.1 j.2 si ni (o.how%2) (S4.BU (by decide) hl) _ λq τ5 W5 qK hq qS=>?_
   have S5:=S4.z9 qK
   have qS:=ae (ax (lT bG qS)) sL
   have QA:=qg.le.trans qK.le
   have ajb:=S.le.trans (nP.le.trans QA)
   have QB:∀{W6:Wd} {p:Nat},W5.le W6->ta W6 p q->(f=1->(o.how<2->p=q/\o.how%2=o.how)/\(o.how=2->∃d,W6.rows[p]? =some (.ref d)))->PF f (d+1) W6 p o:=λ{W6 p} le hs hex =>
    yI.obj q xs j.1 j.2 si ni (o.how%2) hB.1 ⟨hs,le.row hq,Qz.mono (λt k D=>D.up (ajb.trans le)),hsi.mono (λt k D=>D.up (QA.trans le)),hni.mono (λt k D=>D.up (qK.le.trans le)),hj.h1,hj.h2,hB.2.1,cK (dP _ (by decide)),hex⟩
   kd_p;refine OX 2 (λhh=>?_) λhh=>?_
   ·kd_p;exact hR _ _ _ (h q τ5 W5 (S5.weaken (ak (by decide) _)) (ae qS (av (aY _ 1) _)) (QB (.refl W5) (.inl rfl) λ_=>⟨λ_=>⟨rfl,iY hh⟩,λe=>absurd hh (by rw[e];decide)⟩))
   ·have RF:W5.lU.length+1<=800000:=ae (ak qS 1) (ae (ax (by rw[aP,b9 (3*N)])) oH);refine S5.tab.dcl.elim λdl L=>?_;kd_p;refine UU S5.tab L (ae RF (by decide)) _ λτ6 fs D=>?_
    have Ca:=Hy (a:="body") (v:=iv q) D.at' (ae D.len (by decide))
    have E:=D.Gn (made:=q) S5.tab L (ae RF (by decide))
    have S6:=S5.z9 E.1
    have al5:=E.2;kd_p;refine afp S6.tab (W5.lU.length+1) (S6.BU (by decide) hl) _ λp τ8 W8 RG RH CC=>?_;kd_p;refine hR _ _ _ (h p τ8 W8 ((S6.z9 RG).weaken (ak (by decide) _)) ?_ (QB (E.1.le.trans RG.le) (.inr ⟨W5.lU.length,RH,CC▸cL⟩) λ_=>⟨λe=>absurd e (Nat.not_lt.mpr hh),λ_=>⟨_,RH⟩⟩));rw[CC];exact ae (ax ar) (ae (ak qS 1) (ax (by rw[aP,b9 (3*N)])))
 ·refine hB.2.elim λkd hk=>?_;have ekd:mS o.tx=mz kd:=by rw[hk.1];rfl
  have pY:W.rows.length+lO<=900000:=ae (av (ae (dq lO (by decide)) (aY _ 35)) _) hl
  have QC:W.lU.length+N<=800000:=ae (av (ae (dq N (by decide)) (aY _ 1)) _) oH
  have om:∀{τ τ3:St} {W2 W3:Wd},l7 n m Y W τ W2 lO->l7 n m τ W2 τ3 W3 1->l7 n m Y W τ3 W3 (35+3*lO):=λst RI=>(st.trans RI).weaken (ae (ax (b9 _ _)) (bh (by decide) (dq lO (by decide))))
  have rL:∀{a:Nat},a<=W.lU.length+N->a<=W.lU.length+(1+3*N):=λh=>ae h (av (ae (dq N (by decide)) (aY _ 1)) _)
  have td:∀{W2:Wd},W2.rows.length<=W.rows.length+lO->W2.rows.length+1<=900000:=λh=>ae (ak h 1) (ae (ax (aP _ _ _)) (ae (av (ae (ax (b9 _ _)) (bh (by decide) (dq lO (by decide)))) _) hl));rw[ekd];refine hB.1.elim (λhw=>mD (rv o.how 3) (mD (mY hw) (qC ?_))) λhw=>mD (rv o.how 3) (mD (decide_eq_false λe=>absurd (e.symm.trans hw) (by decide)) (nF ?_))
  ·kd_p;refine rt T hk.2 pY QC λu τ2 W2 mG ox D=>?_;kd_p;refine afn mG.tab u (td mG.cost) _ λp τ3 W3 nP hp qx=>?_;kd_p;exact hR _ _ _ (h p τ3 W3 (om mG nP) (rL (qx▸ox)) (.arr u kd hw hp hk.1 (D.up nP.le)))
  ·kd_p;refine mD (rv o.how 4) (mD (mY hw) (qC ?_));kd_p;refine rt T hk.2 pY QC λu τ2 W2 mG ox D=>?_;kd_p;refine ac2 mG.tab u (td mG.cost) _ λp τ3 W3 nP hp qx=>?_;kd_p;exact hR _ _ _ (h p τ3 W3 (om mG nP) (rL (qx▸ox)) (.tK u kd hw hp hk.1 (D.up nP.le)))
end
theorem H4 {z:Bool}{c f:Nat}(Ar:f=0\/(f=1/\c<=1))(rM:c<=3)(d:Nat):∀k:Nat,FN z c f d (k+2*d+5):=by
 induction d with
 |zero=>intro k n m Y W T o ho;exact ho.elim
 |succ d ih =>
  intro k;have:=@aar d f z c (k+2*d) Ar rM (@ih k);exact @this
theorem OY {l:List PV}(h:(PV.tup l).nQ=true)(Y:St):oW Y .Eq (.tup l) (.tup [])=some l.isEmpty/\oW Y .NotEq (.tup l) (.tup [])=some (!l.isEmpty):=by
 have h2:(PV.tup []).nQ=true:=by decide
 have e:decide (PV.tup l=PV.tup [])=l.isEmpty:=by cases l<;>simp
 constructor
 ·exact(zK h h2).trans (lT some e)
 ·exact lT (b4 λb=>!b) ((zK h h2).trans (lT some e))
theorem MY {V β:Type}(l:List V)(g:V->β):(l.map g).isEmpty=l.isEmpty:=by cases l<;>rfl
theorem OZ (ps:List (String×Nat×Nat))(Y:St):oW Y .Eq (.tup (ps.map nj)) (.tup [])=some ps.isEmpty:=((OY ((pw.map (n:=1) (f:=nj) (λ_=>⟨rfl,a8 rfl⟩) ps).data (by decide)) Y).1).trans (lT some (MY ps nj))
theorem E7 (cs:List Nat)(Y:St):oW Y .Eq (.tup (cs.map iv)) (.tup [])=some cs.isEmpty/\oW Y .NotEq (.tup (cs.map iv)) (.tup [])=some (!cs.isEmpty) :=
 MY cs iv▸OY ((pw.map (pw.iv · 0) cs).data (by decide)) Y
theorem th {l i:Nat}(hl:l<=900000)(h:i<l):i<=1000000:=ae (aS h) (ae hl (by decide))
theorem NU {V:Type}{l:List V}{P:Prop}[Decidable P](h:l=[]↔P):l.isEmpty=decide P:=by rw[bg,gz,h,decide_eq_true_eq]
structure tO (W:Wd)(p:Nat)(o:One)(q:Nat)(ps:List (String×Nat×Nat))(cs ct:List Nat)(si ni:Option Nat)(fl:Nat):Prop where
 pC:ta W p q
 row:W.rows[q]? =some (.obj ps cs ct si ni fl)
 rJ:nX (λ_ _=>True) ps o.ps
 wA:si.isSome=o.tx.isSome
 wB:ni.isSome=o.nx.isSome
 Aj:cs=[]↔o.called≠1
 Ak:ct=[]↔o.called≠2
 yH:o.called<=2
theorem uy.view {f:Nat}{D:Nat->Kd->Prop}{W:Wd}{p:Nat}{o:One}{q:Nat}{ps:List (String×Nat×Nat)}{cs ct:List Nat}{si ni:Option Nat}{fl:Nat}(R:uy f D W p o q ps cs ct si ni fl):tO W p o q ps cs ct si ni fl :=
 ⟨R.pC,R.row,R.rJ.mono λ_ _ _=>trivial,R.wA.some,R.wB.some,R.Aj,R.Ak,R.yH⟩
noncomputable def CD (t:One):Bool:=!(t.ps.isEmpty||(decide (t.called≠0)||(t.tx.isSome||t.nx.isSome)))&&t.ps.all λp=>decide (p.2.2&&&1≠0)
noncomputable def xX (s:One):Bool:=decide (s.how=3)||(!s.ps.isEmpty||decide (s.called>0))
noncomputable def ue (s:One)(n:String):Bool:=decide (s.how≠3)&&z5 s n
theorem aft {V:Type}(l:List V)(a b:V->Bool):(l.any λx=>a x||b x)=!(l.all (λx=>!a x)&&l.all (λx=>!b x)):=by
 induction l with
 |nil=>rfl
 |cons x r ih =>
  simp only[gC,fo,ih];cases a x<;>cases b x<;>cases r.all (λx=>!a x)<;>cases r.all (λx=>!b x)<;>rfl
theorem MZ (s t:One):uo s t=(decide (t.how≠3)&&CD t&&xX s&&t.ps.all λp=>!ue s p.1):=by
 unfold uo;rw[aft];have e:(t.ps.all λp=>!decide (p.2.2&&&1=0))=t.ps.all λp=>decide (p.2.2&&&1≠0):=by
  congr 1;funext p;exact(decide_not (p:=p.2.2&&&1=0)).symm
 rw[e];show(if _ then false else if(!(t.ps.all (λp=>decide (p.2.2&&&1≠0))&&t.ps.all λp=>!ue s p.1))=true then false else xX s)=_;unfold CD;generalize t.ps.all (λp=>decide (p.2.2&&&1≠0))=E;generalize (t.ps.all λp=>!ue s p.1)=F;generalize xX s=G;generalize t.ps.isEmpty=D;generalize t.tx.isSome=A;generalize t.nx.isSome=B;generalize decide (t.called≠0)=C;by_cases h:t.how=3
 ·rw[lW (by rw[mY h];rfl),decide_eq_false (λe=>e h)];rfl
 ·rw[mY h];simp only[h,false_or];revert A B C D E F G;decide
section
variable {n m:Nat}{Y σ':St}{W W0 W1 W' pa:Wd}{t p q x y:Nat}{r:Row}{d:Nat}{f:Nat}{P:Nat->One->Prop}{o:One}{z:Bool}{name:String}
theorem nX.emp {D:Nat->Kd->Prop}{xs:List (String×Nat×Nat)}{ps:List mj}(h:nX D xs ps):xs.isEmpty=ps.isEmpty:=by
 cases xs<;>cases ps<;>first|rfl|exact h.elim
theorem nX.PD {D:Nat->Kd->Prop}(g:Nat->Bool):∀{xs:List (String×Nat×Nat)} {ps:List mj},nX D xs ps->(xs.all λx=>g x.2.2)=ps.all λp=>g p.2.2
 |[],[],_=>rfl
 |x::xs,p::ps,⟨_,b,_,d⟩=>by simp only[fo,b,nX.PD g d]
 |[],_::_,h=>h.elim
 |_::_,[],h=>h.elim
theorem nX.PE {D:Nat->Kd->Prop}(g:String->Bool):∀{xs:List (String×Nat×Nat)} {ps:List mj},nX D xs ps->(xs.all λx=>g x.1)=ps.all λp=>g p.1
 |[],[],_=>rfl
 |x::xs,p::ps,⟨a,_,_,d⟩=>by simp only[fo,a,nX.PE g d]
 |[],_::_,h=>h.elim
 |_::_,[],h=>h.elim
theorem WU (ps:List (String×Nat×Nat))(cs ct:List Nat)(si ni:Option Nat)(fl:Nat)(k:Nat) :
  lY (k+1) .EA [(Row.obj ps cs ct si ni fl).pv] Y=some (.bool (!(ps.isEmpty||(!cs.isEmpty||(!ct.isEmpty||(si.isSome||ni.isSome))))&&ps.all λx=>decide (x.2.2&&&1≠0)),Y):=by
 have q1:=OZ ps Y
 have q2:=(E7 cs Y).2
 have q3:=(E7 ct Y).2
 have q4:=A8 si Y
 have q5:=A8 ni Y;rw[BS];refine nr (UM _) λR hR=>?_;kd_p;refine nh (λh=>?_) λh=>?_
 ·kd_p;exact hR _ _ (by rw[h];rfl)
 ·kd_p;refine sW ps nj (λx=>.bool (decide (x.2.2&&&1≠0))) ?_ (λx hx=>?_) ?_
  ·kd_p;exact SI.t rfl
  ·have i2:=ED Y x;kd_p;exact .i (lT PV.bool (Pm _))
  refine(?_:VO _ _);refine .e (Hz _ _ _) ?_;kd_p;exact hR _ _ (by rw[h];rfl)
theorem tO.cse {ps:List (String×Nat×Nat)}{cs ct:List Nat}{si ni:Option Nat}{fl:Nat}(lQ:tO W p o q ps cs ct si ni fl):cs.isEmpty=decide (o.called≠1):=NU lQ.Aj
theorem tO.RJ {ps:List (String×Nat×Nat)}{cs ct:List Nat}{si ni:Option Nat}{fl:Nat}(lQ:tO W p o q ps cs ct si ni fl):ct.isEmpty=decide (o.called≠2):=NU lQ.Ak
theorem ac4 {ps:List (String×Nat×Nat)}{cs ct:List Nat}{si ni:Option Nat}{fl:Nat}(lQ:tO W p o q ps cs ct si ni fl):(!(ps.isEmpty||(!cs.isEmpty||(!ct.isEmpty||(si.isSome||ni.isSome))))&&ps.all λx=>decide (x.2.2&&&1≠0))=CD o:=by
 rw[lQ.wA,lQ.wB,lQ.cse,lQ.RJ,lQ.rJ.emp,lQ.rJ.PD λfl=>decide (fl&&&1≠0),CD,(by decide:∀c≤2,∀a b:Bool,(!decide (c≠1)||(!decide (c≠2)||(a||b)))=(decide (c≠0)||(a||b))) o.called lQ.yH]
theorem Hp (T:TabAt n m Y W){ps:List (String×Nat×Nat)}{cs ct:List Nat}{si ni:Option Nat}{fl:Nat}(lQ:tO W p o q ps cs ct si ni fl)(hl:W.rows.length<=900000)(k:Nat) :
  lY (k+3) .uY [.loc m,iv p] Y=some (.bool (CD o),Y):=by
 refine(lQ.pC.row lQ.row).elim λrp x=>?_;have hp:=th hl (nf x.at');have oj:=th hl (nf lQ.row);have ip:=T.nD x.at' hp;have ik:=o3 Y rp;have iq:=T.nD lQ.row oj;refine nr (Kv _ _) λR hR=>?_;kd_p;refine mD (x.no 7 (by decide) (by decide)) (nF ?_);kd_p
 ·refine md (wM T lQ.pC lQ.row rfl hp oj _) ?_;kd_p;refine md (WU _ _ _ _ _ _ _) ?_;kd_p
 ·exact hR _ _ (lT PV.bool (by rw[x.yL.2,du,ac4 lQ]))
theorem AG (T:TabAt n m Y W)(hr:W.rows[p]? =some r)(hk:r.kind≠8/\r.kind≠9/\r.kind≠7)(hl:W.rows.length<=900000)(k:Nat) :
  lY (k+3) .uY [.loc m,iv p] Y=some (.bool false,Y):=by
 have ip:=T.nD hr (th hl (nf hr))
 have ik:=o3 Y r
 have e:decide (iv r.kind∈[PV.int 8,PV.int 9])=false:=by rw[HI];exact decide_eq_false λh=>h.elim hk.1 hk.2.1
 refine nr (Kv _ _) λR hR=>?_;kd_p;refine mD (b:=false) (vX (a:=r.kind) (b:=7) hk.2.2) (nF ?_);refine(?_:VB ..);refine Oo ?_ ?_
 ·kd_p;exact .i (lT PV.bool e)
 ·exact hR _ _ rfl
structure vt (m:Nat)(Y:St)(z:Bool)(a:Nat)(so:One):Prop where
 QD:∀name∈namesOf z,∃v,(∀k,lY (k+3) .vQ [.loc m,iv a,.str name] Y=some (v,Y))/\decide (v=.none)=!ue so name
 PG:∀k,lY (k+3) .y6 [.loc m,iv a] Y=some (.bool (!xX so),Y)
theorem HL (T:TabAt n m Y W)(hr:W.rows[p]? =some r)(oi:∀s,r≠.key s):decide (iv p∈[PV.int 0,PV.int 1,PV.int 2,PV.int 13,PV.int 3,PV.int 4,PV.int 5,PV.int 10])=false:=by
 have e:∀(i:Nat) (s:String),pP[i]? =some (.key s)->¬iv p=PV.int (i:Int):=λi s h e=>T.vi h hr (oi s) (xW e);rw[decide_eq_false_iff_not];simp only[bT,ez,or_false];rintro(h|h|h|h|h|h|h|h)
 ·exact e 0 _ rfl h
 ·exact e 1 _ rfl h
 ·exact e 2 _ rfl h
 ·exact e 13 _ rfl h
 ·exact e 3 _ rfl h
 ·exact e 4 _ rfl h
 ·exact e 5 _ rfl h
 ·exact e 10 _ rfl h
theorem aas (r:Row):decide (iv r.kind∈[PV.int 6,PV.int 7,PV.int 10,PV.int 14,PV.int 15,PV.int 16,PV.int 17,PV.int 18,PV.int 19])=decide (r.kind=6):=by cases r<;>rfl
theorem YC (s:Bool)(c:Nat)(hc:c<=2):(s&&(decide (c≠1)&&decide (c≠2)))=!(!s||decide (c>0)):=by
 cases s
 ·rfl
 ·exact(by decide:∀c≤2,(decide (c≠1)&&decide (c≠2))=!decide (c>0)) c hc
theorem HM (T:TabAt n m Y W){ps:List (String×Nat×Nat)}{cs ct:List Nat}{si ni:Option Nat}{fl:Nat}(lQ:tO W p o q ps cs ct si ni fl)(hw:o.how≠3)(hl:W.rows.length<=900000):vt m Y z p o:=by
 refine(lQ.pC.row lQ.row).elim λrp x=>?_;have hp:=th hl (nf x.at');have oj:=th hl (nf lQ.row);refine⟨λname _=>⟨_,λk=>HE T lQ.pC lQ.row hp oj name k,?_⟩,λk=>?_⟩
 ·rw[acK,ue,mY hw,du,z5,← lQ.rJ.any name,gy]
 ·have ip:=T.nD x.at' hp
  have ik:=o3 Y rp
  have iq:=T.nD lQ.row oj
  have q1:=OZ ps Y
  have q2:=(E7 cs Y).1
  have q3:=(E7 ct Y).1;rw[BS] at iq;refine nr (C6 _ _) λR hR=>?_;kd_p;refine mD (HL T x.at' (zM x.n7)) (nF ?_);kd_p;refine mD (b:=false) (by rw[x.yL.2];rfl) (nF ?_);kd_p;refine md (wM T lQ.pC lQ.row rfl hp oj _) ?_;kd_p;exact hR _ _ (lT PV.bool (by rw[lQ.cse,lQ.RJ,lQ.rJ.emp,xX,decide_eq_false hw,dH];exact YC _ _ lQ.yH))
theorem NV (hw:o.how=3):ue o name=false:=by rw[ue,hw];rfl
theorem O0 (hw:o.how=3):xX o=true:=by rw[xX,hw];rfl
theorem aat (T:TabAt n m Y W){e:Nat}(hr:W.rows[p]? =some (.arr e))(hw:o.how=3)(hl:W.rows.length<=900000):vt m Y z p o:=by
 have hp:=th hl (nf hr);refine⟨λname _=>⟨_,λk=>GY T hr (.inl rfl) hp _ k,by rw[NV hw];rfl⟩,λk=>?_⟩;have ip:=T.nD hr hp;have ik:=o3 Y (.arr e);refine nr (C6 _ _) λR hR=>?_;kd_p;refine mD (HL T hr nofun) (nF ?_);kd_p;refine pO rfl ?_;kd_p;exact hR _ _ (by rw[O0 hw];rfl)
theorem Bq (hk:r.kind=1\/r.kind=4){P:Nat->Prop}(h1:P 1)(h4:P 4):P r.kind:=hk.elim (λe=>e.symm▸h1) λe=>e.symm▸h4
theorem UW (T:TabAt n m Y W)(hr:W.rows[p]? =some r)(hk:r.kind=1\/r.kind=4)(hl:W.rows.length<=900000)(k:Nat):lY (k+2) .xJ [.loc m,iv p] Y=some (.int 11,Y):=by
 have ip:=T.nD hr (th hl (nf hr));have ik:=o3 Y r;have hs:lY (k+1) .AJ [.loc n,iv p] Y=some (.int 11,Y):=by
  refine nr (Ky _ _) λR hR=>?_;kd_p;refine EP (ba 40) iv (λ_:Unit=>[some (.loc n),some (iv p),none,none]) (λbs _=>bs=[]) () rfl ?_ rfl (λbs a cs i e J N hN=>?_) λi J=>nomatch J
  ·kd_p;exact⟨by decide,u9,wQ 40,rfl⟩
  ·kd_p;refine pj (Fl p) ?_;kd_p;refine mD (Bq hk (P:=λc=>decide ((c:Int)=8)=false) rfl rfl) (nF ?_);kd_p;refine mD (Bq hk (P:=λc=>decide ((c:Int)=13)=false) rfl rfl) (nF ?_);kd_p;refine mD (Bq hk (P:=λc=>decide (iv c∈[PV.int 1,PV.int 2,PV.int 3,PV.int 4,PV.int 5])=true) rfl rfl) (qC ?_);kd_p;exact hR _ _ rfl
 refine nr (Ku _ _) λR hR=>?_;kd_p;refine md hs ?_;kd_p;exact hR _ _ rfl
theorem LA (T:TabAt n m Y W)(hr:W.rows[p]? =some r)(hk:r.kind=1\/r.kind=4)(hn:decide (iv p∈[PV.int 0,PV.int 1,PV.int 2,PV.int 13,PV.int 3,PV.int 4,PV.int 5,PV.int 10])=false)(hw:o.how=3)(hl:W.rows.length<=900000):vt m Y z p o:=by
 have hp:=th hl (nf hr);have r11:W.rows[11]? =some (.obj [] [] [] none none 0):=T.nJ (i:=11) rfl;have ip:=T.nD hr hp;have ik:=o3 Y r;have i11:=T.nD r11 (by decide);refine⟨λname _=>⟨.none,λk=>?_,by rw[NV hw];rfl⟩,λk=>?_⟩
 ·refine nr (GU _ _ _) λR hR=>?_;kd_p;refine mD (Bq hk (P:=λc=>(decide ((c:Int)=11)||decide ((c:Int)=12))=false) rfl rfl) (nF ?_);kd_p;refine md (UW T hr hk hl _) ?_;kd_p;refine md (MK _ _ _ _ _ _ _ _ _) ?_;kd_p;refine pO rfl ?_;kd_p;exact hR _ _ rfl
 ·refine nr (C6 _ _) λR hR=>?_;kd_p;refine mD hn (nF ?_);kd_p;refine mD (b:=true) (by rw[HI,aas];exact Bq hk (P:=λc=>(!decide (c=8\/c=9)&&!decide (c=6))=true) rfl rfl) (qC ?_);kd_p;exact hR _ _ (by rw[O0 hw];rfl)
end
theorem aau (s:One)(p:mj):w_ s p=(decide (p.2.2&&&1=0)&&!ue s p.1):=by
 unfold w_ ue;by_cases h:s.how=3<;>cases z5 s p.1<;>simp[h]
section
variable {n m:Nat}{Y σ':St}{W W0 W1 W' pa:Wd}{t p q x y a:Nat}{r:Row}{d:Nat}{f:Nat}{P:Nat->One->Prop}{o so to:One}{z:Bool}{name:String}
theorem ajc {a b c:Bool}(h:(!a||!b)=true):false=(a&&b&&c):=by cases a<;>cases b<;>first|rfl|cases h
theorem ajd {a b:Bool}(h:(!a||!b)=false):(a&&b)=true:=by cases a<;>cases b<;>first|rfl|cases h
theorem Us (T:TabAt n m Y W){ps:List (String×Nat×Nat)}{cs ct:List Nat}{si ni:Option Nat}{fl:Nat}(lQ:tO W p to q ps cs ct si ni fl)(hw:to.how≠3)(hS:vt m Y z a so)(hn:∀x∈to.ps,x.1∈namesOf z)(hl:W.rows.length<=900000)(k:Nat) :
  lY (k+5) .sQ [.loc m,iv a,iv p] Y=some (.bool (uo so to),Y):=by
 refine(lQ.pC.row lQ.row).elim λrp x=>?_;have oj:=th hl (nf lQ.row);have iq:=T.nD lQ.row oj;have i1:mA Y (.int 1) (Row.obj ps cs ct si ni fl).pv=some (.tup (ps.map nj)):=qY _ _ _ _;rw[MZ,mY hw,du];refine nr (GL _ _ _) λR hR=>?_;kd_p
 ·refine md (Hp T lQ hl _) ?_;kd_p
 ·refine md (hS.PG _) ?_;kd_p
 ·refine nh (λh=>?_) λh=>?_
  ·kd_p;exact hR _ _ (lT PV.bool (ajc h))
  ·kd_p;refine md (wM T lQ.pC lQ.row rfl (th hl (nf x.at')) oj _) ?_;kd_p;refine sW ps nj (λx=>.bool (!ue so x.1)) ?_ (λx hx=>?_) ?_
   ·kd_p;exact SI.t rfl
   ·have i0:=Bk Y x
    have hxn:x.1∈namesOf z:=(List.mem_map.mp (lQ.rJ.names▸c7 hx:x.1∈to.ps.map (·.1))).elim λy e=>e.2▸hn y e.1;refine(hS.QD x.1 hxn).elim λv hv=>?_;kd_p;refine md (hv.1 _) ?_;kd_p;exact .i (lT PV.bool hv.2)
   refine(?_:VO _ _);refine .e (Hz _ _ _) ?_;exact hR _ _ (lT PV.bool (by rw[ajd h,lQ.rJ.PE λnm=>!ue so nm];rfl))
theorem AH (uR:∀k,lY (k+3) .uY [.loc m,iv p] Y=some (.bool false,Y))(v:PV)(k:Nat):lY (k+5) .sQ [.loc m,v,iv p] Y=some (.bool false,Y):=by
 refine nr (GL _ _ _) λR hR=>?_;refine(?_:VB ..);refine Q4 ?_;kd_p;refine md (uR _) ?_;refine(?_:_/\_);refine⟨λ_=>?_,λh=>nomatch h⟩;refine pO rfl ?_;kd_p;exact hR _ _ rfl
theorem KG {b:Bool}(uR:∀k,lY (k+3) .uY [.loc m,iv p] Y=some (.bool b,Y))(Gp:∀k,lY (k+3) .y6 [.loc m,iv a] Y=some (.bool true,Y))(k:Nat):lY (k+5) .sQ [.loc m,iv a,iv p] Y=some (.bool false,Y):=by
 refine nr (GL _ _ _) λR hR=>?_;kd_p
 ·refine md (uR _) ?_;kd_p
 ·refine md (Gp _) ?_;kd_p
 ·refine mD (jc _) (qC ?_);kd_p;exact hR _ _ rfl
theorem YD (hn:decide (iv a∈[PV.int 0,PV.int 1,PV.int 2,PV.int 13,PV.int 3,PV.int 4,PV.int 5,PV.int 10])=true)(k:Nat):lY (k+3) .y6 [.loc m,iv a] Y=some (.bool true,Y):=by
 refine nr (C6 _ _) λR hR=>?_;kd_p;refine mD hn (qC ?_);kd_p;exact hR _ _ rfl
theorem Vy (T:TabAt n m Y W)(hr:W.rows[p]? =some r)(hk:r.kind≠8/\r.kind≠9/\r.kind≠7)(hl:W.rows.length<=900000)(v:PV)(k:Nat):lY (k+5) .y8 [.loc m,v,iv p] Y=some (.str "",Y):=by
 have ip:=T.nD hr (th hl (nf hr));have ik:=o3 Y r;have e:decide (iv r.kind∈[PV.int 8,PV.int 9])=false:=by rw[HI];exact decide_eq_false λh=>h.elim hk.1 hk.2.1
 refine nr (Kw _ _ _) λR hR=>?_;kd_p;refine mD (b:=true) (by rw[e];exact lT not (vX (a:=r.kind) (b:=7) hk.2.2)) (qC ?_);kd_p;exact hR _ _ rfl
theorem WV (hw:to.how≠3):vc so to=((to.ps.find? (w_ so)).map (·.1)).getD "":=by
 unfold vc;rw[lX hw];cases to.ps.find? (w_ so)<;>rfl
theorem UX (T:TabAt n m Y W){ps:List (String×Nat×Nat)}{cs ct:List Nat}{si ni:Option Nat}{fl:Nat}(lQ:tO W p to q ps cs ct si ni fl)(hw:to.how≠3)(hS:vt m Y z a so)(hn:∀x∈to.ps,x.1∈namesOf z)(hl:W.rows.length<=900000)(k:Nat) :
  lY (k+5) .y8 [.loc m,iv a,iv p] Y=some (.str (vc so to),Y):=by
 refine(lQ.pC.row lQ.row).elim λrp x=>?_;have hp:=th hl (nf x.at');have oj:=th hl (nf lQ.row);have ip:=T.nD x.at' hp;have ik:=o3 Y rp;have iq:=T.nD lQ.row oj;have i1:mA Y (.int 1) (Row.obj ps cs ct si ni fl).pv=some (.tup (ps.map nj)):=qY _ _ _ _;refine lQ.rJ.zip.elim λzs lP=>?_;rw[WV hw];refine nr (Kw _ _ _) λR hR=>?_;kd_p;refine mD (b:=false) (by rw[x.yL.2];rfl) (nF ?_);kd_p;refine vS zs (λb=>nj b.1) (λx3:Option PV=>[some (.loc m),some (iv a),some (iv p),x3]) (λb=>w_ so b.2) none rfl ?_ (λb i hb hf N hN=>?_) λhf i=>?_
 ·kd_p;refine md (wM T lQ.pC lQ.row rfl hp oj _) ?_;kd_p;exact SI.t (by rw[← lP.a,aR];rfl)
 ·have zr:=lP.r b hb
  have i0:=Bk Y b.1
  have i2:=ED Y b.1;refine(hS.QD b.1.1 (zr.1.symm▸hn b.2 (lP.b▸c7 hb))).elim λv hv=>?_;kd_p
  ·refine md (hv.1 _) ?_;kd_p
  ·refine mD (x:=decide (((b.1.2.2&&&1:Nat):Int)=0)&&decide (v=.none)) (b:=w_ so b.2) (by rw[aau,← zr.1,← zr.2.1,hv.2];exact lT (·&&_) (rv _ 0)) (nh (λh=>?_) λh=>?_)
   ·kd_p;exact hR _ _ (by rw[EI lP (hf h)];exact lT PV.str zr.1)
   ·exact hN _ h
 ·kd_p;exact hR _ _ (by rw[EI lP hf];rfl)
end
structure rl (C:n_)(Y τ:St)(fs:List (String×PV))(L:List mC)(c:Nat):Prop where
 e:τ=Y++(.inst C fs::L)
 len:fs.length<=c
theorem rl.at' {C:n_}{Y τ:St}{fs:List (String×PV)}{L:List mC}{c:Nat}(J:rl C Y τ fs L c)(i:Nat):τ[Y.length+i]? =(mC.inst C fs::L)[i]?:=by
 rw[J.e,ee (aD _ _),ek]
theorem rl.keep {C:n_}{Y τ:St}{fs:List (String×PV)}{L:List mC}{c:Nat}(J:rl C Y τ fs L c):∀j,j<Y.length->τ[j]? =Y[j]?:=λj hj=>by rw[J.e,bB hj]
theorem rl.tl {C:n_}{Y τ:St}{fs:List (String×PV)}{L:List mC}{c:Nat}(J:rl C Y τ fs L c):τ.length=Y.length+(L.length+1):=by rw[J.e,ar];rfl
theorem rl.push {C:n_}{Y τ:St}{fs:List (String×PV)}{L:List mC}{c:Nat}(J:rl C Y τ fs L c)(o:mC):rl C Y (τ++[o]) fs (L++[o]) c:=⟨by rw[J.e,bR];rfl,J.len⟩
theorem rl.set {C:n_}{Y τ:St}{fs:List (String×PV)}{L:List mC}{c:Nat}(J:rl C Y τ fs L c)(hc:c<=500){a:String}{v w:PV}(e:v=w){Q:St->Prop}(q:∀τ',rl C Y τ' (putAt a w fs) L (c+1)->Q τ'):VO (wN τ a v (.loc Y.length)) Q :=
 .e (Hy (J.at' 0) (ae J.len hc)) (q _ ⟨by rw[J.e,e,List.set_append_right _ _ (aB _),e_];rfl,ae (G_ ..) (aU J.len)⟩)
theorem rl.new {C:n_}{Y τ:St}{fs:List (String×PV)}{L:List mC}{c:Nat}(J:rl C Y τ fs L c)(hc:c<=500)(o:mC){a:String}{Q:St->Prop}(q:∀τ',rl C Y τ' (putAt a (.loc (Y.length+(L.length+1))) fs) (L++[o]) (c+1)->Q τ'):VO (wN (τ++[o]) a (.loc τ.length) (.loc Y.length)) Q :=
 (J.push o).set hc (lT PV.loc J.tl) q
structure xk (n:Nat)(Y:St)(rs:List Row):Prop where
 inst:Y[n]? =some (.inst .sf (Po n))
 rows:Y[n+1]? =some (.list (rs.map Row.pv))
 index:Y[n+2]? =some (.pn (idxOf rs))
 decls:Y[n+3]? =some (.list [.none])
theorem E8 {n a b:Nat}(h:a≠b):n+a≠n+b:=λe=>h (jm e)
theorem xk.put {n:Nat}{Y:St}{rs:List Row}(T:xk n Y rs)(r:Row):xk n (tM Y n ⟨rs,[]⟩ r) (rs++[r]) where
 inst:=(Bi (E8 (a:=0) (by decide)) (E8 (a:=0) (by decide))).trans T.inst
 rows:=by rw[aO];exact(aX F8).trans (bx (px T.rows))
 index:=bx (by rw[bw];exact px T.index)
 decls:=(Bi (E8 (by decide)) (E8 (by decide))).trans T.decls
theorem aav {n:Nat}{Y:St}{rs:List Row}(T:xk n Y rs){r:Row}(hr:r∉rs)(hl:rs.length<=1000)(k:Nat){R:PV->St->Prop}
  (h:∀σ',xk n σ' (rs++[r])->σ'.length=Y.length->(∀j,j<n->σ'[j]? =Y[j]?)->R (iv rs.length) σ'):WC (lY (k+1) .wJ [.loc n,r.pv] Y) R:=by
 have hl:rs.length<=1000000:=ae hl (by decide)
 have a1:oc Y "rows" (.loc n)=some (.loc (n+1)):=(tC T.inst).trans rfl
 have a2:oc Y "index" (.loc n)=some (.loc (n+2)):=(tC T.inst).trans rfl
 have mem:tG Y r.pv (.loc (n+2))=some (decide (r∈rs)):=(Ig T.index).trans ((lW r.qo).trans (lT some (DQ rs r)));refine nS (Kt _ _) λR' hR=>?_;kd_p;refine mD (decide_eq_false hr) (nF ?_);kd_p;refine .e ((um T.rows).trans (lT (λk:Nat=>some (PV.int (k:Int))) (au _))) ?_;kd_p;refine⟨xP T.rows,?_⟩;kd_p;refine .e (xO T.rows (by rw[au];exact hl)) ?_
 have b2:oc (Y.set (n+1) (.list (rs.map Row.pv++[r.pv]))) "index" (.loc n)=some (.loc (n+2)):=(tC ((aX (iT n)).trans T.inst)).trans rfl
 have hi:=(aX (l:=Y) (a:=.list (rs.map Row.pv++[r.pv])) (cp (F8 (n:=n)))).trans T.index
 have Ca:tv (Y.set (n+1) (.list (rs.map Row.pv++[r.pv]))) r.pv (iv rs.length) (.loc (n+2))=some (tM Y n ⟨rs,[]⟩ r):=by
  rw[tM,Lm,← LU hr (iv rs.length)];exact MF hi r.qo (by rw[idxOf,au,iS];exact hl)
 kd_p;exact hR _ _ _ (h _ (T.put r) (by rw[tM,bw,bw]) λj hj=>Bi (aZ (eB 1 hj)) (aZ (eB 2 hj)))
theorem K6:pP.Nodup:=by decide
noncomputable def ahx:Row->Option (List Nat)
 |.oK ps=>some ps
 |_=>none
theorem Vz {ps:List Nat}(h:Row.oK ps∈pP):uF pP ps:=by
 have:ps=[8,9]:=List.mem_singleton.mp (show ps∈pP.filterMap ahx from List.mem_filterMap.mpr ⟨_,h,rfl⟩);subst this;exact⟨by decide,by decide,w6 ⟨by decide,by decide,by decide,by decide,_,rfl,nofun⟩ ⟨by decide,by decide,by decide,by decide,_,rfl,nofun⟩⟩
structure RK where
 τ:St
 x:Option PV
structure TbJ (Y:St)(bs:List Row)(u:RK):Prop where
 tab:xk Y.length u.τ bs
 len:u.τ.length=Y.length+9
 keep:∀j,j<Y.length->u.τ[j]? =Y[j]?
theorem YE (Y:St)(k:Nat){R:PV->St->Prop}
  (h:∀σ',xk Y.length σ' pP->σ'.length=Y.length+9->(∀j,j<Y.length->σ'[j]? =Y[j]?)->R .none σ'):WC (lY (k+2) .GQ [.loc Y.length] (Y++[.inst .sf []])) R:=by
 have J:rl .sf Y (Y++[.inst .sf []]) [] [] 0:=⟨rfl,aB _⟩;refine nS (So _) λR' hR=>?_;generalize Y++[mC.inst .sf []]=τ at J⊢;kd_p
 iterate 8 (refine J.new (by decide) _ λτ J=>?_;kd_p)
 iterate 2 (refine J.set (by decide) rfl λτ J=>?_;kd_p)
 refine sV pP Row.pv (.seq (.tup (pP.map Row.pv))) (λu:RK=>[some (.loc Y.length),u.x]) (λu=>u.τ) (TbJ Y) ?_ (λbs r cs u hs J N hN=>?_) λu J=>?_
 ·kd_p;exact⟨⟨τ,none⟩,rfl,rfl,rfl,rfl,⟨(J.at' 0).trans (by with_unfolding_all rfl),J.at' 1,J.at' 2,J.at' 3⟩,J.tl,J.keep⟩
 ·have yO:=K6;rw[hs,fe] at yO
  have mp:ql mI u.τ "put" (.loc Y.length)=some .wJ:=(wY J.tab.inst).trans rfl;kd_p;refine aav J.tab (λhm=>yO.2.2 r hm r (aG ..) rfl) (ae (bE (tB hs)) (by decide)) _ λτ2 TI2 ahy afu=>?_;kd_p;exact⟨rfl,hN ⟨τ2,_⟩ rfl ⟨TI2,ahy.trans J.len,λj hj=>(afu j hj).trans (J.keep j hj)⟩⟩
 ·kd_p;exact hR _ _ _ (h u.τ J.tab J.len J.keep)
theorem aaw {n:Nat}(Y:St)(k:Nat){R:PV->St->Prop}
  (h:∀σ',σ'[Y.length]? =some (.inst .qk (Ih n))->(∀j,j<Y.length->σ'[j]? =Y[j]?)->Y.length<=σ'.length->R .none σ'):WC (lY (k+1) .G2 [.loc Y.length,.loc n] (Y++[.inst .qk []])) R:=by
 have J:rl .qk Y (Y++[.inst .qk []]) [] [] 0:=⟨rfl,aB _⟩;refine nS (SA _ _) λR' hR=>?_;generalize Y++[mC.inst .qk []]=τ at J⊢;kd_p
 iterate 4 (refine J.set (by decide) rfl λτ J=>?_;kd_p)
 exact hR _ _ _ (h _ ((J.at' 0).trans (by with_unfolding_all rfl)) J.keep (by rw[J.tl];exact aD _ _))
theorem YF {n m:Nat}{Y τ:St}(TI:xk n Y pP)(hm:n+3<m)(ahz:τ[m]? =some (.inst .qk (Ih n)))(q8:∀j,j<m->τ[j]? =Y[j]?):TabAt n m τ ⟨pP,[]⟩ :=
 have lt:∀{a},a<=3->n+a<m:=λh=>aT (av h n) hm
 ⟨(q8 n (lt (a:=0) (by decide))).trans TI.inst,(q8 (n+1) (lt (by decide))).trans TI.rows,(q8 (n+2) (lt (by decide))).trans TI.index,⟨[],(q8 (n+3) hm).trans TI.decls,rfl,λi d b e _=>nomatch e⟩,ahz,hm,rfl,K6,λps h=>Vz h,aC _⟩
theorem qO.mono {A B:One->Prop}(h:∀o,A o->B o){k:Kd}(x:qO A k):qO B k:=⟨x.1,x.2.1,λq hq=>h q (x.2.2.1 q hq),x.2.2.2⟩
theorem BK.mono {c:Nat}{A B:One->Prop}(h:∀o,A o->B o){k:Kd}(x:BK c A k):BK c B k:=⟨x.1,x.2.1,λq hq=>h q (x.2.2 q hq)⟩
theorem oX.mono {z:Bool}(d:Nat):∀o,oX z d o->oX z (d+1) o:=by
 induction d with
 |zero=>intro o h;exact h.elim
 |succ d ih =>
  intro o h;rcases h with⟨a,b,c,e,f⟩|⟨a,k,b,c⟩
  ·exact .inl ⟨a,b,c,e,λp hp=>(f p hp).mono ih⟩
  ·exact .inr ⟨a,k,b,c.1.mono ih,c.2⟩
theorem BW.mono {z:Bool}{c:Nat}(d:Nat):∀o,BW z c d o->BW z c (d+1) o:=by
 induction d with
 |zero=>intro o h;exact h.elim
 |succ d ih =>
  intro o h;rcases h with⟨a1,a2,a3,a4,a5,a6⟩|⟨a,k,b,e⟩
  ·exact .inl ⟨a1,a2,a3,λp hp=>(a4 p hp).mono ih,a5,a6⟩
  ·exact .inr ⟨a,k,b,e.mono ih⟩
theorem afv (m:Nat)(h:m=0\/m=512):mT m/\¬(m&&&6144≠0):=by
 rcases h with rfl|rfl
 ·exact⟨⟨by decide,by decide⟩,by decide⟩
 ·exact⟨⟨by decide,by decide⟩,by decide⟩
theorem Ma {a:String}{f:mj->Nat}:∀{l:List mj},(l.map (·.1)).Nodup->(∀p∈l,f p<=1)->(∀p∈l,p.1≠a->f p=0)->(l.map f).sum<=1
 |[],_,_,_=>by simp
 |p::l,hn,h1,h0=>by
  rw[a9,dr] at hn;have ih:=Ma hn.2 (λq hq=>h1 q (aE _ hq)) λq hq=>h0 q (aE _ hq);rw[a9,jn];by_cases hp:p.1=a
  ·have:(l.map f).sum=0:=by
    have hz:∀q∈l,f q=0:=λq hq=>h0 q (aE _ hq) λe=>hn.1 (by rw[hp,← e];exact List.mem_map.mpr ⟨q,hq,rfl⟩);clear ih h1 h0 hn
    induction l with
    |nil=>rfl
    |cons b r ih=>rw[a9,jn,hz b (by simp),ih λq hq=>hz q (aE _ hq)]
   have:=h1 p (by simp);lia
  ·have:=h0 p (by simp) hp;lia
theorem BC {z:Bool}(d:Nat):∀o,qG z d o->oX z (2*d) o/\BW z 1 (2*d) o:=by
 induction d with
 |zero=>intro o h;exact h.elim
 |succ d ih =>
  rintro o ⟨h1,h2,h3,h4,h5,h6⟩;have hs:=G9 h5;have kinds:∀p∈o.ps,qO (oX z (2*d+1)) p.2.1/\BK 1 (BW z 1 (2*d+1)) p.2.1:=λp hp=>by
   rcases(h6 p hp).2 with⟨m,hm,e⟩|⟨_,m,q,hm,hq,e⟩
   ·rw[e];have he:ou (m,([]:List One))=[]:=by unfold ou;split<;>rfl
    exact⟨⟨wR hm,by simp,by simp,he⟩,wR hm,by simp,by simp⟩
   ·obtain⟨q1,q2⟩:=ih q hq;obtain⟨Cr,RL⟩:=afv m hm;rcases e with e|⟨_,h,hh,e⟩
    ·rw[e];have he:ou (m,[q])=[q]:=lX RL;exact⟨⟨Cr,by simp,λx hx=>by rw[bH] at hx;subst hx;exact oX.mono _ _ q1,he⟩,Cr,by simp,λx hx=>by rw[bH] at hx;subst hx;exact BW.mono _ _ q2⟩
    ·rw[e];have he:ou (m,[One.mk [] (some (0,[q])) none 0 h])=[One.mk [] (some (0,[q])) none 0 h]:=lX RL;have he0:ou (0,[q])=[q]:=lX (show¬((0:Nat)&&&6144≠0) by decide);have RM:mT 0:=⟨by decide,by decide⟩;refine⟨⟨Cr,by simp,λx hx=>?_,he⟩,Cr,by simp,λx hx=>?_⟩
     ·rw[bH] at hx;subst hx;exact .inr ⟨hh,_,rfl,⟨RM,by simp,λx hx=>by rw[bH] at hx;subst hx;exact q1,he0⟩,rfl⟩
     ·rw[bH] at hx;subst hx;exact .inr ⟨hh,_,rfl,RM,by simp,λx hx=>by rw[bH] at hx;subst hx;exact q2⟩
  have e2:2*(d+1)=(2*d+1)+1:=by lia
  rw[e2];refine⟨.inl ⟨h4,by simpa using hs.2.2.2,λp hp=>⟨h5.subset (List.mem_map.mpr ⟨p,hp,rfl⟩),λoi=>?_⟩,?_,λp hp=>(kinds p hp).1⟩,.inl ⟨h4,by lia,h5,λp hp=>(kinds p hp).2,(λk hk=>by rw[h1] at hk;cases hk),λk hk=>by rw[h2] at hk;cases hk⟩⟩
  ·rcases(h6 p hp).2 with⟨m,hm,e⟩|⟨Jt,_⟩
   ·exact⟨m,wR hm,e⟩
   ·exact absurd Jt oi
  ·refine Ma (a:=rz z) hs.2.1 (λp hp=>(kinds p hp).1.2.1) λp hp oi=>?_;rcases(h6 p hp).2 with⟨m,hm,e⟩|⟨Jt,_⟩
   ·rw[e];rfl
   ·exact absurd Jt oi
theorem O1 {z:Bool}(d:Nat):∀o,mJ z d o->BW z 3 d o:=by
 induction d with
 |zero=>intro o h;exact h.elim
 |succ d ih =>
  have wk:∀k,xc (mJ z d) k->BK 3 (BW z 3 d) k:=λk hk=>by
   obtain⟨a,b,c⟩:=A7 hk;exact⟨a,by lia,λq hq=>ih q (c q hq)⟩
  rintro o (⟨hz,kd,hk,rfl⟩|⟨h1,h2,h3,h4,h5,h6⟩)
  ·exact .inr ⟨.inl rfl,kd,rfl,wk kd hk⟩
  ·refine .inl ⟨h1,h2,h3,λp hp=>?_,λk hk=>?_,λk hk=>?_⟩
   ·rcases(h4 p hp).2 with⟨_,m,hm,e⟩|⟨_,hk⟩
    ·rw[e];exact⟨wR hm,by simp,by simp⟩
    ·exact wk _ hk
   ·rcases h5 with h5|⟨m,hm,h5⟩
    ·rw[h5] at hk;cases hk
    ·rw[h5] at hk;cases hk;exact⟨DV hm,rfl⟩
   ·rcases h6 with h6|⟨m,hm,h6⟩
    ·rw[h6] at hk;cases hk
    ·rw[h6] at hk;cases hk;exact⟨wR hm,rfl⟩
def DP (n:Nat)(v:PV):Prop:=v.isData=true/\v.depth<=n
theorem E9 {n:Nat}:∀{l:List PV},(∀v∈l,DP n v)->PV.pF l=true/\PV.rT l<=n
 |[],_=>⟨rfl,aC _⟩
 |a::l,h=>⟨(aL a.isData (PV.pF l)).mpr ⟨(h a (aG ..)).1,(E9 λv hv=>h v (aE _ hv)).1⟩,Nat.max_le.mpr ⟨(h a (aG ..)).2,(E9 λv hv=>h v (aE _ hv)).2⟩⟩
theorem BD {n:Nat}{l:List PV}(h:∀v∈l,DP n v):DP (n+1) (.tup l):=⟨(E9 h).1,aU (E9 h).2⟩
theorem DP.le {n k:Nat}{v:PV}(h:DP n v)(hk:n<=k):DP k v:=⟨h.1,ae h.2 hk⟩
theorem DP.ok {n:Nat}{v:PV}(h:DP n v)(hn:n<=40):v.nQ=true:=by
 unfold PV.nQ;rw[h.1,du,decide_eq_true_eq];exact ae h.2 hn
theorem PH {n:Nat}{k:Kd}(h:∀o∈k.2,DP n o.pv):DP (n+2) (mz k):=by
 rw[sT];refine BD λv hv=>?_;simp only[bT,ez,or_false] at hv;rcases hv with rfl|rfl
 ·exact⟨rfl,by show 0<=_;lia⟩
 ·exact BD λv hv=>by obtain⟨o,ho,rfl⟩:=List.mem_map.mp hv;exact h o ho
theorem O2 {n:Nat}{x:Option Kd}(h:∀k,x=some k->DP n (mz k)):DP n (mS x):=by
 cases x with
 |none=>exact⟨rfl,by show 0<=_;lia⟩
 |some k=>exact h k rfl
theorem O3 {z:Bool}(d:Nat):∀o,mJ z d o->DP (5*d) o.pv:=by
 induction d with
 |zero=>intro o h;exact h.elim
 |succ d ih =>
  intro o h;have hk:∀k:Kd,(∀o∈k.2,mJ z d o)->DP (5*d+2) (mz k):=λk hk=>PH λq hq=>ih q (hk q hq);rw[One.tH];have uG:DP (5*d+4) (.tup (o.ps.map oT)):=BD λv hv=>by
   obtain⟨p,hp,rfl⟩:=List.mem_map.mp hv;rw[ER];refine BD λv hv=>?_;simp only[bT,ez,or_false] at hv;rcases hv with rfl|rfl|rfl
   ·exact⟨rfl,by show 0<=_;lia⟩
   ·exact hk _ (Em h hp).2.2
   ·exact⟨rfl,by show 0<=_;lia⟩
  have Gl:DP (5*d+4) (mS o.tx):=O2 λk e=>(hk k (by
   rcases h with⟨hz,kd,hk,rfl⟩|⟨h1,h2,h3,h4,h5,h6⟩
   ·simp only[One.tx,dM] at e;subst e;exact(A7 hk).2.2
   ·rcases h5 with h5|⟨m,hm,h5⟩
    ·rw[h5] at e;cases e
    ·rw[h5] at e;cases e;simp)).le (by lia)
  have hnx:DP (5*d+4) (mS o.nx):=O2 λk e=>(hk k (by
   rcases h with⟨hz,kd,hk,rfl⟩|⟨h1,h2,h3,h4,h5,h6⟩
   ·simp[One.nx] at e
   ·rcases h6 with h6|⟨m,hm,h6⟩
    ·rw[h6] at e;cases e
    ·rw[h6] at e;cases e;simp)).le (by lia)
  refine BD λv hv=>?_;simp only[bT,ez,or_false] at hv;rcases hv with rfl|rfl|rfl|rfl|rfl
  ·exact uG
  ·exact Gl
  ·exact hnx
  ·exact⟨rfl,by show 0<=_;lia⟩
  ·exact⟨rfl,by show 0<=_;lia⟩
theorem ac5 {z:Bool}{d:Nat}(hd:d<=3){k:Kd}(h:∀o∈k.2,mJ z d o):vy k:=(PH λo ho=>O3 d o (h o ho)).ok (by lia)
theorem afw {z:Bool}(d:Nat)(hd:d<=3):∀o,mJ z d o->TW d o:=by
 induction d with
 |zero=>intro o h;exact h.elim
 |succ d ih =>
  intro o h;have ih:=ih (by lia);have kw:∀k,TK z d k->KW (TW d) k:=λk hk=>⟨hk.2.1,λq hq=>ih q (hk.2.2 q hq)⟩;have JW:=O3 (d+1) o h;refine⟨⟨λp hp=>by have:=(Em h hp).2.1;lia,λn g e=>ac5 (by lia) (vU h e).2.2⟩,?_,λp hp=>kw _ (Em h hp),λk hk=>?_,λk hk=>?_⟩
  ·rw[One.tH] at JW;have uS:PV.pF [.tup (o.ps.map oT),mS o.tx,mS o.nx,.int (o.called:Int),.int (o.how:Int)]=true:=by have:=JW.1;simpa only[PV.isData] using this
   have hd2:PV.rT [.tup (o.ps.map oT),mS o.tx,mS o.nx,.int (o.called:Int),.int (o.how:Int)]+1<=5*(d+1):=JW.2;unfold Rest PV.nQ;rw[aL,decide_eq_true_eq];simp only[PV.pF,aL] at uS;refine⟨by show PV.pF [_,_,_,_]=true;simp only[PV.pF,aL];exact⟨uS.1,uS.2.1,uS.2.2.1,uS.2.2.2.1,trivial⟩,?_⟩;exact ae (show PV.rT [_,_,_,_]+1<=5*(d+1) from hd2) (by lia)
  ·rcases h with⟨hz,kd,qJ,rfl⟩|⟨h1,h2,h3,h4,h5,h6⟩
   ·simp only[One.tx,dM] at hk;subst hk;exact kw _ (A7 qJ)
   ·rcases h5 with h5|⟨m,hm,h5⟩
    ·rw[h5] at hk;cases hk
    ·rw[h5] at hk;cases hk;exact⟨by simp,by simp⟩
  ·rcases h with⟨hz,kd,qJ,rfl⟩|⟨h1,h2,h3,h4,h5,h6⟩
   ·simp[One.nx] at hk
   ·rcases h6 with h6|⟨m,hm,h6⟩
    ·rw[h6] at hk;cases hk
    ·rw[h6] at hk;cases hk;exact⟨by simp,by simp⟩
theorem afx {z:Bool}(m:Nat):∀k:Kd,(∀q∈k.2,oX z m q)->SW (m+1) k:=by
 induction m with
 |zero =>
  intro k h o ho;exact(h o ho).elim
 |succ m ih =>
  intro k h o ho;rcases h o ho with⟨a,_,_,_,f⟩|⟨a,kd,b,c⟩
  ·refine⟨λh1 h2=>?_,λp hp=>ih _ (f p hp).2.2.1⟩;have:qm o=false:=by
    have:o.how=2:=by lia
    simp[qm,this]
   rw[this] at h2;cases h2
  ·refine⟨λ_ _=>⟨kd,b,ih _ c.1.2.2.1⟩,λp hp=>?_⟩;rw[c.2] at hp;cases hp
section
variable {n m:Nat}{Y σ':St}{W W0 W1 W' pa:Wd}{t p q x y:Nat}{r:Row}{d:Nat}{f:Nat}{P:Nat->One->Prop}{o s s2:One}{z:Bool}{name:String}
theorem TabAt.ds {a i j:Nat}(T:TabAt n m Y W)(h0:Y[a]? =some (o_ j z))(D:DS a z Y σ' i)(h:a<n):TabAt n m σ' W :=
 have g:∀{k x:Nat},x=n+k->x≠a:=λe=>e▸bJ (aW h (aD n _))
 T.same λx o' e hj=>(D.keep x (px e) (hj.elim (g (k:=0)) λhj=>hj.elim g λhj=>hj.elim g λhj=>hj.elim g λhj=>hj.elim (λe=>e▸bJ (fm h (aT (aD n 3) T.hm))) λhj=>hj.elim λb h=>h.elim λv hv e=>Hn h0 _ _ (e▸hv))).trans e
theorem NW (T:TabAt n m Y W)(hs:qG z 3 s)(hl:W.rows.length+29120<=900000)(oH:W.lU.length+364<=800000){R:PV->St->Prop}
  (h:∀p σ' W',l7 n m Y W σ' W' 29120->W'.lU.length<=W.lU.length+364->PF 1 6 W' p s->R (iv p) σ'):WC (lY 49 .uZ [.loc n,s.pv,.int 1] Y) R :=
 H4 (z:=z) (c:=1) (f:=1) (.inr ⟨rfl,aB _⟩) (by decide) 6 32 T s (BC 3 s hs).2 hl oH h
theorem NX (T:TabAt n m Y W)(hs:mJ z 3 s)(hl:W.rows.length+7280<=900000)(oH:W.lU.length+91<=800000){R:PV->St->Prop}
  (h:∀p σ' W',l7 n m Y W σ' W' 7280->W'.lU.length<=W.lU.length+91->PF 0 3 W' p s->R (iv p) σ'):WC (lY 49 .uZ [.loc n,s.pv,.int 0] Y) R :=
 H4 (z:=z) (c:=3) (f:=0) (.inl rfl) (by decide) 3 38 T s (O1 3 s hs) hl oH h
theorem M0 (T:TabAt n m Y W){k:Kd}(hm:mT k.1)(h3:k.2.length<=3)(hA:∀o∈k.2,mJ z 3 o)(hl:W.rows.length+21855<=900000)(oH:W.lU.length+273<=800000){R:PV->St->Prop}
  (h:∀u σ' W',l7 n m Y W σ' W' 21855->W'.lU.length<=W.lU.length+273->Den 0 (PF 0 3 W') W' u k->R (iv u) σ'):WC (lY 49 .tw [.loc n,mz k,.int 0] Y) R :=
 HJ (z:=z) (c:=3) (f:=0) (d:=3) (K:=44) (.inl rfl) (by decide) (H4 (.inl rfl) (by decide) 3 37) T (kd:=k) ⟨hm,h3,λq hq=>O1 3 q (hA q hq)⟩ hl oH h
theorem EJ (T:TabAt n m Y W){k t:Kd}{qy tid:Nat}(hk:qO (oX z 6) k)(D1:Den 1 (PF 1 6 W) W qy k)(D:rB 0 (PF 0 3 W) W tid t)(hm:mT t.1)(hA:∀o∈t.2,mJ z 3 o)(rh:objs W tid<=3)(hl:W.rows.length+92200<=900000){R:PV->St->Prop}
  (h:∀σ' W',l7 n m Y W σ' W' 67200->W'.lU=W.lU->R (.str (mM 7 k t)) σ'):WC (lY 49 .uh [.loc m,iv qy,iv tid] Y) R :=
 (MT (t:=t) hk D1).elim λval lQ =>
 have hc:objs W qy*pb 6<=67200:=aM 67200 (ae lQ.cnt hk.2.1)
 NT z 6 T val lQ.vals D1.lt D hm hA (aM 8 rh) (ae (ak (av hc _) 25000) hl) 20 λσ' W' st hb=>lQ.first.symm▸h σ' W' (st.weaken hc) hb
theorem PI {P:One->Prop}{b:Nat}(h:P s):∀o∈((b,[s]):Kd).2,P o:=List.forall_mem_singleton.mpr h
theorem O4:mT 0:=⟨(by decide:(0:Nat)<2^14),(by decide:nR 0=0)⟩
theorem E_ {k:Kd}(hs:qG z 3 s)(hk:k=(0,[s])\/k=(512,[s])):qO (oX z 6) k :=
 have hw:=(BC 3 s hs).1
 hk.elim (λe=>e▸⟨O4,aB _,PI hw,lX (show¬((0:Nat)&&&6144≠0) by decide)⟩) λe=>e▸⟨⟨(by decide:(512:Nat)<2^14),(by decide:nR 512=512)⟩,aB _,PI hw,lX (show¬((512:Nat)&&&6144≠0) by decide)⟩
theorem YG:List.foldl both (0,[]) (dO (λx:Nat×Kd=>x.2) [(p,(0,[s])),(4,(2^9,[]))])=(512,[s]):=by rw[sS];exact lT (·,[s]) (by decide:nR (0|||(512|||0))=512)
theorem NY (T:TabAt n m Y W)(hP:PF 1 6 W p s){c:Nat}(hc:c∈mE W [p,4]){r:Row}(hr:W.rows[c]? =some r)(hO:n7 r=true):c=p :=
 have r4:W.rows[4]? =some (.key "undefined"):=T.nJ rfl
 (Dd.mp hc).elim (λh=>nomatch h) λh=>(List.mem_flatMap.mp h).elim λx h=>(List.mem_cons.mp h.1).elim (λe=>by rw[e,Bp T hP] at h;exact List.mem_singleton.mp h.2) λe=>by
  rw[List.mem_singleton.mp e,vT (by decide) r4 nofun] at h;rw[List.mem_singleton.mp h.2,r4] at hr;cases hr;cases hO
theorem aax (T:TabAt n m Y W)(hP:PF 1 6 W p s)(hl:W.rows.length+1<=900000){R:PV->St->Prop}
  (h:∀u σ' W',l7 n m Y W σ' W' 1->W'.lU=W.lU->Den 1 (PF 1 6 W') W' u (512,[s])->R (iv u) σ'):WC (lY 49 .union [.loc n,.tup [iv p,.int 4]] Y) R :=
 have r4:W.rows[4]? =some (mq 1 9):=T.nJ (r:=.key "undefined") rfl
 have DL:oG 1 (PF 1 6 W) W [(p,(0,[s])),(4,(2^9,[]))]:=⟨w6 (w0 T hP) (zo (Ho T r4).1 (by decide) r4 (.inr ⟨rfl,rfl⟩)),w6 O4 (Bl (by decide)),λp o h=>h.row,λa b o r CF ha hr Aq hb hbK=>by
  refine CF.row.elim λr' x=>?_;have hO:n7 r=true:=aq (x.1.symm.trans hr)▸x.2;rw[NY T hP hbK hb (Bj hO),← NY T hP ha hr hO,hr] at hb;rw[aq hb,DT] at Aq;cases Aq⟩
 Hl T DL (a8 rfl) hl (.tup [iv p,.int 4]) (.inl rfl) 46 λu σ' W' st hb hD=>h u σ' W' st hb (YG (s:=s)▸hD (PF 1 6 W') λp o h=>h.mono st.le)
theorem DX (hP:PF 1 (d+1) W p s)(hw:s.how=1):∃ps cs ct si ni,W.rows[p]? =some (.obj ps cs ct si ni 1) :=
 hP.e (λ_ _ _ _ _ _ _ _ R=>have h:=(R.ex rfl).1 (by rw[hw];decide);⟨_,_,_,_,_,by have r:=R.row;rw[← h.1,h.2,hw] at r;exact r⟩) (λ_ _ h=>nomatch h.symm.trans hw) (λ_ _ h=>nomatch h.symm.trans hw)
noncomputable def wj (p q:Nat):List Nat:=if p=q then[p] else if p<q then[p,q] else[q,p]
theorem Hq {P:List Nat->Prop}(k1:p=q->P [p])(k2:p<q->P [p,q])(k3:q<p->P [q,p]):P (wj p q) :=
 by
 unfold wj;by_cases e:p=q
 ·rw[lW e];exact k1 e
 ·rw[lX e];by_cases h:p<q
  ·rw[lW h];exact k2 h
  ·rw[lX h];exact k3 (gd (b8 h) (cp e))
theorem YH {ks:List Nat}(hks:∀k∈ks,∃ps cs ct si ni,W.rows[k]? =some (.obj ps cs ct si ni 1)){ps:List (String×Nat×Nat)}{cs ct:List Nat}{si ni:Option Nat}{fl:Nat}:tF W ks (.obj ps cs ct si ni fl)=true:=by
 have e1:(ks.any λk=>decide ((k:Int)=uq W (.obj ps cs ct si ni fl)))=false:=List.any_eq_false.mpr λk hk hd=>(hks k hk).elim λ_ h=>h.elim λ_ h=>h.elim λ_ h=>h.elim λ_ h=>h.elim λ_ h =>
  nomatch (lT Row.fresh (aq (h.symm.trans (MH (l9 hd).symm).2))).trans (DT _)
 unfold tF;rw[e1,show(ks.any λk=>decide ((k:Int)=(Row.obj ps cs ct si ni fl).whole))=false from sh];rfl
theorem M1:rA (ins [p] q)=wj p q:=by
 unfold ins;by_cases e:p=q
 ·rw[lW (List.mem_singleton.mpr e.symm),wj,lW e];rfl
 ·rw[lX (λh=>e (List.mem_singleton.mp h).symm),wj,lX e];show(if p<=q then[p,q] else[q,p])=_;by_cases h:p<q
  ·rw[lW (aS h),lW h]
  ·rw[lX h,lX λh'=>h (gd h' e)]
theorem ac6 {P:Nat->Prop}(h1:P p)(h2:P q):∀k∈ins [p] q,P k:=λk hk=>(ud.mp hk).elim (λh=>List.mem_singleton.mp h▸h1) λh=>h▸h2
theorem ac7 (T:TabAt n m Y W)(hP:PF 1 6 W p s)(hQ:PF 1 6 W q s2)(hw:s.how=1)(xr:s2.how=1)(hl:W.rows.length+1<=900000){R:PV->St->Prop}
  (h:∀u σ' W',l7 n m Y W σ' W' 1->W'.lU=W.lU->u<W'.rows.length->l8 W' u=wj p q->R (iv u) σ'):WC (lY 49 .union [.loc n,.tup [iv p,iv q]] Y) R:=by
 have eK:mE W [p,q]=ins [p] q:=by
  show([p,q].flatMap (l8 W)).foldl ins []=_;rw[cX,cX,Bp T hP,Bp T hQ];rfl
 have mK:=ac6 (P:=λk=>∃ps cs ct si ni,W.rows[k]? =some (.obj ps cs ct si ni 1)) (DX hP hw) (DX hQ xr)
 have lt:∀{k:Nat},(∃ps cs ct si ni,W.rows[k]? =some (.obj ps cs ct si ni 1))->k<W.rows.length:=λh=>h.elim λ_ h=>h.elim λ_ h=>h.elim λ_ h=>h.elim λ_ h=>h.elim λ_ h=>nf h
 have nK:∀{i:Nat} {r:Row},pP[i]? =some r->E1 r=false\/r.fresh=false->i∉ins [p] q:=λhi oi hk=>(mK _ hk).elim λ_ h=>h.elim λ_ h=>h.elim λ_ h=>h.elim λ_ h=>h.elim λ_ h=>by
  rw[T.nJ hi] at h;cases h;exact oi.elim (λe=>nomatch e) λe=>nomatch e
 have eJ:n4 (ins [p] q)=ins [p] q:=lX (by rw[Fi,decide_eq_false (nK (i:=8) rfl (.inl rfl)),decide_eq_false (nK (i:=14) rfl (.inl rfl))];exactλh=>nomatch h)
 have eF:uj W (mE W [p,q])=wj p q:=by
  unfold uj;rw[eK,lX (nK rfl (.inl rfl)),lX (nK (i:=13) rfl (.inl rfl)),lX (nK rfl (.inl rfl)),rV,eJ,M1,List.filter_eq_self,← M1]
  exactλa ha=>(mK a (AW.mp ha)).elim λ_ h=>h.elim λ_ h=>h.elim λ_ h=>h.elim λ_ h=>h.elim λ_ h=>(HC h).symm.trans (YH mK)
 exact L2 T [p,q] (w6 (lt (DX hP hw)) (lt (DX hQ xr))) (.tup [iv p,iv q]) (.inl rfl) hl (by rw[eK];exact ae (E0 [p] q) (a8 rfl)) 46 λu σ' W' st hb hu hp=>h u σ' W' st hb hu (hp.trans eF)
theorem WC.two {x:Option (PV×St)}{R1 R2:PV->St->Prop}(a:WC x R1)(b:WC x R2){G:Prop}(k:∀r Y,R1 r Y->R2 r Y->G):G:=a.rec λr Y e q=>b.rec λr' σ' e' q'=>by
 cases e.symm.trans e';exact k _ _ q q'
theorem VA {a b:String}:firstOf [a,b]=if a="" then b else a:=by rw[y9,y9,Lf];by_cases h:b=""<;>simp[h]
theorem Mb {a b c d:String}(e1:a=c)(e2:b=d):firstOf [a,b]=if c="" then d else c:=e1▸e2▸VA
theorem VC {a b:String}(e:a=b):firstOf [a]=b:=by rw[e,y9,Lf];by_cases h:b=""<;>simp[h]
noncomputable def tP (f:One->String)(p q:Nat)(s s2:One):String:=if f (if p<q then s else s2)="" then f (if p<q then s2 else s) else f (if p<q then s else s2)
theorem WW {f:One->String}(same:p=q->f s=f s2):firstOf ((wj p q).map λx=>if x=p then f s else f s2)=tP f p q s s2 :=
 have sq:(if q=p then f s else f s2)=f s2:=if e:q=p then(lW e).trans (same e.symm) else lX e
 Hq (P:=λl=>firstOf (l.map λx=>if x=p then f s else f s2)=_)
  (λe=>by
   rw[tP,lX (jo (ax e.symm)),lX (jo (ax e.symm)),same e];exact VC ((ite_self _).trans (ite_self _).symm))
  (λh=>by rw[tP,lW h,lW h];exact Mb (lW rfl) sq)
  λh=>by rw[tP,lX (jq h),lX (jq h)];exact Mb sq (lW rfl)
theorem afy (T:TabAt n m Y W)(hs:qG z 3 s)(RN:qG z 3 s2)(hP:PF 1 6 W p s)(hQ:PF 1 6 W q s2){u:Nat}(hu:u<W.rows.length)(hp:l8 W u=wj p q){t:Kd}{tid:Nat}(D:rB 0 (PF 0 3 W) W tid t)(hm:mT t.1)(hA:∀o∈t.2,mJ z 3 o)(rh:objs W tid<=3)(hl:W.rows.length+159400<=900000){R:PV->St->Prop}
  (h:∀σ' W',l7 n m Y W σ' W' 134400->W'.lU=W.lU->R (.str (tP (λs=>mM 7 (0,[s]) t) p q s s2)) σ'):WC (lY 49 .uh [.loc m,iv u,iv tid] Y) R:=by
 have pY:W.rows.length+92200<=900000:=ae (av (by decide) _) hl
 have same:p=q->mM 7 (0,[s]) t=mM 7 (0,[s2]) t:=λe =>
  (EJ T (E_ hs (.inl rfl)) (w0 T hP) D hm hA rh pY (R:=λr _=>r=.str (mM 7 (0,[s]) t)) λ_ _ _ _=>rfl).two (e▸EJ T (E_ RN (.inl rfl)) (w0 T hQ) D hm hA rh pY (R:=λr _=>r=.str (mM 7 (0,[s2]) t)) λ_ _ _ _=>rfl) λr _ a b=>PV.str.inj (a.symm.trans b)
 have two:∀{P:Nat->Prop},P p->P q->∀x∈l8 W u,P x:=λ{P} a b=>hp▸Hq (P:=λl=>∀x∈l,P x) (λ_=>List.forall_mem_singleton.mpr a) (λ_=>w6 a b) λ_=>w6 b a
 have hv:Vals z 6 W u t (λx=>if x=p then mM 7 (0,[s]) t else mM 7 (0,[s2]) t):=two (.inr ⟨s,hP,(BC 3 s hs).1,lW rfl⟩) (.inr ⟨s2,hQ,(BC 3 s2 RN).1,if e:q=p then(lW e).trans (same e.symm) else lX e⟩)
 have ho:objs W u<=2:=ae (ed _ _) (hp▸Hq (P:=λl=>l.length<=2) (λ_=>a8 rfl) (λ_=>a8 rfl) λ_=>a8 rfl)
 have hc:objs W u*pb 6<=134400:=aM 67200 ho
 have e:=(lT (λl:List Nat=>firstOf (l.map λx=>if x=p then mM 7 (0,[s]) t else mM 7 (0,[s2]) t)) hp).trans (WW (f:=λs=>mM 7 (0,[s]) t) same);exact NT z 6 T _ hv hu D hm hA (aM 8 rh) (ae (ak (av hc _) 25000) hl) 20 λσ' W' st hb=>e▸h σ' W' (st.weaken hc) hb
end
noncomputable def afz:One:=.mk [] none none 0 0
noncomputable def BE:One:=.mk [] (some (0,[])) none 0 3
theorem IZ (e:Nat):(Row.arr e).kind≠8/\(Row.arr e).kind≠9/\(Row.arr e).kind≠7:=⟨(by show¬(11=8);decide),(by show¬(11=9);decide),by show¬(11=7);decide⟩
theorem ahA (s:String):(Row.key s).kind≠8/\(Row.key s).kind≠9/\(Row.key s).kind≠7:=⟨(by show¬(1=8);decide),(by show¬(1=9);decide),by show¬(1=7);decide⟩
section
variable {n m:Nat}{Y σ':St}{W W0 W1 W' pa:Wd}{t p q x y a b:Nat}{r:Row}{d:Nat}{f:Nat}{P:Nat->One->Prop}{o s s2 so to:One}{z:Bool}{name:String}
theorem ne3 {h:Nat}(w:h<=2):h≠3:=aZ (fa w)
theorem BF (hP:PF f (d+1) W p o)(hw:o.how<=2){G:Prop}(k:∀q ps cs ct si ni fl,tO W p o q ps cs ct si ni fl->G):G :=
 hP.e (λq ps cs ct si ni fl _ R=>k q ps cs ct si ni fl R.view) (λ_ _ h=>absurd h (ne3 hw)) (λ_ _ h=>absurd h (aZ (gD (fa hw))))
theorem Fb (hP:PF f (d+1) W p o)(hw:o.how=3){G:Prop}(k:∀e,W.rows[p]? =some (.arr e)->G):G :=
 hP.e (λ_ _ _ _ _ _ _ h _=>absurd hw (ne3 h)) (λe _ _ h _ _=>k e h) (λ_ _ h=>nomatch h.symm.trans hw)
theorem Eo (hA:mJ z (d+1) o){G:Prop}(k1:o.how=3->G)(k2:o.how<=2->(∀x∈o.ps,x.1∈namesOf z)->G):G :=
 hA.elim (λh=>h.2.elim λ_ h=>k1 (h.2▸rfl)) λh=>k2 h.1 λ_ hx=>h.2.2.1.subset (c7 hx)
theorem aay (T:TabAt n m Y W)(hs:qG z 3 s)(hP:PF 1 6 W p s)(hl:W.rows.length<=900000):vt m Y z p s :=
 have h:s.how<=2:=hs.2.2.2.1
 BF hP h λ_ _ _ _ _ _ _ lQ=>HM T lQ (ne3 h) hl
theorem aaz (T:TabAt n m Y W)(hs:mJ z 3 s)(hP:PF 0 3 W p s)(hl:W.rows.length<=900000):vt m Y z p s :=
 Eo hs (λh=>Fb hP h λ_ hr=>aat T hr h hl) λh _=>BF hP h λ_ _ _ _ _ _ _ lQ=>HM T lQ (ne3 h) hl
theorem Iq (T:TabAt n m Y W)(hA:mJ z 3 to)(hP:PF 0 3 W p to)(hS:vt m Y z a so)(hl:W.rows.length<=900000):lY 49 .sQ [.loc m,iv a,iv p] Y=some (.bool (uo so to),Y) :=
 Eo hA (λh=>Fb hP h λe hr=>(AH (λk=>AG T hr (IZ e) hl k) _ 44).trans (lT (λb=>some (PV.bool b,Y)) (by rw[MZ,decide_eq_false (not_not_intro h)];rfl)))
  λh hn=>BF hP h λ_ _ _ _ _ _ _ lQ=>Us T lQ (ne3 h) hS hn hl 44
theorem afA (T:TabAt n m Y W)(hA:mJ z 3 to)(hP:PF 0 3 W p to)(hS:vt m Y z a so)(hl:W.rows.length<=900000):lY 49 .y8 [.loc m,iv a,iv p] Y=some (.str (vc so to),Y) :=
 Eo hA (λh=>Fb hP h λe hr=>(Vy T hr (IZ e) hl _ 44).trans (lT (λb=>some (PV.str b,Y)) (lW h).symm))
  λh hn=>BF hP h λ_ _ _ _ _ _ _ lQ=>UX T lQ (ne3 h) hS hn hl 44
theorem afB (T:TabAt n m Y W)(hA:mJ z 3 to)(hP:PF 0 3 W p to)(hl:W.rows.length<=900000):∃b,∀k,lY (k+3) .uY [.loc m,iv p] Y=some (.bool b,Y) :=
 Eo hA (λh=>Fb hP h λe hr=>⟨false,λk=>AG T hr (IZ e) hl k⟩) λh hn=>BF hP h λ_ _ _ _ _ _ _ lQ=>⟨_,λk=>Hp T lQ hl k⟩
theorem LB (T:TabAt n m Y W):tO W 11 afz 11 [] [] [] none none 0 :=
 ⟨.inl rfl,T.nJ rfl,trivial,rfl,rfl,⟨λ_=>by decide,λ_=>rfl⟩,⟨λ_=>by decide,λ_=>rfl⟩,by decide⟩
def Ir (m:Nat)(Y:St)(p:Nat)(b:Bool)(v:PV)(x:Nat):Prop:=lY 49 .sQ [.loc m,iv x,iv p] Y=some (.bool b,Y)/\lY 49 .sQ [.loc m,v,iv x] Y=some (.bool false,Y)
theorem DY (T:TabAt n m Y W){b:Bool}(uR:∀k,lY (k+3) .uY [.loc m,iv p] Y=some (.bool b,Y))(hl:W.rows.length<=900000)(v:PV){s:String}(hr:pP[x]? =some (.key s))(hn:decide (iv x∈[PV.int 0,PV.int 1,PV.int 2,PV.int 13,PV.int 3,PV.int 4,PV.int 5,PV.int 10])=true):Ir m Y p false v x :=
 ⟨KG uR (λk=>YD hn k) 44,AH (λk=>AG T (T.nJ hr) (ahA _) hl k) v 44⟩
theorem YI (T:TabAt n m Y W)(hA:mJ z 3 to)(hP:PF 0 3 W p to)(hl:W.rows.length<=900000)(v:PV):∀x∈[5,4,0,10,11],Ir m Y p false v x :=
 (afB T hA hP hl).elim λb uR=>List.forall_mem_cons.mpr ⟨DY T uR hl v rfl (by decide),List.forall_mem_cons.mpr ⟨DY T uR hl v rfl (by decide),List.forall_mem_cons.mpr ⟨DY T uR hl v rfl (by decide),List.forall_mem_cons.mpr ⟨DY T uR hl v rfl (by decide),List.forall_mem_singleton.mpr
  ⟨KG uR (λk=>(HM (z:=z) T (LB T) (by decide) hl).PG k) 44,AH (λk=>Hp T (LB T) hl k) v 44⟩⟩⟩⟩⟩
theorem YJ (T:TabAt n m Y W)(hA:mJ z 3 to)(hP:PF 0 3 W p to)(hl:W.rows.length<=900000)(hr:W.rows[y]? =some (.num 1 1))(v:PV):∀x∈[6,y],Ir m Y p (uo BE to) v x :=
 have r6:W.rows[6]? =some (.key "string"):=T.nJ rfl
 List.forall_mem_cons.mpr ⟨⟨Iq T hA hP (LA T r6 (.inl rfl) (by decide) rfl hl) hl,AH (λk=>AG T r6 (by decide) hl k) v 44⟩,
  List.forall_mem_singleton.mpr ⟨Iq T hA hP (LA T hr (.inr rfl) (HL T hr (by simp)) rfl hl) hl,AH (λk=>AG T hr (by decide) hl k) v 44⟩⟩
end
noncomputable def v9:Nat->Ss Fn->Ss Fn
 |0,s=>s
 |_+1,.nil=>.nil
 |n+1,.cons _ r=>v9 n r
theorem JX {P:One->Prop}{b:Nat}{s:One}(h:P s):∀o∈((b,[s]):Kd).2,P o:=List.forall_mem_singleton.mpr h
theorem ac8 {V:Type}{P:V->Prop}{x y:V}(a:P x)(b:P y):∀u∈[x,y],P u:=List.forall_mem_cons.mpr ⟨a,List.forall_mem_singleton.mpr b⟩
theorem zP {V:Type}[DecidableEq V](a:V):(!decide (a=a))=false:=by rw[mY rfl];rfl
theorem JY (b:Nat)(s:One):PV.tup [.int (b:Int),.tup [s.pv]]=mz (b,[s]):=(sT (b,[s])).symm
theorem JZ (s:One):PV.tup [.int 0,.tup [s.pv]]=mz (0,[s]):=JY 0 s
theorem aaA:PV.tup [.tup [],.tup [.int 0,.tup []],.none,.int 0,.int 3]=BE.pv:=by with_unfolding_all rfl
section
variable {n m:Nat}{Y σ':St}{W W0 W1 W' pa:Wd}{t p q x y a b:Nat}{r:Row}{d:Nat}{f:Nat}{P:Nat->One->Prop}{o s s2 so to other part:One}{z:Bool}{name:String}
theorem Iu {t:Kd}{b:Nat}(hs:qG z 3 s)(hA:∀o∈t.2,mJ z 3 o)(h3:t.2.length<=3):lY 49 .tq [mz (b,[s]),mz t] Y=some (.str (mM 7 (b,[s]) t),Y) :=
 XH 7 (b,[s]) t 3 (afx (z:=z) 6 _ (JX (BC 3 s hs).1)) (λo ho=>afw 3 (by decide) o (hA o ho)) (ae (aM 8 h3) (by decide)) 36 Y
structure CG where
 τ:St
 W:Wd
 oR:Option PV
 oS:Option PV
 o7:Option PV
 o8:Option PV
 oN:Option PV
 o9:Option PV
structure As (n m:Nat)(Y:St)(W:Wd)(bs:List One)(u:CG):Prop where
 st:l7 n m Y W u.τ u.W (bs.length*74500)
 bd:u.W.lU.length<=W.lU.length+bs.length*91
theorem As.lt {bs cs pl:List One}{u:CG}(J:As n m Y W bs u)(e:pl=bs++part::cs)(h3:pl.length<=3)(hl:W.rows.length<=400000)(hb:W.lU.length<=10000):u.W.rows.length<=549000/\u.W.lU.length<=10182:=by
 have h:=J.st.cost;have h2:=J.bd;have h4:=ae (tB e) h3;exact⟨by lia,by lia⟩
theorem As.next {bs:List One}{u v:CG}(J:As n m Y W bs u){c:Nat}(st:l7 n m u.τ u.W v.τ v.W c)(hc:c<=74500)(hb:v.W.lU.length<=u.W.lU.length+91):As n m Y W (bs++[part]) v:=by
 have e:(bs++[part]).length=bs.length+1:=ar;exact⟨(J.st.trans st).weaken (by rw[e];lia),ae hb (by rw[e];have:=J.bd;lia)⟩
theorem afC {ι V:Type}{O:oh Fn}{U:Loc}{Y:St}{t:Tg}{aa:Ss Fn}{N:PN}{R:PR}(as:List V)(enc:V->PV)(st:ι->Loc)(J:List V->ι->Prop)(i0:ι)(h0:U=st i0){src:Src}(hs:oD Y src=some (as.map enc))(j0:J [] i0)
  (hb:∀(bs:List V) (a:V) (cs:List V) (i:ι),as=bs++a::cs->J bs i->∀N':Loc->St->Prop,(∀i,J (bs++[a]) i->N' (st i) Y)->o4 t (enc a) (st i) λρ'=>nE O aa ρ' Y N' N' R)
  (hr:∀i,J as i->N (st i) Y):Ci O t aa U N R src (as.map enc) Y :=
 ⟨λC=>by
  subst h0;exact z4 (sg:=λ_=>Y) (λbs a cs i e j=>.bm (hb bs a cs i e j _ λi j=>⟨i,rfl,rfl,j⟩) λ_ h=>(nE.ok aa h).mono λp h=>IH h λi j=>⟨i,rfl,rfl,hs,j⟩) hr as [] i0 rfl j0⟩
theorem aaB (T:TabAt n m Y W){parts:List One}{one vj:Nat}(hs:qG z 3 s)(qA:∀o∈parts,mJ z 3 o)(hlen:parts.length<=3)(afD:mJ z 3 other)(hP:PF 1 6 W one s)(hL:PF 0 3 W vj other)
  (hl:W.rows.length<=400000) (oH:W.lU.length<=10000) (x0 x1 x2 x4 x6 oM ow o6 pX pI oR oS o7 o8 oN o9:Option PV) {N C:PN} {R:PR} (hR:∀U τ,R (.bool true) U τ) :
  nE (lY 49) (v9 19 (funcs .rF).body) [x0,x1,x2,some s.pv,x4,some (.lst (parts.map One.pv)),x6,some (.loc n),some (.loc m),some (iv one),oM,ow,o6,pX,pI,some other.pv,some (iv vj),oR,oS,o7,o8,oN,o9] Y N C R:=by
 kd_p;refine sV parts One.pv (.seq (.lst (parts.map One.pv))) (λu:CG=>[x0,x1,x2,some s.pv,x4,some (.lst (parts.map One.pv)),x6,some (.loc n),some (.loc m),some (iv one),oM,ow,o6,pX,pI,some other.pv,some (iv vj),u.oR,u.oS,u.o7,u.o8,u.oN,u.o9]) CG.τ (As n m Y W) ?_ (λbs part cs u Au J N hN=>?_) λu J=>?_
 ·kd_p;exact⟨⟨Y,W,oR,oS,o7,o8,oN,o9⟩,rfl,rfl,rfl,rfl,(l7.refl T).weaken (aC _),aD _ _⟩
 ·have lt:=J.lt Au hlen hl oH
  have yP:mJ z 3 part:=qA _ (mem_mid Au);kd_p;refine NX J.st.tab yP (ae (ak lt.1 _) (by decide)) (ae (ak lt.2 _) (by decide)) λasked τ2 W2 mG ox CF=>?_
  have lt2:W2.rows.length+92200<=900000:=ae (ak (ae mG.cost (ak lt.1 _)) _) (by decide);kd_p;refine EJ mG.tab (E_ hs (.inl rfl)) (w0 mG.tab ((hP.mono J.st.le).mono mG.le)) (w0 mG.tab CF).weak ⟨(by decide:(0:Nat)<2^14),(by decide:nR 0=0)⟩ (JX yP) (ae (w0 mG.tab CF).cnt (a8 rfl)) lt2 λτ3 W3 nP qx=>?_;kd_p;rw[JZ,JZ];refine md (Iu hs (JX yP) (a8 rfl)) ?_;kd_p;refine mD (zP _) (nF ?_)
  have yQ:W3.rows.length<=899000:=by have:=nP.cost;lia
  have QE:=J.st.le.trans (mG.le.trans nP.le)
  have FO:=CF.mono nP.le
  have hS:∀x∈[(s,one),(other,vj)],vt m τ3 z x.2 x.1:=ac8 (aay nP.tab hs (hP.mono QE) (ae yQ (by decide))) (aaz nP.tab afD (hL.mono QE) (ae yQ (by decide)))
  have aje:=mG.trans nP;kd_p;refine EP [(s,one),(other,vj)] (λx:One×Nat=>.tup [x.1.pv,iv x.2]) (λx:Option PV×Option PV=>[x0,x1,x2,some s.pv,x4,some (.lst (parts.map One.pv)),x6,some (.loc n),some (.loc m),some (iv one),oM,ow,o6,pX,pI,some other.pv,some (iv vj),some part.pv,some (iv asked),x.1,x.2,u.oN,u.o9]) (λ_ _=>True) (u.o7,u.o8) rfl ?_ trivial (λbs x cs i hb _ N1 CI=>?_) λi _=>?_
  ·kd_p;exact SI.t rfl
  ·have hx:=hS _ (mem_mid hb);kd_p;refine md (Iq nP.tab yP FO hx (ae yQ (by decide))) ?_;kd_p;refine md (MA x.1 part 48 τ3) ?_;kd_p;refine mD (zP _) (nF ?_);kd_p;refine md (afA nP.tab yP FO hx (ae yQ (by decide))) ?_;kd_p;refine md (XI x.1 part 48 τ3) ?_;kd_p;refine mD (zP _) (nF ?_);exact CI (some x.1.pv,some (iv x.2)) trivial
  kd_p;refine EP [5,4,0,10,11] iv (λx:Option PV=>[x0,x1,x2,some s.pv,x4,some (.lst (parts.map One.pv)),x6,some (.loc n),some (.loc m),some (iv one),oM,ow,o6,pX,pI,some other.pv,some (iv vj),some part.pv,some (iv asked),i.1,i.2,x,u.o9]) (λ_ _=>True) u.oN rfl ?_ trivial (λbs x cs j hb _ N1 CI=>?_) λj _=>?_
  ·kd_p;exact SI.t rfl
  ·have hx:=YI nP.tab yP FO (ae yQ (by decide)) (iv one) _ (mem_mid hb);kd_p
   ·refine md hx.1 ?_;kd_p
   ·refine md hx.2 ?_;kd_p
   refine nF ?_;exact CI (some (iv x)) trivial
  kd_p;refine Bg ?_;kd_p;refine OU nP.tab 1 1 (ae (ak yQ 1) (by decide)) _ λy τ4 W4 qg hy sL=>?_;refine afC [6,y] iv (λx:Option PV=>[x0,x1,x2,some s.pv,x4,some (.lst (parts.map One.pv)),x6,some (.loc n),some (.loc m),some (iv one),oM,ow,o6,pX,pI,some other.pv,some (iv vj),some part.pv,some (iv asked),i.1,i.2,x,some BE.pv]) (λ_ _=>True) j (lT (λv=>[x0,x1,x2,some s.pv,x4,some (.lst (parts.map One.pv)),x6,some (.loc n),some (.loc m),some (iv one),oM,ow,o6,pX,pI,some other.pv,some (iv vj),some part.pv,some (iv asked),i.1,i.2,j,some v]) aaA) rfl trivial (λbs x cs j hb _ N1 CI=>?_) λj _=>?_
  ·have hx:=YJ qg.tab yP (FO.mono qg.le) (ae qg.cost (ae (ak yQ 1) (by decide))) hy (iv one) _ (mem_mid hb);kd_p
   ·refine md hx.1 ?_;kd_p;refine md (MA BE part 48 _) ?_;kd_p
   ·refine md hx.2 ?_;kd_p
   refine mD (b:=false) (by rw[zP];rfl) (nF ?_);exact CI (some (iv x)) trivial
  exact hN ⟨τ4,W4,some part.pv,some (iv asked),i.1,i.2,j,some BE.pv⟩ rfl (J.next (aje.trans qg) (by decide) (by rw[sL,qx];exact ox))
 ·kd_p;exact hR _ _
end
noncomputable def ahB:Ss Fn->Ss Fn
 |.cons (.ite _ a _) _=>a
 |_=>.nil
section
variable {n m:Nat}{Y σ':St}{W W0 W1 W' pa:Wd}{t p q x y a b:Nat}{r:Row}{d:Nat}{f:Nat}{P:Nat->One->Prop}{o s s2 so to other part more:One}{z:Bool}{name:String}
theorem l7.sH {i c:Nat}(st:l7 n m Y W σ' W' c)(h0:Y[0]? =some (o_ i z))(hn:0<n):σ'[0]? =some (o_ i z) :=
 (st.keep 0 (px h0) (aZ (eB 1 hn)) (aZ (eB 2 hn)) (aZ (eB 3 hn))).trans h0
theorem M3 {k:Kd}{u:Nat}(D:Den 0 (PF 0 3 W) W u k)(h:k.2.length<=3):objs W u<=3:=ae D.cnt h
theorem QF (a b:Nat):ltB (a:Int) (b:Int)=decide (a<b):=pH.mpr iQ
theorem Fo {t:Kd}(hs:qG z 3 s)(hA:∀o∈t.2,mJ z 3 o)(h3:t.2.length<=3)(τ:St){v:String}(e:v=mM 7 (0,[s]) t):lY 49 .tq [.tup [.int 0,.tup [s.pv]],mz t] τ=some (.str v,τ):=e▸JZ s▸Iu hs hA h3
theorem ac9 (T:TabAt n m Y W){t:Kd}{one two:Nat}(hs:qG z 3 s)(ho:qG z 3 more)(uT:mT t.1)(qA:∀o∈t.2,mJ z 3 o)(hlen:t.2.length<=3)(hP:PF 1 6 W one s)(hQ:PF 1 6 W two more)(hw:s.how=1)(xr:more.how=1)
  (hl:W.rows.length<=200000) (oH:W.lU.length<=6000) (x0 x1 x2 x4 x5 oM ow pI qf qv oR oS o7 o8 oN o9:Option PV) {N C:PN} {R:PR}
  (h:∀v τ W',l7 n m Y W τ W' 200000->W'.lU.length<=W.lU.length+273->N [x0,x1,x2,some s.pv,x4,x5,some (mz t),some (.loc n),some (.loc m),some (iv one),oM,ow,some more.pv,some (iv two),v,qf,qv,oR,oS,o7,o8,oN,o9] τ) :
  nE (lY 49) (ahB (v9 16 (funcs .rF).body)) [x0,x1,x2,some s.pv,x4,x5,some (mz t),some (.loc n),some (.loc m),some (iv one),oM,ow,some more.pv,some (iv two),pI,qf,qv,oR,oS,o7,o8,oN,o9] Y N C R:=by
 refine tJ (λ_:Unit=>[x0,x1,x2,some s.pv,x4,x5,some (mz t),some (.loc n),some (.loc m),some (iv one),oM,ow,some more.pv,some (iv two),some (.str (mM 7 (0,[if one<two then s else more]) t)),qf,qv,oR,oS,o7,o8,oN,o9]) (λ_=>Y) (λ_=>True) (λN' hN=>?_) λ_ _=>?_
 ·kd_p;refine mD (QF _ _) (rx (λe=>?_) λe=>?_)
  ·kd_p;refine md (Fo hs qA hlen _ (v:=mM 7 (0,[if one<two then s else more]) t) (by rw[lW e])) ?_;kd_p;exact hN () trivial
  ·kd_p;refine md (Fo ho qA hlen _ (v:=mM 7 (0,[if one<two then s else more]) t) (by rw[lX e])) ?_;kd_p;exact hN () trivial
 refine tJ (λ_:Unit=>[x0,x1,x2,some s.pv,x4,x5,some (mz t),some (.loc n),some (.loc m),some (iv one),oM,ow,some more.pv,some (iv two),some (.str (tP (λs=>mM 7 (0,[s]) t) one two s more)),qf,qv,oR,oS,o7,o8,oN,o9]) (λ_=>Y) (λ_=>True) (λN' hN=>?_) λ_ _=>?_
 ·have hN:∀v,v=tP (λs=>mM 7 (0,[s]) t) one two s more->N' [x0,x1,x2,some s.pv,x4,x5,some (mz t),some (.loc n),some (.loc m),some (iv one),oM,ow,some more.pv,some (iv two),some (.str v),qf,qv,oR,oS,o7,o8,oN,o9] Y:=λv e=>e▸hN () trivial;kd_p;refine rx (λe0=>?_) λe0=>?_
  ·kd_p;refine mD (QF _ _) (rx (λe=>?_) λe=>?_)
   ·kd_p;refine md (Fo ho qA hlen _ (v:=tP (λs=>mM 7 (0,[s]) t) one two s more) (by rw[tP,lW e0,lW e])) ?_;kd_p;exact hN _ rfl
   ·kd_p;refine md (Fo hs qA hlen _ (v:=tP (λs=>mM 7 (0,[s]) t) one two s more) (by rw[tP,lW e0,lX e])) ?_;kd_p;exact hN _ rfl
  ·exact hN _ (by rw[tP,lX e0])
 ·kd_p;refine ac7 T hP hQ hw xr (ae (ak hl 1) (by decide)) λu σ4 W4 qg sL hu hp=>?_;have l4:W4.rows.length<=200001:=ae qg.cost (ak hl 1);kd_p;refine M0 qg.tab uT hlen qA (ae (ak l4 _) (by decide)) (by rw[sL];exact ae (ak oH _) (by decide)) λtid σ5 W5 qK qS D=>?_;have l5:W5.rows.length<=221856:=ae qK.cost (ak l4 21855);have Ju:=qg.trans qK;kd_p;refine afy qK.tab hs ho (hP.mono Ju.le) (hQ.mono Ju.le) (aW hu qK.le.len) ((za qK.le hu).trans hp) D.weak uT qA (M3 D hlen) (ae (ak l5 _) (by decide)) λσ6 W6 st6 hb6=>?_;kd_p;refine mD (zP _) (nF ?_);exact h _ σ6 W6 ((Ju.trans st6).weaken (by decide)) (by rw[hb6];rw[sL] at qS;exact qS)
structure RO where
 τ:St
 W:Wd
 x:Option PV
theorem ac_ {l:List Nat}(hn:Nums l)(T:TabAt n m Y W){i:Nat}(h0:Y[0]? =some (o_ i z))(rK:0<n)(hi:i<=3000){t:Kd}{one:Nat}(hs:qG z 3 s)(uT:mT t.1)(qA:∀o∈t.2,mJ z 3 o)(hlen:t.2.length<=3)(hP:PF 1 6 W one s)
  (hl:W.rows.length<=150000) (oH:W.lU.length<=5000) (x0 x4 oM ow o6 pX pI qf qv oR oS o7 o8 oN o9:Option PV) {N C:PN} {R:PR} (hR:∀U τ,R (.bool true) U τ) :
  nE (lY 49) (v9 14 (funcs .rF).body) [x0,some (rH l),some (.loc 0),some s.pv,x4,some (.lst (t.2.map One.pv)),some (mz t),some (.loc n),some (.loc m),some (iv one),oM,ow,o6,pX,pI,qf,qv,oR,oS,o7,o8,oN,o9] Y N C R:=by
 kd_p;refine HW hn 2 (by decide) 44 i Y h0 (ae (ak hi (xi 2)) (by decide)) λmore σ1 i1 ho p7 wu=>?_;have T1:=T.ds h0 p7 rK;have wu:i1<=3130:=ae wu (ak hi (xi 2));kd_p;refine NW T1 ho (ae (ak hl _) (by decide)) (ae (ak oH _) (by decide)) λtwo σ2 W2 mG ox hQ=>?_;have l2:W2.rows.length<=200000:=ae mG.cost (ae (ak hl _) (by decide));have b2:W2.lU.length<=6000:=ae ox (ae (ak oH _) (by decide));have h02:=mG.sH p7.at' rK;have RP:=hP.mono mG.le;refine tJ (λu:RO=>[x0,some (rH l),some (.loc 0),some s.pv,x4,some (.lst (t.2.map One.pv)),some (mz t),some (.loc n),some (.loc m),some (iv one),oM,ow,some more.pv,some (iv two),u.x,qf,qv,oR,oS,o7,o8,oN,o9]) RO.τ (λu=>l7 n m σ2 W2 u.τ u.W 200000/\u.W.lU.length<=W2.lU.length+273) (λN' hN=>?_) λu J=>?_
 ·kd_p;refine nh (λhw=>?_) λhw=>?_
  ·exact ac9 mG.tab hs ho uT qA hlen RP hQ (Int.ofNat_inj.mp (l9 ((aL _ _).mp hw).1)) (Int.ofNat_inj.mp (l9 ((aL _ _).mp hw).2)) l2 b2 _ _ _ _ _ _ _ _ _ _ _ _ _ _ _ _ λv τ W' st hb=>hN ⟨τ,W',v⟩ ⟨st,hb⟩
  ·exact hN ⟨σ2,W2,pI⟩ ⟨(l7.refl mG.tab).weaken (aC _),aD _ _⟩
 have RQ:=J.1.sH h02 rK
 have l3:u.W.rows.length<=400000 - 7280:=ae J.1.cost (ae (ak (ae mG.cost (ak hl _)) _) (by decide))
 have b3:u.W.lU.length<=6273:=ae J.2 (ak b2 _);kd_p;refine LZ hn 2 (by decide) 41 i1 u.τ RQ (ae (ak wu (B5 2)) (by decide)) λother σ4 i4 QG rI hi4=>?_;kd_p;refine NX (J.1.tab.ds RQ rI rK) QG (ae (ak l3 _) (by decide)) (ae (ak b3 _) (by decide)) λvj σ5 W5 qK qS hL=>?_;exact aaB qK.tab hs qA hlen QG ((RP.mono J.1.le).mono qK.le) hL (ae qK.cost (ae (ak l3 _) (by decide))) (ae qS (ae (ak b3 _) (by decide))) _ _ _ _ _ _ _ _ _ _ _ _ _ _ _ _ hR
end
section
variable {n m:Nat}{Y σ':St}{W W0 W1 W' pa:Wd}{t p q x y a b:Nat}{r:Row}{d:Nat}{f:Nat}{P:Nat->One->Prop}{o s s2 so to other part more:One}{z:Bool}{name:String}
theorem M4 {l:List Nat}(hn:Nums l)(T:TabAt n m Y W){i:Nat}(h0:Y[0]? =some (o_ i z))(rK:0<n)(hi:i<=3000){t:Kd}{one u:Nat}(hs:qG z 3 s)(hb:b=0\/b=512)(uT:mT t.1)(qA:∀o∈t.2,mJ z 3 o)(hlen:t.2.length<=3)(hP:PF 1 6 W one s)(D:Den 1 (PF 1 6 W) W u (b,[s]))
  (hl:W.rows.length<=30000) (oH:W.lU.length<=500) (x0 o6 pX pI qf qv oR oS o7 o8 oN o9:Option PV) {N C:PN} {R:PR} (hR:∀U τ,R (.bool true) U τ) :
  nE (lY 49) (v9 13 (funcs .rF).body) [x0,some (rH l),some (.loc 0),some s.pv,some (iv b),some (.lst (t.2.map One.pv)),some (mz t),some (.loc n),some (.loc m),some (iv one),some (mz (b,[s])),some (iv u),o6,pX,pI,qf,qv,oR,oS,o7,o8,oN,o9] Y N C R:=by
 kd_p;refine M0 T uT hlen qA (ae (ak hl _) (by decide)) (ae (ak oH _) (by decide)) λtid σ3 W3 nP qx Dt=>?_;have l3:W3.rows.length<=51855:=ae nP.cost (ak hl 21855);kd_p;refine EJ nP.tab (E_ hs (hb.elim (λe=>.inl (e▸rfl)) λe=>.inr (e▸rfl))) (D.up nP.le) Dt.weak uT qA (M3 Dt hlen) (ae (ak l3 _) (by decide)) λσ4 W4 qg sL=>?_;kd_p;refine md (Iu hs qA hlen) ?_;kd_p;refine mD (zP _) (nF ?_);exact ac_ hn qg.tab ((nP.trans qg).sH h0 rK) rK hi hs uT qA hlen (hP.mono (nP.trans qg).le) (ae qg.cost (ae (ak l3 _) (by decide))) (by rw[sL];exact ae qx (ae (ak oH _) (by decide))) _ _ _ _ _ _ _ _ _ _ _ _ _ _ _ hR
theorem YK {l:List Nat}(hn:Nums l)(T:TabAt n m Y W){i:Nat}(h0:Y[0]? =some (o_ i z))(rK:0<n)(hi:i<=3000){t:Kd}(hs:qG z 3 s)(hb:b=0\/b=512)(uT:mT t.1)(qA:∀o∈t.2,mJ z 3 o)(hlen:t.2.length<=3)
  (hl:W.rows.length<=100) (oH:W.lU.length<=100) (x0 x9 oM ow o6 pX pI qf qv oR oS o7 o8 oN o9:Option PV) {N C:PN} {R:PR} (hR:∀U τ,R (.bool true) U τ) :
  nE (lY 49) (v9 10 (funcs .rF).body) [x0,some (rH l),some (.loc 0),some s.pv,some (iv b),some (.lst (t.2.map One.pv)),some (mz t),some (.loc n),some (.loc m),x9,oM,ow,o6,pX,pI,qf,qv,oR,oS,o7,o8,oN,o9] Y N C R:=by
 kd_p;refine NW T hs (ae (ak hl _) (by decide)) (ae (ak oH _) (by decide)) λone σ1 W1 nU rL hP=>?_;have l1:W1.rows.length<=29220:=ae nU.cost (ak hl _);have b1:W1.lU.length<=500:=ae rL (ae (ak oH _) (by decide));have h1:=nU.sH h0 rK;kd_p;refine uk (λh=>?_) λh=>?_
 ·have e:b=512:=hb.resolve_left h;subst e;kd_p;refine aax nU.tab hP (ae (ak l1 _) (by decide)) λu σ2 W2 mG ox D=>?_;rw[JY 512 s];exact M4 hn mG.tab (mG.sH h1 rK) rK hi hs (.inr rfl) uT qA hlen (hP.mono mG.le) D (ae mG.cost (ae (ak l1 _) (by decide))) (by rw[ox];exact b1) _ _ _ _ _ _ _ _ _ _ _ _ hR
 ·subst h;rw[JY 0 s];refine(?_:VO _ _);refine .e rfl ?_;refine(?_:nE _ _ _ _ _ _ _);exact M4 hn nU.tab h1 rK hi hs (.inl rfl) uT qA hlen hP (w0 nU.tab hP) (ae l1 (by decide)) b1 _ _ _ _ _ _ _ _ _ _ _ _ hR
end
section
variable {n m:Nat}{Y σ':St}{W W0 W1 W' pa:Wd}{t p q x y a b:Nat}{r:Row}{d:Nat}{f:Nat}{P:Nat->One->Prop}{o s s2 so to other part more:One}{z:Bool}{name:String}
noncomputable def numsOf (l:List Int):List Nat:=if(l.take 40).length=0 then[4] else(l.take 40).map λn=>(n%999983).toNat
theorem ada (l:List Int):Nums (numsOf l):=by
 unfold numsOf
 split
 ·exact⟨by decide,by decide,List.forall_mem_singleton.mpr (by decide)⟩
 ·rename_i h;exact⟨by rw[au];exact Nat.pos_of_ne_zero h,by rw[au,fc];exact ae (jr _ _) (by decide),λx hx=>(List.mem_map.mp hx).elim λn e=>e.2▸by have:=js n (b:=999983) (by decide);have:=Int.emod_lt_of_pos n (b:=999983) (by decide);lia⟩
inductive RR (O:oh Fn)(e:E Fn)(t:Tg)(U:Loc)(Q:n6)(src:Src)(l:List PV)(Y:St):Prop
 |mk (h:VO (vV src l (Bf O e t U) l Y) λp=>Q (.lst p.1) p.2)
theorem adb {O:oh Fn}{e:E Fn}{t:Tg}{it:It Fn}{U:Loc}{Q:n6}{Y:St}(h:oY O it U Y (RR O e t U Q)):VX O (.comp false e t it) false U Y Q:=⟨.bm (oY.ok h) λp h=>match p,h with
 |(_,_,_),⟨h⟩=>.bm h λp h=>h⟩
theorem afE {V:Type}{O:oh Fn}{e:E Fn}{t:Tg}{U:Loc}{Q:n6}{src:Src}{l:List PV}{Y:St}(as:List V)(enc:V->PV)(J:List V->List PV->St->Prop)(hl:l=as.map enc)(j0:J [] [] Y)
  (hb:∀(bs:List V) (a:V) (cs:List V) (os:List PV) (τ:St),as=bs++a::cs->J bs os τ->o4 t (enc a) (U++aI (slots t) none) λρ'=>VE O e false ρ' τ (CE src (as.map enc) (J (bs++[a])) os))
  (hr:∀os τ,J as os τ->Q (.lst os) τ):RR O e t U Q src l Y:=⟨by
 subst hl;exact(zT (f:=Bf O e t U) (J:=J) (λbs a cs os τ e j=>.bm (hb bs a cs os τ e j) λ_ h=>.bm (VE.ok _ h) λp h=>h.rec λhs j=>⟨hs,j⟩) as [] [] Y rfl j0).mono λp h=>hr _ _ h⟩
theorem YL {l:List Nat}(hn:Nums l){i:Nat}{Y:St}(h0:Y[0]? =some (o_ i z))(hi:i<=200){b:Nat}(hs:qG z 3 s)(hb:b=0\/b=512)(x0 x5 x6 x7 x8 x9 oM ow o6 pX pI qf qv oR oS o7 o8 oN o9:Option PV){N C:PN}{R:PR}(hR:∀U τ,R (.bool true) U τ) :
  nE (lY 49) (v9 6 (funcs .rF).body) [x0,some (rH l),some (.loc 0),some s.pv,some (iv b),x5,x6,x7,x8,x9,oM,ow,o6,pX,pI,qf,qv,oR,oS,o7,o8,oN,o9] Y N C R:=by
 kd_p;refine adb ?_;kd_p;refine rq hn h0 (ae hi (by decide)) 3 (by decide) _ λr2 σ4 J0 rI=>?_;kd_p;refine⟨ae (av (aS J0) 1) (by decide),afE (ba (1+r2)) (λi:Nat=>PV.int (i:Int)) (λbs=>Ah (mJ z 3) z 0 (B5 2) 201 σ4 bs.length) (wQ _) ⟨i+1,[],DS.refl rI.at',aU hi,rfl,rfl,λ_ h=>nomatch h⟩ (λbs j cs os τ Au J=>?_) λos τ J=>?_⟩
 ·refine J.ex.elim λi1 h=>h.elim λxs h=>?_;have hj:=(tn Au).2;kd_p;refine LZ hn 2 (by decide) 41 i1 τ h.1.at' (ae (ak (ae h.2.1 (av (aM _ (aS (aW hj (av (cK J0) 1)))) 201)) _) (by decide)) λo τ' i2 ho pJ r0=>?_;kd_p;exact⟨u9,h.2.2.1▸Ah.push zC h.1 h.2.1 h.2.2.2.1 h.2.2.2.2 pJ r0 ho⟩
 ·refine J.ex.elim λi1 h=>h.elim λxs h=>?_;have hl:xs.length<=3:=ae (ax (h.2.2.2.1.trans cW)) (av (cK J0) 1);have h3:i1<=2900:=ae h.2.1 (ae (av (aM _ (h.2.2.2.1▸hl)) 201) (by decide));rw[h.2.2.1];kd_p;refine rq hn h.1.at' (ae h3 (by decide)) 10 (by decide) _ λr3 σ5 hr3 J4=>(wV (Y:=σ5) (r:=r3) [0,0,4,256,1,8192,2048,4096,64,0] hr3 (by decide)).elim λmm hm=>?_;kd_p;refine .e hm.2 ?_;kd_p;refine YE σ5 47 λσ6 TI RS hk6=>⟨rfl,?_⟩;kd_p;refine aaw σ6 48 λσ7 hh RT hl7=>⟨rfl,?_⟩;rw[← IJ mm xs];exact YK hn (YF TI (by rw[RS];exact gB (by decide) _) hh RT) (by rw[RT 0 (by rw[RS];exact Nat.add_pos_right _ (by decide)),hk6 0 (px J4.at')];exact J4.at') (px J4.at') (ae (aU h3) (by decide)) hs hb (t:=(mm,xs)) (Fm ((by decide:∀m∈[0,0,4,256,1,8192,2048,4096,64,0],B7 m=true) mm hm.1)) h.2.2.2.2 hl (by decide) (by decide) _ _ _ _ _ _ _ _ _ _ _ _ _ _ _ hR
theorem Mc {l:List Nat}(hn:Nums l){Y:St}(h0:Y[0]? =some (o_ 1 z))(x0 x3 x4 x5 x6 x7 x8 x9 oM ow o6 pX pI qf qv oR oS o7 o8 oN o9:Option PV){N C:PN}{R:PR}(hR:∀U τ,R (.bool true) U τ) :
  nE (lY 49) (v9 4 (funcs .rF).body) [x0,some (rH l),some (.loc 0),x3,x4,x5,x6,x7,x8,x9,oM,ow,o6,pX,pI,qf,qv,oR,oS,o7,o8,oN,o9] Y N C R:=by
 kd_p;refine HW hn 2 (by decide) 44 1 Y h0 (by decide) λs σ2 i2 hs pJ r0=>?_;have r0:i2<=131:=r0;kd_p;refine rq hn pJ.at' (ae r0 (by decide)) 3 (by decide) _ λr σ3 hr rj=>(wV (Y:=σ3) (r:=r) [0,512,0] hr (by decide)).elim λb hb=>?_;refine .e hb.2 ?_;exact YL hn rj.at' (ae (aU r0) (by decide)) hs ((by decide:∀b∈[0,512,0],b=0\/b=512) b hb.1) _ _ _ _ _ _ _ _ _ _ _ _ _ _ _ _ _ _ _ hR
theorem M5 {l:List Nat}(hn:Nums l)(x0 x2 x3 x4 x5 x6 x7 x8 x9 oM ow o6 pX pI qf qv oR oS o7 o8 oN o9:Option PV){N C:PN}{R:PR}(hR:∀U τ,R (.bool true) U τ) :
  nE (lY 49) (v9 2 (funcs .rF).body) [x0,some (rH l),x2,x3,x4,x5,x6,x7,x8,x9,oM,ow,o6,pX,pI,qf,qv,oR,oS,o7,o8,oN,o9] [] N C R:=by
 have h0:([]++[mC.list [.int 0,.int 0]]:St)[0]? =some (o_ 0 false):=rfl;kd_p;generalize ([]++[mC.list [.int 0,.int 0]]:St)=σ0 at h0⊢;refine rq hn h0 (by decide) 3 (by decide) _ λr σ1 hr p7=>?_
 have h1:=p7.at'
 have Ca:∀z:Bool,tv σ1 (.int 1) (.int (bN z)) (.loc 0)=some (σ1.set 0 (o_ 1 z)):=λz=>Mu h1 (by decide) (show(1:Int)<2 by decide)
 have Gq:∀z:Bool,(σ1.set 0 (o_ 1 z))[0]? =some (o_ 1 z):=λz=>bx (px h1);kd_p;refine nh (λh=>?_) λh=>?_
 ·kd_p;refine .e (Ca true) ?_;exact Mc hn (Gq true) _ _ _ _ _ _ _ _ _ _ _ _ _ _ _ _ _ _ _ _ _ hR
 ·kd_p;refine .e (Ca false) ?_;exact Mc hn (Gq false) _ _ _ _ _ _ _ _ _ _ _ _ _ _ _ _ _ _ _ _ _ hR
theorem afF (l:List Int):(l.take 40).map (λn=>PV.int (n%999983))=((l.take 40).map λn=>(n%999983).toNat).map λn:Nat=>PV.int (n:Int):=by
 rw[aR];exact gA λn _=>lT PV.int (Int.toNat_of_nonneg (js n (by decide))).symm
theorem PJ (l:List Int):zQ (l.map PV.int) none (some 40)=(l.take 40).map PV.int:=List.map_take.symm
theorem aaC (l:List Int)(hl:l.length<=63):∃k σ',k<=50/\lY k .rF [.lst (l.map .int)] []=some (.bool true,σ'):=by
 have:WC (lY 50 .rF [.lst (l.map .int)] []) λv _=>v=.bool true:=by
  refine nS (Zy _) λR hR=>?_;have hR:∀U τ,R (.bool true) U τ:=λU τ=>hR _ U τ rfl;have hn:=ada l;kd_p;refine sW (l.take 40) PV.int (λn=>.int (n%999983)) ?_ (λn hm=>?_) ?_
  ·kd_p;exact⟨lT some (PJ l),PJ l,rfl⟩
  ·kd_p;refine .e (zA (by decide)) ?_;kd_p
  ·kd_p;rw[au];refine rx (λh=>?_) λh=>?_
   ·have e:PV.lst [.int 4]=rH (numsOf l):=by rw[numsOf,lW (Int.ofNat_inj.mp h)];rfl
    kd_p;rw[e];exact M5 hn _ _ _ _ _ _ _ _ _ _ _ _ _ _ _ _ _ _ _ _ _ _ hR
   ·have e:PV.lst ((l.take 40).map λn=>PV.int (n%999983))=rH (numsOf l):=by rw[numsOf,lX (λe=>h (lT cG e)),afF];rfl
    rw[e];exact M5 hn _ _ _ _ _ _ _ _ _ _ _ _ _ _ _ _ _ _ _ _ _ _ hR
 exact this.rec λr σ' e q=>⟨50,σ',aB _,q▸e⟩
end
open PySem PySem.W PySem.Calls PyProof.Rows
noncomputable def nm (s:String):af:=bq s
theorem Md:∀(a b:List Char),a.map fq=b.map fq->a=b
 |[],[],_=>rfl
 |[],_::_,h=>nomatch h
 |_::_,[],h=>nomatch h
 |_::a,_::b,h=>congr (lT dm (Char.toNat_inj.mp (bu h).1)) (Md a b (bu h).2)
theorem vY {a b:String}(h:nm a=nm b):a=b:=by
 unfold nm at h;rw[gE,gE] at h;have h1:(a.toList.map fq).toArray=(b.toList.map fq).toArray:=lT PySem.Str.cps h;have h2:=lT Array.toList h1;exact String.toList_inj.mp (Md _ _ h2)
structure lV where
 l:List (Addr×Addr)
 g:List Addr
noncomputable def lV.nil:lV:=⟨[],[]⟩
noncomputable def lV.add (H:lV)(p:Addr×Addr):lV:=⟨H.l++[p],H.g⟩
def Apart (H:lV)(a:Addr):Prop:=∀p∈H.l,p.1≠a/\p.2≠a
def Clear (H:lV)(a:Addr):Prop:=Apart H a/\a∉H.g
mutual
def VR (h:Heap)(H:lV):PV->Value->Prop
 |.none,v=>v=.none
 |.bool b,v=>v=.bool b
 |.int i,v=>∃t,v=.int i t
 |.str s,v=>∃t,v=.str (nm s) t
 |.tup l,v=>∃a vs,v=.ref a/\aN h a vs.toArray/\l6 h H l vs/\l.length<=2^20
 |.lst l,v=>∃a vs,v=.ref a/\h.IsList a vs.toArray/\Clear H a/\l6 h H l vs/\l.length<=2^20
 |.loc n,v=>∃p,H.l[n]? =some p/\v=.ref p.1
def l6 (h:Heap)(H:lV):List PV->List Value->Prop
 |[],vs=>vs=[]
 |p::l,vs=>∃v r,vs=v::r/\VR h H p v/\l6 h H l r
end
section
variable {h:Heap}{H:lV}{p q:PV}{l k:List PV}{v:Value}{vs ws:List Value}
@[elab_as_elim] theorem l6.vH (x:l6 h H [] vs){P:List Value->Prop}(k:P []):P vs:=ft (show vs=[] from x)▸k
@[elab_as_elim] theorem l6.qT (x:l6 h H (p::l) vs){P:List Value->Prop}(k:∀v r,VR h H p v->l6 h H l r->P (v::r)):P vs:=El.tT x λv r e a b=>e▸k v r a b
theorem l6.i (a:VR h H p v)(b:l6 h H l vs):l6 h H (p::l) (v::vs):=⟨v,vs,rfl,a,b⟩
theorem l6.len:∀{l:List PV} {vs:List Value},l6 h H l vs->vs.length=l.length
 |[],_,x=>x.vH rfl
 |_::_,_,x=>x.qT λ_ _ _ y=>lT c8 y.len
theorem l6.get:∀{l:List PV} {vs:List Value} {i:Nat},l6 h H l vs->l[i]? =some p->∃v,vs[i]? =some v/\VR h H p v
 |[],_,_,_,e=>El.nn (List.getElem?_nil.symm.trans e)
 |_::_,_,0,x,e=>x.qT λv _ a _=>⟨v,rfl,aq e▸a⟩
 |_::_,_,_+1,x,e=>x.qT λ_ _ _ b=>b.get (List.getElem?_cons_succ.symm.trans e)
theorem l6.append:∀{l:List PV} {vs:List Value},l6 h H l vs->l6 h H k ws->l6 h H (l++k) (vs++ws)
 |[],_,x,y=>x.vH y
 |_::_,_,x,y=>x.qT λ_ _ a b=>.i a (b.append y)
theorem l6.take:∀{l:List PV} {vs:List Value} (n:Nat),l6 h H l vs->l6 h H (l.take n) (vs.take n)
 |_,_,0,_=>rfl
 |[],_,_+1,x=>x.vH rfl
 |_::_,_,n+1,x=>x.qT λ_ _ a b=>.i a (b.take n)
theorem l6.drop:∀{l:List PV} {vs:List Value} (n:Nat),l6 h H l vs->l6 h H (l.drop n) (vs.drop n)
 |_,_,0,x=>x
 |[],_,_+1,x=>x.vH rfl
 |_::_,_,n+1,x=>x.qT λ_ _ _ b=>b.drop n
theorem l6.set (hv:VR h H p v):∀{l:List PV} {vs:List Value} (n:Nat),l6 h H l vs->l6 h H (l.set n p) (vs.set n v)
 |[],_,_,x=>x.vH rfl
 |_::_,_,0,x=>x.qT λ_ _ _ b=>.i hv b
 |_::_,_,n+1,x=>x.qT λ_ _ a b=>.i a (b.set hv n)
end
section
variable {h:Heap}{H:lV}{v:Value}
@[elab_as_elim] theorem VR.vg (x:VR h H .none v){P:Value->Prop}(k:P .none):P v:=ft (show v=.none from x)▸k
@[elab_as_elim] theorem VR.w7 {b:Bool}(x:VR h H (.bool b) v){P:Value->Prop}(k:P (.bool b)):P v:=ft (show v=.bool b from x)▸k
@[elab_as_elim] theorem VR.qE {i:Int}(x:VR h H (.int i) v){P:Value->Prop}(k:∀t,P (.int i t)):P v:=jt (show∃t,v=.int i t from x) λt e=>e▸k t
@[elab_as_elim] theorem VR.q9 {i:String}(x:VR h H (.str i) v){P:Value->Prop}(k:∀t,P (.str (nm i) t)):P v:=jt (show∃t,v=.str (nm i) t from x) λt e=>e▸k t
@[elab_as_elim] theorem VR.p6 {l:List PV}(x:VR h H (.tup l) v){P:Value->Prop}(k:∀a vs,aN h a vs.toArray->l6 h H l vs->l.length<=2^20->P (.ref a)):P v:=by
 obtain⟨a,vs,rfl,h1,h2,h3⟩:=x;exact k a vs h1 h2 h3
@[elab_as_elim] theorem VR.qF {l:List PV}(x:VR h H (.lst l) v){P:Value->Prop}(k:∀a vs,h.IsList a vs.toArray->Clear H a->l6 h H l vs->l.length<=2^20->P (.ref a)):P v:=by
 obtain⟨a,vs,rfl,h1,h0,h2,h3⟩:=x;exact k a vs h1 h0 h2 h3
@[elab_as_elim] theorem VR.zU {n:Nat}(x:VR h H (.loc n) v){P:Value->Prop}(k:∀p,H.l[n]? =some p->P (.ref p.1)):P v:=by
 obtain⟨p,hp,rfl⟩:=x;exact k p hp
theorem VR.vk {l:List PV}{a:Addr}{vs:List Value}(h1:aN h a vs.toArray)(h2:l6 h H l vs)(h3:l.length<=2^20):VR h H (.tup l) (.ref a):=⟨a,vs,rfl,h1,h2,h3⟩
theorem VR.BV (i:Int)(t:Tok):VR h H (.int i) (.int i t):=⟨t,rfl⟩
theorem VR.null {p:PV}(x:VR h H p v)(hp:p≠.none):v≠.none:=λe=>by
 subst e;cases p with
 |none=>exact hp rfl
 |bool b=>exact nomatch (show Value.none=.bool b from x)
 |int i=>exact x.elim λ_ e=>nomatch e
 |str i=>exact x.elim λ_ e=>nomatch e
 |tup l=>exact x.elim λ_ e=>e.elim λ_ e=>nomatch e.1
 |lst l=>exact x.elim λ_ e=>e.elim λ_ e=>nomatch e.1
 |loc n=>exact x.elim λ_ e=>nomatch e.2
theorem VR.plain {p:PV}(x:VR h H p v):PySem.plainIs v .none=true:=by
 cases p with
 |none=>exact x.vg rfl
 |bool b=>exact x.w7 rfl
 |int i=>exact x.qE λ_=>rfl
 |str i=>exact x.q9 λ_=>rfl
 |tup l=>exact x.p6 λ_ _ _ _ _=>rfl
 |lst l=>exact x.qF λ_ _ _ _ _ _=>rfl
 |loc n=>exact x.zU λ_ _=>rfl
@[elab_as_elim] theorem xY {f:Int->Int->Option PV}{p q r:PV}{u:Value}(e:binI f p q=some r)(x:VR h H p v)(y:VR h H q u){P:Value->Value->Prop}(k:∀a b s t,f a b=some r->P (.int a s) (.int b t)):P v u:=by
 cases p with
 |int a=>cases q with
  |int b=>exact x.elim λs e1=>y.elim λt e2=>e1▸e2▸k a b s t e
  |_=>exact El.nn e
 |_=>exact El.nn e
@[elab_as_elim] theorem O5 {f:Nat->Nat->Nat}{a b:Int}{r:PV}(e:I6 f a b=some r){P:Int->Int->PV->Prop}(k:∀m n,P (.ofNat m) (.ofNat n) (.int (.ofNat (f m n)))):P a b r:=by
 cases a with
 |ofNat m=>cases b with
  |ofNat n=>exact El.sj e (k m n)
  |_=>exact El.nn e
 |_=>exact El.nn e
@[elab_as_elim] theorem Iv {f:Int->Int->Bool}{p q:PV}{r:Bool}{u:Value}(e:Fz f p q=some r)(x:VR h H p v)(y:VR h H q u){P:Value->Value->Bool->Prop}(k:∀a b s t,P (.int a s) (.int b t) (f a b)):P v u r:=by
 cases p with
 |int a=>cases q with
  |int b=>exact x.elim λs e1=>y.elim λt e2=>e1▸e2▸El.sj e (k a b s t)
  |_=>exact El.nn e
 |_=>exact El.nn e
end
@[elab_as_elim] theorem aaD {a:String}{x:Int}(e:single a=some x){P:String->Int->Prop}(k0:P "0" 48)(k9:P "9" 57)(kp:P "p" 112)(kq:P "q" 113)(kr:P "r" 114):P a x:=by
 unfold single at e;by_cases h:a="0"
 ·rw[lW h] at e;cases h;exact El.sj e k0
 rw[lX h] at e;clear h;by_cases h:a="9"
 ·rw[lW h] at e;cases h;exact El.sj e k9
 rw[lX h] at e;clear h;by_cases h:a="p"
 ·rw[lW h] at e;cases h;exact El.sj e kp
 rw[lX h] at e;clear h;by_cases h:a="q"
 ·rw[lW h] at e;cases h;exact El.sj e kq
 rw[lX h] at e;exact El.it e λh e=>h▸El.sj e kr
theorem AO {a:String}{x:Int}(h:single a=some x):∃n:Nat,x=n/\(nm a)=⟨#[n]⟩/\n<128 :=
 aaD h ⟨48,rfl,by decide +kernel,by decide⟩ ⟨57,rfl,by decide +kernel,by decide⟩ ⟨112,rfl,by decide +kernel,by decide⟩ ⟨113,rfl,by decide +kernel,by decide⟩ ⟨114,rfl,by decide +kernel,by decide⟩
def mL (h:Heap)(a:Addr):Prop:=∃o,h.get? a=some o
theorem mL.fresh (h:Heap):¬mL h h.objs.size:=λ⟨_,e⟩=>dR _ (cM e)
theorem mL.Ep {h:Heap}{a:Addr}(x:h.objs.size<=a):¬mL h a:=λ⟨_,e⟩=>dR _ (aW (cM e) x)
structure oE (ex:Addr->Prop)(h:Heap)(H:lV)(h':Heap)(φ':lV):Prop where
 keep:∀b o,h.get? b=some o->Apart H b->¬ex b->h'.get? b=some o
 live:∀b,mL h b->mL h' b
 gh:φ'.g=H.g
 ext:∃ψ,φ'.l=H.l++ψ/\∀p∈ψ,¬mL h p.1/\¬mL h p.2
noncomputable abbrev Gr:=oE λ_=>False
theorem oE.refl (ex:Addr->Prop)(h:Heap)(H:lV):oE ex h H h H:=⟨λ_ _ e _ _=>e,λ_ e=>e,rfl,[],by simp,λ_ hp=>by cases hp⟩
theorem Gr.of {h h':Heap}{H:lV}(k:∀b o,h.get? b=some o->h'.get? b=some o):Gr h H h' H:=⟨λb o e _ _=>k b o e,λb ⟨o,e⟩=>⟨o,k b o e⟩,rfl,[],by simp,λ_ hp=>by cases hp⟩
theorem oE.apart {ex:Addr->Prop}{h h':Heap}{H φ':lV}(g:oE ex h H h' φ'){a:Addr}(x:Apart H a)(hl:mL h a):Apart φ' a:=by
 obtain⟨ψ,e,hψ⟩:=g.ext;intro p hp;rw[e] at hp;rcases List.mem_append.mp hp with hp|hp
 ·exact x p hp
 ·have:=hψ p hp;exact⟨λq=>this.1 (q▸hl),λq=>this.2 (q▸hl)⟩
theorem oE.clear {ex:Addr->Prop}{h h':Heap}{H φ':lV}(g:oE ex h H h' φ'){a:Addr}(x:Clear H a)(hl:mL h a):Clear φ' a:=⟨g.apart x.1 hl,g.gh▸x.2⟩
def pQ (ex:Addr->Prop)(h:Heap)(H:lV):Prop:=∀b,ex b->(∀l_,¬aN h b l_)/\((∀l_,¬h.IsList b l_)\/b∈H.g)
theorem pQ.none (h:Heap)(H:lV):pQ (λ_=>False) h H:=λ_ e=>e.elim
def v_ (h:Heap)(H:lV):Prop:=∀a l_,aN h a l_->Apart H a
section
variable {h h':Heap}{H φ':lV}(kt:∀a l_,aN h a l_->aN h' a l_)(kl:∀a l_,h.IsList a l_->Clear H a->h'.IsList a l_/\Clear φ' a)(ke:∀(n:Nat) (p:Addr×Addr),H.l[n]? =some p->φ'.l[n]? =some p)
include kt kl ke
theorem VR.sY {p:PV}:∀{v:Value},VR h H p v->VR h' φ' p v:=@λv=>PV.rec (motive_1:=λp=>∀v,VR h H p v->VR h' φ' p v) (motive_2:=λl=>∀vs,l6 h H l vs->l6 h' φ' l vs)
 (λ_ x=>x) (λ_ _ x=>x) (λ_ _ x=>x) (λ_ _ x=>x) (λ_ ih _ x=>x.p6 λa vs t hs b=>⟨a,vs,rfl,kt _ _ t,ih vs hs,b⟩) (λ_ ih _ x=>x.qF λa vs t c hs b=>⟨a,vs,rfl,(kl _ _ t c).1,(kl _ _ t c).2,ih vs hs,b⟩) (λn _ x=>x.zU λp e=>⟨p,ke n p e,rfl⟩)
 (λ_ x=>x) (λ_ _ h1 h2 _ x=>x.qT λv r a b=>.i (h1 v a) (h2 r b)) p v
theorem l6.sY:∀{l:List PV} {vs:List Value},l6 h H l vs->l6 h' φ' l vs
 |[],_,x=>x
 |_::_,_,x=>x.qT λ_ _ a b=>.i (a.sY kt kl ke) (b.sY)
end
section
variable {ex:Addr->Prop}{h h':Heap}{H φ':lV}
theorem oE.kt (g:oE ex h H h' φ')(nt:v_ h H)(ok:pQ ex h H)(a:Addr)(l_:Array Value)(x:aN h a l_):aN h' a l_:=by
 have ap:=nt _ _ x;have ne:¬ex a:=λe=>(ok a e).1 _ x;obtain⟨o,ho,r⟩:=x;exact⟨o,g.keep _ _ ho ap ne,r⟩
theorem oE.kl (g:oE ex h H h' φ')(ok:pQ ex h H)(a:Addr)(l_:Array Value)(x:h.IsList a l_)(c:Clear H a):h'.IsList a l_/\Clear φ' a:=by
 have ne:¬ex a:=λe=>by
  rcases(ok a e).2 with q|q
  ·exact q _ x
  ·exact c.2 q
 obtain⟨o,ho,r⟩:=x;exact⟨⟨o,g.keep _ _ ho c.1 ne,r⟩,g.clear c ⟨o,ho⟩⟩
theorem oE.ke (g:oE ex h H h' φ')(n:Nat)(p:Addr×Addr)(e:H.l[n]? =some p):φ'.l[n]? =some p:=by
 obtain⟨ψ,q,_⟩:=g.ext;rw[q,bB (List.getElem?_eq_some_iff.mp e).1];exact e
theorem VR.q_ (g:oE ex h H h' φ')(nt:v_ h H)(ok:pQ ex h H){p:PV}{v:Value}(x:VR h H p v):VR h' φ' p v:=x.sY (g.kt nt ok) (g.kl ok) g.ke
theorem l6.q_ (g:oE ex h H h' φ')(nt:v_ h H)(ok:pQ ex h H){p:List PV}{v:List Value}(x:l6 h H p v):l6 h' φ' p v:=x.sY (g.kt nt ok) (g.kl ok) g.ke
theorem VR.grow (g:Gr h H h' φ')(nt:v_ h H){p:PV}{v:Value}(x:VR h H p v):VR h' φ' p v:=x.q_ g nt (.none h H)
theorem l6.grow (g:Gr h H h' φ')(nt:v_ h H){p:List PV}{v:List Value}(x:l6 h H p v):l6 h' φ' p v:=x.q_ g nt (.none h H)
end
mutual
noncomputable def toPy:PV->fv
 |.int i=>.int i
 |.str s=>.str (nm s)
 |.tup l=>.tuple (rW l)
 |_=>.none
noncomputable def rW:List PV->List fv
 |[]=>[]
 |a::r=>toPy a::rW r
end
theorem u5 {P:PV->Prop}{Q:List PV->Prop}(n:P .none)(i:∀i,P (.int i))(s:∀s,P (.str s))(t:∀l,PV.pF l=true->Q l->P (.tup l))(z:Q [])(c:∀p l,p.isData=true->PV.pF l=true->P p->Q l->Q (p::l)){p:PV}:p.isData=true->P p :=
 PV.rec (motive_1:=λp=>p.isData=true->P p) (motive_2:=λl=>PV.pF l=true->Q l) (λ_=>n) (λ_ e=>El.bf e) (λj _=>i j) (λj _=>s j) (λl h e=>t l e (h e)) (λ_ _ e=>El.bf e) (λ_ e=>El.bf e)
  (λ_=>z) (λp l h1 h2 e=>El.nL e λa b=>c p l a b (h1 a) (h2 b)) p
theorem H5 {P:PV->Prop}{Q:List PV->Prop}(i:∀i,P (.int i))(s:∀s,P (.str s))(t:∀l,Q l->P (.tup l))(z:Q [])(c:∀p l,P p->Q l->Q (p::l)){p:PV}:p.isKey=true->P p :=
 PV.rec (motive_1:=λp=>p.isKey=true->P p) (motive_2:=λl=>PV.areKeys l=true->Q l) (λe=>El.bf e) (λ_ e=>El.bf e) (λj _=>i j) (λj _=>s j) (λl h e=>t l (h e)) (λ_ _ e=>El.bf e) (λ_ e=>El.bf e)
  (λ_=>z) (λp l h1 h2 e=>El.nL e λa b=>c p l (h1 a) (h2 b)) p
theorem wX {h:Heap}{H:lV}{p:PV}{v:Value}(d:p.isData=true):VR h H p v->∃as,dy h v (toPy p) as :=
 u5 (P:=λp=>∀v,VR h H p v->∃as,dy h v (toPy p) as) (Q:=λl=>∀vs,l6 h H l vs->∃as,gF h vs (rW l) as) (λ_ x=>x.vg ⟨_,.none⟩) (λ_ _ x=>x.qE λ_=>⟨_,.int _ _⟩) (λ_ _ x=>x.q9 λ_=>⟨_,.str _ _⟩)
  (λ_ _ ih _ x=>x.p6 λ_ vs t hs _=>t.elim λ_ z=>z.2.2.elim λ_ hd=>(ih vs hs).elim λas hr=>⟨as,.tuple z.1 z.2.1 hd hr⟩) (λ_ x=>x.vH ⟨_,.nil⟩)
  (λ_ _ _ _ h1 h2 _ x=>x.qT λv r a b=>(h1 v a).elim λ_ ha=>(h2 r b).elim λ_ hb=>⟨_,.cons ha hb⟩) d v
theorem aaE (s:String):ju (nm s)=true:=by
 unfold ju nm;rw[gE];refine Array.all_eq_true_iff_forall_mem.mpr λx hx=>?_;exact(List.mem_map.mp (List.mem_toArray.mp hx)).elim λc e=>mY (e.2▸c.valid.elim (λh=>fm h (by decide)) λh=>h.2)
theorem lay_of {p:PV}:p.isData=true->(toPy p).canLay0=true/\(toPy p).depth=p.depth :=
 u5 (P:=λp=>(toPy p).canLay0=true/\(toPy p).depth=p.depth) (Q:=λl=>gG (rW l)=true/\gH (rW l)=PV.rT l) ⟨rfl,rfl⟩ (λ_=>⟨rfl,rfl⟩) (λs=>⟨aaE s,rfl⟩) (λ_ _ h=>⟨h.1,lT c8 h.2⟩) ⟨rfl,rfl⟩
  λ_ _ _ _ a b=>⟨(aL _ _).mpr ⟨a.1,b.1⟩,congr (lT max a.2) b.2⟩
theorem Me {h:Heap}{H:lV}:∀{l:List PV} {vs:List Value},PV.pF l=true->l6 h H l vs->∃as,gF h vs (rW l) as
 |[],_,_,x=>x.vH ⟨_,.nil⟩
 |_::_,_,d,x=>El.nL d λd1 d2=>x.qT λ_ _ a b=>(wX d1 a).elim λ_ ha=>(Me d2 b).elim λ_ hb=>⟨_,.cons ha hb⟩
theorem H6:∀{l:List PV},PV.pF l=true->gG (rW l)=true/\gH (rW l)=PV.rT l
 |[],_=>⟨rfl,rfl⟩
 |_::_,d=>El.nL d λd1 d2=>⟨(aL _ _).mpr ⟨(lay_of d1).1,(H6 d2).1⟩,congr (lT max (lay_of d1).2) (H6 d2).2⟩
theorem tt {P:Prop}[Decidable P](h:P):true=decide P:=(mY h).symm
theorem ff {P:Prop}[Decidable P](h:¬P):false=decide P:=(decide_eq_false h).symm
theorem PK {V:Type}[BEq V][LawfulBEq V]{a b:V}{P:Prop}[Decidable P](h:a=b↔P):(a==b)=decide P:=Bool.eq_iff_iff.mpr (beq_iff_eq.trans (h.trans decide_eq_true_iff.symm))
theorem Fc {p q:PV}(d:p.isData=true):q.isData=true->cN (toPy p) (toPy q)=decide (p=q) :=
 u5 (P:=λp=>∀q:PV,q.isData=true->cN (toPy p) (toPy q)=decide (p=q)) (Q:=λl=>∀k,PV.pF k=true->PyData.eqvAll (rW l) (rW k)=decide (l=k))
  (λq=>u5 (P:=λq=>cN (toPy .none) (toPy q)=decide (.none=q)) (Q:=λ_=>True) (tt rfl) (λ_=>ff λe=>nomatch e) (λ_=>ff λe=>nomatch e) (λ_ _ _=>ff λe=>nomatch e) trivial (λ_ _ _ _ _ _=>trivial))
  (λi q=>u5 (P:=λq=>cN (toPy (.int i)) (toPy q)=decide (.int i=q)) (Q:=λ_=>True) (ff λe=>nomatch e) (λ_=>PK ⟨lT PV.int,PV.int.inj⟩) (λ_=>ff λe=>nomatch e) (λ_ _ _=>ff λe=>nomatch e) trivial (λ_ _ _ _ _ _=>trivial))
  (λi q=>u5 (P:=λq=>cN (toPy (.str i)) (toPy q)=decide (.str i=q)) (Q:=λ_=>True) (ff λe=>nomatch e) (λ_=>ff λe=>nomatch e) (λ_=>PK ⟨λe=>lT PV.str (vY e),λe=>lT nm (PV.str.inj e)⟩) (λ_ _ _=>ff λe=>nomatch e) trivial (λ_ _ _ _ _ _=>trivial))
  (λl _ ih q=>u5 (P:=λq=>cN (toPy (.tup l)) (toPy q)=decide (.tup l=q)) (Q:=λ_=>True) (ff λe=>nomatch e) (λ_=>ff λe=>nomatch e) (λ_=>ff λe=>nomatch e) (λk d _=>(ih k d).trans (pH.mpr ⟨lT PV.tup,PV.tup.inj⟩)) trivial (λ_ _ _ _ _ _=>trivial))
  (λk _=>match k with|[]=>tt rfl|_::_=>ff λe=>nomatch e)
  (λp l _ _ h1 h2 k d=>match k,d with
   |[],_=>ff λe=>nomatch e
   |q::k,d=>El.nL d λa b=>(congr (lT and (h1 q a)) (h2 k b)).trans ((ec ..).symm.trans (pH.mpr ⟨λe=>e.1▸e.2▸rfl,bu⟩))) d q
section
variable {prog:Program}{w:az}{A:aA}{E:Value->Shared->Prop}{s:Shared}{H:lV}
theorem qc {p:PV}(h:p.nQ=true):p.isData=true/\p.depth<=40:=El.nL h λa b=>⟨a,l9 b⟩
theorem RU {u a d:Nat}(hu:u+60<cLine)(hd:d<=40):u+min a d<cLine:=aT (av (ae (ei ..) (ae hd (by decide))) u) hu
theorem WX {p q:PV}{a b:Value}{Q:Value->Shared->Prop}(hp:p.nQ=true)(hq:q.nQ=true)(ra:VR s.heap H p a)(rb:VR s.heap H q b)(hu:A.units+60<cLine)
  (h:Q (.bool (decide (p=q))) s):ag (ah prog w) A (a_ .Eq a b) Q E s :=
 (wX (qc hp).1 ra).elim λ_ xa=>(wX (qc hq).1 rb).elim λ_ xb=>lx xa xb (lay_of (qc hp).1).1 (lay_of (qc hq).1).1 (RU hu ((lay_of (qc hq).1).2▸(qc hq).2)) (Fc (qc hp).1 (qc hq).1▸h)
theorem WY {p q:PV}{a b:Value}{Q:Value->Shared->Prop}(hp:p.nQ=true)(hq:q.nQ=true)(ra:VR s.heap H p a)(rb:VR s.heap H q b)(hu:A.units+60<cLine)
  (h:Q (.bool (!decide (p=q))) s):ag (ah prog w) A (a_ .NotEq a b) Q E s :=
 (wX (qc hp).1 ra).elim λ_ xa=>(wX (qc hq).1 rb).elim λ_ xb=>ly xa xb (lay_of (qc hp).1).1 (lay_of (qc hq).1).1 (RU hu ((lay_of (qc hq).1).2▸(qc hq).2)) (Fc (qc hp).1 (qc hq).1▸h)
theorem VD {p q:PV}{a b:Value}{Q:Bool->Shared->Prop}{ψ:lV}(hp:p.isData=true)(hq:q.isData=true)(ra:VR s.heap H p a)(rb:VR s.heap ψ q b)(hu:A.units+p.depth<cLine)
  (h:Q (decide (p=q)) s):ag (ah prog w) A (eqBool a b) Q E s :=
 (wX hp ra).elim λas xa=>(wX hq rb).elim λbs xb=>lz prog w A E s a b _ _ as bs Q xa xb (lay_of hp).1 (lay_of hq).1 (aT (av (ae (jr ..) (ax (lay_of hp).2)) _) hu) (Fc hp hq▸h)
end
theorem xK {p:PV}:p.isKey=true->p.isData=true :=
 H5 (P:=λp=>p.isData=true) (Q:=λl=>PV.pF l=true) (λ_=>rfl) (λ_=>rfl) (λ_ h=>h) rfl λ_ _ a b=>(aL _ _).mpr ⟨a,b⟩
theorem VR.data {h:Heap}{H ψ:lV}{p:PV}{v:Value}(d:p.isData=true):VR h H p v->VR h ψ p v :=
 u5 (P:=λp=>∀v,VR h H p v->VR h ψ p v) (Q:=λl=>∀vs,l6 h H l vs->l6 h ψ l vs) (λ_ x=>x) (λ_ _ x=>x) (λ_ _ x=>x) (λ_ _ ih _ x=>x.p6 λ_ vs t hs b=>.vk t (ih vs hs) b) (λ_ x=>x)
  (λ_ _ _ _ h1 h2 _ x=>x.qT λv r a b=>.i (h1 v a) (h2 r b)) d v
theorem l6.data {h:Heap}{H ψ:lV}:∀{l:List PV} {vs:List Value},PV.pF l=true->l6 h H l vs->l6 h ψ l vs
 |[],_,_,x=>x
 |_::_,_,d,x=>El.nL d λd1 d2=>x.qT λ_ _ a b=>.i (a.data d1) (b.data d2)
theorem ade {h:Heap}{a:Addr}{vs ws:List Value}(x:aN h a vs.toArray)(y:aN h a ws.toArray):vs=ws :=
 x.elim λ_ x=>x.2.2.elim λ_ d=>y.elim λ_ y=>y.2.2.elim λ_ d'=>lT (λo=>match o with|.seq l_ _=>l_.toList|_=>[]) (d.symm.trans ((lT Obj.data (aq (x.1.symm.trans y.1))).trans d'))
section
variable {h:Heap}{H ψ:lV}{q:PV}
theorem ajf (e:q.isData=true)(y:VR h ψ q .none):.none=q:=by
 cases q with
 |none=>rfl
 |int j=>exact y.elim λ_ e=>nomatch e
 |str j=>exact y.elim λ_ e=>nomatch e
 |tup k=>exact y.elim λ_ y=>y.elim λ_ y=>nomatch y.1
 |_=>exact El.bf e
theorem ajg {i:Int}{t:Tok}(e:q.isData=true)(y:VR h ψ q (.int i t)):.int i=q:=by
 cases q with
 |none=>exact nomatch (show Value.int i t=.none from y)
 |int j=>exact y.elim λ_ e=>lT PV.int (Value.int.inj e).1
 |str j=>exact y.elim λ_ e=>nomatch e
 |tup k=>exact y.elim λ_ y=>y.elim λ_ y=>nomatch y.1
 |_=>exact El.bf e
theorem ajh {i:String}{t:Tok}(e:q.isData=true)(y:VR h ψ q (.str (nm i) t)):.str i=q:=by
 cases q with
 |none=>exact nomatch (show jv (nm i) t=.none from y)
 |int j=>exact y.elim λ_ e=>nomatch e
 |str j=>exact y.elim λ_ e=>lT PV.str (vY (Value.str.inj e).1)
 |tup k=>exact y.elim λ_ y=>y.elim λ_ y=>nomatch y.1
 |_=>exact El.bf e
theorem aji {l:List PV}{a:Addr}{vs:List Value}(x:aN h a vs.toArray)(e:q.isData=true)(ih:∀k,PV.pF k=true->l6 h ψ k vs->l=k)(y:VR h ψ q (.ref a)):.tup l=q:=by
 cases q with
 |none=>exact nomatch (show Value.ref a=.none from y)
 |int j=>exact y.elim λ_ e=>nomatch e
 |str j=>exact y.elim λ_ e=>nomatch e
 |tup k=>exact y.elim λa' y=>y.elim λws y=>lT PV.tup (ih k e (ade x (jw y.1▸y.2.1)▸y.2.2.1))
 |_=>exact El.bf e
theorem VR.data_inj {p:PV}{v:Value}(d:p.isData=true)(e:q.isData=true)(x:VR h H p v)(y:VR h ψ q v):p=q :=
 u5 (P:=λp=>∀q:PV,q.isData=true->∀v,VR h H p v->VR h ψ q v->p=q) (Q:=λl=>∀k,PV.pF k=true->∀vs,l6 h H l vs->l6 h ψ k vs->l=k)
  (λ_ e _ x=>x.vg λy=>ajf e y) (λ_ _ e _ x=>x.qE λ_ y=>ajg e y) (λ_ _ e _ x=>x.q9 λ_ y=>ajh e y) (λ_ _ ih _ e _ x=>x.p6 λ_ vs t hs _ y=>aji t e (λk d=>ih k d vs hs) y)
  (λk _ _ x=>x.vH λy=>match k,y with|[],_=>rfl|_::_,y=>y.elim λ_ y=>y.elim λ_ y=>nomatch y.1)
  (λp l _ _ h1 h2 k d _ x=>x.qT λv r a b y=>match k,d,y with
   |[],_,y=>nomatch (show v::r=[] from y)
   |q::k,d,y=>El.nL d λd1 d2=>El.tT y λv' r' e a' b'=>congr (lT dm (h1 q d1 v a ((bu e).1▸a'))) (h2 k d2 r b ((bu e).2▸b'))) d q e v x y
end
theorem VR.DZ {h h':Heap}{H:lV}(g:∀a l_,aN h a l_->aN h' a l_){p:PV}{v:Value}(d:p.isData=true):VR h H p v->VR h' H p v :=
 u5 (P:=λp=>∀v,VR h H p v->VR h' H p v) (Q:=λl=>∀vs,l6 h H l vs->l6 h' H l vs) (λ_ x=>x) (λ_ _ x=>x) (λ_ _ x=>x) (λ_ _ ih _ x=>x.p6 λ_ vs t hs b=>.vk (g _ _ t) (ih vs hs) b) (λ_ x=>x)
  (λ_ _ _ _ h1 h2 _ x=>x.qT λv r a b=>.i (h1 v a) (h2 r b)) d v
mutual
noncomputable def BG (w:az):PV->Int
 |.int i=>hashInt i
 |.str s=>hashStr w (nm s)
 |.tup l=>reduceHash (jx (Br w l))
 |_=>0
noncomputable def Br (w:az):List PV->List Int
 |[]=>[]
 |a::r=>BG w a::Br w r
end
mutual
noncomputable def BH:PV->Nat
 |.tup l=>EK l+1
 |_=>1
noncomputable def EK:List PV->Nat
 |[]=>0
 |a::r=>BH a+EK r
end
section
variable {prog:Program}{w:az}{E:Value->Shared->Prop}
theorem ahC {u a b:Nat}(h:u+max a b<cLine):u+a<cLine:=aT (av (jy ..) u) h
theorem ahD {u a b:Nat}(h:u+max a b<cLine):u+b<cLine:=aT (av (jz ..) u) h
theorem aaF {l:List PV}{a:Addr}{vs:List Value}{A:aA}{s:Shared}{Q:Int->Shared->Prop}(hT:aN s.heap a vs.toArray)(hu:A.units<cLine)
  (h:ag (ah prog w) A.in1 (forIn vs (#[]:Array Int) λx r=>do let h ← pyHash x;pure jA;pure (bW (r.push h))) (λb s'=>b.toList=Br w l/\Q (BG w (.tup l)) {s' with toks:=s'.toks+1}) E s):ag (ah prog w) A (pyHash (.ref a)) Q E s:=by
 refine hT.elim λo z=>z.2.2.elim λn hd=>?_;refine pyHash_slot (T:="tuple") ⟨o,z.1,z.2.1⟩ F.slot_tuple_hash F.entry_tuple_hash (F.args_tuple_hash_1 _) (beq_builtin_none _) (.inr hu) ?_;show ag _ _ (jB (.ref a)>>=_) _ _ s;refine aj (wpAny_tupleItemsOf z.1 hd ?_);refine aj ?_;rw[← jC];refine ay h (λb s' hb=>?_) λ_ _ e=>e;show ag _ _ (retInt (jx b.toList)) _ _ _;rw[hb.1];exact aj (wpAny_mkInt (aw ⟨_,_,rfl,hb.2⟩))
theorem WZ (p:PV)(v:Value)(A:aA)(s:Shared)(Q:Int->Shared->Prop)(hk:p.isKey=true)(x:VR s.heap lV.nil p v)(hu:A.units+p.depth<cLine)
  (h:Q (BG w p) {s with toks:=s.toks+BH p}):ag (ah prog w) A (pyHash v) Q E s :=
 H5 (P:=λp=>∀v A s Q,VR s.heap lV.nil p v->A.units+p.depth<cLine->Q (BG w p) {s with toks:=s.toks+BH p}->ag (ah prog w) A (pyHash v) Q E s)
  (Q:=λl=>∀vs A s (b:Array Int) Q,l6 s.heap lV.nil l vs->A.units+PV.rT l<cLine->(∀b',b'.toList=b.toList++Br w l->Q b' {s with toks:=s.toks+EK l}) ->
   ag (ah prog w) A (forIn vs b λx r=>do let h ← pyHash x;pure jA;pure (bW (r.push h))) Q E s)
  (λ_ _ _ _ _ x _ h=>x.qE λ_=>wpAny_pyHash_int h) (λ_ _ _ _ _ x _ h=>x.q9 λ_=>wpAny_pyHash_str h)
  (λl ih _ A s Q x hu h=>x.p6 λa vs t hs _=>aaF (l:=l) t (aT (aD ..) hu)
   (ih vs A.in1 s #[] _ hs (by rw[Around.in1_units];exact aT (ax (eg ..)) hu) λb hb=>⟨hb.trans (jk _),h⟩))
  (λvs _ _ b Q x _ h=>x.vH (aw (h b (bc _).symm)))
  (λp l h1 h2 vs A s b Q x hu h=>x.qT λv r hv hr=>by
   rw[dz];refine aj (aj (h1 v A s _ hv (ahC hu) ?_));refine aj (aw (aw ?_));refine h2 r A _ _ Q hr (ahD hu) λb' hb=>?_;have z:=h b' (hb.trans ((lT (·++Br w l) Array.toList_push).trans (bR ..)));exact(aP s.toks (BH p) (EK l)).symm▸z) hk v A s Q x hu h
theorem YM {n:Nat}{a:Addr}{vs:List Value}{A:aA}{s:Shared}{Q:Bool->Shared->Prop}(hT:aN s.heap a vs.toArray)
  (h:ag (ah prog w) A (forIn vs ((none,()):Option Bool×Unit) λy _=>do
   let r ← dS n y
   if !r then pure (jD (some false,())) else pure (bW (none,()))) (λr s'=>r=(none,())/\Q true s') E s):ag (ah prog w) A (dS (n+1) (.ref a)) Q E s:=by
 refine hT.elim λo z=>z.2.2.elim λm hd=>?_;have hT:s.TypeIs (.ref a) "tuple":=⟨o,z.1,z.2.1⟩;unfold dS;refine aj (wpAny_specialOf hT F.slot_tuple_eq.lookup ?_);show ag _ _ (isInstance (.ref a) (.type "tuple")>>=_) _ _ s;refine aj (wpAny_isInstance hT isSubtype_tuple_tuple ?_);simp only[jE,jF,if_false];refine aj (jG z.1 hd ?_);refine aj ?_;show ag _ _ (forIn vs.toArray _ _) _ _ s;rw[← jC];refine ay h (λr s' e=>?_) λ_ _ e=>e;rw[e.1];exact aw e.2
theorem YN (p:PV)(n:Nat)(v:Value)(A:aA)(s:Shared)(Q:Bool->Shared->Prop)(hk:p.isKey=true)(hn:p.depth<=n)(x:VR s.heap lV.nil p v)(h:Q true s):ag (ah prog w) A (dS n v) Q E s :=
 H5 (P:=λp=>∀n v Q,p.depth<=n->VR s.heap lV.nil p v->Q true s->ag (ah prog w) A (dS n v) Q E s)
  (Q:=λl=>∀n vs (Q:Option Bool×Unit->Shared->Prop),PV.rT l<=n->l6 s.heap lV.nil l vs->Q (none,()) s->ag (ah prog w) A (forIn vs ((none,()):Option Bool×Unit) λy _=>do
   let r ← dS n y
   if !r then pure (jD (some false,())) else pure (bW (none,()))) Q E s)
  (λ_ n _ _ _ x h=>x.qE λ_=>by rw[jH n rfl];exact aw h) (λ_ n _ _ _ x h=>x.q9 λ_=>by rw[jH n rfl];exact aw h)
  (λl ih n _ Q hn x h=>x.p6 λa vs t hs _=>match n,hn with|n+1,hn=>YM t (ih n vs _ (ji hn) hs ⟨rfl,h⟩))
  (λ_ _ _ _ x h=>x.vH (aw h))
  (λp l h1 h2 n _ Q hn x h=>x.qT λv r hv hr=>by
   rw[dz];refine aj (aj (h1 n v _ (ae (jy ..) hn) hv ?_));simp only[jE,jF,if_false];exact aw (h2 n r Q (ae (jz ..) hn) hr h)) hk n v Q hn x h
end
theorem Lh {k:PV}(h:k.qo=true):∃l,k=.tup l/\PV.areKeys l=true/\PV.rT l<=6:=by
 cases k with
 |tup l=>exact⟨l,rfl,El.nL h λa b=>⟨a,l9 b⟩⟩
 |_=>exact El.bf h
theorem tu {k:PV}(h:k.qo=true):k.isKey=true/\k.depth<=7:=(Lh h).elim λ_ z=>z.1▸⟨z.2.1,aU z.2.2⟩
theorem PM {u d:Nat}(hu:u+10<cLine)(h:d<=7):u+d<cLine:=aT (av (ae h (by decide)) u) hu
noncomputable def sm (prog:Program)(w:az):HeapKind prog w PV where
 is:=λh k a=>k.qo=true/\VR h lV.nil k (.ref a)
 hash:=BG w
 draws:=BH
 room:=λA=>A.units+10<cLine
 inj:=λhx hy=>VR.data_inj (xK (tu hx.1).1) (xK (tu hy.1).1) hx.2 hy.2
 keeps:=λx ho hd hs=>⟨x.1,VR.DZ (λa l_ ⟨o,e,hc,hq⟩=>by
  refine⟨o,(hs.2 a λe'=>?_).trans e,hc,hq⟩;subst e';rw[ho] at e;cases e;obtain⟨n,hq⟩:=hq;rw[hd] at hq;cases hq) (xK (tu x.1).1) x.2⟩
 pyHash:=λhu hk h=>WZ _ _ _ _ _ (tu hk.1).1 hk.2 (PM hu (tu hk.1).2) h
 eqBool:=λhu hx hy h=>VD (xK (tu hx.1).1) (xK (tu hy.1).1) hx.2 hy.2 (PM hu (tu hx.1).2) h
 quiet:=λhk h=>YN _ _ _ _ _ _ (tu hk.1).1 (ae (tu hk.1).2 (by decide)) hk.2 h
structure Cx where
 prog:Program
 w:az
 K:Frag
 base:Heap
 sys:(base.get? dT).isSome=true
 cls:n_->Addr
 fn:Fn->Addr
def FD (h:Heap)(H:lV):List (String×PV)->List DictEntry->Prop
 |[],es=>es=[]
 |f::fs,es=>∃k t v r,es=⟨k,.str (nm f.1) t,v⟩::r/\VR h H f.2 v/\FD h H fs r
theorem FD.map {h h':Heap}{H φ':lV}(gr:∀{q:PV} {v:Value},VR h H q v->VR h' φ' q v):∀{fs:List (String×PV)} {es:List DictEntry},FD h H fs es->FD h' φ' fs es
 |[],_,x=>x
 |_::_,_,x=>x.elim λk x=>x.elim λt x=>x.elim λv x=>x.elim λr x=>⟨k,t,v,r,x.1,gr x.2.1,FD.map gr x.2.2⟩
theorem FD.len {h:Heap}{H:lV}:∀{fs:List (String×PV)} {es:List DictEntry},FD h H fs es->es.length=fs.length
 |[],es,x=>lT bG (show es=[] from x)
 |_::_,_,x=>x.elim λk x=>x.elim λt x=>x.elim λv x=>x.elim λr x=>(lT bG x.1).trans (lT c8 (FD.len x.2.2))
def OR (X:Cx)(h:Heap)(H:lV)(p:Addr×Addr):mC->Prop
 |.list l=>p.2=p.1/\∃vs,h.PlainList p.1 vs.toArray/\l6 h H l vs/\l.length<=2^20
 |.pk l=>p.2=p.1/\∃kvs,h.DictAt (cy X.prog X.w) p.1 kvs l.length/\kvs.map (·.1)=l.map (·.1)/\l6 h H (l.map (·.2)) (kvs.map (·.2))
 |.p5 l=>p.2=p.1/\∃kvs,h.DictOf (strKind X.prog X.w) p.1 kvs/\kvs.map (·.1)=l.map (λx=>nm x.1)/\l6 h H (l.map (·.2)) (kvs.map (·.2))
 |.pn l=>p.2=p.1/\∃xs,h.DictOfH (sm X.prog X.w) p.1 xs/\xs.map (·.1)=l.map (·.1)/\l6 h H (l.map (·.2)) (xs.map (·.2.2))
 |.inst c fs=>h.get? p.1=some (b_ (X.cls c) p.2)/\p.2≠p.1/\∃es n,h.get? p.2=some (dictOf es n)/\FD h H fs es /\
   ∀f∈fs,bk X.K (.ref (X.cls c)) (nm f.1)=some none
structure Rel (X:Cx)(h:Heap)(H:lV)(Y:St):Prop where
 len:H.l.length=Y.length
 obj:∀(n:Nat) (p:Addr×Addr) (o:mC),H.l[n]? =some p->Y[n]? =some o->OR X h H p o
 apart:∀(i j:Nat) (p q:Addr×Addr),H.l[i]? =some p->H.l[j]? =some q->i≠j->p.1≠q.1/\p.1≠q.2/\p.2≠q.1/\p.2≠q.2
 above:∀p∈H.l,X.base.get? p.1=none/\X.base.get? p.2=none
 ti:∀b∈H.g,mL h b
structure Base (X:Cx)(h:Heap):Prop where
 keep:∀b o,X.base.get? b=some o->h.get? b=some o
theorem OR.live {X:Cx}{h:Heap}{H:lV}{p:Addr×Addr}{o:mC}(x:OR X h H p o):mL h p.1/\mL h p.2:=by
 cases o with
 |list l=>obtain⟨e,vs,⟨o,ho⟩,_⟩:=x;rw[e];exact⟨⟨_,ho⟩,_,ho⟩
 |pk l=>obtain⟨e,vs,⟨o,_,ho,_⟩,_⟩:=x;rw[e];exact⟨⟨_,ho⟩,_,ho⟩
 |p5 l=>obtain⟨e,vs,⟨o,_,_,ho,_⟩,_⟩:=x;rw[e];exact⟨⟨_,ho⟩,_,ho⟩
 |pn l=>obtain⟨e,vs,⟨o,_,_,ho,_⟩,_⟩:=x;rw[e];exact⟨⟨_,ho⟩,_,ho⟩
 |inst c fs=>obtain⟨ho,_,es,n,hn,_⟩:=x;exact⟨⟨_,ho⟩,_,hn⟩
theorem OR.nC {X:Cx}{h:Heap}{H:lV}{p:Addr×Addr}{o:mC}(x:OR X h H p o){a:Addr}{l_:Array Value}(t:aN h a l_):p.1≠a/\p.2≠a:=by
 obtain⟨ot,et,ct,n,dt⟩:=t;have two:∀q:Addr,(∀ob,h.get? q=some ob->ob.cls≠.type "tuple")->q≠a:=λq hq e=>by subst e;exact hq _ et ct
 cases o with
 |list l =>
  obtain⟨e,vs,⟨n,ho⟩,_⟩:=x;rw[e];have:=two p.1 λob e=>by rw[ho] at e;cases e;simp
  exact⟨this,this⟩
 |pk l =>
  obtain⟨e,vs,⟨o,_,ho,hc,_⟩,_⟩:=x;rw[e];have:=two p.1 λob e=>by rw[ho] at e;cases e;rw[hc.1];decide
  exact⟨this,this⟩
 |p5 l =>
  obtain⟨e,vs,⟨o,_,_,ho,hc,_⟩,_⟩:=x;rw[e];have:=two p.1 λob e=>by rw[ho] at e;cases e;rw[hc.1];decide
  exact⟨this,this⟩
 |pn l =>
  obtain⟨e,vs,⟨o,_,_,ho,hc,_⟩,_⟩:=x;rw[e];have:=two p.1 λob e=>by rw[ho] at e;cases e;rw[hc.1];decide
  exact⟨this,this⟩
 |inst c fs =>
  obtain⟨ho,_,es,n,hn,_⟩:=x;exact⟨two p.1 λob e=>by rw[ho] at e;cases e;simp[b_],two p.2 λob e=>by rw[hn] at e;cases e;simp⟩
theorem Rel.get {X:Cx}{h:Heap}{H:lV}{Y:St}(R:Rel X h H Y){n:Nat}{p:Addr×Addr}(e:H.l[n]? =some p):∃o,Y[n]? =some o/\OR X h H p o:=by
 have hl:n<Y.length:=R.len▸(List.getElem?_eq_some_iff.mp e).1;exact⟨Y[n],aQ hl,R.obj n p _ e (aQ hl)⟩
theorem Rel.nC {X:Cx}{h:Heap}{H:lV}{Y:St}(R:Rel X h H Y):v_ h H:=λa l_ t p hp=>by
 obtain⟨n,hn⟩:=List.mem_iff_getElem?.mp hp;obtain⟨o,_,x⟩:=R.get hn;exact x.nC t
theorem Rel.live {X:Cx}{h:Heap}{H:lV}{Y:St}(R:Rel X h H Y){p:Addr×Addr}(hp:p∈H.l):mL h p.1/\mL h p.2:=by
 obtain⟨n,hn⟩:=List.mem_iff_getElem?.mp hp;obtain⟨o,_,x⟩:=R.get hn;exact x.live
theorem Rel.clear {X:Cx}{h:Heap}{H:lV}{Y:St}(R:Rel X h H Y){a:Addr}(x:¬mL h a):Clear H a :=
 ⟨λq hq=>⟨λe=>x (e▸(R.live hq).1),λe=>x (e▸(R.live hq).2)⟩,λhb=>x (R.ti _ hb)⟩
section
variable {X:Cx}{h:Heap}{H:lV}{p:Addr×Addr}{G:Prop}
theorem OR.w8 {l:List PV}(y:OR X h H p (.list l))(k:p.2=p.1->∀vs,h.PlainList p.1 vs.toArray->l6 h H l vs->l.length<=2^20->G):G:=y.2.elim λvs z=>k y.1 vs z.1 z.2.1 z.2.2
theorem OR.vv {l:List (Int×PV)}(y:OR X h H p (.pk l))(k:p.2=p.1->∀kvs,h.DictAt (cy X.prog X.w) p.1 kvs l.length->kvs.map (·.1)=l.map (·.1)->l6 h H (l.map (·.2)) (kvs.map (·.2))->G):G:=y.2.elim λvs z=>k y.1 vs z.1 z.2.1 z.2.2
theorem OR.Cb {l:List (String×PV)}(y:OR X h H p (.p5 l))(k:p.2=p.1->∀kvs,h.DictOf (strKind X.prog X.w) p.1 kvs->kvs.map (·.1)=l.map (λx=>nm x.1)->l6 h H (l.map (·.2)) (kvs.map (·.2))->G):G:=y.2.elim λvs z=>k y.1 vs z.1 z.2.1 z.2.2
theorem OR.z_ {l:List (PV×PV)}(y:OR X h H p (.pn l))(k:p.2=p.1->∀xs,h.DictOfH (sm X.prog X.w) p.1 xs->xs.map (·.1)=l.map (·.1)->l6 h H (l.map (·.2)) (xs.map (·.2.2))->G):G:=y.2.elim λvs z=>k y.1 vs z.1 z.2.1 z.2.2
theorem OR.Iw {c:n_}{fs:List (String×PV)}(y:OR X h H p (.inst c fs))(k:h.get? p.1=some (b_ (X.cls c) p.2)->p.2≠p.1->∀es n,h.get? p.2=some (dictOf es n)->FD h H fs es->(∀f∈fs,bk X.K (.ref (X.cls c)) (nm f.1)=some none)->G):G :=
 y.2.2.elim λes z=>z.elim λn z=>k y.1 y.2.1 es n z.1 z.2.1 z.2.2
end
section
variable {X:Cx}{h:Heap}{H:lV}{Y:St}{n:Nat}{v:Value}{β:Type}{r:β}
@[elab_as_elim] theorem Rel.uA (R:Rel X h H Y)(x:VR h H (.loc n) v){f:mC->Option β}(e:rE Y n f=some r){P:Value->Prop}
  (k:∀p o,H.l[n]? =some p->Y[n]? =some o->OR X h H p o->f o=some r->P (.ref p.1)):P v :=
 x.zU λp hp=>El.n3 (R.get hp) λo ho y=>k p o hp ho y ((lT (·.bind f) ho).symm.trans e)
theorem Rel.PO (R:Rel X h H Y)(x:VR h H (.loc n) v){f:mC->Option mC}{σ':St}(e:BO Y n f=some σ'){P:Value->St->Prop}
  (k:∀p o o',H.l[n]? =some p->OR X h H p o->f o=some o'->P (.ref p.1) (Y.set n o')):P v σ' :=
 R.uA x e λp o hp _ y e=>El.n3 (Option.map_eq_some_iff.mp e) λo' e q=>q▸k p o o' hp y e
@[elab_as_elim] theorem Rel.qF (R:Rel X h H Y)(x:VR h H (.loc n) v){f:List PV->Option β}(e:rE Y n (mC.lst f)=some r){P:Value->Prop}
  (k:∀p l vs,H.l[n]? =some p->Y[n]? =some (.list l)->h.PlainList p.1 vs.toArray->l6 h H l vs->l.length<=2^20->f l=some r->P (.ref p.1)):P v :=
 R.uA x e λp o hp ho y e=>by
  cases o with
  |list l=>exact y.w8 λ_ vs a b c=>k p l vs hp ho a b c e
  |_=>exact El.nn e
@[elab_as_elim] theorem Rel.vv (R:Rel X h H Y)(x:VR h H (.loc n) v){f:List (Int×PV)->Option β}(e:rE Y n (mC.dI f)=some r){P:Value->Prop}
  (k:∀p l kvs,H.l[n]? =some p->Y[n]? =some (.pk l)->h.DictAt (cy X.prog X.w) p.1 kvs l.length->kvs.map (·.1)=l.map (·.1)->l6 h H (l.map (·.2)) (kvs.map (·.2))->f l=some r->P (.ref p.1)):P v :=
 R.uA x e λp o hp ho y e=>by
  cases o with
  |pk l=>exact y.vv λ_ vs a b c=>k p l vs hp ho a b c e
  |_=>exact El.nn e
@[elab_as_elim] theorem wa {i:PV}{u:Value}{f:Int->Option β}(e:i.vx f=some r)(y:VR h H i u){P:PV->Value->Prop}(k:∀j t,f j=some r->P (.int j) (.int j t)):P i u:=by
 cases i with
 |int j=>exact y.elim λt e'=>e'▸k j t e
 |_=>exact El.nn e
@[elab_as_elim] theorem I0 {i:PV}{u:Value}{f:String->Option β}(e:i.F0 f=some r)(y:VR h H i u){P:PV->Value->Prop}(k:∀j t,f j=some r->P (.str j) (.str (nm j) t)):P i u:=by
 cases i with
 |str j=>exact y.elim λt e'=>e'▸k j t e
 |_=>exact El.nn e
theorem u41 {u a d:Nat}(hu:u+60<cLine)(hd:d<=40):u+1+min a d<cLine:=aT (bh (aB _) (ae (ei ..) hd)) (aT (ae (ax (aP u 1 40)) (av (by decide) u)) hu)
theorem Gs {u:Nat}(hu:u+60<cLine):u+1+10<cLine:=aT (av (by decide:11<=60) u) hu
theorem l6.sX {p:PV}{l:List PV}{v:Value}{vs:List Value}(a:VR h H p v)(b:l6 h H l vs):l6 h H (p::l) (v::vs):=⟨v,vs,rfl,a,b⟩
theorem l6.Iy {p:PV}{l:List PV}{v:Value}{vs:List Value}(x:l6 h H (p::l) (v::vs)):VR h H p v/\l6 h H l vs:=x.elim λ_ x=>x.elim λ_ x=>by cases x.1;exact x.2
theorem ajj {k:Int}(h:-(2^50)<k):-(2^63)<=k:=dU (dk (by decide:(-(2^63):Int)< -(2^50)) h)
theorem QH {k:Int}(h:k<2^50):k<2^63:=dk h (by decide)
theorem l6.RV {l:List PV}{vs:List Value}(x:l6 h H l vs):vs.toArray.isEmpty=l.isEmpty:=by
 cases l with
 |nil=>cases(show vs=[] from x);rfl
 |cons _ _=>exact x.elim λv x=>x.elim λr x=>by rw[x.1];rfl
theorem l6.line {l:List PV}{vs:List Value}(x:l6 h H l vs)(hb:l.length<=2^20):(vs.toArray.size:Int)<2^63:=Int.ofNat_lt.mpr (by rw[bF,x.len];exact aT hb (by decide):_<2^63)
theorem l6.sz {l:List PV}{vs:List Value}(x:l6 h H l vs)(hb:l.length<=2^20):vs.toArray.size<=sizeLine:=by rw[bF,x.len];exact ae hb (by decide)
end
theorem UY {prog:Program}{w:az}{h h':Heap}{d:Addr}{xs:List (PV×Addr×Value)}(x:h.DictOfH (sm prog w) d xs)(g:∀o,h.get? d=some o->h'.get? d=some o)(t:∀a l_,aN h a l_->aN h' a l_) :
  h'.DictOfH (sm prog w) d xs:=by
 obtain⟨o,es,ep,ho,hc,hd,he,hk,hn⟩:=x;exact⟨o,es,ep,g o ho,hc,hd,he,λy hy=>⟨(hk y hy).1,VR.DZ t (xK (tu (hk y hy).1).1) (hk y hy).2⟩,hn⟩
theorem OR.grow {X:Cx}{h h':Heap}{H φ':lV}{p:Addr×Addr}{o:mC}(nt:v_ h H)(x:OR X h H p o)(g1:∀ob,h.get? p.1=some ob->h'.get? p.1=some ob)(g2:∀ob,h.get? p.2=some ob->h'.get? p.2=some ob)
  (gr:∀{q:PV} {v:Value},VR h H q v->VR h' φ' q v) (xC:∀{l:List PV} {vs:List Value},l6 h H l vs->l6 h' φ' l vs) (t:∀a l_,aN h a l_->aN h' a l_):OR X h' φ' p o:=by
 cases o with
 |list l =>
  obtain⟨e,vs,⟨n,ho⟩,hv,hb⟩:=x;exact⟨e,vs,⟨n,g1 _ ho⟩,xC hv,hb⟩
 |pk l =>
  obtain⟨e,kvs,⟨o,es,ho,r⟩,hk,hv⟩:=x;exact⟨e,kvs,⟨o,es,g1 _ ho,r⟩,hk,xC hv⟩
 |p5 l =>
  obtain⟨e,kvs,⟨o,es,ep,ho,r⟩,hk,hv⟩:=x;exact⟨e,kvs,⟨o,es,ep,g1 _ ho,r⟩,hk,xC hv⟩
 |pn l =>
  obtain⟨e,xs,hd,hk,hv⟩:=x;exact⟨e,xs,UY hd g1 t,hk,xC hv⟩
 |inst c fs =>
  obtain⟨ho,oi,es,n,hd,hf,hn⟩:=x;exact⟨g1 _ ho,oi,es,n,g2 _ hd,hf.map gr,hn⟩
theorem Rel.fresh {X:Cx}{h:Heap}{H:lV}{Y:St}(R:Rel X h H Y):Clear H h.objs.size:=R.clear (mL.fresh h)
theorem Rel.grow {X:Cx}{h h':Heap}{H:lV}{Y:St}(R:Rel X h H Y)(k:∀b o,h.get? b=some o->h'.get? b=some o):Rel X h' H Y:=by
 have g:Gr h H h' H:=Gr.of k;refine⟨R.len,λn p o e1 e2=>?_,R.apart,R.above,λb hb=>let ⟨o,e⟩:=R.ti b hb;⟨o,k _ _ e⟩⟩;have x:=R.obj n p o e1 e2;exact x.grow R.nC (λob e=>k _ _ e) (λob e=>k _ _ e) (λy=>y.grow g R.nC) (λy=>y.grow g R.nC) (λa l_ ⟨o,e,r⟩=>⟨o,k _ _ e,r⟩)
theorem Rel.write {X:Cx}{h h':Heap}{H:lV}{Y:St}(R:Rel X h H Y){n:Nat}{p:Addr×Addr}{a:Addr}{o':mC}(hp:H.l[n]? =some p)(ha:a=p.1\/a=p.2)
  (hs:cb a h h') (new:(∀{q:PV} {v:Value},VR h H q v->VR h' H q v)->(∀{l:List PV} {vs:List Value},l6 h H l vs->l6 h' H l vs)->(∀b l_,aN h b l_->aN h' b l_)->OR X h' H p o') (lv:mL h' a) :
  Rel X h' H (Y.set n o')/\Gr h H h' H:=by
 have Cc:p∈H.l:=bj hp
 have CJ:∀b,mL h b->mL h' b:=λb z=>if q:b=a then q▸lv else z.imp λo e=>(hs.2 b q).trans e
 have g:Gr h H h' H:=⟨λb o e ap _=>(hs.2 b λq=>ha.elim (λz=>(ap p Cc).1 (z.symm.trans q.symm)) λz=>(ap p Cc).2 (z.symm.trans q.symm)).trans e,CJ,rfl,[],(bc _).symm,λ_ hp=>nomatch hp⟩
 have ts:∀b l_,aN h b l_->aN h' b l_:=λb l_ t=>t.imp λo z=>⟨g.keep _ _ z.1 (R.nC _ _ t) id,z.2⟩;refine⟨{R with len:=by rw[bw];exact R.len,obj:=λm q o e1 e2=>?_,ti:=λb hb=>CJ b (R.ti b hb)},g⟩;by_cases hm:n=m
 ·cases hm;cases aq (hp.symm.trans e1);cases aq ((bx (R.len▸(List.getElem?_eq_some_iff.mp hp).1)).symm.trans e2);exact new (λy=>y.grow g R.nC) (λy=>y.grow g R.nC) ts
 ·have ap:=R.apart n m p q hp e1 hm;exact(R.obj m q o e1 ((aX hm).symm.trans e2)).grow R.nC (λob e=>(hs.2 _ λe=>ha.elim (λz=>ap.1 (z.symm.trans e.symm)) λz=>ap.2.2.1 (z.symm.trans e.symm)).trans e)
   (λob e=>(hs.2 _ λe=>ha.elim (λz=>ap.2.1 (z.symm.trans e.symm)) λz=>ap.2.2.2 (z.symm.trans e.symm)).trans e) (λy=>y.grow g R.nC) (λy=>y.grow g R.nC) ts
theorem Bb {V:Type}{l:List V}{p q:V}{n:Nat}(e:(l++[p])[n]? =some q):(n<l.length/\l[n]? =some q)\/(n=l.length/\q=p) :=
 if h:n<l.length then .inl ⟨h,(bB h).symm.trans e⟩ else
  have hn:n=l.length:=eA (cK (by have:=(List.getElem?_eq_some_iff.mp e).1;rw[ar] at this;exact this)) (b8 h)
  .inr ⟨hn,by rw[hn,ee (aB _),e_] at e;exact(aq e).symm⟩
def Gu (p q:Addr×Addr):Prop:=p.1≠q.1/\p.1≠q.2/\p.2≠q.1/\p.2≠q.2
theorem Gu.symm {p q:Addr×Addr}(h:Gu p q):Gu q p:=⟨h.1.symm,h.2.2.1.symm,h.2.1.symm,h.2.2.2.symm⟩
theorem Rel.snoc {X:Cx}{h h':Heap}{H:lV}{Y:St}(R:Rel X h H Y){p:Addr×Addr}{o:mC}{g:List Addr}(lo:∀q∈H.l,Gu q p)(hb:X.base.get? p.1=none/\X.base.get? p.2=none)(hg:∀b∈g,mL h' b)
  (old:∀q ob,q∈H.l->OR X h H q ob->OR X h' ⟨H.l++[p],g⟩ q ob) (new:OR X h' ⟨H.l++[p],g⟩ p o):Rel X h' ⟨H.l++[p],g⟩ (Y++[o]) :=
 {len:=by rw[ar,ar,R.len];rfl
  obj:=λn q ob e1 e2=>(Bb e1).elim (λz=>old q ob (bj z.2) (R.obj n q ob z.2 ((bB (R.len▸z.1)).symm.trans e2)))
   λz=>(Bb e2).elim (λy=>(dR _ ((z.1.trans R.len)▸y.1)).elim) λy=>Eq.subst (motive:=λq=>OR X h' ⟨H.l++[p],g⟩ q ob) z.2.symm (Eq.subst (motive:=OR X h' ⟨H.l++[p],g⟩ p) y.2.symm new)
  apart:=λi j q r e1 e2 ne=>(Bb e1).elim (λa=>(Bb e2).elim (λb=>R.apart i j q r a.2 b.2 ne) λb=>b.2▸lo q (bj a.2))
   λa=>(Bb e2).elim (λb=>a.2▸(lo r (bj b.2)).symm) λb=>(ne (a.1.trans b.1.symm)).elim
  above:=λq hq=>(List.mem_append.mp hq).elim (R.above q) λhq=>List.mem_singleton.mp hq▸hb
  ti:=hg }
theorem vO {X:Cx}{h:Heap}{a:Addr}(B:Base X h)(nl:¬mL h a):X.base.get? a=none:=by
 cases q:X.base.get? a with
 |none=>rfl
 |some o=>exact absurd ⟨o,B.keep _ _ q⟩ nl
theorem Rel.join {X:Cx}{h h':Heap}{H:lV}{Y:St}(R:Rel X h H Y)(B:Base X h){p:Addr×Addr}{o:mC}(k:∀b o,h.get? b=some o->h'.get? b=some o)(hp:¬mL h p.1/\¬mL h p.2)
  (new:OR X h' (H.add p) p o):Rel X h' (H.add p) (Y++[o])/\Gr h H h' (H.add p):=by
 have g:Gr h H h' (H.add p):=⟨λb o e _ _=>k b o e,λb z=>z.imp λo e=>k b o e,rfl,[p],rfl,λq hq=>List.mem_singleton.mp hq▸hp⟩;exact⟨R.snoc (λq hq=>have z:=R.live hq;⟨λe=>hp.1 (e▸z.1),λe=>hp.2 (e▸z.1),λe=>hp.1 (e▸z.2),λe=>hp.2 (e▸z.2)⟩) ⟨vO B hp.1,vO B hp.2⟩ (λb hb=>(R.ti b hb).imp λo e=>k b o e)
  (λq ob _ x=>x.grow R.nC (λob e=>k _ _ e) (λob e=>k _ _ e) (λy=>y.grow g R.nC) (λy=>y.grow g R.nC) λa l_ t=>t.imp λo z=>⟨k _ _ z.1,z.2⟩) new,g⟩
theorem oE.trans {ex:Addr->Prop}{h₁ h₂ h₃:Heap}{φ₁ φ₂ φ₃:lV}(a:oE ex h₁ φ₁ h₂ φ₂)(b:oE ex h₂ φ₂ h₃ φ₃):oE ex h₁ φ₁ h₃ φ₃ :=
 ⟨λx o e ap ne=>b.keep _ _ (a.keep _ _ e ap ne) (a.apart ap ⟨o,e⟩) ne,λx l=>b.live x (a.live x l),b.gh.trans a.gh,a.ext.elim λψ z=>b.ext.elim λχ y=>⟨ψ++χ,by rw[y.1,z.1,bR],
  λp hp=>(List.mem_append.mp hp).elim (z.2 p) λhp=>⟨λq=>(y.2 p hp).1 (a.live _ q),λq=>(y.2 p hp).2 (a.live _ q)⟩⟩⟩
theorem oE.weaken {ex CK:Addr->Prop}{h h':Heap}{H φ':lV}(g:oE ex h H h' φ')(k:∀b,mL h b->ex b->CK b):oE CK h H h' φ' :=
 ⟨λb o e ap ne=>g.keep b o e ap λx=>ne (k b ⟨o,e⟩ x),g.live,g.gh,g.ext⟩
structure Pu (s s':Shared):Prop where
 keep:∀b o,s.heap.get? b=some o->s'.heap.get? b=some o
 gens:s'.gens=s.gens
 os:s'.os=s.os
theorem Pu.refl (s:Shared):Pu s s:=⟨λ_ _ e=>e,rfl,rfl⟩
theorem Pu.toks (s:Shared)(k:Nat):Pu s {s with toks:=k}:=⟨λ_ _ e=>e,rfl,rfl⟩
theorem Pu.trans {a b c:Shared}(x:Pu a b)(y:Pu b c):Pu a c:=⟨λ_ _ e=>y.keep _ _ (x.keep _ _ e),y.gens.trans x.gens,y.os.trans x.os⟩
theorem Pu.push (s:Shared)(o:Obj)(k:Nat):Pu s {s with heap:=(s.heap.push o),toks:=k}:=⟨λb o' e=>bO o e,rfl,rfl⟩
theorem Pu.gr {s s':Shared}(x:Pu s s')(H:lV):Gr s.heap H s'.heap H:=Gr.of x.keep
structure mQ (ex:Addr->Prop)(X:Cx)(s:Shared)(H:lV)(σ':St)(s':Shared)(φ':lV):Prop where
 rel:Rel X s'.heap φ' σ'
 gr:oE ex s.heap H s'.heap φ'
 gens:s'.gens=s.gens
 os:s'.os=s.os
noncomputable abbrev Sg:=mQ λ_=>False
theorem mQ.refl {ex:Addr->Prop}{X:Cx}{s:Shared}{H:lV}{Y:St}(R:Rel X s.heap H Y):mQ ex X s H Y s H:=⟨R,oE.refl _ _ _,rfl,rfl⟩
theorem Sg.refl {X:Cx}{s:Shared}{H:lV}{Y:St}(R:Rel X s.heap H Y):Sg X s H Y s H:=mQ.refl R
theorem mQ.trans {ex:Addr->Prop}{X:Cx}{s₁ s₂ s₃:Shared}{φ₁ φ₂ φ₃:lV}{σ₂ σ₃:St}(a:mQ ex X s₁ φ₁ σ₂ s₂ φ₂)(b:mQ ex X s₂ φ₂ σ₃ s₃ φ₃):mQ ex X s₁ φ₁ σ₃ s₃ φ₃ :=
 ⟨b.rel,a.gr.trans b.gr,b.gens.trans a.gens,b.os.trans a.os⟩
theorem Sg.trans {X:Cx}{s₁ s₂ s₃:Shared}{φ₁ φ₂ φ₃:lV}{σ₂ σ₃:St}(a:Sg X s₁ φ₁ σ₂ s₂ φ₂)(b:Sg X s₂ φ₂ σ₃ s₃ φ₃):Sg X s₁ φ₁ σ₃ s₃ φ₃:=mQ.trans a b
theorem mQ.weaken {ex CK:Addr->Prop}{X:Cx}{s s':Shared}{H φ':lV}{σ':St}(a:mQ ex X s H σ' s' φ')(k:∀b,mL s.heap b->ex b->CK b):mQ CK X s H σ' s' φ':=⟨a.rel,a.gr.weaken k,a.gens,a.os⟩
theorem Sg.wide {ex:Addr->Prop}{X:Cx}{s s':Shared}{H φ':lV}{σ':St}(a:Sg X s H σ' s' φ'):mQ ex X s H σ' s' φ':=mQ.weaken a λ_ _ e=>e.elim
theorem Sg.pu {X:Cx}{s s':Shared}{H:lV}{Y:St}(R:Rel X s.heap H Y)(p:Pu s s'):Sg X s H Y s' H:=⟨R.grow p.keep,p.gr H,p.gens,p.os⟩
theorem Sg.then {X:Cx}{s₁ s₂ s₃:Shared}{φ₁ φ₂:lV}{σ₂:St}(a:Sg X s₁ φ₁ σ₂ s₂ φ₂)(p:Pu s₂ s₃):Sg X s₁ φ₁ σ₂ s₃ φ₂:=a.trans (Sg.pu a.rel p)
theorem mQ.vr {ex:Addr->Prop}{X:Cx}{s s':Shared}{H φ':lV}{Y σ':St}(R:Rel X s.heap H Y)(ok:pQ ex s.heap H)(p:mQ ex X s H σ' s' φ'){x:PV}{v:Value}(h:VR s.heap H x v):VR s'.heap φ' x v:=h.q_ p.gr R.nC ok
theorem mQ.p2 {ex:Addr->Prop}{X:Cx}{s s':Shared}{H φ':lV}{Y σ':St}(R:Rel X s.heap H Y)(ok:pQ ex s.heap H)(p:mQ ex X s H σ' s' φ'){x:List PV}{v:List Value}(h:l6 s.heap H x v):l6 s'.heap φ' x v:=h.q_ p.gr R.nC ok
theorem Pu.vr {X:Cx}{s s':Shared}{H:lV}{Y:St}(R:Rel X s.heap H Y)(p:Pu s s'){x:PV}{v:Value}(h:VR s.heap H x v):VR s'.heap H x v:=h.grow (p.gr H) R.nC
theorem Pu.p2 {X:Cx}{s s':Shared}{H:lV}{Y:St}(R:Rel X s.heap H Y)(p:Pu s s'){x:List PV}{v:List Value}(h:l6 s.heap H x v):l6 s'.heap H x v:=h.grow (p.gr H) R.nC
theorem G5 {X:Cx}{h:Heap}{H:lV}{Y:St}(R:Rel X h H Y){b:Addr}{o:Obj}(e:X.base.get? b=some o):Apart H b:=λp hp=>by
 have:=R.above p hp;constructor
 ·intro q;rw[q,e] at this;cases this.1
 ·intro q;rw[q,e] at this;cases this.2
theorem Sg.base {X:Cx}{s s':Shared}{H φ':lV}{Y σ':St}(R:Rel X s.heap H Y)(p:Sg X s H σ' s' φ')(B:Base X s.heap):Base X s'.heap :=
 ⟨λb o e=>p.gr.keep _ _ (B.keep b o e) (G5 R e) id⟩
theorem Pu.base {X:Cx}{s s':Shared}(p:Pu s s')(B:Base X s.heap):Base X s'.heap:=⟨λb o e=>p.keep _ _ (B.keep b o e)⟩
theorem Rel.BJ {X:Cx}{h:Heap}{H:lV}{Y:St}(R:Rel X h H Y){p:Addr×Addr}(hp:p∈H.l):(p.1==dT)=false:=by
 obtain⟨o,e⟩:=Option.isSome_iff_exists.mp X.sys;simpa using(G5 R e p hp).1
section
variable {X:Cx}{A:aA}{E:Value->Shared->Prop}{s:Shared}{H:lV}{Y:St}
theorem adf (i:Int):(i != 0)=decide (i≠0):=by by_cases h:i=0<;>simp[h]
theorem D3 {p:PV}{v:Value}{b:Bool}{Q:Bool->Shared->Prop}(R:Rel X s.heap H Y)(x:VR s.heap H p v)(e:truthy Y p=some b)(h:∀k,Q b {s with toks:=k}) :
  ag (ah X.prog X.w) A (gI v) Q E s:=by
 have h0:Q b s:=h s.toks
 have ls:∀{a:Addr} {l:List PV} {vs:List Value},s.heap.IsList a vs.toArray->l6 s.heap H l vs->l.length<=2^20->some (!l.isEmpty)=some b->ag (ah X.prog X.w) A (gI (.ref a)) Q E s:=λhT hs hb e =>
  wpAny_truthy_list hT (hs.line hb) (by rw[hs.RV,aq e];exact h _)
 cases p with
 |none=>exact x.vg (truthy_none (aq e▸h0))
 |bool c=>exact x.w7 (c9 (aq e▸h0))
 |int i =>
  refine x.qE λt=>P.truthy_int ?_;rw[show(i != 0)=b from(adf i).trans (aq e)];exact h0
 |str _=>exact El.nn e
 |tup l=>exact x.p6 λa vs hT hs hb=>truthy_tuple hT (hs.line hb) (by rw[hs.RV,aq e];exact h _)
 |lst l=>exact x.qF λa vs hT _ hs hb=>ls hT hs hb e
 |loc n=>exact R.qF x e λp l vs _ _ hT hs hb e=>ls hT.isList hs hb e
theorem adg {i j:String}:(nm i).cps.toList=(nm j).cps.toList↔i=j :=
 ⟨λh=>vY (lT PySem.Str.mk (Array.toList_inj.mp h)),λh=>by rw[h]⟩
@[elab_as_elim] theorem Fp {p q:PV}{b:Bool}(e:Cf p q=some b){G:Bool->Prop}(k:p.nQ=true->q.nQ=true->G (decide (p=q))):G b :=
 El.it e λz e=>El.sj e (let z:=(aL _ _).mp z;k z.1 z.2)
@[elab_as_elim] theorem O6 {p q:PV}{b:Bool}(e:ux p q=some b){G:PV->PV->Bool->Prop}(ki:∀x y,G (.int x) (.int y) (decide (x=y)))(ks:∀x y,G (.str x) (.str y) (decide (x=y)))(kb:∀x y,G (.bool x) (.bool y) (decide (x=y)))
  (kd:∀p q,p.nQ=true->q.nQ=true->G p q (decide (p=q))):G p q b:=by
 cases p with
 |int a=>cases q with
  |int b=>exact El.sj e (ki a b)
  |_=>exact Fp e (kd _ _)
 |str a=>cases q with
  |str b=>exact El.sj e (ks a b)
  |_=>exact Fp e (kd _ _)
 |bool a=>cases q with
  |bool b=>exact El.sj e (kb a b)
  |_=>exact Fp e (kd _ _)
 |_=>exact Fp e (kd _ _)
theorem O7 (a b:String):((nm a).cps.toList==(nm b).cps.toList)=decide (a=b):=by rw[bg,beq_iff_eq,decide_eq_true_eq];exact adg
theorem NZ (a b:Bool):(a==b)=decide (a=b):=by cases a<;>cases b<;>rfl
theorem ahE {p q:PV}{v u:Value}{b:Bool}{Q:Value->Shared->Prop}(x:VR s.heap H p v)(y:VR s.heap H q u)(e:ux p q=some b)(hu:A.units+60<cLine)(h:Q (.bool b) s) :
  ag (ah X.prog X.w) A (a_ .Eq v u) Q E s :=
 O6 e (G:=λp q b=>VR s.heap H p v->VR s.heap H q u->Q (.bool b) s->ag (ah X.prog X.w) A (a_ .Eq v u) Q E s)
  (λa b x y h=>x.qE λ_=>y.qE λ_=>P.eq_int h)
  (λa b x y h=>x.q9 λ_=>y.q9 λ_=>P.eq_str (by rw[O7];exact h))
  (λa b x y h=>x.w7 (y.w7 (eq_bool (by rw[NZ];exact h))))
  (λp q hp hq x y h=>WX hp hq x y hu h) x y h
theorem ahF {p q:PV}{v u:Value}{b:Bool}{Q:Value->Shared->Prop}(x:VR s.heap H p v)(y:VR s.heap H q u)(e:ux p q=some b)(hu:A.units+60<cLine)(h:Q (.bool !b) s) :
  ag (ah X.prog X.w) A (a_ .NotEq v u) Q E s :=
 O6 e (G:=λp q b=>VR s.heap H p v->VR s.heap H q u->Q (.bool !b) s->ag (ah X.prog X.w) A (a_ .NotEq v u) Q E s)
  (λa b x y h=>x.qE λ_=>y.qE λ_=>P.ne_int h)
  (λa b x y h=>x.q9 λ_=>y.q9 λ_=>P.ne_str (by rw[bne,O7];exact h))
  (λa b x y h=>x.w7 (y.w7 (ne_bool (by rw[bne,NZ];exact h))))
  (λp q hp hq x y h=>WY hp hq x y hu h) x y h
end
theorem Bs {K lQ:Type}[DecidableEq K]{k:K}{p:K×lQ}{l:List (K×lQ)}(h:p.1=k):(p::l).find? (λp=>decide (p.1=k))=some p:=cE (mY h)
theorem Bt {K lQ:Type}[DecidableEq K]{k:K}{p:K×lQ}{l:List (K×lQ)}(h:¬p.1=k):(p::l).find? (λp=>decide (p.1=k))=l.find? (λp=>decide (p.1=k)):=cF (λe=>h (l9 e))
def OV (h:Heap)(H:lV):Option PV->Option Value->Prop
 |none,none=>True
 |some p,some v=>VR h H p v
 |_,_=>False
theorem OV.isSome {h:Heap}{H:lV}{a:Option PV}{b:Option Value}(x:OV h H a b):b.isSome=a.isSome:=by
 cases a<;>cases b<;>first|rfl|exact x.elim
@[elab_as_elim] theorem OV.get {h:Heap}{H:lV}{p:PV}{a:Option PV}{b:Option Value}(x:OV h H a b)(e:a=some p){P:Option Value->Prop}(k:∀v,VR h H p v->P (some v)):P b:=by
 subst e;cases b with
 |none=>exact x.elim
 |some v=>exact k v x
theorem N3 {K K' lQ:Type}[DecidableEq K][DecidableEq K']{h:Heap}{H:lV}(f:K'->K)(hf:∀a b,f a=f b->a=b)(g:lQ->Value)(k:K')(l:List (K'×PV)):∀(kvs:List (K×lQ)),kvs.map (·.1)=l.map (λx=>f x.1)->l6 h H (l.map (·.2)) (kvs.map λx=>g x.2) ->
  OV h H ((l.find? λp=>decide (p.1=k)).map (·.2)) (((kvs.find? λx=>decide (x.1=f k)).map (·.2)).map g):=by
 induction l with
 |nil=>intro kvs hk _;cases List.map_eq_nil_iff.mp hk;trivial
 |cons p l ih =>
  intro kvs hk hv;cases kvs with
  |nil=>cases hk
  |cons a r =>
   have h1:a.1=f p.1:=(bu hk).1
   have hv:=l6.Iy hv;by_cases hp:p.1=k
   ·rw[Bs hp,Bs (p:=a) (h1.trans (lT f hp))];exact hv.1
   ·rw[Bt hp,Bt (p:=a) (λe=>hp (hf _ _ (h1.symm.trans e)))];exact ih r (bu hk).2 hv.2
theorem map_id' {V:Type}:∀o:Option V,o.map (λx=>x)=o
 |none=>rfl
 |some _=>rfl
theorem Gv {K K':Type}[DecidableEq K][DecidableEq K']{h:Heap}{H:lV}(f:K'->K)(hf:∀a b,f a=f b->a=b)(k:K'){l:List (K'×PV)}{kvs:List (K×Value)}(hk:kvs.map (·.1)=l.map (λx=>f x.1))(hv:l6 h H (l.map (·.2)) (kvs.map (·.2))) :
  OV h H ((l.find? λp=>decide (p.1=k)).map (·.2)) (fw kvs (f k)):=map_id' (fw kvs (f k))▸N3 f hf (λx=>x) k l kvs hk hv
theorem J5 {h:Heap}{H:lV}(k:PV){l:List (PV×PV)}{xs:List (PV×Addr×Value)}(hk:xs.map (·.1)=l.map (·.1))(hv:l6 h H (l.map (·.2)) (xs.map (·.2.2))) :
  OV h H ((l.find? λp=>decide (p.1=k)).map (·.2)) ((c_ xs k).map (·.2)):=N3 (λx=>x) (λ_ _ e=>e) (·.2) k l xs hk hv
theorem Er {K:Type}[DecidableEq K](k:K):∀l:List (K×PV),l.any (λp=>decide (p.1=k))=((l.find? λp=>decide (p.1=k)).map (·.2)).isSome
 |[]=>rfl
 |p::l=>by
  rw[gC];by_cases h:p.1=k
  ·rw[Bs h,mY h];rfl
  ·rw[Bt h,decide_eq_false h,Er k l];rfl
theorem C8:∀{l:List PV},l.all PV.nQ=true->PV.pF l=true/\PV.rT l<=40
 |[],_=>⟨rfl,aC _⟩
 |p::l,h=>El.nL (fo▸h) λh1 h2 =>
  let a:=qc h1
  let b:=C8 h2
  ⟨(aL _ _).mpr ⟨a.1,b.1⟩,Nat.max_le.mpr ⟨a.2,b.2⟩⟩
theorem N4 {x:PV}(hx:x.isData=true):∀{l:List PV},PV.pF l=true->(rW l).any (λy=>cN y (toPy x))=decide (x∈l)
 |[],_=>(decide_eq_false (λh=>nomatch h)).symm
 |p::l,h=>El.nL h λh1 h2=>by
  show(cN (toPy p) (toPy x)||(rW l).any _)=_;rw[Fc h1 hx,N4 hx h2,← dN];exact pH.mpr ((or_congr eq_comm Iff.rfl).trans List.mem_cons.symm)
section
variable {X:Cx}{A:aA}{E:Value->Shared->Prop}{s:Shared}{H:lV}{Y:St}
theorem EL {h:Heap}{k:PV}{v:Value}(x:VR h H k v)(hk:k.qo=true):∃a,v=.ref a/\(sm X.prog X.w).is h k a:=by
 obtain⟨l,rfl,h1,h2⟩:=Lh hk;have y:=VR.data (ψ:=lV.nil) (xK (tu hk).1) x;simp only[VR] at x;obtain⟨a,vs,rfl,_⟩:=x;exact⟨a,rfl,hk,y⟩
theorem PQ {p q:PV}{v u:Value}{b:Bool}(R:Rel X s.heap H Y)(x:VR s.heap H p v)(y:VR s.heap H q u)(e:tG Y p q=some b)(hu:A.units+60<cLine){G:Value->Value->Prop}
  (ks:∀{c:Value} {xs:List fv} {d:fv} {as bs:List Addr},dy s.heap c (.tuple xs) as\/dy s.heap c (.list xs) as->dy s.heap v d bs->gG xs=true->d.canLay0=true->A.units+1+min (gH xs) d.depth<cLine->(xs.any λy=>cN y d)=b->G v c)
  (km:∀{K:Type} [DecidableEq K] {knd:gJ X.prog X.w K} {d:Addr} {k:K} {key:Value} {f:K->Option Value},knd.is k key=true->(d==dT)=false->s.heap.MapOf knd d f->(f k).isSome=b->G key (.ref d))
  (kh:∀{d a:Addr} {k:PV} {xs:List (PV×Addr×Value)},(sm X.prog X.w).room A.in1->(sm X.prog X.w).is s.heap k a->(d==dT)=false->s.heap.DictOfH (sm X.prog X.w) d xs->(c_ xs k).isSome=b->G (.ref a) (.ref d)):G v u:=by
 have seq:∀{l:List PV} {vs:List Value} {c:Value},I7 p l=some b->l6 s.heap H l vs->(∀{bs},gF s.heap vs (rW l) bs->∃bs,dy s.heap c (.tuple (rW l)) bs\/dy s.heap c (.list (rW l)) bs)->G v c:=λe hs k =>
  El.it e λz e=>El.nL z λh1 h2=>El.JD (wX (qc h1).1 x) λas xa=>El.JD (Me (C8 h2).1 hs) λbs xb =>
   let c1:=lay_of (qc h1).1
   let c2:=H6 (C8 h2).1
   (k xb).elim λ_ r=>ks r xa c2.1 c1.1 (u41 hu (c1.2▸(qc h1).2)) ((N4 (qc h1).1 (C8 h2).1).trans (aq e))
 cases q with
 |tup l=>exact y.p6 λa vs hT hs _=>seq e hs λxb=>El.JE hT λ_ ho hc hd=>hd.elim λ_ hd=>⟨_,.inl (.tuple ho hc hd xb)⟩
 |lst l=>exact y.qF λa vs hT _ hs _=>seq e hs λxb=>El.JE hT λ_ ho hc hd=>hd.elim λ_ hd=>⟨_,.inr (.list ho hc hd xb)⟩
 |loc n =>
  refine R.uA y e λp' o hp ho y e=>?_;have ns:=R.BJ (bj hp);cases o with
  |pk l=>exact y.vv λ_ kvs hd hk hv=>wa e x λi t e=>km (knd:=cy X.prog X.w) (by simp[cy,fx]) ns hd.dictOf.mapOf ((Gv id (λ_ _ e=>e) i hk hv).isSome.trans ((Er i l).symm.trans (aq e)))
  |p5 l=>exact y.Cb λ_ kvs hd hk hv=>I0 e x λi t e=>km (knd:=dV X.prog X.w) (k:=nm i) (by simp[dV,fy]) ns hd.mapOf ((Gv nm (λ_ _ e=>vY e) i hk hv).isSome.trans ((Er i l).symm.trans (aq e)))
  |pn l =>
   refine El.it e λuU e=>?_;obtain⟨a,rfl,rC⟩:=EL (X:=X) x uU;exact y.z_ λ_ xs hd hk hv=>kh (Gs hu) rC ns hd ((Option.isSome_map ..).symm.trans ((J5 p hk hv).isSome.trans ((Er p l).symm.trans (aq e))))
  |_=>exact El.nn e
 |_=>exact El.nn e
theorem ahG {p q:PV}{v u:Value}{b:Bool}{Q:Value->Shared->Prop}(R:Rel X s.heap H Y)(x:VR s.heap H p v)(y:VR s.heap H q u)(e:tG Y p q=some b)(hu:A.units+60<cLine)(h:∀k,Q (.bool b) {s with toks:=k}) :
  ag (ah X.prog X.w) A (a_ .In v u) Q E s :=
 PQ R x y e hu (G:=λv u=>ag (ah X.prog X.w) A (a_ .In v u) Q E s) (λr xa c2 c1 r8 e=>r.elim (λr=>lA r xa c2 c1 r8 (by rw[e];exact h _)) λr=>lB r xa c2 c1 r8 (by rw[e];exact h _))
  (λhk ns hm e=>wpAny_in_of hk ns hm (by rw[e];exact h _)) λhr hk ns hd e=>wpAny_in_heap hr hk ns hd (by rw[e];exact h _)
theorem afG {p q:PV}{v u:Value}{b:Bool}{Q:Value->Shared->Prop}(R:Rel X s.heap H Y)(x:VR s.heap H p v)(y:VR s.heap H q u)(e:tG Y p q=some b)(hu:A.units+60<cLine)(h:∀k,Q (.bool !b) {s with toks:=k}) :
  ag (ah X.prog X.w) A (a_ .NotIn v u) Q E s :=
 PQ R x y e hu (G:=λv u=>ag (ah X.prog X.w) A (a_ .NotIn v u) Q E s) (λr xa c2 c1 r8 e=>r.elim (λr=>lC r xa c2 c1 r8 (by rw[e];exact h _)) λr=>lD r xa c2 c1 r8 (by rw[e];exact h _))
  (λhk ns hm e=>wpAny_notIn_of hk ns hm (by rw[e];exact h _)) λhr hk ns hd e=>wpAny_notIn_heap hr hk ns hd (by rw[e];exact h _)
end
theorem Mf {a b:String}{x y:Int}(hx:single a=some x)(hy:single b=some y):(!decide ((nm b).cps.toList<(nm a).cps.toList))=decide (x<=y):=by
 obtain⟨n,rfl,ea,_⟩:=AO hx;obtain⟨m,rfl,eb,_⟩:=AO hy;rw[ea,eb,← decide_not];refine pH.mpr ?_;show¬[m]<[n]↔_;rw[List.cons_lt_cons_iff];simp
section
variable {X:Cx}{A:aA}{E:Value->Shared->Prop}{s:Shared}{H:lV}{Y:St}
theorem ahH {p:PV}{v u:Value}{Q:Value->Shared->Prop}(x:VR s.heap H p v)(y:VR s.heap H .none u)(h:Q (.bool (decide (p=.none))) s):ag (ah X.prog X.w) A (a_ .Is v u) Q E s:=by
 refine y.vg ?_;by_cases hp:p=.none
 ·rw[mY hp] at h;subst hp;exact x.vg (wpAny_is_plain rfl h)
 ·rw[decide_eq_false hp] at h;exact wpAny_is_other x.plain (x.null hp) h
theorem aaG {p:PV}{v u:Value}{Q:Value->Shared->Prop}(x:VR s.heap H p v)(y:VR s.heap H .none u)(h:Q (.bool (!decide (p=.none))) s):ag (ah X.prog X.w) A (a_ .IsNot v u) Q E s:=by
 refine y.vg ?_;by_cases hp:p=.none
 ·rw[mY hp] at h;subst hp;exact x.vg (wpAny_isNot_plain rfl h)
 ·rw[decide_eq_false hp] at h;exact wpAny_isNot_other x.plain (x.null hp) h
@[elab_as_elim] theorem QI {a b:PV}{r:Bool}(e:I8 a b=some r){P:PV->Bool->Prop}(k:P .none (decide (a=.none))):P b r:=by
 cases b with
 |none=>exact El.sj e k
 |_=>exact El.nn e
theorem Iz {op:CmpOp}{p q:PV}{v u:Value}{b:Bool}{Q:Value->Shared->Prop}(R:Rel X s.heap H Y)(x:VR s.heap H p v)(y:VR s.heap H q u)(e:oW Y op p q=some b)(hu:A.units+60<cLine)
  (h:∀k,Q (.bool b) {s with toks:=k}):ag (ah X.prog X.w) A (a_ op v u) Q E s:=by
 have h0:Q (.bool b) s:=h s.toks;cases op with
 |Eq=>exact ahE x y e hu h0
 |NotEq =>
  obtain⟨c,hq,rfl⟩:=Option.map_eq_some_iff.mp e;exact ahF x y hq hu h0
 |Lt=>exact Iv e x y (P:=λv u b=>Q (.bool b) s->ag (ah X.prog X.w) A (a_ .Lt v u) Q E s) (λ_ _ _ _ h=>P.lt_int h) h0
 |Gt=>exact Iv e x y (P:=λv u b=>Q (.bool b) s->ag (ah X.prog X.w) A (a_ .Gt v u) Q E s) (λ_ _ _ _ h=>P.gt_int h) h0
 |GtE=>exact Iv e x y (P:=λv u b=>Q (.bool b) s->ag (ah X.prog X.w) A (a_ .GtE v u) Q E s) (λ_ _ _ _ h=>P.ge_int h) h0
 |LtE =>
  cases p with
  |int a=>cases q with
   |int b=>exact x.qE λ_=>y.qE λ_=>P.le_int (aq e▸h0)
   |_=>exact El.nn e
  |str a=>cases q with
   |str b =>
    refine x.q9 λ_=>y.q9 λ_=>P.le_str ?_;obtain⟨m,h1,e⟩:=Option.bind_eq_some_iff.mp e;obtain⟨n,h2,e⟩:=Option.map_eq_some_iff.mp e;rw[Mf h1 h2,e];exact h0
   |_=>exact El.nn e
  |_=>exact El.nn e
 |In=>exact ahG R x y e hu h
 |NotIn =>
  obtain⟨c,hq,rfl⟩:=Option.map_eq_some_iff.mp e;exact afG R x y hq hu h
 |Is=>exact QI e (P:=λq b=>VR s.heap H q u->Q (.bool b) s->ag (ah X.prog X.w) A (a_ .Is v u) Q E s) (λy h=>ahH x y h) y h0
 |IsNot =>
  obtain⟨c,hq,rfl⟩:=Option.map_eq_some_iff.mp e;exact QI hq (P:=λq b=>VR s.heap H q u->Q (.bool (!b)) s->ag (ah X.prog X.w) A (a_ .IsNot v u) Q E s) (λy h=>aaG x y h) y h0
theorem afH (a b:Nat):Builtin.bitAnd (eC a) (d_ b)=eC (a - (a&&&b)):=by
 have e1:(cO (d_ b)).toNat=b:=by unfold cO;lia
 exact(bitAnd_pn (di a) (Int.not_le.mpr (Int.negSucc_lt_zero b))).trans (by rw[e1];exact(Int.ofNat_sub gp).symm)
theorem adh {a b:List PV}{v u:Value}{Q:Value->Shared->Prop}(R:Rel X s.heap H Y)(x:VR s.heap H (.tup a) v)(y:VR s.heap H (.tup b) u)(hb:a.length+b.length<=2^20)
  (h:∀v s',Pu s s'->VR s'.heap H (.tup (a++b)) v->Q v s'):ag (ah X.prog X.w) A (gK .Add v u) Q E s:=by
 refine x.p6 λt vs ht hv _=>y.p6 λt2 ws RW hw _=>?_;have l1:=hv.len;have l2:=hw.len;obtain⟨⟨cls,dd,data,sl⟩,ho,hc,n,hd⟩:=id ht;obtain⟨⟨al6,J6,data2,J7⟩,uQ,rM,n2,hd2⟩:=id RW;cases hc;cases hd;cases rM;cases hd2;by_cases yN:vs=[]
 ·refine gL ⟨_,ho,rfl⟩ ⟨_,uQ,rfl⟩ gM gN gO gP (gQ _ _)
   (tuple_addW0 t t2 vs.toArray ws.toArray n n2 dd J6 sl J7 (by simp[yN])) ⟨ho,uQ,h _ _ (Pu.refl s) ?_⟩
  have:a=[]:=List.length_eq_zero_iff.mp (by rw[← l1,yN];rfl);subst this;exact .vk RW hw (ae (aY ..) hb)
 ·by_cases J8:ws=[]
  ·refine gL ⟨_,ho,rfl⟩ ⟨_,uQ,rfl⟩ gM gN gO gP (gQ _ _)
    (tuple_addW1 t t2 vs.toArray ws.toArray n n2 dd J6 sl J7 (by simpa using yN) (by simp[J8])) ⟨ho,uQ,h _ _ (Pu.refl s) ?_⟩
   have:b=[]:=List.length_eq_zero_iff.mp (by rw[← l2,J8];rfl);subst this;rw[bc];exact .vk ht hv (ae (aD ..) hb)
  ·refine gL ⟨_,ho,rfl⟩ ⟨_,uQ,rfl⟩ gM gN gO gP (gQ _ _)
    (tuple_addW2 t t2 vs.toArray ws.toArray n n2 dd J6 sl J7 (by simpa using yN) (by simpa using J8) (by rw[bF,bF,l1,l2];exact ae hb (by decide))) ⟨ho,uQ,?_⟩
   rw[show vs.toArray++ws.toArray=(vs++ws).toArray by simp];have pu:Pu s {s with heap:=s.heap.push {cls:=.type "tuple",data:=.seq (vs++ws).toArray}}:=Pu.push s _ s.toks;exact h _ _ pu (.vk ⟨_,bp _ rfl,rfl,_,rfl⟩ ((pu.p2 R hv).append (pu.p2 R hw)) (by rw[ar];exact hb))
theorem afI {op:Operator}{p q r:PV}{v u:Value}{Q:Value->Shared->Prop}(R:Rel X s.heap H Y)(x:VR s.heap H p v)(y:VR s.heap H q u)(e:binOp op p q=some r)
  (h:∀v s',Pu s s'->VR s'.heap H r v->Q v s'):ag (ah X.prog X.w) A (gK op v u) Q E s:=by
 have e:=Bd.symm.trans e
 have hint:∀(i:Int),some (PV.int i)=some r->∀k n,Q (.int i k) {s with toks:=n}:=λi hr k n=>h _ _ (Pu.toks s n) (aq hr▸.BV ..);cases op with
 |Add =>
  cases p with
  |int a=>cases q with
   |int b=>exact x.qE λ_=>y.qE λ_=>P.add_int (hint _ e _ _)
   |_=>exact El.nn e
  |tup a=>cases q with
   |tup b=>exact El.it e λhb e=>adh R x y hb (aq e▸h)
   |_=>exact El.nn e
  |_=>exact El.nn e
 |Sub=>exact xY e x y λa b _ _ e=>P.sub_int (hint _ e _ _)
 |Mult =>
  refine xY e x y λa b _ _ e=>El.it e λz e=>?_;exact P.mul_int (hint _ e _ _) (.of_left (El.nL z λz _=>intBits_le_64 (dk (by decide) (zu z).1) (dk (zu z).2 (by decide))))
 |FloorDiv =>
  refine xY e x y λa b _ _ e=>El.it e λz e=>?_;have z:=El.nL z λz1 z2=>And.intro (l9 z1) (zu z2);exact floordiv_int (by lia) (by rw[jI _ (dU z.1)];exact hint _ e _ _) (.inl (PyProof.noPylong_small (by lia)))
 |Mod =>
  refine xY e x y λa b _ _ e=>El.it e λz e=>?_;have z:=l9 z;exact mod_int' (by lia) (by rw[Int.fmod_eq_emod_of_nonneg _ (dU z)];exact hint _ e _ _)
 |BitAnd =>
  refine xY e x y λa b _ _ e=>and_int ?_;cases a with
  |ofNat a=>cases b with
   |ofNat b=>exact hint _ e _ _
   |negSucc b =>
    exact hint _ (by rw[afH];exact e) _ _
  |_=>exact El.nn e
 |BitOr =>
  refine xY e x y λa b _ _ e=>or_int (O5 e (P:=λa b r=>(∀i,some (PV.int i)=some r->∀k n,Q (.int i k) {s with toks:=n})->Q (.int (jJ a b) s.toks) {s with toks:=s.toks+1}) (λa b h=>?_) hint);have nn:∀x:Int,cO (cO x)=x:=λx=>by unfold cO;lia
  have ng:∀x:Nat,¬0<=cO (eC x):=λx=>by unfold cO;simp only[gR];lia
  refine h _ ?_ _ _;unfold jJ;rw[bitAnd_nn (ng a) (ng b),nn,nn,nn];rfl
 |RShift =>
  refine xY e x y λa b _ _ e=>?_;refine O5 e (P:=λa b r=>(∀i,some (PV.int i)=some r->∀k n,Q (.int i k) {s with toks:=n})->ag (ah X.prog X.w) A (gK .RShift (.int a _) (.int b _)) Q E s) (λa b h=>?_) hint;refine rshift_int (by simp) (h _ ?_ _ _);simp only[gR,Int.toNat_natCast,PV.int.injEq,dM,Nat.shiftRight_eq_div_pow];rw[jI _ (Int.pow_nonneg (by decide))];simp
 |_=>exact El.nn e
theorem afJ {i:Int}{v:Value}{Q:Value->Shared->Prop}(x:VR s.heap H (.int i) v)(h:∀v s',Pu s s'->VR s'.heap H (.int (-i)) v->Q v s') :
  ag (ah X.prog X.w) A (jK .USub v) Q E s :=
 x.qE λ_=>P.neg_int (h _ _ (Pu.toks s _) (.BV ..))
theorem afK {i:Nat}{v:Value}{Q:Value->Shared->Prop}(x:VR s.heap H (.int (.ofNat i)) v)(h:∀v s',Pu s s'->VR s'.heap H (.int (.negSucc i)) v->Q v s') :
  ag (ah X.prog X.w) A (jK .Invert v) Q E s:=by
 refine x.qE λ_=>invert_int ?_;have:cO (eC i)=d_ i:=by unfold cO;simp only[gR];lia
 rw[this];exact h _ _ (Pu.toks s _) (.BV ..)
end
theorem AX {a:String}(h:(single a).isSome=true):∃c:Nat,nm a=⟨#[c]⟩/\c<128 :=
 (Option.isSome_iff_exists.mp h).elim λ_ hx=>(AO hx).elim λn z=>⟨n,z.2⟩
theorem YO {k:Int}{n:Nat}(h1:-(n:Int)<=k)(h2:v5 k n<n):fz k n=some (v5 k n):=by
 unfold fz;unfold v5 at h2⊢;by_cases hk:k<0
 ·rw[lW hk] at h2;have:0<=k+(n:Int):=by lia
  simp only[hk,if_true,this,decide_true,du];rw[lW (mY (show k+(n:Int)<n by lia))]
 ·rw[lX hk] at h2;have:0<=k:=by lia
  simp only[hk,if_false,this,decide_true,du];rw[lW (mY (show k<(n:Int) by lia))]
theorem afL {c:Nat}{t:String}(h:nm t=⟨#[c]⟩):(fz 0 (nm t).length).bind ((nm t).cps[·]?)=some c:=by rw[h];rfl
section
variable {X:Cx}{A:aA}{E:Value->Shared->Prop}{s:Shared}{H:lV}{Y:St}
theorem H7 {t:String}{k:Int}{tk tj:Tok}{c:Nat}{r:PV}{Q:Value->Shared->Prop}(hk:k=0\/k=1)(h:(fz k (nm t).length).bind ((nm t).cps[·]?)=some c)(hr:∃u,r=.str u/\nm u=⟨#[c]⟩)(now:∀v,VR s.heap H r v->∀k,Q v {s with toks:=k}) :
  ag (ah X.prog X.w) A (dA (.str (nm t) tk) (.int k tj)) Q E s:=by
 obtain⟨u,rfl,hu⟩:=hr;refine P.getItem_str (c:=c) ?_ h (hu▸now _ ⟨_,rfl⟩ _);rcases hk with rfl|rfl<;>rfl
theorem afM {p i r:PV}{v u:Value}{Q:Value->Shared->Prop}(R:Rel X s.heap H Y)(x:VR s.heap H p v)(y:VR s.heap H i u)(e:mA Y i p=some r)(hu:A.units+60<cLine)
  (h:∀v s',Pu s s'->VR s'.heap H r v->Q v s'):ag (ah X.prog X.w) A (dA v u) Q E s:=by
 have e:=xU.symm.trans e
 have now:∀v,VR s.heap H r v->∀k,Q v {s with toks:=k}:=λv hv k=>h v _ (Pu.toks s k) hv
 have lst:∀{a:Addr} {l:List PV} {vs:List Value} {k:Int} {t:Tok},s.heap.IsList a vs.toArray->l6 s.heap H l vs->ym l k=some r->ag (ah X.prog X.w) A (dA (.ref a) (.int k t)) Q E s:=λhT hs e =>
  El.it e λz e=>El.nL z λh1 h2=>El.n3 (hs.get e) λw hw hr=>wpAny_getItem_list hT (l9 h1) (QH (zu h2).2) (by simpa using hw) (now _ hr _)
 cases p with
 |tup l =>
  refine wa e y λk t e=>x.p6 λa vs hT hs hb=>El.it e λz e=>El.nL z λh1 h2=>El.n3 (hs.get e) λw hw hr=>?_;have r8:=(List.getElem?_eq_some_iff.mp e).1;exact getItem_tuple (j:=v5 k l.length) hT (ajj (zu h2).1) (QH (zu h2).2) (by rw[bF,hs.len];exact YO (l9 h1) r8) (by simpa using hw) (now _ hr _)
 |lst l=>exact wa e y λk t e=>x.qF λa vs hT _ hs _=>lst hT hs e
 |str t =>
  refine wa e y λk tj q=>x.q9 λtk=>?_;unfold Qe at q;by_cases hk:k=0
  ·rw[lW hk] at q;subst hk;by_cases ht:t="ab"
   ·rw[lW ht] at q;subst ht;exact H7 (.inl rfl) (c:=97) (by decide +kernel) ⟨"a",(aq q).symm,by decide +kernel⟩ now
   ·rw[lX ht] at q;exact El.it q λz q=>El.n3 (AX z) λc hc _=>H7 (.inl rfl) (afL hc) ⟨t,(aq q).symm,hc⟩ now
  ·rw[lX hk] at q;refine El.it q λhk q=>El.it q λht q=>?_;subst hk ht;exact H7 (.inr rfl) (c:=98) (by decide +kernel) ⟨"b",(aq q).symm,by decide +kernel⟩ now
 |loc n =>
  refine R.uA x e λp o hp ho z e=>?_;cases o with
  |list l=>exact z.w8 λ_ vs hT hs _=>wa e y λk t e=>lst hT.isList hs e
  |pk l=>exact z.vv λ_ kvs hd hk hv=>wa e y λk t e=>(Gv id (λ_ _ e=>e) k hk hv).get e (P:=λo=>fw kvs k=o->_) (λw hw b=>jL (knd:=cy X.prog X.w) (k:=k) (by simp[cy,fx]) hd.dictOf.mapOf b (now _ hw _)) rfl
  |p5 l=>exact z.Cb λ_ kvs hd hk hv=>I0 e y λk t e=>(Gv nm (λ_ _ e=>vY e) k hk hv).get e (P:=λo=>fw kvs (nm k)=o->_) (λw hw b=>jL (knd:=dV X.prog X.w) (k:=nm k) (by simp[dV,fy]) hd.mapOf b (now _ hw _)) rfl
  |pn l =>
   refine El.it e λuU e=>El.n3 (EL (X:=X) y uU) λa hq rC=>?_;subst hq;exact z.z_ λ_ xs hd hk hv=>(J5 i hk hv).get e (P:=λo=>(c_ xs i).map (·.2)=o->_) (λw hw b=>(Option.map_eq_some_iff.mp b).elim λq b=>by
    obtain⟨b1,rfl⟩:=b;exact wpAny_getItem_heap (knd:=sm X.prog X.w) (Gs hu) rC hd b1 (now _ hw _)) rfl
  |_=>exact El.nn e
 |_=>exact El.nn e
theorem aaH {p i r:PV}{v:Value}(R:Rel X s.heap H Y)(x:VR s.heap H p v)(e:mA Y i p=some r):∃T id,s.TypeIs v T/\typeLookup (.type T) "__getitem__"=pure (some (.builtin id)):=by
 have e:=xU.symm.trans e;cases p with
 |tup l=>exact x.p6 λa vs hT _ _=>⟨_,_,hT.typeIs,slot_tuple_getitem.lookup⟩
 |lst l=>exact x.qF λa vs hT _ _ _=>⟨_,_,hT.typeIs,slot_list_getitem.lookup⟩
 |str t=>exact x.q9 λt=>⟨_,_,typeIs_str _ _ _,F.slot_str_getitem.lookup⟩
 |loc n =>
  refine R.uA x e λp o hp ho z e=>?_;cases o with
  |list l=>exact z.w8 λ_ vs hT _ _=>⟨_,_,hT.isList.typeIs,slot_list_getitem.lookup⟩
  |pk l=>exact z.vv λ_ kvs hd _ _=>⟨_,_,hd.dictOf.mapOf.typeIs,F.slot_dict_getitem.lookup⟩
  |p5 l=>exact z.Cb λ_ kvs hd _ _=>⟨_,_,hd.mapOf.typeIs,F.slot_dict_getitem.lookup⟩
  |pn l=>exact z.z_ λ_ kvs hd _ _=>hd.elim λo hd=>hd.elim λ_ hd=>hd.elim λ_ hd=>⟨_,_,⟨o,hd.1,hd.2.1.1⟩,F.slot_dict_getitem.lookup⟩
  |inst c fs=>exact El.nn e
 |_=>exact El.nn e
end
noncomputable def nW (n:Nat)(d:Nat):Option Int->Nat
 |none=>d
 |some i=>if i<0 then(i+n).toNat else min i.toNat n
theorem N5 (a n:Nat):min (a:Int) n=((min a n:Nat):Int):=by
 rcases jM a n with h|h
 ·rw[gS h,jN (Int.ofNat_le.mpr h)]
 ·rw[jO h,Int.min_eq_right (Int.ofNat_le.mpr h)]
theorem BL (i:Int)(n:Nat):(if i<0 then max (i+n) 0 else min i n)=((if i<0 then(i+n).toNat else min i.toNat n:Nat):Int):=by
 by_cases h:i<0
 ·rw[lW h,lW h];exact(Int.toNat_eq_max _).symm
 ·rw[lX h,lX h];obtain⟨a,rfl⟩:=gT (Int.not_lt.mp h);exact N5 a n
theorem Fd (i:Int)(n:Nat):max 0 (min (if i<0 then i+n else i) n)=((if i<0 then(i+n).toNat else min i.toNat n:Nat):Int):=by
 rw[← BL];by_cases h:i<0
 ·rw[lW h,lW h,jN (dW (jP (dU h) _) (gU (jQ _))),Int.max_comm]
 ·rw[lX h,lX h];obtain⟨a,rfl⟩:=gT (Int.not_lt.mp h);rw[N5];exact Int.max_eq_right (di _)
theorem adi (n:Nat)(d:Nat)(hd:d<=n)(o:Option Int):nW n d o<=n:=by
 cases o with
 |none=>exact hd
 |some i =>
  show(if i<0 then _ else _)<=n;by_cases h:i<0
  ·rw[lW h];exact Int.toNat_le.mpr (dW (jP (dU h) _) (gU (jQ _)))
  ·rw[lX h];exact ei ..
theorem YQ {V:Type}(l:List V)(o:Option Int):l.take (match o with|some i=>if i<0 then(i+l.length).toNat else i.toNat|none=>l.length)=l.take (nW l.length l.length o):=by
 cases o with
 |none=>rfl
 |some i =>
  show l.take (if i<0 then _ else i.toNat)=l.take (if i<0 then _ else min i.toNat l.length);by_cases h:i<0
  ·rw[lW h,lW h]
  ·rw[lX h,lX h,List.take_eq_take_min]
theorem YR {V:Type}(k l:List V)(hk:k.length<=l.length)(o:Option Int):k.drop (match o with|some i=>if i<0 then(i+l.length).toNat else i.toNat|none=>0)=k.drop (nW l.length 0 o):=by
 cases o with
 |none=>rfl
 |some i =>
  show k.drop (if i<0 then _ else i.toNat)=k.drop (if i<0 then _ else min i.toNat l.length);by_cases h:i<0
  ·rw[lW h,lW h]
  ·rw[lX h,lX h];rcases jM i.toNat l.length with h|h
   ·rw[gS h]
   ·rw[jO h,jR (ae hk h),jR hk]
theorem HN (l:List PV)(lo hi:Option Int):zQ l lo hi=(l.drop (nW l.length 0 lo)).take (nW l.length l.length hi - nW l.length 0 lo) :=
 (lT (gV _) (YQ l hi)).trans ((YR _ l (jS ..) lo).trans List.drop_take)
theorem VF (n:Nat)(lo hi:Option Int):jT lo hi 1 n=((nW n 0 lo:Int),(nW n n hi:Int)):=by
 cases lo with
 |none=>cases hi with
  |none=>rfl
  |some i=>exact lT (fA _) (BL i n)
 |some i=>cases hi with
  |none=>exact lT (fA · _) (BL i n)
  |some j=>exact(lT (fA · _) (BL i n)).trans (lT (fA _) (BL j n))
theorem VG (n:Nat)(lo hi:Option Int):sliceBounds lo hi none n=((nW n 0 lo:Int),(nW n n hi:Int),1):=by
 cases lo with
 |none=>cases hi with
  |none=>rfl
  |some i=>exact lT (λx=>(_,x,_)) (Fd i n)
 |some i=>cases hi with
  |none=>exact lT (λx=>(x,_,_)) (Fd i n)
  |some j=>exact(lT (λx=>(x,_,_)) (Fd i n)).trans (lT (λx=>(_,x,_)) (Fd j n))
theorem VH (a b:Nat):gW a b 1=b - a:=by
 show((if(a:Int)<b then((b:Int) - a - 1)/1+1 else 0):Int).toNat=b - a;rw[Int.ediv_one]
 split<;>lia
theorem YS (xs:Array Value)(a k:Nat):((ba k).filterMap λ(k:Nat)=>xs[((a:Int)+(k:Int)*1).toNat]?).toArray=((xs.toList.drop a).take k).toArray:=by
 have e:(λ(k:Nat)=>xs[((a:Int)+(k:Int)*1).toNat]?)=(xs[·]?)∘(a+·):=funext λk=>by
  show _=xs[a+k]?;rw[Int.mul_one];rfl
 rw[e,← List.filterMap_map,pick_run xs a k]
theorem W7 {a b n:Nat}(h:b<=n)(h1:(a:Int)=0)(h2:b - a=n):a=0/\b=n:=by lia
theorem N6 {V:Type}(l:List V)(a b:Nat):((l.drop a).take b).length<=l.length:=ae (jS ..) (by rw[gX];exact gY ..)
section
variable {prog:Program}{w:az}{A:aA}{E:Value->Shared->Prop}{s:Shared}
theorem K7 {v:Value}{o:Option Int}{Q:Option Int->Shared->Prop}(p:da v o)(h:Q o s):ag (ah prog w) A (lE v) Q E s:=by
 cases p with
 |none=>exact jU h
 |int i t=>exact slicePart_int h
theorem Td {sl:Addr}{n:Nat}{lo hi:Value}{a b:Option Int}{Q:Int×Int×Nat->Shared->Prop}(hs:s.heap.IsSliceOf sl lo hi .none)(pl:da lo a)(ph:da hi b)
  (h:Q ((nW n 0 a:Int),1,nW n n b - nW n 0 a) s) :
  ag (ah prog w) A (jV (.ref sl) (pure (n:Int))) Q E s:=by
 obtain⟨os,vA,r9,s9⟩:=id hs;unfold jV lF;refine aj (aj (gZ vA s9 (x:=lo) rfl (aj (gZ vA s9 (x:=hi) rfl (aj (gZ vA s9 (x:=.none) rfl (aw ?_)))))));refine aj (jU ?_);show ag _ _ (if((1:Int)==0)=true then _ else _) _ _ s;rw[lX (by decide)];refine aj (K7 pl (aj (K7 ph (aj (aw ?_)))));show ag _ _ (match jT a b 1 (n:Int) with|(lo,hi)=>pure (lo,(1:Int),gW lo hi 1)) _ _ s;rw[VF];show ag _ _ (pure ((nW n 0 a:Int),(1:Int),gW (nW n 0 a) (nW n n b) 1)) _ _ s;rw[VH];exact aw h
theorem SE {t sl:Addr}{items:Array Value}{lo hi:Value}{a b:Option Int}{Q:Value->Shared->Prop}(ht:aN s.heap t items)(hs:s.heap.IsSliceOf sl lo hi .none)(pl:da lo a)(ph:da hi b)
  (h0:nW items.size 0 a=0->nW items.size items.size b=items.size->Q (.ref t) s)
  (h:Q (.ref s.heap.objs.size) {s with heap:=s.heap.push {cls:=.type "tuple",data:=.seq ((items.toList.drop (nW items.size 0 a)).take (nW items.size items.size b - nW items.size 0 a)).toArray}})
  (tY:items.size<=sizeLine):ag (ah prog w) A (dA (.ref t) (.ref sl)) Q E s:=by
 have Fq:sizeOk (.seq ((items.toList.drop (nW items.size 0 a)).take (nW items.size items.size b - nW items.size 0 a)).toArray):=ae (by rw[bF];exact N6 ..) tY;obtain⟨os,vA,r9,s9⟩:=id hs
 have hTs:s.TypeIs (.ref sl) "slice":=⟨os,vA,r9⟩;unfold dA
 try with_reducible refine dB ?_
 first|refine aj (aw ?_)|skip
 refine aj (g4 ht.typeIs (by decide) ?_);refine aj (g5 (name:=bq "__getitem__") ht.typeIs jW
  (eD jW ht.typeIs entry_tuple_getitem ?_ (args_tuple_getitem _ _)))
 show ag _ _ (jB (.ref t)>>=_) _ _ s;refine aj (tupleItemsOf_ ht ?_);refine aj (wpAny_typeOf hTs ?_);rw[lW (by decide)];refine aj (Td hs pl ph ?_)
 show ag _ _ (if((nW items.size 0 a:Int)==0&&(1:Int)==1&&(nW items.size items.size b - nW items.size 0 a)==items.size)=true then _ else _) _ _ s;by_cases hw:((nW items.size 0 a:Int)==0&&(1:Int)==1&&(nW items.size items.size b - nW items.size 0 a)==items.size)=true
 ·rw[lW hw];simp only[aL,beq_iff_eq] at hw;have hw:=W7 (adi items.size items.size (aB _) b) hw.1.1 hw.2;have hq:=h0 hw.1 hw.2;refine aj ?_;show ag _ _ (typeOf (.ref t)>>=λc=>pure (c==.type "tuple")) _ _ s;refine aj (wpAny_typeOf ht.typeIs (aw ?_));rw[lW (by simp)];refine aj (g6 ?_)
  first
   |exact aw ⟨_,rfl,aw hq⟩
   |exact aj (aw (aw ⟨_,rfl,aw hq⟩))
 ·rw[lX hw,YS]
  first
   |exact aj (m:=fB _) (eE (aw ⟨_,rfl,aw h⟩) Fq)
   |exact aj (m:=fB _) (eE (aj (aw (aw ⟨_,rfl,aw h⟩))) Fq)
   |exact aj (aj (m:=fB _) (eE (aw (aw ⟨_,rfl,aw h⟩)) Fq))
   |exact aj (aj (m:=fB _) (eE (aw ⟨_,rfl,aw h⟩) Fq))
end
section
variable {X:Cx}{A:aA}{E:Value->Shared->Prop}{s:Shared}{H:lV}{Y:St}
theorem afN {p r:PV}{v:Value}{sl:Addr}{a b:Value}{lo hi:Option Int}{Q:Value->Shared->Prop}(R:Rel X s.heap H Y)(x:VR s.heap H p v)(hs:s.heap.IsSliceOf sl a b .none)(pl:da a lo)(ph:da b hi)
  (e:x_ lo hi p=some r) (h:∀v s',Pu s s'->VR s'.heap H r v->Q v s'):ag (ah X.prog X.w) A (dA v (.ref sl)) Q E s:=by
 have cut:∀{l:List PV} {vs:List Value} {h':Heap},l6 h' H l vs->l6 h' H (zQ l lo hi) ((vs.drop (nW l.length 0 lo)).take (nW l.length l.length hi - nW l.length 0 lo)):=λhv=>HN _ lo hi▸(hv.drop _).take _
 have len:∀{l:List PV},l.length<=2^20->(zQ l lo hi).length<=2^20:=λhb=>ae (by rw[HN];exact N6 ..) hb;cases p with
 |tup l =>
  refine El.it e λok e=>?_;cases e;refine x.p6 λt vs hT hv hb=>?_;have hl:vs.toArray.size=l.length:=(bF ..).trans hv.len;refine SE hT hs pl ph (λh0 h1=>?_) ?_ (hv.sz hb)
  ·rw[hl] at h0 h1;exact h _ _ (Pu.refl s) (by rw[HN,h0,h1,iU,Nat.sub_zero,List.take_length];exact .vk hT hv hb)
  ·rw[hl];have pu:Pu s {s with heap:=s.heap.push {cls:=.type "tuple",data:=.seq ((vs.drop (nW l.length 0 lo)).take (nW l.length l.length hi - nW l.length 0 lo)).toArray}}:=Pu.push s _ s.toks;exact h _ _ pu (.vk ⟨_,bp _ rfl,rfl,_,rfl⟩ (cut (pu.p2 R hv)) (len hb))
 |lst l =>
  refine El.it e λok e=>?_;cases e;refine x.qF λt vs hT ap hv hb=>?_;have hl:vs.toArray.size=l.length:=(bF ..).trans hv.len;refine wpAny_getItem_list_slice hT hs pl ph .none (λh=>nomatch h) ?_ (hv.sz hb);have pu:Pu s {s with heap:=s.heap.push {cls:=.type "list",data:=.seq (slicePick vs.toArray lo hi none)}}:=Pu.push s _ s.toks;refine h _ _ pu ⟨_,(vs.drop (nW l.length 0 lo)).take (nW l.length l.length hi - nW l.length 0 lo),rfl,⟨_,bp _ rfl,rfl,0,?_⟩,R.fresh,cut (pu.p2 R hv),len hb⟩;unfold slicePick;rw[VG,hl];show Data.seq _ _=_;rw[sliceRange_one,pick_run]
 |str t =>
  refine El.it e λz e=>?_;cases e;refine x.q9 λk=>?_;obtain⟨rfl,rfl,hz⟩:=z;cases pl with
  |int _ t0=>cases ph with
   |int _ t1 =>
    refine wpAny_getItem_str_slice (l:=some (0,t0)) (u:=some (1,t1)) (st:=none) hs rfl ?_;have:sliceMade (nm t) k (some (0,t0)) (some (1,t1)) none=.val (.str (nm t) k):=(AX hz).elim λc hc=>by rw[hc.1];rfl
    rw[this];exact h _ _ (Pu.refl s) ⟨_,rfl⟩
 |_=>exact El.nn e
theorem aaI {p r:PV}{v:Value}{lo hi:Option Int}(x:VR s.heap H p v)(e:x_ lo hi p=some r):∃T id,s.TypeIs v T/\typeLookup (.type T) "__getitem__"=pure (some (.builtin id)):=by
 cases p with
 |tup l=>exact x.p6 λa vs hT _ _=>⟨_,_,hT.typeIs,slot_tuple_getitem.lookup⟩
 |lst l=>exact x.qF λa vs hT _ _ _=>⟨_,_,hT.typeIs,slot_list_getitem.lookup⟩
 |str t=>exact x.q9 λt=>⟨_,_,typeIs_str _ _ _,F.slot_str_getitem.lookup⟩
 |_=>exact El.nn e
end
theorem VI {K:Type}[DecidableEq K](a:K×Value)(r:List (K×Value))(k:K)(v:Value)(hn:((a::r).map (·.1)).Nodup) :
  bX (a::r) k v=if a.1=k then(a.1,v)::r else a::bX r k v:=by
 unfold bX;rw[gC,a9];by_cases h:a.1=k
 ·rw[mY h,lW h,lW h,map_store_of_not_mem r k v (h▸(List.nodup_cons.mp hn).1)];rfl
 ·rw[decide_eq_false h,lX h,lX h,dH];split<;>rfl
theorem LC {K K':Type}[DecidableEq K][DecidableEq K']{h:Heap}{H:lV}(f:K'->K)(hf:∀a b,f a=f b->a=b)(k:K'){pv:PV}{v:Value}(hv:VR h H pv v)(l:List (K'×PV)) :
  ∀(kvs:List (K×Value)),(kvs.map (·.1)).Nodup->kvs.map (·.1)=l.map (λx=>f x.1)->l6 h H (l.map (·.2)) (kvs.map (·.2)) ->
  (bX kvs (f k) v).map (·.1)=(Mine.Internal.putAt k pv l).map (λx=>f x.1)/\l6 h H ((Mine.Internal.putAt k pv l).map (·.2)) ((bX kvs (f k) v).map (·.2)):=by
 induction l with
 |nil=>intro kvs _ hk _;cases List.map_eq_nil_iff.mp hk;exact⟨rfl,.sX hv rfl⟩
 |cons p l ih =>
  intro kvs hn hk hx;cases kvs with
  |nil=>cases hk
  |cons a r =>
   rw[VI a r _ _ hn];have h1:a.1=f p.1:=(bu hk).1;have hx:=l6.Iy hx;unfold Mine.Internal.putAt;by_cases hp:p.1=k
   ·rw[lW (h1.trans (lT f hp)),lW hp];exact⟨congr (lT dm (h1.trans (lT f hp))) (bu hk).2,.sX hv hx.2⟩
   ·rw[lX λe=>hp (hf _ _ (h1.symm.trans e)),lX hp];have ih:=ih r (List.nodup_cons.mp hn).2 (bu hk).2 hx.2;exact⟨congr (lT dm h1) ih.1,.sX hx.1 ih.2⟩
theorem W9 (a:PV×Addr×Value)(r:List (PV×Addr×Value))(k:PV):c_ (a::r) k=if a.1=k then some a.2 else c_ r k:=by
 unfold c_;by_cases h:a.1=k
 ·rw[Bs h,lW h];rfl
 ·rw[Bt h,lX h]
theorem UZ (a:PV×Addr×Value)(r:List (PV×Addr×Value))(k:PV)(b:Addr)(v:Value)(hn:((a::r).map (·.1)).Nodup) :
  eG (a::r) k b v=if a.1=k then(a.1,a.2.1,v)::r else a::eG r k b v:=by
 unfold eG;rw[W9,a9];by_cases h:a.1=k
 ·have e:r.map (fC k v)=r:=(gA λx hx=>(show fC k v x=id x from lX λ(e:x.1=k)=>(List.nodup_cons.mp hn).1 (List.mem_map.mpr ⟨x,hx,e.trans h.symm⟩))).trans (List.map_id r);rw[lW h,lW h,e]
  show(if true=true then fC k v a::r else _)=_;rw[lW rfl];exact lT (·::r) (lW h)
 ·rw[lX h,lX h];have e:fC k v a=a:=lX h;rw[e];split<;>rfl
theorem VJ {h:Heap}{H:lV}(k:PV)(b:Addr){pv:PV}{v:Value}(hv:VR h H pv v)(l:List (PV×PV)) :
  ∀(xs:List (PV×Addr×Value)),(xs.map (·.1)).Nodup->xs.map (·.1)=l.map (·.1)->l6 h H (l.map (·.2)) (xs.map (·.2.2)) ->
  (eG xs k b v).map (·.1)=(Mine.Internal.putAt k pv l).map (·.1)/\l6 h H ((Mine.Internal.putAt k pv l).map (·.2)) ((eG xs k b v).map (·.2.2)):=by
 induction l with
 |nil=>intro kvs _ hk _;cases List.map_eq_nil_iff.mp hk;exact⟨rfl,.sX hv rfl⟩
 |cons p l ih =>
  intro kvs hn hk hx;cases kvs with
  |nil=>cases hk
  |cons a r =>
   rw[UZ a r _ _ _ hn];have h1:a.1=p.1:=(bu hk).1;have hx:=l6.Iy hx;unfold Mine.Internal.putAt;by_cases hp:p.1=k
   ·rw[lW (h1.trans hp),lW hp];exact⟨congr (lT dm (h1.trans hp)) (bu hk).2,.sX hv hx.2⟩
   ·rw[lX λe=>hp (h1.symm.trans e),lX hp];have ih:=ih r (List.nodup_cons.mp hn).2 (bu hk).2 hx.2;exact⟨congr (lT dm h1) ih.1,.sX hx.1 ih.2⟩
noncomputable def fieldNames:List String:=["abstract","at","bases","body","bounds","busy","decls","deep","defaults","did","extends_class","file","index","kind","members","most_deep","most_rounds","name","names","nid","origins","params","putting","renamed","rows","shaping","static","tab","variances"]
structure BX (X:Cx):Prop where
 tZ:X.K.In X.base
 ga:∀c,bk X.K (.ref (X.cls c)) "__getattribute__"=some (some (.builtin "object.__getattribute__"))
 sa:∀c,bk X.K (.ref (X.cls c)) "__setattr__"=some (some (.builtin "object.__setattr__"))
 po:∀c,g7 X.K (X.cls c)=true
 hd:∀c,g8 X.K (X.cls c)=true
 fld:∀c,∀a∈fieldNames,bk X.K (.ref (X.cls c)) (nm a)=some none
theorem Base.tZ {X:Cx}{h:Heap}(B:Base X h)(O:BX X):X.K.In h:=λa o e=>B.keep _ _ (O.tZ a o e)
theorem Et (a b:String)(t:Tok):Value.isStr (.str (nm b) t) (nm a)=decide (b=a):=by
 show(nm b==nm a)=_;rw[bg,beq_iff_eq,decide_eq_true_eq];exact⟨vY,lT nm⟩
theorem H8 {h:Heap}{H:lV}(a:String)(fs:List (String×PV)):∀{es:List DictEntry},FD h H fs es->∃o,cv (nm a) es=some o/\OV h H ((fs.find? λp=>decide (p.1=a)).map (·.2)) o:=by
 induction fs with
 |nil=>intro es x;cases(show es=[] from x);exact⟨none,rfl,trivial⟩
 |cons f fs ih =>
  intro es x;obtain⟨k,t,v,r,rfl,hv,hr⟩:=x;by_cases hf:f.1=a
  ·refine⟨some v,?_,by rw[Bs hf];exact hv⟩;unfold cv;rw[cE (by rw[Et];exact mY hf)]
  ·obtain⟨o,ho,Av⟩:=ih hr;refine⟨o,?_,by rw[Bt hf];exact Av⟩;rw[← ho];unfold cv;rw[cF (by rw[Et];exactλe=>hf (l9 e))];rfl
theorem YT {h:Heap}{H:lV}(a:String){fs:List (String×PV)}{es:List DictEntry}(x:FD h H fs es):(cv (nm a) es).isSome=true:=(H8 a fs x).elim λ_ e=>e.1▸rfl
theorem O8 {h:Heap}{H:lV}(a:String){pv:PV}{v:Value}(hv:VR h H pv v)(Gp:Int)(t:Tok)(fs:List (String×PV)):∀{es:List DictEntry},FD h H fs es->FD h H (Mine.Internal.putAt a pv fs) (putL (nm a) Gp (.str (nm a) t) v es):=by
 induction fs with
 |nil=>intro es x;cases(show es=[] from x);exact⟨Gp,t,v,[],rfl,hv,rfl⟩
 |cons f fs ih =>
  intro es x;obtain⟨k,t',u,r,rfl,hu,hr⟩:=x;unfold Mine.Internal.putAt putL;by_cases hf:f.1=a
  ·rw[lW hf,lW (by rw[Et];exact mY hf)];exact⟨k,t',v,r,by rw[hf],hv,hr⟩
  ·rw[lX hf,lX (by rw[Et];exactλe=>hf (l9 e))];exact⟨k,t',u,_,rfl,hu,ih hr⟩
theorem Mg {V β:Type}[DecidableEq V]{k:V}{v:β}{p:V×β}:∀{l:List (V×β)},p∈Mine.Internal.putAt k v l->p.1=k\/p∈l
 |[],h=>by simp only[Mine.Internal.putAt,bH] at h;exact .inl (by rw[h])
 |q::l,h=>by
  simp only[Mine.Internal.putAt] at h
  split at h
  ·rcases List.mem_cons.mp h with h|h
   ·exact .inl (by rw[h])
   ·exact .inr (aE _ h)
  ·rcases List.mem_cons.mp h with h|h
   ·exact .inr (by rw[h];simp)
   ·rcases Mg h with h|h
    ·exact .inl h
    ·exact .inr (aE _ h)
theorem Mh {V β:Type}[DecidableEq V](k:V)(v:β):∀l:List (V×β),(Mine.Internal.putAt k v l).length<=l.length+1
 |[]=>by simp[Mine.Internal.putAt]
 |q::l=>by
  simp only[Mine.Internal.putAt]
  split
  ·simp
  ·simp only[dn];have:=Mh k v l;lia
section
variable {X:Cx}{A:aA}{E:Value->Shared->Prop}{s:Shared}{H:lV}{Y:St}
theorem YU {q:PV}{u:Value}{h:Heap}(x:VR h H q u):handedIn u=true:=by
 cases q with
 |none=>exact x.vg rfl
 |bool b=>exact x.w7 rfl
 |int i=>exact x.qE λ_=>rfl
 |str i=>exact x.q9 λ_=>rfl
 |tup l=>exact x.p6 λ_ _ _ _ _=>rfl
 |lst l=>exact x.qF λ_ _ _ _ _ _=>rfl
 |loc n=>exact x.zU λ_ _=>rfl
theorem adj {p r:PV}{a:String}{v:Value}{ex:Bool}{Q:Value->Shared->Prop}(O:BX X)(B:Base X s.heap)(R:Rel X s.heap H Y)(x:VR s.heap H p v)(e:oc Y a p=some r)
  (h:∀v s',Pu s s'->VR s'.heap H r v->Q v s'):ag (ah X.prog X.w) A (getAttr v (nm a) ex) Q E s:=by
 cases p with
 |loc n =>
  refine R.uA x e λp o hp ho y e=>?_;cases o with
  |inst c fs =>
   refine y.Iw λh1 h2 es k h3 hf hn=>El.n3 (H8 a fs hf) λo e2 Av=>Av.get e (P:=λo=>cv (nm a) es=some o->_) (λu hu e2=>El.n3 (Option.map_eq_some_iff.mp e) λq e1 _=>El.n3 (any_some (O.hd c)) λcd wC hd=>?_) e2;have I:InstAt s.heap p.1 (b_ (X.cls c) p.2) (X.cls c) (some (dictOf es k)):=⟨h1,rfl,rfl,h3⟩;have RX:=hn q (cU e1);rw[show q.1=a from l9 (cH (p:=λp:String×PV=>decide (p.1=a)) e1)] at RX;have ahI:findObj X.K (X.cls c) (some (dictOf es k)) (nm a)=some (.value u):=by
    unfold findObj;rw[wC,RX];show(W.ownOf cd (some (dictOf es k)) (nm a)).bind _=_;unfold W.ownOf;rw[hd,lW rfl];show(cv (nm a) es).bind _=_;rw[e2];rfl
   exact get_value (B.tZ O) I (O.ga c) ahI (YU hu) (h u _ (Pu.toks s _) hu)
  |_=>exact El.nn e
 |_=>exact El.nn e
theorem noRef {a:af}{es:List DictEntry}(hl:(cv a es).isSome=true):(!es.toArray.any (·.key.isStr a)&&es.toArray.any (·.refKey))=false:=by
 rw[← jX,← jX];unfold cv at hl;cases he:es.find? (·.key.isStr a) with
 |some en=>rw[List.any_eq_true.mpr ⟨en,cU he,cH he⟩];rfl
 |none =>
  rw[he] at hl;cases z:es.any (·.refKey) with
  |true=>rw[z] at hl;cases hl
  |false=>exact cV _
theorem YV {p:Addr×Addr}{c:n_}{es:List DictEntry}{k:Nat}{a:String}{u:Value}{Q:Unit->Shared->Prop}(O:BX X)(KI:X.K.In s.heap)(h1:s.heap.get? p.1=some (b_ (X.cls c) p.2))(h3:s.heap.get? p.2=some (dictOf es k))(ha:a∈fieldNames)
  (hl:(cv (nm a) es).isSome=true) (hlen:(putL (nm a) (eH X.w.params (nm a)) (.str (nm a) (s.toks+1)) u es).length<=502)
  (h:∀h' t,h'.get? p.2=some (dictOf (putL (nm a) (eH X.w.params (nm a)) (.str (nm a) (s.toks+1)) u es) (putN (nm a) es k))->cb p.2 s.heap h'->Q () {s with heap:=h',toks:=t}):ag (ah X.prog X.w) A (setAttr (.ref p.1) (nm a) u) Q E s:=by
 have I:InstAt s.heap p.1 (b_ (X.cls c) p.2) (X.cls c) (some (dictOf es k)):=⟨h1,rfl,rfl,h3⟩
 have ht:takerIn X.K (X.cls c) (nm a)=some none:=by unfold takerIn;rw[O.fld c a ha];rfl
 refine set_plain KI I (O.sa c) (osa_open (s:={s with toks:=s.toks+1}) KI I (O.po c) ht λb=>El.n3 (any_some (O.hd c)) λcd wC hd=>?_);refine aj (aw (aj (aj (jY h1 (aj ((looks_clsIn (M:=ah X.prog X.w) KI wC) _ _ _ _ (λ_ _ e=>e) ?_))))));rw[hd];refine aw (a:=some p.2) (aj (aw (aj ?_)));unfold nsSet;refine aj (aj (wpAny_askSetting (aw (aj (wpAny_mkText (aj (jY h3 ?_)))))));dsimp only;rw[aRefKeyMayBeTheName_at,noRef hl];refine wpAny_updatePart h3 ?_;have D':(s.heap.update p.2 (Obj.putName (nm a) (eH X.w.params (nm a)) (.str (nm a) (s.toks+1)) u)).get? p.2=some (dictOf (putL (nm a) (eH X.w.params (nm a)) (.str (nm a) (s.toks+1)) u es) (putN (nm a) es k)):=by
  rw[fD _ h3 (by rw[putName_dict];rfl),putName_dict]
 exact aj (wpAny_lookBehind D' (pastItsLine_dict (by rw[bF,sizeLine_eq];exact ae hlen (by decide))) (aw (h _ _ D' (eI ..))))
theorem W_ {p r:PV}{a:String}{v u:Value}{σ':St}{Q:Unit->Shared->Prop}(O:BX X)(B:Base X s.heap)(R:Rel X s.heap H Y)(x:VR s.heap H p v)(y:VR s.heap H r u)(e:wN Y a r p=some σ')
  (ha:a∈fieldNames) (h:∀s',Sg X s H σ' s' H->Q () s'):ag (ah X.prog X.w) A (setAttr v (nm a) u) Q E s:=by
 cases p with
 |loc n =>
  refine R.uA x e λp o hp ho z e1=>El.n3 (Option.map_eq_some_iff.mp e1) λo' e2 q=>?_;subst q;cases o with
  |inst c fs =>
   refine El.it e2 λhlen e3=>z.Iw λh1 h2 es k h3 hf hn=>?_;cases e3;refine YV O (B.tZ O) h1 h3 ha (YT a hf) (by rw[(O8 a y _ _ fs hf).len];exact ae (Mh a r fs) (ae (ak hlen 1) (by decide))) λh' t D' sb=>?_;have W:=R.write hp (.inr rfl) sb (o':=.inst c (Mine.Internal.putAt a r fs)) (λgr xC ts=>⟨(sb.2 _ (λq=>h2 q.symm)).trans h1,h2,_,_,D',O8 a (gr y) _ _ _ (hf.map gr),λf J9=>(Mg J9).elim (λq=>q▸O.fld c a ha) (hn f)⟩) ⟨_,D'⟩;exact h _ ⟨W.1,W.2,rfl,rfl⟩
  |_=>exact El.nn e2
 |_=>exact El.nn e
end
theorem Kz (l_:Array Value)(n j:Nat)(x:Value) :
  fE (·.setIfInBounds j x) {cls:=.type "list",data:=.seq l_ n}={cls:=.type "list",data:=.seq (l_.setIfInBounds j x) n}:=by
 simp[fE]
section
variable {prog:Program}{w:az}{A:aA}{E:Value->Shared->Prop}{s:Shared}
theorem Ut {l:Addr}{items:Array Value}{k:Int}{t:Tok}{v:Value}{Q:Unit->Shared->Prop}(hp:s.heap.PlainList l items)
  (h0:0<=k) (QJ:k<2^63) (hn:k<items.size)
  (hQ:∀h',h'.PlainList l (items.setIfInBounds k.toNat v)->cb l s.heap h'->h'.objs.size=s.heap.objs.size->Q () {s with heap:=h'}) :
  ag (ah prog w) A (dX (.ref l) (.int k t) v) Q E s:=by
 have hl:=hp.isList;obtain⟨ne,ho⟩:=hp
 have hd:(({cls:=.type "list",data:=.seq items ne}:Obj)).data=.seq items ne:=rfl;unfold dX
 try with_reducible refine dB ?_
 first|refine aj (aw ?_)|skip
 refine aj (g4 hl.typeIs (by decide) ?_);refine aj (g5 (name:=bq "__setitem__") hl.typeIs jZ
  (eD jZ hl.typeIs entry_list_setitem ?_ (args_list_setitem _ _ _)))
 show ag _ _ (lG (.int k t)>>=_) _ _ s;refine aj (wpAny_listSubscript_int (fitsIndex_of h0 QJ) ?_);clear QJ;obtain⟨j,rfl⟩:=gT h0
 have hj:j<items.size:=by lia
 have hx':items[j]? =some items[j]:=Array.getElem?_eq_getElem hj
 show ag _ _ ((seqItemAt l j>>=λr=>pure (r.map (j,·)))>>=_) _ _ s;refine aj (aj (wpAny_seqItemAt ho hd (aw ?_)));rw[hx']
 show ag _ _ (setSeqItemAt l j v>>=_) _ _ s
 have FP:(s.heap.update l (fE (·.setIfInBounds j v))).PlainList l (items.setIfInBounds j v) :=
  ⟨ne,by rw[fD _ ho (by rw[Kz];rfl),Kz]⟩
 have tY:(s.heap.update l (fE (·.setIfInBounds j v))).objs.size=s.heap.objs.size:=Heap.size_update ..;refine aj (wpAny_setSeqItemAt ho hd ?_)
 first
  |exact aj (aw (aw ⟨.none,rfl,aw (hQ _ FP (eI ..) tY)⟩))
  |exact aw ⟨.none,rfl,aw (hQ _ FP (eI ..) tY)⟩
end
section
variable {prog:Program}{w:az}{A:aA}{E:Value->Shared->Prop}{s:Shared}{K:Type}[DecidableEq K]{knd:gJ prog w K}
theorem Xa {d:Addr}{kvs:List (K×Value)}{k:K}{key v:Value}{ep:Nat}{Q:Unit->Shared->Prop}(rC:knd.is k key=true)(hm:s.heap.DictAt knd d kvs ep)
  (hQ:∀h' wD,h'.DictAt knd d (bX kvs k v) wD->wD+kvs.length=ep+(bX kvs k v).length->cb d s.heap h'->Q () {s with heap:=h',toks:=s.toks+1})
  (tY:kvs.length<=sizeLine):ag (ah prog w) A (dictSet d key v) Q E s:=by
 obtain⟨o,es,ho,hc,hd,hk,hp,hn⟩:=hm;have hes:es.size<=sizeLine:=by
  have e1:=hp.length;have e2:es.toList.length=es.size:=by simp
  lia
 unfold dictSet
 try with_reducible refine dB ?_
 refine aj (knd.pyHash rC ?_);unfold dictSetHashed
 try with_reducible refine dB ?_
 refine aj (wpAny_dictFind_of (s:={s with toks:=s.toks+1}) rC ho hd hk ?_);have Jq:(es.findIdx? λe=>knd.is k e.key)=kvs.findIdx? λkv=>decide (kv.1=k):=by
  rw[← hp.findIdx k];obtain⟨l⟩:=es;simp
 cases hi:es.findIdx? λe=>knd.is k e.key with
 |some i =>
  have om:bX kvs k v=kvs.map λkv=>if kv.1=k then(kv.1,v) else kv:=by rw[bX,lW (any_of_findIdx_some (Jq▸hi))]
  refine aj (g6 (aj (wpAny_updateDict (s:={s with toks:=s.toks+1}) ho hd (wpAny_point (hQ _ ep ⟨_,_,fD _ ho (j2 (j3 hd _)),
   hc.mapDict _,j3 hd _,hk.modify _ _,?_,?_⟩ (by rw[om,au]) (eI ..))))))
  ·rw[om];have hl:(es.toList.findIdx? λe=>knd.is k e.key)=some i:=by rw[← hi];obtain⟨l⟩:=es;simp
   have:=hp.modify hn hl v;obtain⟨l⟩:=es;simpa using this
  ·rw[om,keys_map_store];exact hn
 |none =>
  have QK:k∉kvs.map (·.1):=not_mem_of_findIdx_none (Jq▸hi)
  have Jm:¬(kvs.any λkv=>decide (kv.1=k))=true:=by
   rw[bS];rintro⟨kv,hkv,he⟩;exact QK (List.mem_map.mpr ⟨kv,hkv,l9 he⟩)
  have om:bX kvs k v=kvs++[(k,v)]:=by rw[bX,lX Jm]
  refine aj (g6 (wpAny_updateDictKeys (hz:=hes) (s:={s with toks:=s.toks+1}) ho hd (hQ _ (ep+1) ⟨_,_,fD _ ho (j2 (j4 hd _)),
   hc.mapDictKeys _,j4 hd _,hk.push rC _,?_,?_⟩ (by rw[om,ar,List.length_singleton];lia) (eI ..))))
  ·rw[om];have:=hp.append rC (knd.hash k) v;obtain⟨l⟩:=es;simpa using this
  ·rw[om,aO,fe];refine⟨hn,by simp,?_⟩;intro a ha b hb;simp only[a9,jl,bH] at hb;subst hb
   exactλe=>QK (e▸ha)
theorem Xb {d:Addr}{kvs:List (K×Value)}{k:K}{key v:Value}{ep:Nat}{Q:Unit->Shared->Prop}(rC:knd.is k key=true)(hm:s.heap.DictAt knd d kvs ep)
  (hQ:∀h' wD,h'.DictAt knd d (bX kvs k v) wD->wD+kvs.length=ep+(bX kvs k v).length->cb d s.heap h'->Q () {s with heap:=h',toks:=s.toks+1})
  (tY:kvs.length<=sizeLine):ag (ah prog w) A (dX (.ref d) key v) Q E s:=by
 have ht:=hm.dictOf.typeIs;unfold dX
 try with_reducible refine dB ?_
 refine aj (g4 ht (by decide) ?_);refine aj (g5 (name:=bq "__setitem__") ht j5
  (eD j5 ht entry_dict_setitem ?_ (args_dict_setitem _ _ _)))
 show ag _ _ (lH "__setitem__" ⟨[.ref d,key,v],[]⟩>>=_) _ _ s;refine aj (wpAny_notOrdered_dict ht ?_)
 show ag _ _ (dictSet d key v>>=_) _ _ s;exact aj (Xa rC hm (λh' wD hm' he J_=>aw ⟨.none,rfl,aw (hQ h' wD hm' he J_)⟩) tY)
end
section
variable {X:Cx}{A:aA}{E:Value->Shared->Prop}{s:Shared}{H:lV}{Y:St}
theorem Bu (R:Rel X s.heap H Y){n:Nat}{p:Addr×Addr}(hp:H.l[n]? =some p){Q:Unit->Shared->Prop}{o':mC}(h:∀s',Sg X s H (Y.set n o') s' H->Q () s'){h':Heap}{t:Nat}(sb:cb p.1 s.heap h')
  (new:(∀{q:PV} {v:Value},VR s.heap H q v->VR h' H q v)->(∀{l:List PV} {vs:List Value},l6 s.heap H l vs->l6 h' H l vs)->OR X h' H p o') (lv:mL h' p.1):Q () {s with heap:=h',toks:=t} :=
 let W:=R.write hp (.inl rfl) sb (o':=o') (λa b _=>new a b) lv
 h _ ⟨W.1,W.2,rfl,rfl⟩
theorem YW {p i r:PV}{v u k:Value}{σ':St}{Q:Unit->Shared->Prop}(R:Rel X s.heap H Y)(x:VR s.heap H p v)(z:VR s.heap H i k)(y:VR s.heap H r u)(e:tv Y i r p=some σ')
  (hu:A.units+60<cLine) (h:∀s',Sg X s H σ' s' H->Q () s'):ag (ah X.prog X.w) A (dX v k u) Q E s:=by
 cases p with
 |loc n =>
  refine R.PO x e (P:=λv σ'=>(∀s',Sg X s H σ' s' H->Q () s')->ag (ah X.prog X.w) A (dX v k u) Q E s) (λp o o' hp w e h=>?_) h;cases o with
  |list l =>
   refine w.w8 λe2 vs hT hs hb=>wa e z λj t q=>El.it q λhk q=>El.nL hk λh1 h2=>?_;cases q;have hl:=hs.len;have h2:=l9 h2;refine Ut hT (l9 h1) (iN h2 (Int.ofNat_le.mpr (ae hb (by decide:2^20<=2^63)))) (by rw[bF,hl];exact h2) λh' CM sb _=>Bu R hp h (t:=s.toks) sb (λa b=>⟨e2,vs.set j.toNat u,?_,(b hs).set (a y) _,by rw[bw];exact hb⟩) (CM.elim λ_ q=>⟨_,q⟩);rw[← List.setIfInBounds_toArray];exact CM
  |pk l =>
   refine w.vv λe2 kvs hd hk hv=>wa e z λj t q=>El.it q λuU q=>?_;cases q;have hl:=hv.len;rw[au,au] at hl;refine Xb (knd:=cy X.prog X.w) (k:=j) (by simp[cy,fx]) hd (λh' wD xD he sb=>Bu R hp h sb (λa b=>?_) (xD.elim λ_ q=>q.elim λ_ q=>⟨_,q.1⟩)) (by rw[hl];exact ae uU (by decide));have sp:=LC id (λa b e=>e) j (a y) l kvs hd.nodup hk (b hv);have hlen:=sp.2.len;rw[au,au] at hlen;have hep:wD=(Mine.Internal.putAt j r l).length:=Nat.add_right_cancel (he.trans (by rw[hl,← hlen,b9];rfl));subst hep;exact⟨e2,_,xD,sp.1,sp.2⟩
  |p5 l =>
   refine w.Cb λe2 kvs hd hk hv=>I0 e z λj t q=>El.it q λuU q=>?_;cases q;have hl:=hv.len;rw[au,au] at hl;refine wpAny_setItem_pairs (knd:=dV X.prog X.w) (k:=nm j) (by simp[dV,fy]) hd (λh' xD sb=>Bu R hp h sb (λa b=>?_) (xD.elim λ_ q=>q.elim λ_ q=>q.elim λ_ q=>⟨_,q.1⟩)) (by rw[hl];exact ae uU (by decide));have nd:=hd.elim λ_ q=>q.elim λ_ q=>q.elim λ_ q=>q.2.2.2.2.2;have sp:=LC nm (λa b e=>vY e) j (a y) l kvs nd hk (b hv);exact⟨e2,_,xD,sp.1,sp.2⟩
  |pn l =>
   refine El.it e λuU q=>El.nL uU λk1 k2=>El.n3 (EL (X:=X) z k1) λa qa rC=>w.z_ λe2 xs hd hk hv=>?_;cases q;subst qa;have hl:=hv.len;rw[au,au] at hl;refine wpAny_setItem_heap (knd:=sm X.prog X.w) (Gs hu) rC hd (λh' xD sb=>Bu R hp h sb (λg b=>?_) (xD.elim λ_ q=>q.elim λ_ q=>q.elim λ_ q=>⟨_,q.1⟩)) (by rw[hl];exact ae (l9 k2) (by decide));have nd:=hd.elim λ_ q=>q.elim λ_ q=>q.elim λ_ q=>q.2.2.2.2.2;have sp:=VJ i a (g y) l xs nd hk (b hv);exact⟨e2,_,xD,sp.1,sp.2⟩
  |_=>exact El.nn e
 |_=>exact El.nn e
theorem YX {p r:PV}{v u:Value}{σ':St}{Q:Value->Shared->Prop}(R:Rel X s.heap H Y)(x:VR s.heap H p v)(y:VR s.heap H r u)(e:AZ Y r p=some σ')
  (h:∀s',Sg X s H σ' s' H->Q .none s'):∃D l_,v=.ref D/\PlainL s.heap D l_/\ag (ah X.prog X.w) A (call (.builtin "list.append") [.ref D,u]) Q E s:=by
 cases p with
 |loc n =>
  refine R.PO x e (P:=λv σ'=>(∀s',Sg X s H σ' s' H->Q .none s')->∃D l_,v=.ref D/\PlainL s.heap D l_/\ag (ah X.prog X.w) A (call (.builtin "list.append") [.ref D,u]) Q E s) (λp o o' hp w e h=>?_) h;cases o with
  |list l =>
   refine El.it e λhk q=>w.w8 λe2 vs hT hs hb=>hT.elim λne hT0=>⟨p.1,vs.toArray,rfl,⟨_,_,hT0,rfl,rfl,rfl⟩,?_⟩;cases q;have hl:=hs.len;refine j7 hT (λh' CM sb=>Bu (Q:=λ_=>Q .none) R hp h (t:=s.toks) sb (λa b=>⟨e2,vs++[u],?_,(b hs).append (.sX (a y) rfl),?_⟩) (CM.elim λ_ q=>⟨_,q⟩)) (by rw[bF,hl];exact ae hk (by decide))
   ·rw[← j8];exact CM
   ·rw[ar];exact ae (ak hk 1) (by decide)
  |_=>exact El.nn e
 |_=>exact El.nn e
end
section
variable {V:Type}{key:V->Int}
theorem VK {R:V->V->Prop}(l:List V):∀(k:List V),l.Perm k->l.Pairwise R->k.Pairwise R->(∀a b,a∈l->b∈l->R a b->R b a->a=b)->l=k:=by
 induction l with
 |nil=>exactλk p _ _ _=>p.nil_eq
 |cons x l ih =>
  intro k p h1 h2 an;cases k with
  |nil=>exact nomatch p.symm.nil_eq
  |cons y k =>
   have exy:x=y:=(List.mem_cons.mp (p.mem_iff.mp (aG ..))).elim id λhx=>(List.mem_cons.mp (p.mem_iff.mpr (aG ..))).elim ft λhy =>
    an x y (aG ..) (aE _ hy) (g9 h1 hy) (g9 h2 hx)
   subst exy;rw[ih k p.cons_inv (List.pairwise_cons.mp h1).2 (List.pairwise_cons.mp h2).2 λa b ha hb=>an a b (aE _ ha) (aE _ hb)]
theorem Mi (x:V)(l:List V):(zZ key x l).Perm (x::l):=by
 induction l with
 |nil=>exact .refl _
 |cons y r ih =>
  show(if key x<=key y then _ else _:List V).Perm _
  split
  ·exact .refl _
  ·exact(ih.cons y).trans (.swap x y r)
theorem Xc (l:List V):(zS key l).Perm l:=by
 induction l with
 |nil=>exact .refl _
 |cons x r ih=>exact(Mi x _).trans (ih.cons x)
theorem VL (x:V)(l:List V)(h:l.Pairwise λa b=>key a<=key b):(zZ key x l).Pairwise λa b=>key a<=key b:=by
 induction l with
 |nil=>exact gg ..
 |cons y r ih =>
  have h':=List.pairwise_cons.mp h
  show(if key x<=key y then _ else _:List V).Pairwise _;by_cases q:key x<=key y
  ·rw[lW q];exact List.pairwise_cons.mpr ⟨λz hz=>(List.mem_cons.mp hz).elim (λe=>e▸q) λhz=>dW q (h'.1 z hz),h⟩
  ·rw[lX q];exact List.pairwise_cons.mpr ⟨λz hz=>(List.mem_cons.mp ((Mi x r).mem_iff.mp hz)).elim (λe=>e▸dU (Int.not_le.mp q)) (h'.1 z),ih h'.2⟩
theorem U0 (l:List V):(zS key l).Pairwise λa b=>key a<=key b:=by
 induction l with
 |nil=>exact .nil
 |cons x r ih=>exact VL x _ ih
theorem K8 {l k:List V}(p:k.Perm l)(s:k.Pairwise λa b=>key a<=key b)(an:∀a b,a∈k->b∈k->key a=key b->a=b):k=zS key l :=
 VK _ _ (p.trans (Xc l).symm) s (U0 l) λa b ha hb h1 h2=>an a b ha hb (Int.le_antisymm h1 h2)
end
theorem U1 {l k:List Int}(p:k.Perm l)(s:k.Pairwise (·<=·)):k=sortI l:=K8 p s λ_ _ _ _ e=>e
theorem code_inj {a b:String}(ha:(single a).isSome=true)(hb:(single b).isSome=true)(h:code a=code b):a=b:=by
 obtain⟨x,hx⟩:=Option.isSome_iff_exists.mp ha;obtain⟨y,hy⟩:=Option.isSome_iff_exists.mp hb;obtain⟨n,e1,e2,_⟩:=AO hx;obtain⟨m,e3,e4,_⟩:=AO hy;rw[code,code,hx,hy] at h;have:n=m:=Int.ofNat.inj (e1.symm.trans ((h:x=y).trans e3));exact vY (e2.trans (this▸e4.symm))
theorem U2 {l k:List String}(hs:∀s∈l,(single s).isSome=true)(p:k.Perm l)(s:k.Pairwise (λa b=>code a<=code b)):k=Fe l :=
 K8 p s λa b ha hb=>code_inj (hs _ (p.mem_iff.mp ha)) (hs _ (p.mem_iff.mp hb))
theorem adk {a b:String}(ha:(single a).isSome=true)(hb:(single b).isSome=true):Spec.ltCps (nm b).cps.toList (nm a).cps.toList=false↔code a<=code b:=by
 obtain⟨x,hx⟩:=Option.isSome_iff_exists.mp ha;obtain⟨y,hy⟩:=Option.isSome_iff_exists.mp hb;have h:=Mf hx hy;simp only[code,hx,hy,jh];rw[ltCps_eq];by_cases q:x<=y
 ·simp only[q,decide_true,bV,iff_true] at h⊢;exact h
 ·simp only[q,decide_false,f9,iff_false,Bool.not_eq_false] at h⊢;exact h
theorem VM (l:List String):∀(p:String),(single p).isSome=true->(∀s∈l,(single s).isSome=true)->risingS (nm p) (l.map nm)=true->(p::l).Pairwise (λa b=>code a<=code b):=by
 induction l with
 |nil=>exactλp _ _ _=>gg ..
 |cons x l ih =>
  intro p hp hl h;refine El.nL h λh0 h2=>?_;have h1:=(adk hp (hl x (aG ..))).mp ((bV _).mp h0);have ih:=ih x (hl x (aG ..)) (λs hs=>hl s (aE _ hs)) h2;exact List.pairwise_cons.mpr ⟨λz hz=>(List.mem_cons.mp hz).elim (λe=>e▸h1) λhz=>dW h1 (g9 ih hz),ih⟩
theorem U3 (l:List String)(hl:∀s∈l,(single s).isSome=true)(h:sortedS (l.map nm)=true):l.Pairwise (λa b=>code a<=code b):=by
 cases l with
 |nil=>exact .nil
 |cons x l=>exact VM l x (hl x (aG ..)) (λs hs=>hl s (aE _ hs)) h
theorem YY {l:List String}(ss:List af)(h:∀x∈ss,x∈l.map nm):∃k:List String,ss=k.map nm:=by
 induction ss with
 |nil=>exact⟨[],rfl⟩
 |cons x ss ih=>exact(List.mem_map.mp (h x (aG ..))).elim λa e=>(ih λy hy=>h y (aE _ hy)).elim λk hk=>⟨a::k,by rw[a9,e.2,hk]⟩
theorem TO {k l:List String}(h:(k.map nm).Perm (l.map nm)):k.Perm l:=by
 refine List.perm_iff_count.mpr λa=>?_;have ce:∀l:List String,(l.map nm).count (nm a)=l.count a:=λl=>by
  induction l with
  |nil=>rfl
  |cons x l ih =>
   rw[a9,j9,j9,ih];exact lT (_+if ·=true then 1 else 0) (by rw[bg,beq_iff_eq,beq_iff_eq];exact⟨vY,lT nm⟩)
 exact(ce k).symm.trans ((List.perm_iff_count.mp h (nm a)).trans (ce l))
theorem l6.ints {h:Heap}{H:lV}{vs:List Value}{ns:List Int}(x:fF vs ns):l6 h H (ns.map .int) vs:=by
 induction x with
 |nil=>rfl
 |cons n t r ih=>exact .sX (.BV n t) ih
theorem l6.strs {h:Heap}{H:lV}(k:List String):∀{vs:List Value},fG vs (k.map nm)->l6 h H (k.map .str) vs:=by
 induction k with
 |nil=>intro vs x;cases x;rfl
 |cons s k ih=>intro vs x;cases x with|cons y t r=>exact .sX ⟨t,rfl⟩ (ih r)
theorem aaJ (kvs:List (Int×Value)):∀{vs:List Value},vs.length=kvs.length->(∀(j:Nat) (v:Value),vs[j]? =some v->∃k x,kvs[j]? =some (k,x)/\fx k v=true)->fF vs (kvs.map (·.1)):=by
 induction kvs with
 |nil=>intro vs hl _;rw[List.length_eq_zero_iff.mp hl];exact .nil
 |cons p r ih =>
  intro vs hl h;cases vs with
  |nil=>cases hl
  |cons v vs =>
   obtain⟨k,x,e,hk⟩:=h 0 v rfl;cases e;obtain⟨t,rfl⟩:=j_ hk;exact .cons k t (ih (fb hl) λj u hu=>h (j+1) u hu)
theorem aaK (kvs:List (af×Value)):∀{vs:List Value},vs.length=kvs.length->(∀(j:Nat) (v:Value),vs[j]? =some v->∃k x,kvs[j]? =some (k,x)/\fy k v=true)->fG vs (kvs.map (·.1)):=by
 induction kvs with
 |nil=>intro vs hl _;rw[List.length_eq_zero_iff.mp hl];exact .nil
 |cons p r ih =>
  intro vs hl h;cases vs with
  |nil=>cases hl
  |cons v vs =>
   obtain⟨k,x,e,hk⟩:=h 0 v rfl;cases e;obtain⟨t,rfl⟩:=Value.isStrOf_shape hk;exact .cons k t (ih (fb hl) λj u hu=>h (j+1) u hu)
section
variable {X:Cx}{A:aA}{E:Value->Shared->Prop}{s:Shared}{H:lV}{Y:St}
theorem afO {p r:PV}{v:Value}{Q:Value->Shared->Prop}(R:Rel X s.heap H Y)(x:VR s.heap H p v)(e:qr Y .len p=some r)
  (h:∀v s',Pu s s'->VR s'.heap H r v->Q v s'):ag (ah X.prog X.w) A (call (.builtin "len") [v]) Q E s:=by
 have fin:∀{n m:Nat},n=m->some (PV.int m)=some r->∀t k,Q (.int n t) {s with toks:=k}:=λhn hr t k=>h _ _ (Pu.toks s k) (aq hr▸hn▸.BV ..)
 have lst:∀{a:Addr} {l:List PV} {vs:List Value},s.heap.IsList a vs.toArray->l6 s.heap H l vs->l.length<=2^20->some (PV.int l.length)=some r->ag (ah X.prog X.w) A (call (.builtin "len") [.ref a]) Q E s:=λhT hs hb e =>
  call_len_list hT (hs.line hb) (fin ((bF ..).trans hs.len) e _ _)
 cases p with
 |tup l=>exact x.p6 λa vs hT hs hb=>len_tuple hT (hs.line hb) (fin ((bF ..).trans hs.len) e _ _)
 |lst l=>exact x.qF λa vs hT _ hs hb=>lst hT hs hb e
 |loc n =>
  refine R.uA x e λp o hp ho y e=>?_;cases o with
  |list l=>exact y.w8 λ_ vs hT hs hb=>lst hT.isList hs hb e
  |pk l=>exact y.vv λ_ kvs hd hk hv=>El.it e λhb e =>
    have hl:kvs.length=l.length:=(au ..).symm.trans (hv.len.trans (au ..))
    call_len_dict (R.BJ (bj hp)) hd.dictOf (by rw[hl];exact Int.ofNat_lt.mpr (aT hb (by decide:_<2^63))) (fin hl e _ _)
  |_=>exact El.nn e
 |_=>exact El.nn e
theorem afP {p r:PV}{v:Value}{Q:Value->Shared->Prop}(x:VR s.heap H p v)(e:qr Y .str p=some r)
  (h:∀v s',Pu s s'->VR s'.heap H r v->Q v s'):ag (ah X.prog X.w) A (call (.type "str") [v]) Q E s:=by
 refine wa e x λi t q=>El.it q λhi q=>?_;cases hi;cases q;exact P.str_of_int (by decide) (h _ _ (Pu.toks s _) ⟨s.toks,lT (jv · _) (by decide +kernel)⟩)
theorem aaL {p r:PV}{v:Value}{Q:Value->Shared->Prop}(R:Rel X s.heap H Y)(x:VR s.heap H p v)(e:qr Y .tuple p=some r)
  (h:∀v s',Pu s s'->VR s'.heap H r v->Q v s'):ag (ah X.prog X.w) A (call (.type "tuple") [v]) Q E s:=by
 have lst:∀{l:List PV} {a:Addr} {vs:List Value},s.heap.IsList a vs.toArray->l6 s.heap H l vs->l.length<=2^20->some (PV.tup l)=some r->ag (ah X.prog X.w) A (call (.type "tuple") [.ref a]) Q E s:=λ{l a vs} hT hs hb e =>
  call_tuple_list hT (λh' hk =>
   have pu:Pu s {s with heap:=h'.push {cls:=.type "tuple",data:=.seq vs.toArray}}:=⟨λb o e=>bO _ (hk b o e),rfl,rfl⟩
   h _ _ pu (aq e▸.vk ⟨_,bp _ rfl,rfl,_,rfl⟩ (pu.p2 R hs) hb)) (hs.sz hb)
 cases p with
 |tup l=>exact x.p6 λa vs hT hs hb=>call_tuple_tup hT (h _ _ (Pu.refl s) (aq e▸.vk hT hs hb))
 |lst l=>exact x.qF λa vs hT _ hs hb=>lst hT hs hb e
 |loc n=>exact R.qF x e λp l vs _ _ hT hs hb e=>lst hT.isList hs hb e
 |_=>exact El.nn e
theorem aaM {h:Heap}{H:lV}(l:List PV):∀{bs:List Bool} {vs:List Value},Ey l=some bs->l6 h H l vs->vs=bs.map .bool:=by
 induction l with
 |nil=>intro bs vs e x;cases e;exact x
 |cons p l ih =>
  intro bs vs e x;cases p with
  |bool b =>
   refine x.elim λv x=>x.elim λr x=>El.n3 (Option.map_eq_some_iff.mp e) λcs hc q=>?_;cases q;rw[x.1,ih hc x.2.2,show v=.bool b from x.2.1];rfl
  |_=>exact El.nn e
theorem map_range (bs:List Bool):(ba bs.length).map (λi=>bs.getD i false)=bs :=
 List.ext_getElem (by rw[au,cW]) λi h1 h2=>by
  rw[List.getElem_map,List.getElem_range,ka,aQ h2];rfl
theorem range_all (bs:List Bool):(ba bs.length).all (λi=>bs.getD i false)=bs.all id:=by
 conv=>rhs;rw[← map_range bs]
 rw[eZ];rfl
theorem range_any (bs:List Bool):(ba bs.length).any (λi=>bs.getD i false)=bs.any id:=by
 conv=>rhs;rw[← map_range bs]
 rw[f3];rfl
theorem VN (A:aA)(bs:List Bool):TruthOf X.prog X.w A (λi v=>(bs.map dY).toArray[i]? =some v) (λi=>bs.getD i false):=λi v s Q E hv hq=>by
 have hv:(bs.map dY).toArray[i]? =some v:=hv;rw[fH,cJ] at hv;obtain⟨c,hc,rfl⟩:=Option.map_eq_some_iff.mp hv;have:bs.getD i false=c:=by rw[ka,hc];rfl
 exact c9 (this▸(hq:Q (bs.getD i false) s))
theorem LD {a:Addr}{bs:List Bool}(hh:A.handled=none)(hT:s.heap.IsList a (bs.map dY).toArray)(E:Value->Shared->Prop) :
  ag (ah X.prog X.w) A.in1 (dZ (.ref a)) (λit s₂=>∃I fp wr P St,it=.ref I/\Walks X.prog X.w A.in1 I fp wr bs.length P St/\St 0 s₂.heap/\TruthOf X.prog X.w A.in1 P (λi=>bs.getD i false) /\
   ∀h' tk,(∀b o,b∉wr->s₂.heap.get? b=some o->h'.get? b=some o)->Pu s {s₂ with heap:=h',toks:=tk}) E s:=by
 refine g_ hT ?_;have hl:a<s.heap.objs.size:=hT.elim λo h=>cM h.1;have W:=Walks.list (prog:=X.prog) (w:=X.w) (A:=A.in1) hh s.heap.objs.size a (aZ hl) (bs.map dY).toArray;rw[show(bs.map dY).toArray.size=bs.length from(bF ..).trans (au ..)] at W;exact⟨_,_,_,_,_,rfl,W,⟨⟨_,bp _ rfl,rfl,rfl⟩,hT.elim λo h=>⟨o,bO _ h.1,h.2⟩⟩,VN A.in1 bs,λh' tk hk=>⟨λc o e=>hk c o (λhm=>aZ (cM e) (List.mem_singleton.mp hm)) (bO _ e),rfl,rfl⟩⟩
@[elab_as_elim] theorem N7 {f:List Bool->Bool}{p r:PV}{v:Value}(e:HQ f p=some r)(x:VR s.heap H p v){P:Value->PV->Prop}(k:∀bs a,s.heap.IsList a (bs.map dY).toArray->P (.ref a) (.bool (f bs))):P v r:=by
 cases p with
 |lst l=>exact x.qF λa vs hT _ hs _=>El.n3 (Option.map_eq_some_iff.mp e) λbs Au q=>q▸k bs a (aaM l Au hs▸hT)
 |_=>exact El.nn e
theorem afQ {p r:PV}{v:Value}{Q:Value->Shared->Prop}(hh:A.handled=none)(x:VR s.heap H p v)(e:qr Y .all p=some r)
  (h:∀v s',Pu s s'->VR s'.heap H r v->Q v s'):ag (ah X.prog X.w) A (call (.builtin "all") [v]) Q E s :=
 N7 e x (P:=λv r=>(∀v s',Pu s s'->VR s'.heap H r v->Q v s')->ag (ah X.prog X.w) A (call (.builtin "all") [v]) Q E s) (λbs a hT h=>call_all_walk (ay (LD hh hT E) (λit s₂ z=>El.Q2 z λI fp wr P St e W h0 tr hk=>⟨I,fp,wr,_,P,St,_,e,W,h0,tr,λh' tk k=>h _ _ (hk h' tk k) (by rw[range_all];rfl)⟩) λ_ _ e=>e)) h
theorem afR {p r:PV}{v:Value}{Q:Value->Shared->Prop}(hh:A.handled=none)(x:VR s.heap H p v)(e:qr Y .any p=some r)
  (h:∀v s',Pu s s'->VR s'.heap H r v->Q v s'):ag (ah X.prog X.w) A (call (.builtin "any") [v]) Q E s :=
 N7 e x (P:=λv r=>(∀v s',Pu s s'->VR s'.heap H r v->Q v s')->ag (ah X.prog X.w) A (call (.builtin "any") [v]) Q E s) (λbs a hT h=>call_any_walk (ay (LD hh hT E) (λit s₂ z=>El.Q2 z λI fp wr P St e W h0 tr hk=>⟨I,fp,wr,_,P,St,_,e,W,h0,tr,λh' tk k=>h _ _ (hk h' tk k) (by rw[range_any];rfl)⟩) λ_ _ e=>e)) h
theorem YZ {prog:Program}{w:az}{a:Addr}{vs:List Value}{ns:List Int}{Q:Value->Shared->Prop}(yR:s.heap.get? a=some (cc "list" vs.toArray 0))(hI:fF vs ns)(Ka:vs.length<64)
  (h:∀(out:Array Value) (oO:List Int),fF out.toList oO->oO.Perm ns->oO.Pairwise (·<=·)->Q .none {s with heap:=dC s.heap a vs out}) :
  ag (ah prog w) A (call (.builtin "list.sort") [.ref a]) Q E s :=
 eD kg ⟨_,yR,rfl⟩ kj (list_sort_tree yR hI Ka λout oO a1 a2 a3=>⟨_,rfl,h out oO a1 a2 a3⟩) (kn _)
theorem Y0 {prog:Program}{w:az}{a:Addr}{vs:List Value}{ss:List af}{Q:Value->Shared->Prop}(yR:s.heap.get? a=some (cc "list" vs.toArray 0))(hS:fG vs ss)(Ka:vs.length<64)
  (h:∀(out:Array Value) (yS:List af),fG out.toList yS->yS.Perm ss->sortedS yS=true->Q .none {s with heap:=dC s.heap a vs out}) :
  ag (ah prog w) A (call (.builtin "list.sort") [.ref a]) Q E s :=
 eD kg ⟨_,yR,rfl⟩ kj (list_sort_treeK strKind_oneLt yR hS.keysOf (λv₁ v₂ rest e=>keyKind_strs (by rw[← e];exact hS)) Ka λRI Al J_=>by
  obtain⟨yS,a1,a2,a3⟩:=sorted_out_str hS Al J_;exact⟨_,rfl,h _ yS a1 a2 a3⟩) (kn _)
theorem Li {K:Type}[DecidableEq K]{prog:Program}{w:az}{knd:gJ prog w K}{d:Addr}{kvs:List (K×Value)}{Q:Value->Shared->Prop}(lo:(d==dT)=false)(hh:A.handled=none)(hd:s.heap.DictOf knd d kvs)(hn:kvs.length<=sizeLine)
  (h:∀(h':Heap) (tk:Nat) (vs:List Value),(∀b o,s.heap.get? b=some o->h'.get? b=some o)->vs.length=kvs.length->(∀(j:Nat) (v:Value),vs[j]? =some v->∃k x,kvs[j]? =some (k,x)/\knd.is k v=true) ->
   ag (ah prog w) A.in1 (call (.builtin "list.sort") [.ref h'.objs.size]) (λ_ s'=>Q (.ref h'.objs.size) s') E {s with heap:=h'.push (cc "list" vs.toArray 0),toks:=tk}) :
  ag (ah prog w) A (call (.builtin "sorted") [.ref d]) Q E s:=by
 obtain⟨ep,Gq⟩:=hd.dictAt;refine call_function_entry kind_sorted plain_sorted entry_sorted (args_sorted1 _) ?_;unfold Builtin.«sorted»;refine aj (m:=checkCount "sorted" 1 1 _) (aw ?_);refine aj (kdu_collect (A:=A.in1) (kdl_dict (knd:=knd) (kvs:=kvs) (ep:=ep) lo) hh Gq hn λh' tk acc q8 Aa=>?_);have qU:acc.toList.length=kvs.length:=by rw[Array.length_toList];exact Aa.1
 refine aj (wpAny_newList ?_ (by rw[qU];exact hn));refine aj (dB (ay (h h' tk acc.toList q8 qU λj v e=>Aa.2 j v (by rw[← Array.getElem?_toList];exact e)) (λ_ s' x=>?_) λ_ _ e=>e));exact aw ⟨_,rfl,x⟩
theorem Y1 (h':Heap)(vs:List Value)(out:Array Value)(tk:Nat)(q8:∀b o,s.heap.get? b=some o->h'.get? b=some o) :
  Pu s {s with heap:=dC (h'.push (cc "list" vs.toArray 0)) h'.objs.size vs out,toks:=tk}:=by
 have key:∀b o,s.heap.get? b=some o->(dC (h'.push (cc "list" vs.toArray 0)) h'.objs.size vs out).get? b=some o:=λb o e=>by
  have e':=q8 b o e;have r8:=cM e';have e1:=sortedHeap_old (h:=h'.push (cc "list" vs.toArray 0)) (a:=h'.objs.size) (vs:=vs) (out:=out) (b:=b) (aZ r8) (by rw[size_push'];exact gD r8);have e2:=bO (cc "list" vs.toArray 0) e';exact e1.trans e2
 generalize dC (h'.push (cc "list" vs.toArray 0)) h'.objs.size vs out=h3 at key⊢;exact⟨key,rfl,rfl⟩
theorem VP (h':Heap)(vs:List Value)(out:Array Value):(dC (h'.push (cc "list" vs.toArray 0)) h'.objs.size vs out).IsList h'.objs.size out.toList.toArray:=by
 have yR:(h'.push (cc "list" vs.toArray 0)).get? h'.objs.size=some (cc "list" vs.toArray 0):=bp _ rfl;obtain⟨ep2,FP⟩:=sortedHeap_at (out:=out) yR;exact⟨_,FP,rfl,ep2,by rw[Array.toArray_toList]⟩
theorem LF {r:PV}{Q:Value->Shared->Prop}(R:Rel X s.heap H Y)(h:∀v s',Pu s s'->VR s'.heap H r v->Q v s')(h':Heap)(vs:List Value)(out:Array Value)(tk:Nat)(l:List PV)(q8:∀b o,s.heap.get? b=some o->h'.get? b=some o)(hr:r=.lst l)
  (hv:∀h2,l6 h2 H l out.toList) (hb:l.length<=2^20):Q (.ref h'.objs.size) {s with heap:=dC (h'.push (cc "list" vs.toArray 0)) h'.objs.size vs out,toks:=tk}:=by
 have wy:Clear H h'.objs.size:=R.clear λ⟨o,q⟩=>dR _ (cM (q8 _ _ q))
 have pu:=Y1 (s:=s) h' vs out tk q8
 have hL:=VP h' vs out;refine h _ _ pu ?_;rw[hr];simp only[VR];exact⟨_,out.toList,rfl,hL,wy,hv _,hb⟩
theorem Y2 {p r:PV}{v:Value}{Q:Value->Shared->Prop}(R:Rel X s.heap H Y)(hh:A.handled=none)(x:VR s.heap H p v)(e:qr Y .sorted p=some r)
  (h:∀v s',Pu s s'->VR s'.heap H r v->Q v s'):ag (ah X.prog X.w) A (call (.builtin "sorted") [v]) Q E s:=by
 have ll:∀{V β:Type} {l:List (V×PV)} {kvs:List (β×Value)},l6 s.heap H (l.map (·.2)) (kvs.map (·.2))->l.length<64->kvs.length<64:=λhv h=>by
  have:=hv.len;rw[au,au] at this;exact this▸h
 have sz:∀{n:Nat},n<64->n<=sizeLine:=λh=>ae (aS h) (by decide)
 have RY:∀{n m:Nat},n=m->m<64->n<=2^20:=λe h=>e▸ae (aS h) (by decide);cases p with
 |loc n =>
  refine R.uA x e λp o hp ho y e=>?_;have lo:=R.BJ (bj hp);cases o with
  |pk l =>
   refine El.it e λhlen q=>y.vv λ_ kvs hd hk hv=>Li lo hh hd.dictOf (sz (ll hv hlen)) λh' tk vs q8 qU Aa=>?_;refine YZ (bp _ rfl) (aaJ kvs qU Aa) (qU▸ll hv hlen) λout oO a1 a2 a3=>?_;exact LF R h h' vs out tk (oO.map .int) q8 ((aq q).symm.trans (by rw[U1 (a2.trans (by rw[hk])) a3])) (λ_=>l6.ints a1) (by rw[au];exact RY (a2.length_eq.trans (au ..)) (ll hv hlen))
  |p5 l =>
   refine El.it e λhlen q=>El.nL hlen λhlen uz=>y.Cb λ_ kvs hd hk hv=>Li lo hh hd (sz (ll hv (l9 hlen))) λh' tk vs q8 qU Aa=>?_;refine Y0 (bp _ rfl) (aaK kvs qU Aa) (qU▸ll hv (l9 hlen)) λout yS a1 a2 a3=>?_;rw[show kvs.map (·.1)=(l.map (·.1)).map nm by rw[hk,aR];rfl] at a2;obtain⟨k,rfl⟩:=YY (l:=l.map (·.1)) yS λx hx=>a2.mem_iff.mp hx;have Kb:=TO a2;have PT:∀s∈l.map (·.1),(single s).isSome=true:=λs hs=>(List.mem_map.mp hs).elim λp hp=>hp.2▸List.all_eq_true.mp uz p hp.1;exact LF R h h' vs out tk (k.map .str) q8 ((aq q).symm.trans (by rw[U2 PT Kb (U3 k (λs hs=>PT s (Kb.mem_iff.mp hs)) a3)])) (λ_=>l6.strs k a1) (by rw[au];exact RY (Kb.length_eq.trans (au ..)) (l9 hlen))
  |_=>exact El.nn e
 |_=>exact El.nn e
end
inductive ItK (h:Heap)(H:lV)(src:Src)(all:List PV)(I:Addr)(i:Nat):Prop
 |lst (a:Addr) (vs:List Value) (it:h.IsListIter I a i) (ne:a≠I) (hl:h.IsList a vs.toArray) (hc:Clear H a) (hv:l6 h H all vs)
 |tup (a:Addr) (vs:List Value) (it:IsTupIter h I a i) (ht:aN h a vs.toArray) (hv:l6 h H all vs)
 |loc (n:Nat) (p:Addr×Addr) (es:src=.seq (.loc n)) (ep:H.l[n]? =some p) (it:h.IsListIter I p.1 i)
 |keys (n:Nat) (p:Addr×Addr) (es:src=.keys (.loc n)) (ep:H.l[n]? =some p) (it:h.IsKeyIter I p.1 i all.length all.length)
 |range (n:Int) (ea:all=p4 n) (it:IsRangeIter h I (i:Int) ((all.length:Int) - i) 1)
 |str (t:String) (tk:Tok) (ea:all=[.str t]) (hs:(single t).isSome=true) (it:h.IsStrIter I "str_ascii_iterator" (nm t) tk i)
structure oL (X:Cx)(h:Heap)(H:lV)(src:Src)(all:List PV)(I:Addr)(i:Nat):Prop where
 ap:Apart H I
 k:ItK h H src all I i
theorem Y3 {h:Heap}{I:Addr}{o:Obj}(e:h.get? I=some o)(d:∀a n,o.data≠.seq a n):(∀l_,¬aN h I l_)/\∀l_,¬h.IsList I l_ :=
 have key:∀{c:Value} {l_:Array Value},¬∃o,h.get? I=some o/\o.cls=c/\∃n,o.data=.seq l_ n:=λ⟨_,e',_,n,d'⟩=>by
  cases aq (e.symm.trans e');exact d _ n d'
 ⟨λ_=>key,λ_=>key⟩
theorem Xd {h:Heap}{I:Addr}{o:Obj}{fs:Array Value}(e:h.get? I=some o)(d:o.data=.fields fs):(∀l_,¬aN h I l_)/\∀l_,¬h.IsList I l_:=Y3 e λ_ _ q=>nomatch d.symm.trans q
section
variable {X:Cx}{h:Heap}{H:lV}{src:Src}{all:List PV}{I:Addr}{i:Nat}
theorem oL.fields (x:oL X h H src all I i):∃o fs,h.get? I=some o/\o.data=.fields fs:=by
 cases x.k with
 |lst _ _ it=>exact it.elim λ_ z=>⟨_,_,z.1,z.2.2⟩
 |tup _ _ it=>exact it.elim λ_ z=>⟨_,_,z.1,z.2.2⟩
 |loc _ _ _ _ it=>exact it.elim λ_ z=>⟨_,_,z.1,z.2.2⟩
 |keys _ _ _ _ it=>exact it.elim λ_ z=>⟨_,_,z.1,z.2.2⟩
 |range _ _ it=>exact⟨_,_,it,rfl⟩
 |str _ _ _ _ it=>exact it.elim λ_ z=>⟨_,_,z.1,z.2.2⟩
theorem oL.s8 (x:oL X h H src all I i):pQ (λb=>b=I) h H:=λb e=>e▸El.uC x.fields λo fs e d=>have:=Xd e d;⟨this.1,.inl this.2⟩
theorem oL.grow {ex:Addr->Prop}{h':Heap}{φ':lV}(x:oL X h H src all I i)(g:oE ex h H h' φ')(nt:v_ h H)(ok:pQ ex h H)(hI:¬ex I):oL X h' φ' src all I i:=by
 have zV:∀{o},h.get? I=some o->h'.get? I=some o:=λe=>g.keep _ _ e x.ap hI;refine⟨g.apart x.ap (El.uC x.fields λo _ e _=>⟨o,e⟩),?_⟩;cases x.k with
 |lst a vs it ne hl hc hv=>exact .lst a vs (it.elim λ_ z=>⟨_,zV z.1,z.2⟩) ne (g.kl ok _ _ hl hc).1 (g.kl ok _ _ hl hc).2 (hv.q_ g nt ok)
 |tup a vs it ht hv=>exact .tup a vs (it.elim λ_ z=>⟨_,zV z.1,z.2⟩) (g.kt nt ok _ _ ht) (hv.q_ g nt ok)
 |loc n p es ep it=>exact .loc n p es (g.ke _ _ ep) (it.elim λ_ z=>⟨_,zV z.1,z.2⟩)
 |keys n p es ep it=>exact .keys n p es (g.ke _ _ ep) (it.elim λ_ z=>⟨_,zV z.1,z.2⟩)
 |range n ea it=>exact .range n ea (zV it)
 |str t tk ea hs it=>exact .str t tk ea hs (it.elim λ_ z=>⟨_,zV z.1,z.2⟩)
end
theorem Rel.sF {X:Cx}{h h':Heap}{H:lV}{Y:St}(R:Rel X h H Y){I:Addr}(ap:Apart H I)(ok:pQ (λb=>b=I) h H)(k:∀b o,b≠I->h.get? b=some o->h'.get? b=some o)(lv:mL h' I) :
  Rel X h' H Y/\oE (λb=>b=I) h H h' H:=by
 have CJ:∀b,mL h b->mL h' b:=λb ⟨o,e⟩=>by
  by_cases q:b=I
  ·exact q▸lv
  ·exact⟨o,k _ _ q e⟩
 have g:oE (λb=>b=I) h H h' H:=⟨λb o e _ ne=>k b o ne e,CJ,rfl,[],by simp,λ_ hp=>by cases hp⟩;refine⟨⟨R.len,λn p o e1 e2=>?_,R.apart,R.above,λb hb=>CJ b (R.ti b hb)⟩,g⟩
 have x:=R.obj n p o e1 e2
 have hp:=ap p (bj e1);exact x.grow R.nC (λob e=>k _ _ hp.1 e) (λob e=>k _ _ hp.2 e) (λy=>y.q_ g R.nC ok) (λy=>y.q_ g R.nC ok) (λa l_ t=>g.kt R.nC ok _ _ t)
section
variable {X:Cx}{A:aA}{E:Value->Shared->Prop}{s:Shared}{H:lV}{Y:St}
theorem EM (R:Rel X s.heap H Y){I:Addr}(ap:Apart H I)(ok:pQ (λb=>b=I) s.heap H){h':Heap}{tk:Nat}(sb:cb I s.heap h')(lv:mL h' I):mQ (λb=>b=I) X s H Y {s with heap:=h',toks:=tk} H:=by
 obtain⟨a,b⟩:=R.sF ap ok (λb o ne e=>(sb.2 b ne).trans e) lv;exact⟨a,b,rfl,rfl⟩
theorem adl {p:PV}{v:Value}{all:List PV}{Q:Value->Shared->Prop}(R:Rel X s.heap H Y)(x:VR s.heap H p v)(e:ug Y p=some all)
  (h:∀s',Pu s s'->oL X s'.heap H (.seq p) all s.heap.objs.size 0->Q (.ref s.heap.objs.size) s'):ag (ah X.prog X.w) A (dZ v) Q E s:=by
 have ap:Apart H s.heap.objs.size:=R.fresh.1;cases p with
 |tup l =>
  refine x.p6 λa vs hT hs hb=>wpAny_pyIter_tuple hT ?_;cases e;have pu:=Pu.push s {cls:=.type "tuple_iterator",data:=.fields #[.ref a,.int 0 0]} s.toks;exact h _ pu ⟨ap,.tup a vs ⟨_,bp _ rfl,rfl,rfl⟩ ((pu.gr H).kt R.nC (.none _ _) _ _ hT) (pu.p2 R hs)⟩
 |lst l =>
  refine x.qF λa vs hT hc hs hb=>g_ hT ?_;cases e;have pu:=Pu.push s {cls:=.type "list_iterator",data:=.fields #[.ref a,.int 0 0]} s.toks;have k:=(pu.gr H).kl (.none _ _) _ _ hT hc;exact h _ pu ⟨ap,.lst a vs ⟨_,bp _ rfl,rfl,rfl⟩ (hT.elim λ_ z=>aZ (cM z.1)) k.1 k.2 (pu.p2 R hs)⟩
 |str t =>
  refine x.q9 λtk=>El.it e λhs e=>(AX hs).elim λc hc=>wpAny_pyIter_ascii (by rw[hc.1];simp[hc.2]) ?_;cases e;have pu:=Pu.push s {cls:=.type "str_ascii_iterator",data:=.fields #[.str (nm t) tk,.int 0 0]} s.toks;exact h _ pu ⟨ap,.str t tk rfl hs ⟨_,bp _ rfl,rfl,rfl⟩⟩
 |loc n =>
  refine R.qF x e λp l vs hp ho hT hs hb e=>g_ hT.isList ?_;have pu:=Pu.push s {cls:=.type "list_iterator",data:=.fields #[.ref p.1,.int 0 0]} s.toks;exact h _ pu ⟨ap,.loc n p rfl hp ⟨_,bp _ rfl,rfl,rfl⟩⟩
 |_=>exact El.nn e
theorem QL {V β:Type}{h:Heap}{H:lV}{l:List (V×PV)}{kvs:List (β×Value)}(hv:l6 h H (l.map (·.2)) (kvs.map (·.2))):kvs.length=l.length:=(au ..).symm.trans (hv.len.trans (au ..))
theorem adm {p:PV}{v:Value}{all:List PV}{Q:Value->Shared->Prop}(R:Rel X s.heap H Y)(x:VR s.heap H p v)(e:w4 Y p=some all)
  (h:∀s',Pu s s'->oL X s'.heap H (.keys p) all s.heap.objs.size 0->Q (.ref s.heap.objs.size) s'):ag (ah X.prog X.w) A (dZ v) Q E s:=by
 cases p with
 |loc n =>
  refine R.vv x e λp l kvs hp ho hd hk hv e=>El.it e λhbb e=>wpAny_pyIter_dict (R.BJ (bj hp)) hd ?_;cases e;have pu:=Pu.push s {cls:=.type "dict_keyiterator",data:=.fields #[.ref p.1,.int 0 0,.int kvs.length 0,.int l.length 0]} s.toks;exact h _ pu ⟨R.fresh.1,.keys n p rfl hp ⟨_,bp _ rfl,rfl,by rw[au,QL hv];rfl⟩⟩
 |_=>exact El.nn e
theorem Ha (n:Int):(p4 n).length=n.toNat:=(au ..).trans cW
theorem Uu {n:Int}{v:Value}{Q:Value->Shared->Prop}(R:Rel X s.heap H Y)(x:VR s.heap H (.int n) v)(h0:0<=n)(hn:n<=100000)
  (h:∀I s',Pu s s'->¬mL s.heap I->oL X s'.heap H (.seq (.tup (p4 n))) (p4 n) I 0->Q (.ref I) s') :
  ag (ah X.prog X.w) A (call (.type "range") [v]) (λr s'=>ag (ah X.prog X.w) A (dZ r) Q E s') E s:=by
 refine x.qE λt=>call_range_1 ?_;generalize uE:({s with heap:=s.heap.push {cls:=.type "range",data:=.fields #[.int 0 s.toks,.int n t,.int 1 (s.toks+1)]},toks:=s.toks+1+1}:Shared)=s1;have RZ:Pu s s1:=by rw[← uE];exact Pu.push s _ _
 have hr:IsRange s1.heap s.heap.objs.size 0 n 1 s.toks t (s.toks+1):=by rw[← uE];exact IsRange.new ..
 refine wpAny_pyIter_range hr (small_one (by decide) (by decide) (dW (by decide) h0) (eX hn (by decide))) ?_;have pu2:=Pu.push s1 {cls:=.type "range_iterator",data:=.fields #[rawInt 0,rawInt (ku 0 n 1),rawInt 1]} s1.toks;have nl:¬mL s.heap s1.heap.objs.size:=λ⟨o,e⟩=>mL.fresh s1.heap ⟨o,RZ.keep _ _ e⟩;refine h _ _ (RZ.trans pu2) nl ⟨(R.clear nl).1,.range n rfl ?_⟩;have tY:ku 0 n 1=((p4 n).length:Int) - ((0:Nat):Int):=by
  rw[rangeSize_one,Ha]
  split<;>lia
 show(s1.heap.push _).get? s1.heap.objs.size=some _;rw[bp _ rfl,tY];rfl
theorem Xe {n:Int}{i:Nat}{pv:PV}(e:(p4 n)[i]? =some pv):pv=.int i/\i<(p4 n).length:=by
 have h:=(List.getElem?_eq_some_iff.mp e).1;rw[p4,cJ,iP (Ha n▸h)] at e;exact⟨(aq e).symm,h⟩
theorem N8 {n:Nat}{all:List PV}{p:Addr×Addr}(R:Rel X s.heap H Y)(ep:H.l[n]? =some p)(e:oD Y (.seq (.loc n))=some all):∃vs,s.heap.IsList p.1 vs.toArray/\l6 s.heap H all vs :=
 El.n3 (R.get ep) λo ho y=>by
  have e:(Y[n]?).bind (mC.lst some)=some all:=e;rw[ho] at e;cases o with
  |list l=>cases e;exact y.w8 λ_ vs hT hs _=>⟨vs,hT.isList,hs⟩
  |_=>exact El.nn e
theorem M6 {n:Nat}{all:List PV}{p:Addr×Addr}(R:Rel X s.heap H Y)(ep:H.l[n]? =some p)(e:oD Y (.keys (.loc n))=some all):∃kvs:List (Int×Value),s.heap.DictAt (cy X.prog X.w) p.1 kvs kvs.length/\all=kvs.map λx=>.int x.1 :=
 El.n3 (R.get ep) λo ho y=>by
  have e:(Y[n]?).bind (mC.dI _)=some all:=e;rw[ho] at e;cases o with
  |pk l =>
   refine El.it e λ_ e=>y.vv λ_ kvs hd hk hv=>⟨kvs,by rw[QL hv];exact hd,(aq e).symm.trans ?_⟩;have:=lT (dO PV.int) hk;rw[aR,aR] at this;exact this.symm
  |_=>exact El.nn e
theorem N9 {src:Src}{pv:PV}{all:List PV}{I:Addr}{i:Nat}{Q:Option Value->Shared->Prop}(R:Rel X s.heap H Y)(x:oL X s.heap H src all I i)(rY:oD Y src=some all)(e:all[i]? =some pv)
  (h:∀v s',mQ (λb=>b=I) X s H Y s' H->VR s'.heap H pv v->oL X s'.heap H src all I (i+1)->Q (some v) s'):ag (ah X.prog X.w) A (fI (.ref I)) Q E s:=by
 have ok:=x.s8
 have ap:=x.ap
 have sF:∀{h':Heap} {tk:Nat},cb I s.heap h'->mL h' I->mQ (λb=>b=I) X s H Y {s with heap:=h',toks:=tk} H:=λsb lv=>EM R ap ok sb lv;cases x.k with
 |lst a vs it ne hl hc hv =>
  exact El.n3 (hv.get e) λv CO yT=>kx it hl (x:=v) (by rw[fH];exact CO) λh' rm sb =>
   have sg:=sF (tk:=s.toks) sb (rm.elim λo z=>⟨o,z.1⟩)
   h _ _ sg (yT.q_ sg.gr R.nC ok) ⟨ap,.lst a vs rm ne (sg.gr.kl ok _ _ hl hc).1 (sg.gr.kl ok _ _ hl hc).2 (hv.q_ sg.gr R.nC ok)⟩
 |tup a vs it ht hv =>
  exact El.n3 (hv.get e) λv CO yT=>wpAny_pyNext_tuple_item it ht (x:=v) (by rw[fH];exact CO) λh' rm sb =>
   have sg:=sF (tk:=s.toks) sb (rm.elim λo z=>⟨o,z.1⟩)
   h _ _ sg (yT.q_ sg.gr R.nC ok) ⟨ap,.tup a vs rm (sg.gr.kt R.nC ok _ _ ht) (hv.q_ sg.gr R.nC ok)⟩
 |loc n p es ep it =>
  subst es;exact El.n3 (N8 R ep rY) λvs hT hs=>El.n3 (hs.get e) λv CO yT=>kx it hT (x:=v) (by rw[fH];exact CO) λh' rm sb =>
   have sg:=sF (tk:=s.toks) sb (rm.elim λo z=>⟨o,z.1⟩)
   h _ _ sg (yT.q_ sg.gr R.nC ok) ⟨ap,.loc n p rfl ep rm⟩
 |keys n p es ep it =>
  subst es;refine El.n3 (M6 R ep rY) λkvs hd ha=>?_;subst ha;rw[au] at it;rw[cJ] at e;refine El.n3 (Option.map_eq_some_iff.mp e) λq hq e2=>wpAny_pyNext_dict_item it hd (k:=q.1) (v:=q.2) hq λkey h' rC rm sb=>?_;subst e2;obtain⟨t,rfl⟩:=j_ rC;have sg:=sF (tk:=s.toks) sb (rm.elim λo z=>⟨o,z.1⟩);exact h _ _ sg ⟨t,rfl⟩ ⟨ap,.keys n p rfl ep (by rw[au];exact rm)⟩
 |range n ea it =>
  subst ea;obtain⟨rfl,r8⟩:=Xe e;refine wpAny_pyNext_range_item it (Int.sub_pos_of_lt (Int.ofNat_lt.mpr r8)) λh' rm sb=>?_;refine h _ _ (sF (tk:=s.toks+1) sb ⟨_,rm⟩) ⟨_,rfl⟩ ⟨ap,.range n rfl ?_⟩;rw[show((p4 n).length:Int) - ((i+1:Nat):Int)=((p4 n).length:Int) - i - 1 from by rw[Int.sub_sub];rfl];exact rm
 |str t tk ea hs it =>
  subst ea;cases i with
  |zero =>
   cases e;exact(AX hs).elim λc hc=>wpAny_pyNext_ascii_item it (c:=c) (by rw[hc.1];rfl) λh' rm sb =>
    h _ _ (sF (tk:=s.toks+1) sb (rm.elim λo z=>⟨o,z.1⟩)) ⟨_,by rw[hc.1]⟩ ⟨ap,.str t tk rfl hs rm⟩
  |succ i=>exact El.nn e
theorem N_ {src:Src}{all:List PV}{I:Addr}{Q:Option Value->Shared->Prop}(hh:A.handled=none)(R:Rel X s.heap H Y)(x:oL X s.heap H src all I all.length)(rY:oD Y src=some all)
  (h:∀h',hE I s.heap h'->Q none {s with heap:=h'}):ag (ah X.prog X.w) A (fI (.ref I)) Q E s:=by
 have none:∀{vs:List Value},l6 s.heap H all vs->vs.toArray[all.length]? =.none:=λhv=>Array.getElem?_eq_none (by rw[bF,hv.len];exact aB _);cases x.k with
 |lst a vs it ne hl hc hv=>exact ky hh it hl (none hv) h
 |tup a vs it ht hv=>exact wpAny_pyNext_tuple_end hh it ht (none hv) h
 |loc n p es ep it =>
  subst es;exact El.n3 (N8 R ep rY) λvs hT hs=>ky hh it hT (none hs) h
 |keys n p es ep it =>
  subst es;refine El.n3 (M6 R ep rY) λkvs hd ha=>?_;subst ha;rw[au] at it;exact wpAny_pyNext_dict_end hh it hd (List.getElem?_eq_none (aB _)) h
 |range n ea it=>exact wpAny_pyNext_range_end hh it (gU (Int.sub_self _)) h
 |str t tk ea hs it =>
  subst ea;exact(AX hs).elim λc hc=>wpAny_pyNext_ascii_end hh it (by rw[hc.1];rfl) h
end
def pG (env:Env)(b:Addr):Prop:=b=env.locals\/∃n,env.cells.lookup n=some b
def PU (env:Env)(x:af)(b:Addr):Prop:=b=env.locals\/(env.kindOf x=some .cell/\env.cells.lookup x=some b)
def Means (Z:List af)(i:Nat)(x:af):Prop:=Z[i]? =some x/\x∉Z.drop (i+1)
theorem Means.uniq {Z:List af}{i j:Nat}{x:af}(a:Means Z i x)(b:Means Z j x):i=j:=by
 have key:∀{i j:Nat},Means Z i x->Means Z j x->¬i<j:=λ{i j} a b h=>by
  refine a.2 ?_;refine bj (i:=j - (i+1)) ?_;rw[kz];have:i+1+(j - (i+1))=j:=fJ (by assumption);rw[this];exact b.1
 have h1:=key a b;have h2:=key b a;lia
structure FR (X:Cx)(env:Env)(Z:List af)(h:Heap)(H:lV)(U:Loc):Prop where
 kind:env.scope.kind=.function
 glob:env.globals=a7
 blt:env.builtins=cz
 len:U.length=Z.length
 loc:∃m,h.Ns env.locals m/\∀i x v,Means Z i x->U[i]? =some (some v)->env.kindOf x=some .local->∃u,m x=some u/\VR h H v u
 t4:∀i x v,Means Z i x->U[i]? =some (some v)->env.kindOf x=some .cell\/env.kindOf x=some .free->∃c u,env.cells.lookup x=some c/\h.IsCell c (some u)/\VR h H v u
 sN:∀n c,env.cells.lookup n=some c->∃u,h.IsCell c u
 inj:∀n n' c,env.cells.lookup n=some c->env.cells.lookup n'=some c->n=n'
 sep:∀n c,env.cells.lookup n=some c->c≠env.locals
 xE:Apart H env.locals
 t5:∀n c,env.cells.lookup n=some c->Apart H c
 bL:X.base.get? env.locals=none
 bC:∀n c,env.cells.lookup n=some c->X.base.get? c=none
 xl:∀n,env.kindOf n=some .cell->∃c,env.cells.lookup n=some c
 yt:∀n,env.kindOf n=some .free->∃c,env.cells.lookup n=some c
theorem AY {h:Heap}{a:Addr}{m:af->Option Value}(x:h.Ns a m):(∀l_,¬aN h a l_)/\∀l_,¬h.IsList a l_:=by
 obtain⟨o,es,ep,e,d,_⟩:=x;constructor
 ·rintro l_ ⟨o',e',_,n,d'⟩;rw[e] at e';cases e';rw[d] at d';cases d'
 ·rintro l_ ⟨o',e',_,n,d'⟩;rw[e] at e';cases e';rw[d] at d';cases d'
theorem VT {h:Heap}{a:Addr}{u:Option Value}(x:h.IsCell a u):(∀l_,¬aN h a l_)/\∀l_,¬h.IsList a l_:=by
 obtain⟨o,e,d⟩:=x;constructor
 ·rintro l_ ⟨o',e',_,n,d'⟩;rw[e] at e';cases e';rw[d] at d';cases d'
 ·rintro l_ ⟨o',e',_,n,d'⟩;rw[e] at e';cases e';rw[d] at d';cases d'
theorem Fs {h h':Heap}{a:Addr}{m:af->Option Value}(x:h.Ns a m)(k:∀o,h.get? a=some o->h'.get? a=some o):h'.Ns a m:=let ⟨o,es,ep,e,r⟩:=x;⟨o,es,ep,k _ e,r⟩
theorem zF {h h':Heap}{a:Addr}{u:Option Value}(x:h.IsCell a u)(k:∀o,h.get? a=some o->h'.get? a=some o):h'.IsCell a u:=let ⟨o,e,r⟩:=x;⟨o,k _ e,r⟩
section
variable {X:Cx}{A:aA}{E:Value->Shared->Prop}{env:Env}{Z:List af}{U:Loc}{Y:St}
theorem FR.s8 {h:Heap}{H:lV}(F:FR X env Z h H U):pQ (pG env) h H:=λb e=>by
 rcases e with rfl|⟨n,e⟩
 ·obtain⟨m,hm,_⟩:=F.loc;have:=AY hm;exact⟨this.1,.inl this.2⟩
 ·obtain⟨u,hu⟩:=F.sN n b e;have:=VT hu;exact⟨this.1,.inl this.2⟩
theorem FR.IA {h:Heap}{H:lV}(F:FR X env Z h H U):∀b,pG env b->X.base.get? b=none:=λb e=>by
 rcases e with rfl|⟨n,e⟩
 ·exact F.bL
 ·exact F.bC n b e
theorem FR.grow {ex:Addr->Prop}{h h':Heap}{H φ':lV}(F:FR X env Z h H U)(g:oE ex h H h' φ')(nt:v_ h H)(ok:pQ ex h H)(ne:∀b,pG env b->¬ex b):FR X env Z h' φ' U:=by
 have vr:∀{v:PV} {u:Value},VR h H v u->VR h' φ' v u:=λx=>x.q_ g nt ok;have kL:∀o,h.get? env.locals=some o->h'.get? env.locals=some o:=λo e=>g.keep _ _ e F.xE (ne _ (.inl rfl));have kC:∀n c,env.cells.lookup n=some c->∀o,h.get? c=some o->h'.get? c=some o:=λn c hc o e=>g.keep _ _ e (F.t5 n c hc) (ne _ (.inr ⟨n,hc⟩));obtain⟨m,hm,hv⟩:=F.loc;refine⟨F.kind,F.glob,F.blt,F.len,⟨m,Fs hm kL,λi x v a b c=>let ⟨u,h1,h2⟩:=hv i x v a b c;⟨u,h1,vr h2⟩⟩,
  λi x v a b d=>let ⟨c,u,h1,h2,h3⟩:=F.t4 i x v a b d;⟨c,u,h1,zF h2 (kC _ _ h1),vr h3⟩,
  λn c hc=>let ⟨u,hu⟩:=F.sN n c hc;⟨u,zF hu (kC _ _ hc)⟩,F.inj,F.sep,?_,λn c hc=>?_,F.bL,F.bC,F.xl,F.yt⟩
 ·obtain⟨o,_,_,e,_⟩:=hm;exact g.apart F.xE ⟨o,e⟩
 ·obtain⟨u,o,e,_⟩:=F.sN n c hc;exact g.apart (F.t5 n c hc) ⟨o,e⟩
theorem mQ.base {ex:Addr->Prop}{s s':Shared}{H φ':lV}{σ':St}(R:Rel X s.heap H Y)(p:mQ ex X s H σ' s' φ')(B:Base X s.heap)(ne:∀b,ex b->X.base.get? b=none):Base X s'.heap :=
 ⟨λb o e=>p.gr.keep _ _ (B.keep b o e) (G5 R e) λx=>by rw[ne b x] at e;cases e⟩
theorem FR.load {s:Shared}{H:lV}(F:FR X env Z s.heap H U){i:Nat}{x:af}{v:PV}{pos:Pos}{Q:Value->Shared->Prop}(hm:Means Z i x)(hv:U[i]? =some (some v))
  (hk:env.kindOf x=some .local\/env.kindOf x=some .cell\/env.kindOf x=some .free) (hd:(x==("__debug__":af))=false) (wC:(x==("__classdict__":af))=false)
  (h:∀u,VR s.heap H v u->Q u s):ag (ah X.prog X.w) A (aH (.Name x pos) env) Q E s:=by
 refine wpAny_Name ?_ hd;rcases hk with hk|hk|hk
 ·obtain⟨m,hn,Gw⟩:=F.loc;obtain⟨u,h1,h2⟩:=Gw i x v hm hv hk;exact wpAny_loadName_local F.kind hk hn h1 (h u h2)
 ·obtain⟨c,u,h1,h2,h3⟩:=F.t4 i x v hm hv (.inl hk);exact wpAny_loadName_cell F.kind hk h1 h2 (h u h3)
 ·obtain⟨c,u,h1,h2,h3⟩:=F.t4 i x v hm hv (.inr hk);exact wpAny_loadName_free F.kind hk h1 h2 (h u h3) wC
theorem D4 {i j:Nat}{x y:af}{v w:PV}(hi:Means Z i x)(hj:Means Z j y)(e:(U.set i (some v))[j]? =some (some w)):(j=i/\y=x/\w=v)\/(y≠x/\U[j]? =some (some w)):=by
 by_cases q:y=x
 ·subst q;have:=hi.uniq hj;subst this;left;refine⟨rfl,rfl,?_⟩;rw[List.getElem?_set] at e;simp only[if_true] at e
  split at e
  ·simpa using e.symm
  ·cases e
 ·have:i≠j:=λe=>by subst e;exact q (by have:=hi.1;rw[hj.1] at this;exact(aq this))
  rw[aX this] at e;exact .inr ⟨q,e⟩
theorem FR.store {s:Shared}{H:lV}(F:FR X env Z s.heap H U)(R:Rel X s.heap H Y){i:Nat}{x:af}{v:PV}{u:Value}{Q:Unit->Shared->Prop}(hm:Means Z i x)(hv:VR s.heap H v u)
  (hk:env.kindOf x=some .local\/env.kindOf x=some .cell) (h:∀s',mQ (PU env x) X s H Y s' H->FR X env Z s'.heap H (U.set i (some v))->Q () s') :
  ag (ah X.prog X.w) A (storeName env x u) Q E s:=by
 obtain⟨m,hn,Gw⟩:=F.loc;rcases hk with hk|hk
 ·refine wpAny_storeName_local hk hn (λh' R3 sb=>?_) (by rw[F.kind];rfl);have CP:pQ (λb=>b=env.locals) s.heap H:=λb e=>F.s8 b (.inl e);have sg:=EM (tk:=s.toks+1) R F.xE CP sb (let ⟨o,_,_,e,_⟩:=R3;⟨o,e⟩);have vr:∀{v:PV} {u:Value},VR s.heap H v u->VR h' H v u:=λx=>x.q_ sg.gr R.nC CP;refine h _ (sg.weaken λb _ e=>.inl e) ?_;refine⟨F.kind,F.glob,F.blt,by rw[bw];exact F.len,⟨_,R3,λj y w hj hw uV=>?_⟩,λj y w hj hw uV=>?_,λn c hc=>?_,F.inj,F.sep,F.xE,F.t5,F.bL,F.bC,F.xl,F.yt⟩
  ·rcases D4 hm hj hw with⟨rfl,rfl,rfl⟩|⟨ne,hw⟩
   ·exact⟨u,by simp,vr hv⟩
   ·obtain⟨u',h1,h2⟩:=Gw j y w hj hw uV;exact⟨u',by rw[lX ne];exact h1,vr h2⟩
  ·rcases D4 hm hj hw with⟨rfl,rfl,rfl⟩|⟨ne,hw⟩
   ·rw[hk] at uV;rcases uV with e|e<;>cases e
   ·obtain⟨c,u',h1,h2,h3⟩:=F.t4 j y w hj hw uV;exact⟨c,u',h1,h2.sameBut sb (F.sep _ _ h1),vr h3⟩
  ·obtain⟨u',h1⟩:=F.sN n c hc;exact⟨u',h1.sameBut sb (F.sep _ _ hc)⟩
 ·obtain⟨c,hc⟩:=F.xl _ hk;obtain⟨u0,hu0⟩:=F.sN _ _ hc;refine wpAny_storeName_cell F.kind hk hc hu0 λh' CQ sb=>?_;have CP:pQ (λb=>b=c) s.heap H:=λb e=>F.s8 b (.inr ⟨_,e▸hc⟩);have sg:=EM (tk:=s.toks) R (F.t5 _ _ hc) CP sb (let ⟨o,e,_⟩:=CQ;⟨o,e⟩);have vr:∀{v:PV} {u:Value},VR s.heap H v u->VR h' H v u:=λx=>x.q_ sg.gr R.nC CP;refine h _ (sg.weaken λb _ e=>.inr ⟨hk,e▸hc⟩) ?_;refine⟨F.kind,F.glob,F.blt,by rw[bw];exact F.len,⟨m,hn.sameBut sb (cp (F.sep _ _ hc)),λj y w hj hw uV=>?_⟩,λj y w hj hw uV=>?_,λn c' ajk=>?_,F.inj,F.sep,F.xE,F.t5,F.bL,F.bC,F.xl,F.yt⟩
  ·rcases D4 hm hj hw with⟨rfl,rfl,rfl⟩|⟨ne,hw⟩
   ·rw[hk] at uV;cases uV
   ·obtain⟨u',h1,h2⟩:=Gw j y w hj hw uV;exact⟨u',h1,vr h2⟩
  ·rcases D4 hm hj hw with⟨rfl,rfl,rfl⟩|⟨ne,hw⟩
   ·exact⟨c,u,hc,CQ,vr hv⟩
   ·obtain⟨c',u',h1,h2,h3⟩:=F.t4 j y w hj hw uV;have:c'≠c:=λe=>ne (F.inj _ _ _ h1 (e▸hc));exact⟨c',u',h1,h2.sameBut sb this,vr h3⟩
  ·by_cases q:c'=c
   ·subst q;exact⟨_,CQ⟩
   ·obtain⟨u',h1⟩:=F.sN n c' ajk;exact⟨u',h1.sameBut sb q⟩
end
noncomputable def fnName (f:Fn):String:=(funcs f).name
noncomputable def clsName:n_->String
 |.sf=>"TypeTable"
 |.Decl=>"Decl"
 |.qk=>"RefHost"
noncomputable def xZ:BI->String
 |.len=>"len"
 |.sorted=>"sorted"
 |.tuple=>"tuple"
 |.all=>"all"
 |.any=>"any"
 |.str=>"str"
noncomputable def PX:BI->Value
 |.len=>.builtin "len"
 |.sorted=>.builtin "sorted"
 |.tuple=>.type "tuple"
 |.all=>.builtin "all"
 |.any=>.builtin "any"
 |.str=>.type "str"
noncomputable def uB (mr sc:Scope):Scope:=relabel mr {(default:Env) with scope:=sc}
noncomputable def qN (sc:Scope)(id:af):Bool:=decide (sc.names.lookup id=some .globalImplicit)&&!(id==("__debug__":af))
noncomputable def O9 (Z:List af)(sc:Scope)(i:Nat)(id:af):Bool :=
 decide (Z[i]? =some id)&&!((Z.drop (i+1)).contains id)&&(decide (sc.names.lookup id=some .local)||(decide (sc.names.lookup id=some .cell)||decide (sc.names.lookup id=some .free))) &&
  !(id==("__debug__":af))&&!(id==("__classdict__":af))
noncomputable def xT (Z:List af)(sc:Scope)(i:Nat)(id:af):Bool :=
 decide (Z[i]? =some id)&&!((Z.drop (i+1)).contains id)&&(decide (sc.names.lookup id=some .local)||decide (sc.names.lookup id=some .cell))
noncomputable def wF (x:Expr):Nat:=match x with
 |.Slice .. =>1
 |.Starred .. =>2
 |.Set .. =>3
 |.Attribute .. =>4
 |.ListComp .. =>5
 |.SetComp .. =>6
 |.DictComp .. =>7
 |_=>0
noncomputable def Bc (x:Expr):Bool:=!Nat.beq (wF x) 1
noncomputable def notStar (x:Expr):Bool:=!Nat.beq (wF x) 2
noncomputable def vZ (x:Expr):Bool:=!Nat.beq (wF x) 3
noncomputable def ahJ (x:Expr):Bool:=!(ao (wF x) 6||ao (wF x) 7)
noncomputable def xV (x:Expr):Bool:=!(ao (wF x) 3||ao (wF x) 5||ao (wF x) 6||ao (wF x) 7)
theorem wG {V:Type}{P:Prop}{a:V}(h:none=some a):P:=nomatch h
theorem FQ {P:Prop}(h:false=true):P:=nomatch h
theorem afS {V:Type}{o:Option V}{f:V->Bool}(h:o.any f=true):∃a,o=some a/\f a=true:=by
 cases o with|none=>exact FQ h|some a=>exact⟨a,rfl,h⟩
theorem band {a b:Bool}(h:(a&&b)=true):a=true/\b=true:=by cases a with|true=>exact⟨rfl,h⟩|false=>exact FQ h
noncomputable def one {V:Type}:List V->Option V|[a]=>some a|_=>none
theorem afT {V:Type}{l:List V}{a:V}(h:one l=some a):l=[a]:=by
 cases l with|nil=>exact wG h|cons b l=>cases l with|nil=>cases h;rfl|cons _ _=>exact wG h
noncomputable def two {V:Type}:List V->Option (V×V)|[a,b]=>some (a,b)|_=>none
theorem afU {V:Type}{l:List V}{a:V×V}(h:two l=some a):l=[a.1,a.2]:=by
 cases l with|nil=>exact wG h|cons b l=>cases l with|nil=>exact wG h|cons c l=>cases l with|nil=>cases h;rfl|cons _ _=>exact wG h
noncomputable def nul {V:Type}:List V->Bool|[]=>true|_=>false
theorem afV {V:Type}{l:List V}(h:nul l=true):l=[]:=by cases l with|nil=>rfl|cons _ _=>exact FQ h
noncomputable def uS {V:Type}:List V->Option (V×List V)|a::r=>some (a,r)|_=>none
theorem O_ {V:Type}{l:List V}{p:V×List V}(h:uS l=some p):l=p.1::p.2:=by cases l with|nil=>exact wG h|cons _ _=>cases h;rfl
noncomputable def PY:cP->Bool|.none=>true|_=>false
theorem aaN {c:cP}(h:PY c=true):c=.none:=by cases c<;>first|rfl|exact FQ h
noncomputable def cBool:cP->Option Bool|.bool c=>some c|_=>none
theorem aaO {c:cP}{b:Bool}(h:cBool c=some b):c=.bool b:=by cases c<;>first|(cases h;rfl)|exact wG h
noncomputable def cInt:cP->Option Int|.int c=>some c|_=>none
theorem H9 {c:cP}{b:Int}(h:cInt c=some b):c=.int b:=by cases c<;>first|(cases h;rfl)|exact wG h
noncomputable def cStr:cP->Option af|.str c=>some c|_=>none
theorem adn {c:cP}{b:af}(h:cStr c=some b):c=.str b:=by cases c<;>first|(cases h;rfl)|exact wG h
structure Vw where
 t:Nat
 x0:Expr
 e1:Expr
 e2:Expr
 e3:Expr
 l:List Expr
 s:af
 c:cP
 op:Operator
 yU:UnaryOp
 CR:BoolOp
 yu:List CmpOp
 ks:List Keyword
 gs:List hG
 sc:Scope
 CS:List (Option Expr)
 o1:Option Expr
 o2:Option Expr
 k:Nat
 pos:Pos
noncomputable def vw (x:Expr):Vw:=match x with
 |.Constant c k pos=>⟨1,x,x,x,x,[],"",c,.Add,.Not,.And,[],[],[],default,[],none,none,k,pos⟩
 |.Name s pos=>⟨2,x,x,x,x,[],s,.none,.Add,.Not,.And,[],[],[],default,[],none,none,0,pos⟩
 |.Attribute e1 s pos=>⟨3,x,e1,x,x,[],s,.none,.Add,.Not,.And,[],[],[],default,[],none,none,0,pos⟩
 |.Subscript e1 e2 pos=>⟨4,x,e1,e2,x,[],"",.none,.Add,.Not,.And,[],[],[],default,[],none,none,0,pos⟩
 |.BinOp e1 op e2 pos=>⟨5,x,e1,e2,x,[],"",.none,op,.Not,.And,[],[],[],default,[],none,none,0,pos⟩
 |.UnaryOp yU e1 pos=>⟨6,x,e1,x,x,[],"",.none,.Add,yU,.And,[],[],[],default,[],none,none,0,pos⟩
 |.BoolOp CR l pos=>⟨7,x,x,x,x,l,"",.none,.Add,.Not,CR,[],[],[],default,[],none,none,0,pos⟩
 |.Compare e1 yu l pos=>⟨8,x,e1,x,x,l,"",.none,.Add,.Not,.And,yu,[],[],default,[],none,none,0,pos⟩
 |.IfExp e1 e2 e3 pos=>⟨9,x,e1,e2,e3,[],"",.none,.Add,.Not,.And,[],[],[],default,[],none,none,0,pos⟩
 |.Tuple l k pos=>⟨10,x,x,x,x,l,"",.none,.Add,.Not,.And,[],[],[],default,[],none,none,k,pos⟩
 |.List l pos=>⟨11,x,x,x,x,l,"",.none,.Add,.Not,.And,[],[],[],default,[],none,none,0,pos⟩
 |.Dict CS l pos=>⟨12,x,x,x,x,l,"",.none,.Add,.Not,.And,[],[],[],default,CS,none,none,0,pos⟩
 |.Call e1 l ks pos=>⟨13,x,e1,x,x,l,"",.none,.Add,.Not,.And,[],ks,[],default,[],none,none,0,pos⟩
 |.ListComp e1 gs sc pos=>⟨14,x,e1,x,x,[],"",.none,.Add,.Not,.And,[],[],gs,sc,[],none,none,0,pos⟩
 |.Slice o1 o2 none pos=>⟨15,x,x,x,x,[],"",.none,.Add,.Not,.And,[],[],[],default,[],o1,o2,0,pos⟩
 |_=>⟨0,x,x,x,x,[],"",.none,.Add,.Not,.And,[],[],[],default,[],none,none,0,default⟩
noncomputable def Vw.back (v:Vw):Nat->Expr
 |1=>.Constant v.c v.k v.pos
 |2=>.Name v.s v.pos
 |3=>.Attribute v.e1 v.s v.pos
 |4=>.Subscript v.e1 v.e2 v.pos
 |5=>.BinOp v.e1 v.op v.e2 v.pos
 |6=>.UnaryOp v.yU v.e1 v.pos
 |7=>.BoolOp v.CR v.l v.pos
 |8=>.Compare v.e1 v.yu v.l v.pos
 |9=>.IfExp v.e1 v.e2 v.e3 v.pos
 |10=>.Tuple v.l v.k v.pos
 |11=>.List v.l v.pos
 |12=>.Dict v.CS v.l v.pos
 |13=>.Call v.e1 v.l v.ks v.pos
 |14=>.ListComp v.e1 v.gs v.sc v.pos
 |15=>.Slice v.o1 v.o2 none v.pos
 |_=>v.x0
theorem ado (x:Expr):(vw x).back (vw x).t=x:=by
 cases x with
 |Slice a b c d=>cases c<;>rfl
 |_=>rfl
theorem Ft {x:Expr}{n:Nat}(h:ao (vw x).t n=true):x=(vw x).back n:=gw h▸(ado x).symm
structure Sw where
 t:Nat
 x0:Stmt
 e1:Expr
 e2:Expr
 l:List Expr
 b1:List Stmt
 b2:List Stmt
 oe:Option Expr
 pos:Pos
noncomputable def dE:Expr:=.Constant .none 0 default
noncomputable def sw (x:Stmt):Sw:=match x with
 |.Assign l e1 pos=>⟨1,x,e1,dE,l,[],[],none,pos⟩
 |.Expr e1 pos=>⟨2,x,e1,dE,[],[],[],none,pos⟩
 |.If e1 b1 b2 pos=>⟨3,x,e1,dE,[],b1,b2,none,pos⟩
 |.For e1 e2 b1 b2 pos=>⟨4,x,e1,e2,[],b1,b2,none,pos⟩
 |.Return oe pos=>⟨5,x,dE,dE,[],[],[],oe,pos⟩
 |.Continue pos=>⟨6,x,dE,dE,[],[],[],none,pos⟩
 |_=>⟨0,x,dE,dE,[],[],[],none,default⟩
noncomputable def Sw.back (v:Sw):Nat->Stmt
 |1=>.Assign v.l v.e1 v.pos
 |2=>.Expr v.e1 v.pos
 |3=>.If v.e1 v.b1 v.b2 v.pos
 |4=>.For v.e1 v.e2 v.b1 v.b2 v.pos
 |5=>.Return v.oe v.pos
 |6=>.Continue v.pos
 |_=>v.x0
theorem adp (x:Stmt):(sw x).back (sw x).t=x:=by cases x<;>rfl
theorem ahK {x:Stmt}{n:Nat}(h:ao (sw x).t n=true):x=(sw x).back n:=gw h▸(adp x).symm
noncomputable def nameOf (x:Expr):Option af:=match ao (vw x).t 2 with|true=>some (vw x).s|false=>none
noncomputable def oV (x:Expr):List af:=match ao (vw x).t 2,ao (vw x).t 10 with
 |true,_=>[(vw x).s]
 |false,true=>(vw x).l.filterMap nameOf
 |_,_=>[]
noncomputable def u6 (Z:List af)(sc:Scope):List Nat->List Expr->Bool
 |[],es=>nul es
 |i::is,l=>(uS l).any λp=>ao (vw p.1).t 2&&(xT Z sc i (vw p.1).s&&u6 Z sc is p.2)
noncomputable def qq (Z:List af)(sc:Scope)(t:Tg)(x:Expr):Bool:=match t with
 |.v i=>ao (vw x).t 2&&xT Z sc i (vw x).s
 |.t l=>ao (vw x).t 10&&u6 Z sc l (vw x).l
theorem adq {Z:List af}{sc:Scope}{i:Nat}{is:List Nat}{l:List Expr}(h:u6 Z sc (i::is) l=true):∃id pos es,l=.Name id pos::es/\xT Z sc i id=true/\u6 Z sc is es=true:=by
 obtain⟨p,e,h⟩:=afS h;obtain⟨h1,h⟩:=band h;obtain⟨h2,h3⟩:=band h;have e:=O_ e;rw[show p.1=.Name (vw p.1).s (vw p.1).pos from Ft h1] at e;exact⟨_,_,_,e,h2,h3⟩
theorem IB {Z:List af}{sc:Scope}{i:Nat}{x:Expr}(h:qq Z sc (.v i) x=true):∃id pos,x=.Name id pos/\xT Z sc i id=true:=by
 obtain⟨h1,h⟩:=band h;exact⟨_,_,Ft h1,h⟩
theorem IC {Z:List af}{sc:Scope}{is:List Nat}{x:Expr}(h:qq Z sc (.t is) x=true):∃es k pos,x=.Tuple es k pos/\u6 Z sc is es=true:=by
 obtain⟨h1,h⟩:=band h;exact⟨_,_,_,Ft h1,h⟩
noncomputable def vP (x:Expr):Bool:=!(ao (vw x).t 13&&ao (vw (vw x).e1).t 2&&nul (vw x).l&&nul (vw x).ks)
noncomputable def Bv (lo:Option Int)(l:Option Expr):Bool:=match lo with
 |none=>l.isNone
 |some i=>l.any λy=>match ao (vw y).t 1 with
  |true=>(cInt (vw y).c).any λk=>decide (i=k)
  |false=>ao (vw y).t 6&&decide (UnaryOp.USub=(vw y).yU)&&ao (vw (vw y).e1).t 1&&(cInt (vw (vw y).e1).c).any λk=>decide (i=-k)
noncomputable def zq (Z:List af)(mr sc:Scope)(target:Expr):Bool :=
 decide (mr.kind=.function)&&mr.names.all (λx=>!decide (x.2=.cell) &&
  (!decide (x.2=.local)||(decide (mr.names.lookup x.1=some .local)&&((oV target).contains x.1||!Z.contains x.1))) &&
  (!decide (x.2=.free)||(decide (mr.names.lookup x.1=some .free)&&(decide (sc.names.lookup x.1=some .cell)||decide (sc.names.lookup x.1=some .free))))) &&
 (oV target).all λx=>decide (mr.names.lookup x=some .local)
section
variable (sZ:List (String×PV))(plain:List Fn)
mutual
noncomputable def ma:E Fn->Nat->List af->Scope->Expr->Bool
 |.n5,_,_,_,x=>ao (vw x).t 1&&PY (vw x).c
 |.oq b,_,_,_,x=>ao (vw x).t 1&&(cBool (vw x).c).any λc=>decide (b=c)
 |.lR i,_,_,_,x=>ao (vw x).t 1&&(cInt (vw x).c).any λc=>decide (i=c)
 |.m4 s,_,_,_,x=>ao (vw x).t 1&&(cStr (vw x).c).any λc=>decide (nm s=c)
 |.var i,_,Z,sc,x=>ao (vw x).t 2&&O9 Z sc i (vw x).s
 |.glob n v,_,_,sc,x=>ao (vw x).t 2&&(decide (nm n=(vw x).s)&&qN sc (vw x).s&&sZ.contains (n,v))
 |.attr e a,j,Z,sc,x=>ao (vw x).t 3&&(decide (nm a=(vw x).s)&&vP (vw x).e1&&ma e j Z sc (vw x).e1)
 |.idx e i,j,Z,sc,x=>ao (vw x).t 4&&(Bc (vw x).e2&&ma e j Z sc (vw x).e1&&ma i j Z sc (vw x).e2)
 |.ri e lo hi,j,Z,sc,x=>ao (vw x).t 4&&ao (vw (vw x).e2).t 15&&(ma e j Z sc (vw x).e1&&Bv lo (vw (vw x).e2).o1&&Bv hi (vw (vw x).e2).o2)
 |.bin op a b,j,Z,sc,x=>ao (vw x).t 5&&(decide (op=(vw x).op)&&ma a j Z sc (vw x).e1&&ma b j Z sc (vw x).e2)
 |.un op a,j,Z,sc,x=>ao (vw x).t 6&&(decide (op=(vw x).yU)&&ma a j Z sc (vw x).e1)
 |.bo op es,j,Z,sc,x=>ao (vw x).t 7&&(decide (op=(vw x).CR)&&qd es j Z sc (vw x).l)
 |.cmp op a b,j,Z,sc,x=>ao (vw x).t 8&&(one (vw x).yu).any λAe=>(one (vw x).l).any λr=>decide (op=Ae)&&vZ r&&ma a j Z sc (vw x).e1&&ma b j Z sc r
 |.wg op uW a b c,j,Z,sc,x=>ao (vw x).t 8&&(two (vw x).yu).any λo=>(two (vw x).l).any λr=>decide (op=o.1)&&decide (uW=o.2)&&vZ r.2&&ma a j Z sc (vw x).e1&&ma b j Z sc r.1&&ma c j Z sc r.2
 |.nu c a b,j,Z,sc,x=>ao (vw x).t 9&&(ma c j Z sc (vw x).e1&&ma a j Z sc (vw x).e2&&ma b j Z sc (vw x).e3)
 |.tup es,j,Z,sc,x=>ao (vw x).t 10&&qd es j Z sc (vw x).l
 |.list es,j,Z,sc,x=>ao (vw x).t 11&&qd es j Z sc (vw x).l
 |.qB es,j,Z,sc,x=>ao (vw x).t 11&&qd es j Z sc (vw x).l
 |.dict _,_,_,_,x=>ao (vw x).t 12&&(nul (vw x).CS&&nul (vw x).l)
 |.call f es,j,Z,sc,x=>ao (vw x).t 13&&ao (vw (vw x).e1).t 2&&nul (vw x).ks&&(decide (nm (fnName f)=(vw (vw x).e1).s)&&qN sc (vw (vw x).e1).s&&plain.contains f&&qd es j Z sc (vw x).l)
 |.new c es,j,Z,sc,x=>ao (vw x).t 13&&ao (vw (vw x).e1).t 2&&nul (vw x).ks&&(decide (nm (clsName c)=(vw (vw x).e1).s)&&qN sc (vw (vw x).e1).s&&qd es j Z sc (vw x).l)
 |.nA o m es,j,Z,sc,x=>ao (vw x).t 13&&ao (vw (vw x).e1).t 3&&nul (vw x).ks&&(decide (nm m=(vw (vw x).e1).s)&&vP (vw (vw x).e1).e1&&((vw (vw x).e1).pos.endLine==(vw x).pos.line)&&decide ((vw x).l.length<30)&&ma o j Z sc (vw (vw x).e1).e1&&qd es j Z sc (vw x).l)
 |.wh o k d,j,Z,sc,x=>ao (vw x).t 13&&ao (vw (vw x).e1).t 3&&nul (vw x).ks&&(two (vw x).l).any λr=>decide ((vw (vw x).e1).s=("get":af))&&vP (vw (vw x).e1).e1&&((vw (vw x).e1).pos.endLine==(vw x).pos.line)&&ma o j Z sc (vw (vw x).e1).e1&&ma k j Z sc r.1&&ma d j Z sc r.2&&notStar r.1&&notStar r.2
 |.bi b e,j,Z,sc,x=>ao (vw x).t 13&&ao (vw (vw x).e1).t 2&&nul (vw x).ks&&(one (vw x).l).any λy=>decide (nm (xZ b)=(vw (vw x).e1).s)&&qN sc (vw (vw x).e1).s&&ma e j Z sc y&&notStar y
 |.comp _ elt t it,j,Z,sc,x=>match j with
  |0=>false
  |j+1=>ao (vw x).t 14&&(one (vw x).gs).any λg=>nul g.ifs&&(decide (g.is_async=0)&&zq Z (vw x).sc sc g.target&&vm it j Z sc g.iter&&decide ((oV g.target).length=slots t)&&qq (Z++oV g.target) (uB (vw x).sc sc) t g.target&&ma elt j (Z++oV g.target) (uB (vw x).sc sc) (vw x).e1)
 |.oC _ elt t it c,j,Z,sc,x=>match j with
  |0=>false
  |j+1=>ao (vw x).t 14&&(one (vw x).gs).any λg=>(one g.ifs).any λz=>decide (g.is_async=0)&&zq Z (vw x).sc sc g.target&&vm it j Z sc g.iter&&decide ((oV g.target).length=slots t)&&qq (Z++oV g.target) (uB (vw x).sc sc) t g.target&&ma elt j (Z++oV g.target) (uB (vw x).sc sc) (vw x).e1 &&
     ma c j (Z++oV g.target) (uB (vw x).sc sc) z
 |.bad,_,_,_,_=>true
noncomputable def qd:Es Fn->Nat->List af->Scope->List Expr->Bool
 |.nil,_,_,_,l=>nul l
 |.cons e es,j,Z,sc,l=>(uS l).any λp=>notStar p.1&&ma e j Z sc p.1&&qd es j Z sc p.2
noncomputable def vm:It Fn->Nat->List af->Scope->Expr->Bool
 |.e e,j,Z,sc,x=>vZ x&&ma e j Z sc x
 |.d e,j,Z,sc,x=>vZ x&&ma e j Z sc x
 |.range e,j,Z,sc,x=>ao (vw x).t 13&&ao (vw (vw x).e1).t 2&&nul (vw x).ks&&(one (vw x).l).any λy=>decide ((vw (vw x).e1).s=("range":af))&&qN sc (vw (vw x).e1).s&&ma e j Z sc y&&notStar y
end
noncomputable def I1 (g y:Expr):Bool:=!(ao (vw g).t 10&&(ao (vw y).t 10||ao (vw y).t 14))&&ahJ y
mutual
noncomputable def tQ:S Fn->Nat->List af->Scope->Stmt->Bool
 |.asg t e,j,Z,sc,x=>ao (sw x).t 1&&(one (sw x).l).any λg=>qq Z sc t g&&ma sZ plain e j Z sc (sw x).e1&&I1 g (sw x).e1
 |.setattr o a e,j,Z,sc,x=>ao (sw x).t 1&&(one (sw x).l).any λg=>ao (vw g).t 3&&(decide (nm a=(vw g).s)&&fieldNames.contains a&&ma sZ plain o j Z sc (vw g).e1&&ma sZ plain e j Z sc (sw x).e1&&xV (sw x).e1)
 |.rS o i e,j,Z,sc,x=>ao (sw x).t 1&&(one (sw x).l).any λg=>ao (vw g).t 4&&(Bc (vw g).e2&&ma sZ plain o j Z sc (vw g).e1&&ma sZ plain i j Z sc (vw g).e2&&ma sZ plain e j Z sc (sw x).e1&&xV (sw x).e1)
 |.expr e,j,Z,sc,x=>ao (sw x).t 2&&(ma sZ plain e j Z sc (sw x).e1&&xV (sw x).e1)
 |.append o e,j,Z,sc,x=>ao (sw x).t 2&&ao (vw (sw x).e1).t 13&&ao (vw (vw (sw x).e1).e1).t 3&&nul (vw (sw x).e1).ks&&(one (vw (sw x).e1).l).any λy=>decide ((vw (vw (sw x).e1).e1).s=("append":af))&&vP (vw (vw (sw x).e1).e1).e1&&((vw (vw (sw x).e1).e1).pos.endLine==(vw (sw x).e1).pos.line)&&ma sZ plain o j Z sc (vw (vw (sw x).e1).e1).e1&&ma sZ plain e j Z sc y&&notStar y
 |.ite c a b,j,Z,sc,x=>ao (sw x).t 3&&(ma sZ plain c j Z sc (sw x).e1&&sy a j Z sc (sw x).b1&&sy b j Z sc (sw x).b2)
 |.for t it b,j,Z,sc,x=>ao (sw x).t 4&&nul (sw x).b2&&(qq Z sc t (sw x).e1&&vm sZ plain it j Z sc (sw x).e2&&sy b j Z sc (sw x).b1)
 |.ret e,j,Z,sc,x=>ao (sw x).t 5&&(sw x).oe.any λy=>ma sZ plain e j Z sc y
 |.cont,_,_,_,x=>ao (sw x).t 6
 |.bad,_,_,_,_=>true
noncomputable def sy:Ss Fn->Nat->List af->Scope->List Stmt->Bool
 |.nil,_,_,_,l=>nul l
 |.cons s ss,j,Z,sc,l=>(uS l).any λp=>tQ s j Z sc p.1&&sy ss j Z sc p.2
end
end
section
theorem ny {a b:Bool}{Q:Prop}(h:(a&&b)=true)(k:a=true->b=true->Q):Q:=match a,b,h with
 |true,true,_=>k rfl rfl
theorem qh {a b c:Bool}{Q:Prop}(h:(a&&b&&c)=true)(k:a=true->b=true->c=true->Q):Q:=ny (a:=a&&b) h λh hc=>ny h λha hb=>k ha hb hc
theorem t6 {a b c d:Bool}{Q:Prop}(h:(a&&b&&c&&d)=true)(k:a=true->b=true->c=true->d=true->Q):Q:=qh (a:=a&&b) h λh hc hd=>ny h λha hb=>k ha hb hc hd
theorem CT {a b c d e:Bool}{Q:Prop}(h:(a&&b&&c&&d&&e)=true)(k:a=true->b=true->c=true->d=true->e=true->Q):Q:=t6 (a:=a&&b) h λh hc hd he=>ny h λha hb=>k ha hb hc hd he
theorem CU {a b c d e f:Bool}{Q:Prop}(h:(a&&b&&c&&d&&e&&f)=true)(k:a=true->b=true->c=true->d=true->e=true->f=true->Q):Q:=CT (a:=a&&b) h λh hc hd he hf=>ny h λha hb=>k ha hb hc hd he hf
theorem R4 {a b c d e f g:Bool}{Q:Prop}(h:(a&&b&&c&&d&&e&&f&&g)=true)(k:a=true->b=true->c=true->d=true->e=true->f=true->g=true->Q):Q:=CU (a:=a&&b) h λh hc hd he hf hg=>ny h λha hb=>k ha hb hc hd he hf hg
theorem bd8 {a b c d e f g i:Bool}{Q:Prop}(h:(a&&b&&c&&d&&e&&f&&g&&i)=true)(k:a=true->b=true->c=true->d=true->e=true->f=true->g=true->i=true->Q):Q:=R4 (a:=a&&b) h λh hc hd he hf hg hi=>ny h λha hb=>k ha hb hc hd he hf hg hi
theorem o5 {V:Type}{o:Option V}{f:V->Bool}(h:o.any f=true){Q:Prop}(k:∀a,o=some a->f a=true->Q):Q:=by
 cases o with|none=>exact El.bf h|some a=>exact k a rfl h
@[elab_as_elim] theorem oQ {x:Expr}{n:Nat}(e:ao (vw x).t n=true){Q:Expr->Prop}(k:Q ((vw x).back n)):Q x:=Ft e▸k
@[elab_as_elim] theorem wo {x:Stmt}{n:Nat}(e:ao (sw x).t n=true){Q:Stmt->Prop}(k:Q ((sw x).back n)):Q x:=ahK e▸k
@[elab_as_elim] theorem uu {V:Type}{l:List V}{a:V}(h:one l=some a){Q:List V->Prop}(k:Q [a]):Q l:=afT h▸k
@[elab_as_elim] theorem I2 {V:Type}{l:List V}{a:V×V}(h:two l=some a){Q:List V->Prop}(k:Q [a.1,a.2]):Q l:=afU h▸k
@[elab_as_elim] theorem uv {V:Type}{l:List V}(h:nul l=true){Q:List V->Prop}(k:Q []):Q l:=afV h▸k
@[elab_as_elim] theorem PZ {V:Type}{l:List V}{p:V×List V}(h:uS l=some p){Q:List V->Prop}(k:Q (p.1::p.2)):Q l:=O_ h▸k
@[elab_as_elim] theorem Fu {V:Type}[DecidableEq V]{a b:V}(h:decide (a=b)=true){Q:V->Prop}(k:Q a):Q b:=l9 h▸k
@[elab_as_elim] theorem ahL {V:Type}[DecidableEq V]{a b:V}(h:decide (a=b)=true){Q:V->Prop}(k:Q b):Q a:=l9 h▸k
end
section
variable {G:List (String×PV)}{P:List Fn}{j:Nat}{Z:List af}{sc:Scope}{x:Expr}{e0 e1 e2:E Fn}{es:Es Fn}{Q:Expr->Prop}
@[elab_as_elim] theorem aaP (h:ma G P .n5 j Z sc x=true)(k:∀n pos,Q (.Constant .none n pos)):Q x :=
 ny h λe h=>oQ e (show Q (.Constant (vw x).c (vw x).k (vw x).pos) from aaN h▸k _ _)
@[elab_as_elim] theorem aaQ {b:Bool}(h:ma G P (.oq b) j Z sc x=true)(k:∀n pos,Q (.Constant (.bool b) n pos)):Q x :=
 ny h λe h=>o5 h λc hc h=>oQ e (show Q (.Constant (vw x).c (vw x).k (vw x).pos) from(aaO hc).trans (lT _ (l9 h).symm)▸k _ _)
@[elab_as_elim] theorem ads {b:Int}(h:ma G P (.lR b) j Z sc x=true)(k:∀n pos,Q (.Constant (.int b) n pos)):Q x :=
 ny h λe h=>o5 h λc hc h=>oQ e (show Q (.Constant (vw x).c (vw x).k (vw x).pos) from(H9 hc).trans (lT _ (l9 h).symm)▸k _ _)
@[elab_as_elim] theorem adt {b:String}(h:ma G P (.m4 b) j Z sc x=true)(k:∀n pos,Q (.Constant (.str (nm b)) n pos)):Q x :=
 ny h λe h=>o5 h λc hc h=>oQ e (show Q (.Constant (vw x).c (vw x).k (vw x).pos) from(adn hc).trans (lT _ (l9 h).symm)▸k _ _)
@[elab_as_elim] theorem afW {i:Nat}(h:ma G P (.var i) j Z sc x=true)(k:∀id pos,O9 Z sc i id=true->Q (.Name id pos)):Q x :=
 ny h λe h=>oQ e (k _ _ h)
@[elab_as_elim] theorem adu {n:String}{v:PV}(h:ma G P (.glob n v) j Z sc x=true)(k:∀pos,qN sc (nm n)=true->G.contains (n,v)=true->Q (.Name (nm n) pos)):Q x :=
 ny h λe h=>qh h λh1 h2 h3=>oQ e (show Q (.Name (vw x).s (vw x).pos) from Fu h1 (Q:=λs=>qN sc s=true->Q (.Name s (vw x).pos)) (λh2=>k _ h2 h3) h2)
@[elab_as_elim] theorem adv {a:String}(h:ma G P (.attr e0 a) j Z sc x=true)(k:∀o pos,vP o=true->ma G P e0 j Z sc o=true->Q (.Attribute o (nm a) pos)):Q x :=
 ny h λe h=>qh h λh1 h2 h3=>oQ e (show Q (.Attribute (vw x).e1 (vw x).s (vw x).pos) from l9 h1▸k _ _ h2 h3)
@[elab_as_elim] theorem afX (h:ma G P (.idx e0 e1) j Z sc x=true)(k:∀o i pos,Bc i=true->ma G P e0 j Z sc o=true->ma G P e1 j Z sc i=true->Q (.Subscript o i pos)):Q x :=
 ny h λe h=>qh h λh1 h2 h3=>oQ e (k _ _ _ h1 h2 h3)
@[elab_as_elim] theorem afY {lo hi:Option Int}(h:ma G P (.ri e0 lo hi) j Z sc x=true)(k:∀o l u q pos,ma G P e0 j Z sc o=true->Bv lo l=true->Bv hi u=true->Q (.Subscript o (.Slice l u none q) pos)):Q x :=
 qh h λe e2 h=>qh h λh1 h2 h3=>oQ e (oQ e2 (Q:=λs=>Q (.Subscript (vw x).e1 s (vw x).pos)) (k _ _ _ _ _ h1 h2 h3))
@[elab_as_elim] theorem afZ {op:Operator}(h:ma G P (.bin op e0 e1) j Z sc x=true)(k:∀l r pos,ma G P e0 j Z sc l=true->ma G P e1 j Z sc r=true->Q (.BinOp l op r pos)):Q x :=
 ny h λe h=>qh h λh1 h2 h3=>oQ e (show Q (.BinOp (vw x).e1 (vw x).op (vw x).e2 (vw x).pos) from l9 h1▸k _ _ _ h2 h3)
@[elab_as_elim] theorem ahM {op:UnaryOp}(h:ma G P (.un op e0) j Z sc x=true)(k:∀r pos,ma G P e0 j Z sc r=true->Q (.UnaryOp op r pos)):Q x :=
 ny h λe h=>ny h λh1 h2=>oQ e (show Q (.UnaryOp (vw x).yU (vw x).e1 (vw x).pos) from l9 h1▸k _ _ h2)
@[elab_as_elim] theorem ahN {op:BoolOp}(h:ma G P (.bo op es) j Z sc x=true)(k:∀l pos,qd G P es j Z sc l=true->Q (.BoolOp op l pos)):Q x :=
 ny h λe h=>ny h λh1 h2=>oQ e (show Q (.BoolOp (vw x).CR (vw x).l (vw x).pos) from l9 h1▸k _ _ h2)
@[elab_as_elim] theorem af0 {op:CmpOp}(h:ma G P (.cmp op e0 e1) j Z sc x=true)(k:∀l r pos,vZ r=true->ma G P e0 j Z sc l=true->ma G P e1 j Z sc r=true->Q (.Compare l [op] [r] pos)):Q x :=
 ny h λe h=>o5 h λo ho h=>o5 h λr hr h=>t6 h λh1 h2 h3 h4=>oQ e (show Q (.Compare (vw x).e1 (vw x).yu (vw x).l (vw x).pos) from uu ho (uu hr (l9 h1▸k _ _ _ h2 h3 h4)))
@[elab_as_elim] theorem adw {op uW:CmpOp}(h:ma G P (.wg op uW e0 e1 e2) j Z sc x=true)(k:∀l r t pos,vZ t=true->ma G P e0 j Z sc l=true->ma G P e1 j Z sc r=true->ma G P e2 j Z sc t=true->Q (.Compare l [op,uW] [r,t] pos)):Q x :=
 ny h λe h=>o5 h λo ho h=>o5 h λr hr h=>CU h λh1 h2 h3 h4 h5 h6=>oQ e (show Q (.Compare (vw x).e1 (vw x).yu (vw x).l (vw x).pos) from I2 ho (I2 hr (l9 h1▸l9 h2▸k _ _ _ _ h3 h4 h5 h6)))
@[elab_as_elim] theorem af1 (h:ma G P (.nu e0 e1 e2) j Z sc x=true)(k:∀t y z pos,ma G P e0 j Z sc t=true->ma G P e1 j Z sc y=true->ma G P e2 j Z sc z=true->Q (.IfExp t y z pos)):Q x :=
 ny h λe h=>qh h λh1 h2 h3=>oQ e (k _ _ _ _ h1 h2 h3)
@[elab_as_elim] theorem af2 (h:ma G P (.tup es) j Z sc x=true)(k:∀l n pos,qd G P es j Z sc l=true->Q (.Tuple l n pos)):Q x :=
 ny h λe h=>oQ e (k _ _ _ h)
@[elab_as_elim] theorem adx (h:ma G P (.list es) j Z sc x=true)(k:∀l pos,qd G P es j Z sc l=true->Q (.List l pos)):Q x :=
 ny h λe h=>oQ e (k _ _ h)
@[elab_as_elim] theorem aaR (h:ma G P (.qB es) j Z sc x=true)(k:∀l pos,qd G P es j Z sc l=true->Q (.List l pos)):Q x :=
 ny h λe h=>oQ e (k _ _ h)
@[elab_as_elim] theorem ady {d:DK}(h:ma G P (.dict d) j Z sc x=true)(k:∀pos,Q (.Dict [] [] pos)):Q x :=
 ny h λe h=>ny h λh1 h2=>oQ e (show Q (.Dict (vw x).CS (vw x).l (vw x).pos) from uv h1 (uv h2 (k _)))
@[elab_as_elim] theorem yg {n:Nat}(e:ao (vw x).t 13=true)(e2:ao (vw (vw x).e1).t n=true)(e3:nul (vw x).ks=true)(k:Q (.Call ((vw (vw x).e1).back n) (vw x).l [] (vw x).pos)):Q x :=
 oQ e (show Q (.Call (vw x).e1 (vw x).l (vw x).ks (vw x).pos) from uv e3 (oQ e2 (Q:=λf=>Q (.Call f (vw x).l [] (vw x).pos)) k))
@[elab_as_elim] theorem adz {f:Fn}(h:ma G P (.call f es) j Z sc x=true)(k:∀p l pos,qN sc (nm (fnName f))=true->P.contains f=true->qd G P es j Z sc l=true->Q (.Call (.Name (nm (fnName f)) p) l [] pos)):Q x :=
 t6 h λe e2 e3 h=>t6 h λh1 h2 h3 h4=>yg e e2 e3 (show Q (.Call (.Name (vw (vw x).e1).s _) _ [] _) from Fu h1 (Q:=λs=>qN sc s=true->Q (.Call (.Name s _) _ [] _)) (λh2=>k _ _ _ h2 h3 h4) h2)
@[elab_as_elim] theorem af3 {c:n_}(h:ma G P (.new c es) j Z sc x=true)(k:∀p l pos,qN sc (nm (clsName c))=true->qd G P es j Z sc l=true->Q (.Call (.Name (nm (clsName c)) p) l [] pos)):Q x :=
 t6 h λe e2 e3 h=>qh h λh1 h2 h3=>yg e e2 e3 (show Q (.Call (.Name (vw (vw x).e1).s _) _ [] _) from Fu h1 (Q:=λs=>qN sc s=true->Q (.Call (.Name s _) _ [] _)) (λh2=>k _ _ _ h2 h3) h2)
@[elab_as_elim] theorem adA {m:String}(h:ma G P (.nA e0 m es) j Z sc x=true)(k:∀b p l q,vP b=true->(p.endLine==q.line)=true->l.length<30->ma G P e0 j Z sc b=true->qd G P es j Z sc l=true->Q (.Call (.Attribute b (nm m) p) l [] q)):Q x :=
 t6 h λe e2 e3 h=>CU h λh1 h2 h3 h4 h5 h6=>yg e e2 e3 (show Q (.Call (.Attribute _ (vw (vw x).e1).s _) _ [] _) from l9 h1▸k _ _ _ _ h2 h3 (l9 h4) h5 h6)
@[elab_as_elim] theorem adB (h:ma G P (.wh e0 e1 e2) j Z sc x=true)(k:∀b p y z q,vP b=true->(p.endLine==q.line)=true->ma G P e0 j Z sc b=true->ma G P e1 j Z sc y=true->ma G P e2 j Z sc z=true->notStar y=true->notStar z=true->Q (.Call (.Attribute b ("get":af) p) [y,z] [] q)):Q x :=
 t6 h λe e2 e3 h=>o5 h λr hr h=>bd8 h λh1 h2 h3 h4 h5 h6 h7 h8=>yg e e2 e3 (show Q (.Call (.Attribute _ (vw (vw x).e1).s _) (vw x).l [] _) from I2 hr ((l9 h1).symm▸k _ _ _ _ _ h2 h3 h4 h5 h6 h7 h8))
@[elab_as_elim] theorem ahO {b:BI}(h:ma G P (.bi b e0) j Z sc x=true)(k:∀p y pos,qN sc (nm (xZ b))=true->ma G P e0 j Z sc y=true->notStar y=true->Q (.Call (.Name (nm (xZ b)) p) [y] [] pos)):Q x :=
 t6 h λe e2 e3 h=>o5 h λy hy h=>t6 h λh1 h2 h3 h4=>yg e e2 e3 (show Q (.Call (.Name (vw (vw x).e1).s _) (vw x).l [] _) from uu hy (Fu h1 (Q:=λs=>qN sc s=true->Q (.Call (.Name s _) _ [] _)) (λh2=>k _ _ _ h2 h3 h4) h2))
@[elab_as_elim] theorem M7 (h:vm G P (.range e0) j Z sc x=true)(k:∀p y pos,qN sc ("range":af)=true->ma G P e0 j Z sc y=true->notStar y=true->Q (.Call (.Name ("range":af) p) [y] [] pos)):Q x :=
 t6 h λe e2 e3 h=>o5 h λy hy h=>t6 h λh1 h2 h3 h4=>yg e e2 e3 (show Q (.Call (.Name (vw (vw x).e1).s _) (vw x).l [] _) from uu hy (ahL h1 (Q:=λs=>qN sc s=true->Q (.Call (.Name s _) _ [] _)) (λh2=>k _ _ _ h2 h3 h4) h2))
@[elab_as_elim] theorem adC {mu:Bool}{t:Tg}{it:It Fn}(h:ma G P (.comp mu e0 t it) (j+1) Z sc x=true)(k:∀y target iter mr pos,zq Z mr sc target=true->vm G P it j Z sc iter=true->(oV target).length=slots t->qq (Z++oV target) (uB mr sc) t target=true->ma G P e0 j (Z++oV target) (uB mr sc) y=true->Q (.ListComp y [⟨target,iter,[],0⟩] mr pos)):Q x:=by
 refine ny h λe h=>o5 h λg hg h=>?_;cases g with
 |mk gt gi gf ga=>exact ny h λe2 h=>CU h λh1 h2 h3 h4 h5 h6=>oQ e (show Q (.ListComp (vw x).e1 (vw x).gs (vw x).sc (vw x).pos) from uu hg (show Q (.ListComp (vw x).e1 [⟨gt,gi,gf,ga⟩] (vw x).sc (vw x).pos) from uv (show nul gf=true from e2) ((show 0=ga from(l9 h1).symm)▸k _ gt gi _ _ h2 h3 (l9 h4) h5 h6)))
@[elab_as_elim] theorem Y4 {mu:Bool}{t:Tg}{it:It Fn}(h:ma G P (.oC mu e0 t it e1) (j+1) Z sc x=true)(k:∀y target iter z mr pos,zq Z mr sc target=true->vm G P it j Z sc iter=true->(oV target).length=slots t->qq (Z++oV target) (uB mr sc) t target=true->ma G P e0 j (Z++oV target) (uB mr sc) y=true->ma G P e1 j (Z++oV target) (uB mr sc) z=true->Q (.ListComp y [⟨target,iter,[z],0⟩] mr pos)):Q x:=by
 refine ny h λe h=>o5 h λg hg h=>?_;cases g with
 |mk gt gi gf ga=>exact o5 h λz e2 h=>R4 h λh1 h2 h3 h4 h5 h6 h7=>oQ e (show Q (.ListComp (vw x).e1 (vw x).gs (vw x).sc (vw x).pos) from uu hg (show Q (.ListComp (vw x).e1 [⟨gt,gi,gf,ga⟩] (vw x).sc (vw x).pos) from uu (show one gf=some z from e2) ((show 0=ga from(l9 h1).symm)▸k _ gt gi _ _ _ h2 h3 (l9 h4) h5 h6 h7)))
@[elab_as_elim] theorem EN {l:List Expr}{Q:List Expr->Prop}(h:qd G P (.cons e0 es) j Z sc l=true)(k:∀x r,notStar x=true->ma G P e0 j Z sc x=true->qd G P es j Z sc r=true->Q (x::r)):Q l :=
 o5 h λp e h=>qh h λh1 h2 h3=>PZ e (k _ _ h1 h2 h3)
end
section
variable {G:List (String×PV)}{P:List Fn}{j:Nat}{Z:List af}{sc:Scope}{x:Stmt}{e0 e1 e2:E Fn}{Q:Stmt->Prop}
@[elab_as_elim] theorem af4 {t:Tg}(h:tQ G P (.asg t e0) j Z sc x=true)(k:∀g y pos,qq Z sc t g=true->ma G P e0 j Z sc y=true->I1 g y=true->Q (.Assign [g] y pos)):Q x :=
 ny h λe h=>o5 h λg hg h=>qh h λh1 h2 h3=>wo e (show Q (.Assign (sw x).l (sw x).e1 (sw x).pos) from uu hg (k _ _ _ h1 h2 h3))
@[elab_as_elim] theorem Xf {a:String}(h:tQ G P (.setattr e0 a e1) j Z sc x=true)(k:∀b p y pos,fieldNames.contains a=true->ma G P e0 j Z sc b=true->ma G P e1 j Z sc y=true->xV y=true->Q (.Assign [.Attribute b (nm a) p] y pos)):Q x :=
 ny h λe h=>o5 h λg hg h=>ny h λe2 h=>CT h λh1 h2 h3 h4 h5=>wo e (show Q (.Assign (sw x).l (sw x).e1 (sw x).pos) from uu hg (oQ e2 (Q:=λg=>Q (.Assign [g] _ _)) (show Q (.Assign [.Attribute _ (vw g).s _] _ _) from l9 h1▸k _ _ _ _ h2 h3 h4 h5)))
@[elab_as_elim] theorem Y5 (h:tQ G P (.rS e0 e1 e2) j Z sc x=true)(k:∀b i p y pos,Bc i=true->ma G P e0 j Z sc b=true->ma G P e1 j Z sc i=true->ma G P e2 j Z sc y=true->xV y=true->Q (.Assign [.Subscript b i p] y pos)):Q x :=
 ny h λe h=>o5 h λg hg h=>ny h λe2 h=>CT h λh1 h2 h3 h4 h5=>wo e (show Q (.Assign (sw x).l (sw x).e1 (sw x).pos) from uu hg (oQ e2 (Q:=λg=>Q (.Assign [g] _ _)) (k _ _ _ _ _ h1 h2 h3 h4 h5)))
@[elab_as_elim] theorem adD (h:tQ G P (.expr e0) j Z sc x=true)(k:∀y pos,ma G P e0 j Z sc y=true->xV y=true->Q (.Expr y pos)):Q x :=
 ny h λe h=>ny h λh1 h2=>wo e (k _ _ h1 h2)
@[elab_as_elim] theorem Y6 (h:tQ G P (.append e0 e1) j Z sc x=true)(k:∀b p y q pos,vP b=true->(p.endLine==q.line)=true->ma G P e0 j Z sc b=true->ma G P e1 j Z sc y=true->notStar y=true->Q (.Expr (.Call (.Attribute b ("append":af) p) [y] [] q) pos)):Q x :=
 CT h λe e2 e3 e4 h=>o5 h λy hy h=>CU h λh1 h2 h3 h4 h5 h6=>wo e (show Q (.Expr (sw x).e1 (sw x).pos) from yg (Q:=λe=>Q (.Expr e _)) e2 e3 e4 (show Q (.Expr (.Call (.Attribute _ (vw (vw (sw x).e1).e1).s _) (vw (sw x).e1).l [] _) _) from uu hy ((l9 h1).symm▸k _ _ _ _ _ h2 h3 h4 h5 h6)))
@[elab_as_elim] theorem af5 {a b:Ss Fn}(h:tQ G P (.ite e0 a b) j Z sc x=true)(k:∀t y z pos,ma G P e0 j Z sc t=true->sy G P a j Z sc y=true->sy G P b j Z sc z=true->Q (.If t y z pos)):Q x :=
 ny h λe h=>qh h λh1 h2 h3=>wo e (k _ _ _ _ h1 h2 h3)
@[elab_as_elim] theorem af6 {t:Tg}{it:It Fn}{b:Ss Fn}(h:tQ G P (.for t it b) j Z sc x=true)(k:∀g i y pos,qq Z sc t g=true->vm G P it j Z sc i=true->sy G P b j Z sc y=true->Q (.For g i y [] pos)):Q x :=
 qh h λe e2 h=>qh h λh1 h2 h3=>wo e (show Q (.For (sw x).e1 (sw x).e2 (sw x).b1 (sw x).b2 (sw x).pos) from uv e2 (k _ _ _ _ h1 h2 h3))
@[elab_as_elim] theorem af7 (h:tQ G P (.ret e0) j Z sc x=true)(k:∀y pos,ma G P e0 j Z sc y=true->Q (.Return (some y) pos)):Q x :=
 ny h λe h=>o5 h λy hy h=>wo e (show Q (.Return (sw x).oe (sw x).pos) from hy▸k _ _ h)
@[elab_as_elim] theorem adE (h:tQ G P .cont j Z sc x=true)(k:∀pos,Q (.Continue pos)):Q x:=wo h (k _)
@[elab_as_elim] theorem aaS {s:S Fn}{ss:Ss Fn}{l:List Stmt}{Q:List Stmt->Prop}(h:sy G P (.cons s ss) j Z sc l=true)(k:∀x r,tQ G P s j Z sc x=true->sy G P ss j Z sc r=true->Q (x::r)):Q l :=
 o5 h λp e h=>ny h λh1 h2=>PZ e (k _ _ h1 h2)
end
abbrev mR:Value->Shared->Prop:=λ_ _=>False
structure tI (A:aA)(k j:Nat):Prop where
 hh:A.handled=none
 d:A.depth+12*k+3*j+12<=1000
 u:A.units+40*k+8*j+108<cLine
structure yv (A:aA)(k:Nat):Prop where
 hh:A.handled=none
 d:A.depth+12*k+10<=1000
 u:A.units+40*k+100<cLine
theorem tI.room {A:aA}{k j:Nat}(r:tI A k j):yv A k:=⟨r.hh,by have:=r.d;lia,by have:=r.u;lia⟩
theorem tI.Aw {A:aA}{k j:Nat}(r:tI A k j):A.units+60<cLine:=by have:=r.u;lia
structure Ok (X:Cx)(G:List (String×PV))(P:List Fn):Prop where
 cls:BX X
 gb:∀n v,(n,v)∈G->∃u,bz X.K a7 (nm n)=some (some u)/\v.isData=true/\VR X.base lV.nil v u
 gf:∀f∈P,bz X.K a7 (nm (fnName f))=some (some (.ref (X.fn f)))
 gc:∀c,bz X.K a7 (nm (clsName c))=some (some (.ref (X.cls c)))
 gn:∀b:BI,bz X.K a7 (nm (xZ b))=some none
 gr:bz X.K a7 ("range":af)=some none
 bb:∀b:BI,bz X.K cz (nm (xZ b))=some (some (PX b))
 br:bz X.K cz ("range":af)=some (some (.type "range"))
 kf:∀f,eL X.K (.ref (X.fn f))=true
 kc:∀c,eL X.K (.ref (X.cls c))=true
 mkc:∀c,makesIn X.K (X.cls c)=true
 qI:∀c,bk X.K (.ref (X.cls c)) "__init__"=some (some (.ref (X.fn (mZ c))))/\d4 X.K (.ref (X.fn (mZ c)))=some (.type "function")
 ml:∀c m f,mI c m=some f->bk X.K (.ref (X.cls c)) (nm m)=some (some (.ref (X.fn f)))/\d4 X.K (.ref (X.fn f))=some (.type "function")
 nga:∀c,bk X.K (.ref (X.cls c)) "__getattr__"=some none
def qu (X:Cx)(O:oh Fn)(k:Nat):Prop :=
 ∀(f:Fn) (args:List PV) (Y:St) (r:PV) (σ':St),O f args Y=some (r,σ')->∀(A:aA) (s:Shared) (H:lV) (vs:List Value),yv A k->Base X s.heap->Rel X s.heap H Y->l6 s.heap H args vs ->
  dc (ah X.prog X.w) A (.call (.ref (X.fn f)) ⟨vs,[]⟩) (λq s'=>∃v φ',q=.ok (.ret v)/\Sg X s H σ' s' φ'/\VR s'.heap φ' r v) s
def GE (X:Cx)(A:aA)(env:Env)(x:Expr)(m:Bool)(s:Shared)(H:lV)(pv:PV)(σ':St):Prop :=
 if m then ag (ah X.prog X.w) A (isTrue x env (aH x env)) (λb s'=>∃φ',Sg X s H σ' s' φ'/\pv=.bool b) mR s
 else ag (ah X.prog X.w) A (aH x env) (λv s'=>∃φ',Sg X s H σ' s' φ'/\VR s'.heap φ' pv v) mR s
structure Wk (X:Cx)(k j:Nat)(Z:List af)(env:Env)(A:aA)(s:Shared)(H:lV)(U:Loc)(Y:St):Prop where
 r:tI A k j
 B:Base X s.heap
 R:Rel X s.heap H Y
 F:FR X env Z s.heap H U
section
variable {G:List (String×PV)}{P:List Fn}{O:oh Fn}{X:Cx}{k:Nat}
variable (G P O X k) in
def mH (e:E Fn):Prop:=∀(m:Bool) (j:Nat) (Z:List af) (x:Expr) (env:Env) (A:aA) (s:Shared) (H:lV) (U:Loc) (Y:St) (pv:PV) (σ':St),
 Wk X k j Z env A s H U Y->mU mI mZ O e m U Y=some (pv,σ')->ma G P e j Z env.scope x=true->GE X A env x m s H pv σ'
variable (G P O X k) in
def uw (es:Es Fn):Prop:=∀(j:Nat) (Z:List af) (l:List Expr) (env:Env) (A:aA) (s:Shared) (H:lV) (U:Loc) (Y:St) (nz:List PV) (σ':St) (pos:Pos),
 Wk X k j Z env A s H U Y->rX mI mZ O es U Y=some (nz,σ')->qd G P es j Z env.scope l=true ->
 ag (ah X.prog X.w) A (spliced (dD pos (cQ l env))) (λvs s'=>∃φ',Sg X s H σ' s' φ'/\l6 s'.heap φ' nz vs) mR s
variable {A:aA}{env:Env}{s:Shared}{H:lV}{U:Loc}{Y σ' sG:St}{pv:PV}{Z:List af}{j:Nat}
def Nd (X:Cx)(s:Shared)(H:lV)(σ':St)(m:Bool)(p:PV×St)(v:Value)(s':Shared):Prop:=∃φ' r,Sg X s H σ' s' φ'/\VR s'.heap φ' r v/\Mine.Internal.fin m r σ'=some p
theorem qM {x:Expr}{m:Bool}(he:isTrue x env (aH x env)=(do let v ← aH x env;standAt x.pos;holding [v] (gI v)))
  (h:ag (ah X.prog X.w) A (aH x env) (Nd X s H σ' m (pv,sG)) mR s):GE X A env x m s H pv sG:=by
 cases m with
 |false=>exact ay h (λv s' q=>El.tT q λφ' r sg hv hf=>by cases hf;exact⟨φ',sg,hv⟩) λ_ _ e=>e
 |true=>exact isTrue_plain (ay h (λv s' q=>El.tT q λφ' r sg hv hf=>El.n3 (Option.map_eq_some_iff.mp hf) λb hb e=>by cases e;exact D3 sg.rel hv hb λt=>⟨φ',sg.then (Pu.toks s' t),rfl⟩) λ_ _ e=>e) he
theorem q0 {m:Bool}{r:PV}{p:PV×St}{φ':lV}{s':Shared}(sg:Sg X s H σ' s' φ')(hf:Mine.Internal.fin m r σ'=some p)(v:Value)(pd:Shared)(pu:Pu s' pd)(hv:VR pd.heap φ' r v):Nd X s H σ' m p v pd:=⟨φ',r,sg.then pu,hv,hf⟩
theorem Base.sg {s':Shared}{φ':lV}(B:Base X s.heap)(R:Rel X s.heap H Y)(sg:Sg X s H σ' s' φ'):Base X s'.heap:=Sg.base R sg B
theorem FR.sg {s':Shared}{φ':lV}(F:FR X env Z s.heap H U)(R:Rel X s.heap H Y)(sg:Sg X s H σ' s' φ'):FR X env Z s'.heap φ' U:=F.grow sg.gr R.nC (.none _ _) λ_ _ e=>e
theorem Wk.sg {s':Shared}{φ':lV}(W:Wk X k j Z env A s H U Y)(sg:Sg X s H σ' s' φ'):Wk X k j Z env A s' φ' U σ':=⟨W.r,W.B.sg W.R sg,sg.rel,W.F.sg W.R sg⟩
theorem Mj {id:af}{pos:Pos}{Q:Value->Shared->Prop}{E:Value->Shared->Prop}(F:FR X env Z s.heap H U)(hg:qN env.scope id=true)(h:ag (ah X.prog X.w) A (hH env id) Q E s):ag (ah X.prog X.w) A (aH (.Name id pos) env) Q E s :=
 ny hg λh1 h2=>Name_function_global F.kind (l9 h1) h ((bV _).mp h2)
theorem Hr {id:af}{pos:Pos}{v:Value}{Q:Value->Shared->Prop}{E:Value->Shared->Prop}(OK:Ok X G P)(B:Base X s.heap)(F:FR X env Z s.heap H U)(hg:qN env.scope id=true)
  (hn:bz X.K a7 id=some (some v)) (h:Q v s):ag (ah X.prog X.w) A (aH (.Name id pos) env) Q E s:=by
 refine Mj F hg ?_;unfold hH;rw[F.glob];exact aj ((hV (M:=ah X.prog X.w) (B.tZ OK.cls) hn).here (aw h))
theorem LG {id:af}{pos:Pos}{v:Value}{Q:Value->Shared->Prop}{E:Value->Shared->Prop}(OK:Ok X G P)(B:Base X s.heap)(F:FR X env Z s.heap H U)(hg:qN env.scope id=true)
  (hn:bz X.K a7 id=some none) (hb:bz X.K cz id=some (some v)) (h:Q v s):ag (ah X.prog X.w) A (aH (.Name id pos) env) Q E s:=by
 refine Mj F hg ?_;unfold hH;rw[F.glob,F.blt];exact aj ((hV (M:=ah X.prog X.w) (B.tZ OK.cls) hn).here (aj ((hV (M:=ah X.prog X.w) (B.tZ OK.cls) hb).here (aw h))))
theorem adF {v:PV}{u:Value}(B:Base X s.heap)(hd:v.isData=true)(x:VR X.base lV.nil v u):VR s.heap H v u :=
 VR.DZ (λa l_ t=>t.elim λo t=>⟨o,B.keep _ _ t.1,t.2⟩) hd (VR.data (ψ:=H) hd x)
theorem af8 {O:oh Fn}{i:Nat}{m:Bool}{U:Loc}{Y:St}{r:PV×St}(h:mU mI mZ O (.var i) m U Y=some r):∃v,U[i]? =some (some v)/\Mine.Internal.fin m v Y=some r:=by
 change (match U[i]? with|some (some v)=>Mine.Internal.fin m v Y|_=>none)=_ at h;cases e:U[i]? with
 |none=>rw[e] at h;exact El.nn h
 |some o=>cases o with
  |none=>rw[e] at h;exact El.nn h
  |some v=>rw[e] at h;exact⟨v,rfl,h⟩
theorem Y7:mH G P O X k (.n5):=λ_ _ _ _ _ _ _ H _ Y _ _ W he hc=>aaP hc λ_ _=>qM (σ':=Y) rfl (wpAny_Constant_none ⟨H,.none,Sg.refl W.R,rfl,he⟩)
theorem Y8 (b:Bool):mH G P O X k (.oq b):=λ_ _ _ _ _ _ _ H _ Y _ _ W he hc=>aaQ hc λ_ _=>qM (σ':=Y) rfl (wpAny_Constant_bool ⟨H,.bool b,Sg.refl W.R,rfl,he⟩)
theorem aaT (i:Int):mH G P O X k (.lR i):=λ_ _ _ _ _ _ s H _ Y _ _ W he hc=>ads hc λ_ _=>qM (σ':=Y) rfl (hX (q0 (Sg.refl W.R) he _ _ (Pu.toks s _) ⟨_,rfl⟩))
theorem aaU (t:String):mH G P O X k (.m4 t):=λ_ _ _ _ _ _ s H _ Y _ _ W he hc=>adt hc λ_ _=>qM (σ':=Y) rfl (wpAny_Constant_str (q0 (Sg.refl W.R) he _ _ (Pu.toks s _) ⟨_,rfl⟩))
theorem or3 {a b c:Bool}(h:(a||(b||c))=true):a=true\/b=true\/c=true:=((bM _ _).mp h).imp id (bM _ _).mp
theorem M8 {x:af}{l:List af}(h:(!l.contains x)=true):x∉l:=λhm=>by rw[List.contains_iff_mem.mpr hm] at h;cases h
theorem adG (i:Nat):mH G P O X k (.var i):=λ_ _ _ _ _ _ _ H _ Y _ _ W he hc=>afW hc λ_ _ hc=>El.n3 (af8 he) λv hv he=>CT hc λh1 h2 h3 h4 h5 =>
 qM (σ':=Y) rfl (W.F.load ⟨l9 h1,M8 h2⟩ hv ((or3 h3).imp l9 (Or.imp l9 l9)) ((bV _).mp h4) ((bV _).mp h5) λu hu=>⟨H,v,Sg.refl W.R,hu,he⟩)
theorem aaV (OK:Ok X G P)(n:String)(v:PV):mH G P O X k (.glob n v):=λ_ _ _ _ _ _ _ H _ Y _ _ W he hc=>adu hc λ_ h2 h3=>El.JE (OK.gb n v (List.contains_iff_mem.mp h3)) λu hu hd hv =>
 qM (σ':=Y) rfl (Hr OK W.B W.F h2 hu ⟨H,v,Sg.refl W.R,adF W.B hd hv,he⟩)
theorem adH:mH G P O X k (.bad):=λ_ _ _ _ _ _ _ _ _ _ _ _ _ he _=>El.nn he
end
theorem m_ {V β γ:Type}{x:Option (V×β)}{f:V×β->Option γ}{r:γ}{G:Prop}(e:x.bind f=some r)(k:∀a b,x=some (a,b)->f (a,b)=some r->G):G:=El.bd e λp=>k p.1 p.2
theorem C5 {o:Expr}{a:af}{env:Env}{w:bA Value}(h:vP o=true):kA o a env w=w:=by
 cases o with
 |Call f l ks pos =>
  cases f with
  |Name n q =>
   cases l with
   |nil=>cases ks with
    |nil=>exact El.bf h
    |cons _ _=>rfl
   |cons _ _=>rfl
  |_=>rfl
 |_=>rfl
section
variable {G:List (String×PV)}{P:List Fn}{O:oh Fn}{X:Cx}{k:Nat}
variable {A:aA}{env:Env}{s:Shared}{H:lV}{U:Loc}{Y σ' sG:St}{pv:PV}{Z:List af}{j:Nat}{x:Expr}{e:E Fn}
theorem mH.val (ih:mH G P O X k e)(W:Wk X k j Z env A s H U Y)(he:mU mI mZ O e false U Y=some (pv,σ'))(hc:ma G P e j Z env.scope x=true) :
  ag (ah X.prog X.w) A (aH x env) (λv s'=>∃φ',Sg X s H σ' s' φ'/\VR s'.heap φ' pv v) mR s:=ih false j Z x env A s H U Y pv σ' W he hc
theorem mH.CV (ih:mH G P O X k e)(W:Wk X k j Z env A s H U Y)(he:mU mI mZ O e true U Y=some (pv,σ'))(hc:ma G P e j Z env.scope x=true) :
  ag (ah X.prog X.w) A (isTrue x env (aH x env)) (λb s'=>∃φ',Sg X s H σ' s' φ'/\pv=.bool b) mR s:=ih true j Z x env A s H U Y pv σ' W he hc
theorem mH.then (ih:mH G P O X k e)(W:Wk X k j Z env A s H U Y)(he:mU mI mZ O e false U Y=some (pv,σ'))(hc:ma G P e j Z env.scope x=true)
  {Q:Value->Shared->Prop} (h:∀v s' φ',Sg X s H σ' s' φ'->Wk X k j Z env A s' φ' U σ'->VR s'.heap φ' pv v->Q v s'):ag (ah X.prog X.w) A (aH x env) Q mR s :=
 ay (ih.val W he hc) (λv s' z=>z.elim λφ' z=>h v s' φ' z.1 (W.sg z.1) z.2) λ_ _ e=>e
theorem mH.yh (ih:mH G P O X k e)(W:Wk X k j Z env A s H U Y)(he:mU mI mZ O e true U Y=some (pv,σ'))(hc:ma G P e j Z env.scope x=true)
  {Q:Bool->Shared->Prop} (h:∀b s' φ',pv=.bool b->Sg X s H σ' s' φ'->Wk X k j Z env A s' φ' U σ'->Q b s'):ag (ah X.prog X.w) A (isTrue x env (aH x env)) Q mR s :=
 ay (ih.CV W he hc) (λv s' z=>z.elim λφ' z=>h v s' φ' z.2 z.1 (W.sg z.1)) λ_ _ e=>e
theorem mH.yi {e':E Fn}{x':Expr}{R5:PV}(ih:mH G P O X k e)(ih':mH G P O X k e')(W:Wk X k j Z env A s H U Y)(he:mU mI mZ O e false U Y=some (pv,σ'))(he':mU mI mZ O e' false U σ'=some (R5,sG))(hc:ma G P e j Z env.scope x=true)(CQ:ma G P e' j Z env.scope x'=true)
  {Q:Value->Value->Shared->Prop} (h:∀v u s' φ',Sg X s H sG s' φ'->Wk X k j Z env A s' φ' U sG->VR s'.heap φ' pv v->VR s'.heap φ' R5 u->Q v u s'):ag (ah X.prog X.w) A (aH x env) (λv s₁=>ag (ah X.prog X.w) A (aH x' env) (Q v) mR s₁) mR s :=
 ih.then W he hc λv s1 φ1 Gx W1 hv=>ih'.then W1 he' CQ λu s2 φ2 oy W2 hu=>h v u s2 φ2 (Gx.trans oy) W2 (mQ.vr W1.R (.none _ _) oy hv) hu
theorem aaW (OK:Ok X G P){e:E Fn}(ih:mH G P O X k e)(a:String):mH G P O X k (.attr e a):=λm _ _ _ env _ _ _ _ _ pv σ' W he hc =>
 adv hc λo pos hp hc=>m_ he λv σ₁ h1 he=>El.bd he λr h2 h3=>qM (σ':=σ₁) rfl (Attribute_any_ (ih.then W h1 hc λu s' φ' sg W' hu=>adj OK.cls W'.B W'.R hu h2 λw pd pu hw=>q0 sg h3 w pd pu hw) (by
  show(do let o ← kA _ _ env (aH _ env);_)=_;rw[C5 hp]))
theorem TP {k:Expr}{o i:Value}(h:Bc k=true):subscripted k false o i=operate [o,i] (dA o i):=by
 cases k<;>first|rfl|exact El.bf h
theorem adI {e i:E Fn}(ih:mH G P O X k e)(ihi:mH G P O X k i):mH G P O X k (.idx e i):=λm _ _ _ _ _ _ _ _ _ pv σ' W he hc =>
 afX hc λo k pos hn hc sO=>m_ he λv σ₁ h1 he=>m_ he λi' σ₂ h2 he=>El.bd he λr h3 h4=>qM (σ':=σ₂) rfl (Subscript_ (ih.yi ihi W h1 h2 hc sO λu u2 s2 φ2 oy W2 hu pR =>
  El.uC (aaH W2.R hu h3) λT id hT hl=>tail_any hT hl (afM W2.R hu pR h3 W2.r.Aw λw pd pu hw=>q0 oy h4 w pd pu hw) (TP hn)))
theorem Mk {env:Env}{Q:Value->Shared->Prop}{E:Value->Shared->Prop}{M:eM}(h:Q .none s):ag M A (evalPart none env) Q E s:=by rw[evalPart_none];exact aw h
theorem Ml {lo:Option Int}{l:Option Expr}{Q:Value->Shared->Prop}{E:Value->Shared->Prop}(hp:Bv lo l=true)
  (h:∀v k,da v lo->Q v {s with toks:=k}):ag (ah X.prog X.w) A (evalPart l env) Q E s:=by
 cases lo with
 |none=>cases l with
  |none=>exact Mk (h .none s.toks .none)
  |some _=>exact El.bf hp
 |some i=>cases l with
  |none=>exact El.bf hp
  |some y =>
   rw[evalPart_some];change (match ao (vw y).t 1 with|true=>_|false=>_)=true at hp;cases q:ao (vw y).t 1 with
   |true =>
    rw[q] at hp;exact o5 hp λc hc hp=>oQ q (show ag _ _ (aH (.Constant (vw y).c (vw y).k (vw y).pos) env) _ _ _ from H9 hc▸l9 hp▸hX (h _ _ (.int _ _)))
   |false =>
    rw[q] at hp;exact t6 hp λh1 h2 h3 hp=>o5 hp λc hc hp=>oQ h1 (show ag _ _ (aH (.UnaryOp (vw y).yU (vw y).e1 (vw y).pos) env) _ _ _ from l9 h2▸fK (oQ h3 (Q:=λe=>ag _ _ (aH e env) _ _ _) (show ag _ _ (aH (.Constant (vw (vw y).e1).c _ _) env) _ _ _ from H9 hc▸hX (P.neg_int (l9 hp▸h _ _ (.int _ _))))))
theorem adJ {e:E Fn}(ih:mH G P O X k e)(lo hi:Option Int):mH G P O X k (.ri e lo hi):=λm _ _ _ _ _ _ _ _ _ pv σ' W he hc =>
 afY hc λo l u q pos hc hl hh=>m_ he λv σ₁ h1 he=>El.bd he λr h3 h4=>qM (σ':=σ₁) rfl (Subscript_ (ih.then W h1 hc λu s' φ' sg W' hu=>wpAny_Slice (Ml hl λvl t1 pl=>Ml hh λvu t2 ph=>Mk (by
  have pu:=Pu.push s' {cls:=.type "slice",data:=.fields #[vl,vu,.none]} t2;have Am:=pu.vr W'.R hu;exact El.uC (aaI (s:={s' with heap:=s'.heap.push {cls:=.type "slice",data:=.fields #[vl,vu,.none]},toks:=t2}) Am h3) λT id hT hl =>
   tail_any hT hl (afN (sg.then pu).rel Am (lI ..) pl ph h3 λw pd pu hw=>q0 (sg.then ‹Pu s' _›) h4 w pd pu hw) rfl))))
theorem adK {a b:E Fn}(op:Operator)(vI:mH G P O X k a)(rn:mH G P O X k b):mH G P O X k (.bin op a b):=λm _ _ _ _ _ _ _ _ _ pv σ' W he hc =>
 afZ hc λl r pos oZ qi=>m_ he λv σ₁ h1 he=>m_ he λw σ₂ h2 he=>El.bd he λr h3 h4=>qM (σ':=σ₂) rfl (wpAny_BinOp (vI.yi rn W h1 h2 oZ qi λu u2 s2 φ2 oy W2 hu pR =>
  afI W2.R hu pR h3 λw pd pu hw=>q0 oy h4 w pd pu hw))
theorem af9 {a:E Fn}(op:UnaryOp)(ih:mH G P O X k a):mH G P O X k (.un op a):=λm _ _ _ _ _ s H _ _ pv σ' W he hc=>ahM hc λr pos oZ=>by
 cases op with
 |UAdd=>exact El.nn he
 |USub =>
  refine m_ he λv σ₁ h1 h2=>?_;cases v with
  |int i=>exact qM (σ':=σ₁) rfl (fK (ih.then W h1 oZ λu s' φ' sg W' hu=>afJ hu λw pd pu hw=>q0 sg h2 w pd pu hw))
  |_=>exact El.nn h2
 |Invert =>
  refine m_ he λv σ₁ h1 h2=>?_;cases v with
  |int i =>
   cases i with
   |ofNat i=>exact qM (σ':=σ₁) rfl (fK (ih.then W h1 oZ λu s' φ' sg W' hu=>afK hu λw pd pu hw=>q0 sg h2 w pd pu hw))
   |negSucc i=>exact El.nn h2
  |_=>exact El.nn h2
 |Not =>
  refine m_ he λv σ₁ h1 he=>El.bd he λb h2 he=>?_;cases he;cases m with
  |true=>exact wpAny_isTrue_Not (ih.yh W h1 oZ λc s' φ' hv sg W'=>⟨φ',sg,by subst hv;rw[aq h2]⟩)
  |false=>exact fK (ih.then W h1 oZ λu s' φ' sg W' hu=>not_value (D3 W'.R hu h2 λt=>⟨φ',sg.then (Pu.toks s' t),rfl⟩))
theorem G0 {op:CmpOp}{r:Expr}(h:vZ r=true):behindInMarks op r=false:=by
 cases r<;>first|rfl|exact El.bf h
theorem adL {a b:E Fn}(op:CmpOp)(vI:mH G P O X k a)(rn:mH G P O X k b):mH G P O X k (.cmp op a b):=λm _ _ _ env A s H _ _ pv σ' W he hc =>
 af0 hc λl r pos hs oZ qi=>m_ he λv σ₁ h1 he=>m_ he λw σ₂ h2 he=>El.bd he λc h3 h4=>by
  have walk:∀{Q:Value->Shared->Prop},(∀s3 φ3,Sg X s H σ₂ s3 φ3->Q (.bool c) s3) ->
    ag (ah X.prog X.w) A (aH l env) (λa' s₁=>ag (ah X.prog X.w) A (aH r env) (λb' s₂=>ag (ah X.prog X.w) A (a_ op a' b') Q mR s₂) mR s₁) mR s:=λh =>
   vI.yi rn W h1 h2 oZ qi λu u2 s2 φ2 oy W2 hu pR=>Iz W2.R hu pR h3 W2.r.Aw λt=>h _ φ2 (oy.then (Pu.toks s2 t))
  cases m with
  |false=>cases h4;exact wpAny_Compare1 (walk λs3 φ3 sg=>⟨φ3,sg,rfl⟩) (G0 hs)
  |true=>cases h4;exact wpAny_isTrue_Compare1 (walk λs3 φ3 sg=>c9 ⟨φ3,sg,rfl⟩) (G0 hs)
theorem adM {c a b:E Fn}(vJ:mH G P O X k c)(vI:mH G P O X k a)(rn:mH G P O X k b):mH G P O X k (.nu c a b):=λm _ _ _ _ _ _ _ _ _ pv σ' W he hc =>
 af1 hc λt y z pos tX oZ qi=>m_ he λv σ₁ h1 h2=>by
  cases m with
  |false =>
   refine wpAny_IfExp (vJ.yh W h1 tX λb' s' φ' hv sg W'=>?_);subst hv;cases b' with
   |true=>exact ay (vI.val W' h2 oZ) (λ_ _ z=>z.elim λφ2 z=>⟨φ2,sg.trans z.1,z.2⟩) λ_ _ e=>e
   |false=>exact ay (rn.val W' h2 qi) (λ_ _ z=>z.elim λφ2 z=>⟨φ2,sg.trans z.1,z.2⟩) λ_ _ e=>e
  |true =>
   refine isTrue_IfExp (vJ.yh W h1 tX λb' s' φ' hv sg W'=>?_);subst hv;cases b' with
   |true=>exact ay (vI.CV W' h2 oZ) (λ_ _ z=>z.elim λφ2 z=>⟨φ2,sg.trans z.1,z.2⟩) λ_ _ e=>e
   |false=>exact ay (rn.CV W' h2 qi) (λ_ _ z=>z.elim λφ2 z=>⟨φ2,sg.trans z.1,z.2⟩) λ_ _ e=>e
end
theorem wK {x:Expr}{r:List Expr}{env:Env}(h:notStar x=true):cQ (x::r) env=(false,aH x env)::cQ r env:=by
 cases x<;>first|rfl|exact El.bf h
theorem plain_any {l:List Expr}{env:Env}{pos:Pos}(h:l.all notStar=true):(dD pos (cQ l env)).any (·.1)=false:=by
 induction l with
 |nil=>rfl
 |cons x r ih=>exact El.nL h λh1 h2=>by rw[wK h1];exact ih h2
theorem plain_all {l:List Expr}{env:Env}{pos:Pos}(h:l.all notStar=true):(dD pos (cQ l env)).all (λx=>!x.1)=true:=by
 rw[← List.not_any_eq_all_not,plain_any h];rfl
section
variable {G:List (String×PV)}{P:List Fn}{O:oh Fn}{X:Cx}{k:Nat}
variable {A:aA}{env:Env}{s:Shared}{H:lV}{U:Loc}{Y σ' sG:St}{pv:PV}{Z:List af}{j:Nat}{x:Expr}{e:E Fn}
theorem AP:∀{es:Es Fn} {l:List Expr} {sc:Scope},qd G P es j Z sc l=true->l.all notStar=true
 |.nil,_,_,h=>uv h rfl
 |.cons _ _,_,_,h=>EN h λ_ _ h1 _ h3=>(aL _ _).mpr ⟨h1,AP h3⟩
theorem Xg:uw G P O X k .nil:=λ_ _ _ _ _ _ H _ _ _ _ _ W he hc=>by
 cases he;exact uv hc (wpAny_items_nil ⟨H,Sg.refl W.R,rfl⟩)
theorem VU {e:E Fn}{es:Es Fn}(ih:mH G P O X k e)(p8:uw G P O X k es):uw G P O X k (.cons e es):=λ_ _ _ _ _ _ _ _ _ _ _ _ W he hc =>
 EN hc λx r hs hc r9=>m_ he λv σ₁ h1 he=>m_ he λvs σ₂ h2 he=>by
  cases he;exact wpAny_items_cons (ih.then W h1 hc λu s' φ' sg W' hu=>ay (p8 _ _ _ _ _ _ _ _ _ _ _ _ W' h2 r9) (λus s2 z=>z.elim λφ2 z=>⟨φ2,sg.trans z.1,.sX (mQ.vr W'.R (.none _ _) z.1 hu) z.2⟩) λ_ _ e=>e) (wK hs)
theorem Hs {es:Es Fn}(p8:uw G P O X k es){l:List Expr}{pos:Pos}{f:Value}{nz:List PV}(W:Wk X k j Z env A s H U Y)(he:rX mI mZ O es U Y=some (nz,σ'))(hc:qd G P es j Z env.scope l=true){Q:Args->Shared->Prop}
  (h:∀vs s' φ',Sg X s H σ' s' φ'->Wk X k j Z env A s' φ' U σ'->l6 s'.heap φ' nz vs->Q ⟨vs,[]⟩ s') :
  ag (ah X.prog X.w) A (evalArgs f true (dD pos (cQ l env)) []) Q mR s:=by
 have key:=p8 j Z l env A s H U Y nz σ' pos W he hc
 have om:=AP hc;cases l with
 |nil =>
  refine lJ ?_;cases es with
  |nil=>cases he;exact h [] s H (Sg.refl W.R) W rfl
  |cons e es=>exact El.bf hc
 |cons x r =>
  refine El.nL om λh1 h2=>?_;rw[wK h1] at key⊢;exact hY (ay key (λvs s' z=>z.elim λφ' z=>h vs s' φ' z.1 (W.sg z.1) z.2) λ_ _ e=>e)
theorem HO (ho:qu X O k){f:Fn}{args:List PV}{r:PV}(he:O f args Y=some (r,σ'))(hr:yv A k)(B:Base X s.heap)(R:Rel X s.heap H Y){vs:List Value}(hv:l6 s.heap H args vs){Q:Value->Shared->Prop}
  (h:∀v s' φ',Sg X s H σ' s' φ'->VR s'.heap φ' r v->Q v s'):ag (ah X.prog X.w) A (call (.ref (X.fn f)) vs) Q mR s :=
 wpAny_call (dF (ho f args Y r σ' he A s H vs hr B R hv) λq s' z=>El.tT z λv φ' e sg hv=>by cases e;exact h v s' φ' sg hv)
theorem aaX (OK:Ok X G P)(ho:qu X O k){es:Es Fn}(f:Fn)(p8:uw G P O X k es):mH G P O X k (.call f es):=λm _ _ _ _ _ _ _ _ _ _ _ W he hc =>
 adz hc λp l pos hg hp hc=>m_ he λvs σ₁ h1 he=>m_ he λr σ₂ h2 h3=>qM (σ':=σ₂) rfl (Call_ (Hr OK W.B W.F hg (OK.gf f (List.contains_iff_mem.mp hp))
  (hZ (P:=λh=>X.K.In h) (by rw[plain_any (AP hc)];rfl) (keeps_K (OK.kf f)) (Hs p8 W h1 hc λus s' φ' sg W' yV=>⟨W'.B.tZ OK.cls,HO ho h2 W'.r.room W'.B W'.R yV λv s2 φ2 oy hv=>⟨φ2,r,sg.trans oy,hv,h3⟩⟩))))
theorem zt {us:List Value}{vs:List PV}{h:Heap}{H:lV}(yV:l6 h H vs us)(hlen:vs.length<=1000):us.length<=sizeLine/\vs.length<=2^20:=⟨yV.len▸ae hlen (by decide),ae hlen (by decide)⟩
theorem adN {es:Es Fn}(p8:uw G P O X k es):mH G P O X k (.tup es):=λm _ _ _ _ _ _ _ _ _ _ _ W he hc =>
 af2 hc λl n pos hc=>m_ he λvs σ₁ h1 h2=>El.it h2 λhlen h2=>qM (σ':=σ₁) rfl (wpAny_Tuple (ay (p8 _ _ _ _ _ _ _ _ _ _ _ _ W h1 hc) (λus s' z=>z.elim λφ' z =>
  have pu:=Pu.push s' {cls:=.type "tuple",data:=.seq us.toArray} s'.toks
  ⟨(zt z.2 hlen).1,q0 z.1 h2 _ _ pu (.vk ⟨_,bp _ rfl,rfl,_,rfl⟩ (pu.p2 z.1.rel z.2) (zt z.2 hlen).2)⟩) λ_ _ e=>e))
theorem aaY {es:Es Fn}(p8:uw G P O X k es):mH G P O X k (.list es):=λm _ _ _ _ _ _ _ _ _ _ _ W he hc =>
 adx hc λl pos hc=>m_ he λvs σ₁ h1 h2=>El.it h2 λhlen h2=>qM (σ':=σ₁) rfl (wpAny_List (ay (p8 _ _ _ _ _ _ _ _ _ _ _ _ W h1 hc) (λus s' z=>z.elim λφ' z =>
  have pu:=Pu.push s' {cls:=.type "list",data:=.seq us.toArray} s'.toks
  ⟨(zt z.2 hlen).1,q0 z.1 h2 _ _ pu ⟨_,us,rfl,⟨_,bp _ rfl,rfl,_,rfl⟩,z.1.rel.fresh,pu.p2 z.1.rel z.2,(zt z.2 hlen).2⟩⟩) λ_ _ e=>e))
theorem Oa {o:Obj}{mo:mC}(B:Base X s.heap)(R:Rel X s.heap H Y)(ho:o.isFreed=false)
  (new:∀h',h'=s.heap.push o->(∀{q:PV} {v:Value},VR s.heap H q v->VR h' (H.add (s.heap.objs.size,s.heap.objs.size)) q v)->(∀{l:List PV} {vs:List Value},l6 s.heap H l vs->l6 h' (H.add (s.heap.objs.size,s.heap.objs.size)) l vs)->h'.get? s.heap.objs.size=some o->OR X h' (H.add (s.heap.objs.size,s.heap.objs.size)) (s.heap.objs.size,s.heap.objs.size) mo) :
  Sg X s H (Y++[mo]) {s with heap:=s.heap.push o} (H.add (s.heap.objs.size,s.heap.objs.size)) :=
 have nl:¬mL s.heap s.heap.objs.size:=mL.fresh _
 have g:Gr s.heap H (s.heap.push o) (H.add (s.heap.objs.size,s.heap.objs.size)):=⟨λb o' e _ _=>bO _ e,λb z=>z.elim λo' e=>⟨o',bO _ e⟩,rfl,[(s.heap.objs.size,s.heap.objs.size)],rfl,λq hq=>by cases List.mem_singleton.mp hq;exact⟨nl,nl⟩⟩
 have z:=R.join B (p:=(s.heap.objs.size,s.heap.objs.size)) (h':=s.heap.push o) (λb o' e=>bO _ e) ⟨nl,nl⟩
  (new _ rfl (λx=>x.grow g R.nC) (λx=>x.grow g R.nC) (bp _ ho))
 ⟨z.1,z.2,rfl,rfl⟩
theorem Eu {H:lV}{p:Addr×Addr}(h:H.l.length=Y.length):(H.add p).l[Y.length]? =some p:=by
 show(H.l++[p])[Y.length]? =some p;rw[← h,ee (aB _),e_];rfl
theorem VR.zW {h:Heap}{H:lV}{n:Nat}{p:Addr×Addr}(e:H.l[n]? =some p):VR h H (.loc n) (.ref p.1):=⟨p,e,rfl⟩
theorem Y9 {es:Es Fn}(p8:uw G P O X k es):mH G P O X k (.qB es):=λm _ _ _ _ _ _ _ _ _ _ _ W he hc =>
 aaR hc λl pos hc=>m_ he λvs σ₁ h1 h2=>by
  by_cases hl:(m||decide (1000<vs.length))=true
  ·exact El.nn ((lW hl).symm.trans h2)
  ·have h9:some (qX true vs σ₁)=some _:=(lX hl).symm.trans h2;cases m with
   |true=>exact absurd rfl hl
   |false =>
    have hlen:vs.length<=1000:=b8 λq=>hl (mY q);cases h9;refine wpAny_List (ay (p8 _ _ _ _ _ _ _ _ _ _ _ _ W h1 hc) (λus s' z=>z.elim λφ' z=>⟨(zt z.2 hlen).1,?_⟩) λ_ _ e=>e)
    have sj:=Oa (o:={cls:=.type "list",data:=.seq us.toArray}) (mo:=.list vs) (W.B.sg W.R z.1) z.1.rel rfl λh' e gr xC ho=>⟨rfl,us,⟨_,ho⟩,xC z.2,(zt z.2 hlen).2⟩;exact⟨_,z.1.trans sj,.zW (Eu z.1.rel.len)⟩
theorem aaZ (d:DK):mH G P O X k (.dict d):=λm _ _ _ _ _ _ _ _ _ _ _ W he hc=>ady hc λpos=>by
 cases m with
 |true=>exact El.nn he
 |false =>
  cases he;refine wpAny_Dict_empty ?_;have sj:=Oa (o:={cls:=.type "dict",data:=.dict #[]}) (mo:=Mine.Internal.emptyDict d) W.B W.R rfl λh' e gr xC ho=>by
   have ex:({cls:=.type "dict",data:=.dict #[]}:Obj).ExactDict:=⟨rfl,rfl,rfl⟩;cases d with
   |I=>exact⟨rfl,[],⟨_,#[],ho,ex,rfl,λe he=>by simp at he,.nil,dv⟩,rfl,rfl⟩
   |S=>exact⟨rfl,[],⟨_,#[],0,ho,ex,rfl,λe he=>by simp at he,.nil,dv⟩,rfl,rfl⟩
   |T=>exact⟨rfl,[],⟨_,#[],0,ho,ex,rfl,rfl,λx hx=>by simp at hx,dv⟩,rfl,rfl⟩
  exact⟨_,sj,.zW (Eu W.R.len)⟩
theorem zG {y:Expr}{v:PV}{σ₁:St}(ih:mH G P O X k e)(W:Wk X k j Z env A s H U Y)(h1:mU mI mZ O e false U Y=some (v,σ₁))(hc:ma G P e j Z env.scope y=true)(om:notStar y=true){f:Value}{Q:Args->Shared->Prop}{pos:Pos}
  (h:∀u s' φ',Sg X s H σ₁ s' φ'->Rel X s'.heap φ' σ₁->VR s'.heap φ' v u->Q ⟨[u],[]⟩ s'):ag (ah X.prog X.w) A (evalArgs f true (dD pos (cQ [y] env)) []) Q mR s:=by
 rw[wK om];exact hY (spliced_cons (ih.then W h1 hc λu s' φ' sg W' hu=>spliced_nil (h u s' φ' sg W'.R hu)))
theorem af_ (OK:Ok X G P){e:E Fn}(b:BI)(ih:mH G P O X k e):mH G P O X k (.bi b e):=λm _ _ _ env _ _ _ _ _ _ _ W he hc =>
 ahO hc λp y pos hg oZ om=>m_ he λv σ₁ h1 he=>El.bd he λr h2 h3=>by
  have Ab:∀pos,(dD pos (cQ [y] env)).any (·.1)=false:=λpos=>plain_any (by show(notStar y&&true)=true;rw[om];rfl);refine qM (σ':=σ₁) rfl (Call_ (LG OK W.B W.F hg (OK.gn b) (OK.bb b) ?_));cases b with
  |len=>exact fL (Ab _) (zG ih W h1 oZ om λu s' φ' sg R' hu=>afO R' hu h2 λw pd pu hw=>q0 sg h3 w pd pu hw)
  |sorted=>exact fL (Ab _) (zG ih W h1 oZ om λu s' φ' sg R' hu=>Y2 R' W.r.hh hu h2 λw pd pu hw=>q0 sg h3 w pd pu hw)
  |all=>exact fL (Ab _) (zG ih W h1 oZ om λu s' φ' sg R' hu=>afQ W.r.hh hu h2 λw pd pu hw=>q0 sg h3 w pd pu hw)
  |any=>exact fL (Ab _) (zG ih W h1 oZ om λu s' φ' sg R' hu=>afR W.r.hh hu h2 λw pd pu hw=>q0 sg h3 w pd pu hw)
  |tuple=>exact h_ (Ab _) (zG ih W h1 oZ om λu s' φ' sg R' hu=>aaL R' hu h2 λw pd pu hw=>q0 sg h3 w pd pu hw)
  |str=>exact h_ (Ab _) (zG ih W h1 oZ om λu s' φ' sg R' hu=>afP hu h2 λw pd pu hw=>q0 sg h3 w pd pu hw)
end
section
variable {G:List (String×PV)}{P:List Fn}{O:oh Fn}{X:Cx}{k:Nat}
variable {A:aA}{env:Env}{s s':Shared}{H φ':lV}{U:Loc}{Y σ' sG:St}{pv:PV}{Z:List af}{j:Nat}{x:Expr}{e:E Fn}
def VQ (X:Cx)(s:Shared)(H:lV)(σ':St)(pv:PV)(v:Value)(s':Shared):Prop:=∃φ',Sg X s H σ' s' φ'/\VR s'.heap φ' pv v
def TQ (X:Cx)(s:Shared)(H:lV)(σ':St)(pv:PV)(b:Bool)(s':Shared):Prop:=∃φ',Sg X s H σ' s' φ'/\pv=.bool b
theorem VQ.after (sg:Sg X s H Y s' φ'){v:Value}{s2:Shared}(h:VQ X s' φ' σ' pv v s2):VQ X s H σ' pv v s2:=h.elim λφ2 z=>⟨φ2,sg.trans z.1,z.2⟩
theorem TQ.after (sg:Sg X s H Y s' φ'){b:Bool}{s2:Shared}(h:TQ X s' φ' σ' pv b s2):TQ X s H σ' pv b s2:=h.elim λφ2 z=>⟨φ2,sg.trans z.1,z.2⟩
theorem VQ.of {v:PV}{u:Value}(e:some (v,Y)=some (pv,σ'))(sg:Sg X s H Y s' φ')(hu:VR s'.heap φ' v u):VQ X s H σ' pv u s':=by cases e;exact⟨φ',sg,hu⟩
theorem TQ.of {v:PV}{c:Bool}(e:some (v,Y)=some (pv,σ'))(sg:Sg X s H Y s' φ')(hv:v=.bool c):TQ X s H σ' pv c s':=by cases e;exact⟨φ',sg,hv⟩
theorem Ob {v:PV}{b c:Bool}(hv:v=.bool c)(h:truthy Y v=some b):c=b:=by subst hv;exact aq h
variable (G P O X k) in
def BY (es:Es Fn):Prop:=∀(op:BoolOp) (m:Bool) (j:Nat) (Z:List af) (l:List Expr) (env:Env) (A:aA) (s:Shared) (H:lV) (U:Loc) (Y:St) (pv:PV) (σ':St) (pos:Pos),
 Wk X k j Z env A s H U Y->yx mI mZ O op es m U Y=some (pv,σ')->qd G P es j Z env.scope l=true ->
 if m then∀whole,ag (ah X.prog X.w) A (isTrue (.BoolOp op l pos) env whole) (TQ X s H σ' pv) mR s
 else ag (ah X.prog X.w) A (aH (.BoolOp op l pos) env) (VQ X s H σ' pv) mR s
theorem Xh:BY G P O X k .nil:=λ_ _ _ _ _ _ _ _ _ _ _ _ _ _ _ he _=>El.nn he
theorem VV {e:E Fn}{es:Es Fn}(ih:mH G P O X k e)(p8:BY G P O X k es):BY G P O X k (.cons e es):=λop m _ _ l _ _ s H _ _ pv σ' pos W he hc=>EN hc λx r hs yW r9=>by
 cases es with
 |nil =>
  refine uv r9 ?_;cases m with
  |false=>exact BoolOp_one (ih.val W he yW)
  |true =>
   intro whole;cases op with
   |And=>exact isTrue_and (ay (ih.CV W he yW) (λb s' h=>by cases b with|true=>exact isTrue_and_nil h|false=>exact h) λ_ _ e=>e)
   |Or=>exact isTrue_or (ay (ih.CV W he yW) (λb s' h=>by cases b with|true=>exact h|false=>exact isTrue_or_nil h) λ_ _ e=>e)
 |cons e' Kc =>
  have he:(mU mI mZ O e m _ _).bind (λx=>(truthy x.2 x.1).bind λb=>if b=(op==.Or) then some x else yx mI mZ O op (.cons e' Kc) m _ x.2)=some (pv,σ'):=he;refine El.bd he λq h1 h=>El.bd h λb h2 h3=>?_;obtain⟨v,σ₁⟩:=q;obtain⟨y,r',rfl⟩:∃y r',r=y::r':=EN r9 λy r' _ _ _=>⟨y,r',rfl⟩;cases m with
  |false =>
   have rest:∀{s' φ'},Sg X s H σ₁ s' φ'->yx mI mZ O op (.cons e' Kc) false _ σ₁=some (pv,σ')->ag (ah X.prog X.w) _ (aH (.BoolOp op (y::r') pos) _) (VQ X s H σ' pv) mR s':=λsg h =>
    ay (p8 op false _ _ (y::r') _ _ _ _ _ _ _ _ pos (W.sg sg) h r9) (λ_ _ z=>z.after sg) λ_ _ e=>e
   cases op with
   |And=>exact BoolOp_and (ih.then W h1 yW λu s' φ' sg W' hu=>D3 W'.R hu h2 λt=>by cases b with|true=>exact rest (sg.then (Pu.toks s' t)) h3|false=>exact .of h3 (sg.then (Pu.toks s' t)) hu)
   |Or=>exact BoolOp_or (ih.then W h1 yW λu s' φ' sg W' hu=>D3 W'.R hu h2 λt=>by cases b with|false=>exact rest (sg.then (Pu.toks s' t)) h3|true=>exact .of h3 (sg.then (Pu.toks s' t)) hu)
  |true =>
   intro whole;have rest:∀{s' φ'},Sg X s H σ₁ s' φ'->yx mI mZ O op (.cons e' Kc) true _ σ₁=some (pv,σ')->ag (ah X.prog X.w) _ (isTrue (.BoolOp op (y::r') pos) _ whole) (TQ X s H σ' pv) mR s':=λsg h =>
    ay (p8 op true _ _ (y::r') _ _ _ _ _ _ _ _ pos (W.sg sg) h r9 whole) (λ_ _ z=>z.after sg) λ_ _ e=>e
   cases op with
   |And=>exact isTrue_and (ih.yh W h1 yW λc s' φ' hv sg W'=>by rw[← Ob hv h2] at h3;cases c with|true=>exact rest sg h3|false=>exact .of h3 sg hv)
   |Or=>exact isTrue_or (ih.yh W h1 yW λc s' φ' hv sg W'=>by rw[← Ob hv h2] at h3;cases c with|false=>exact rest sg h3|true=>exact .of h3 sg hv)
theorem aga {es:Es Fn}(op:BoolOp)(p8:BY G P O X k es):mH G P O X k (.bo op es):=λm _ _ _ _ _ _ _ _ _ _ _ W he hc=>ahN hc λl pos wy=>by
 have:=p8 op m _ _ _ _ _ _ _ _ _ _ _ pos W he wy;cases m with
 |false=>exact this
 |true=>exact this _
def LQ (X:Cx)(k j:Nat)(Z:List af)(env:Env)(A:aA)(s:Shared)(H:lV)(U:Loc)(Y:St)(w:PV)(b:Value)(c:Bool)(c':Value)(s3:Shared):Prop :=
 c'=.bool c/\∃φ3,Sg X s H Y s3 φ3/\Wk X k j Z env A s3 φ3 U Y/\VR s3.heap φ3 w b
theorem aa0 {a b c:E Fn}(op uW:CmpOp)(vI:mH G P O X k a)(rn:mH G P O X k b)(vJ:mH G P O X k c):mH G P O X k (.wg op uW a b c):=λm j Z _ env A s H U _ pv σ' W he hc =>
 adw hc λl r t pos hs oZ qi tX=>m_ he λv σ₁ h1 he=>m_ he λw σ₂ h2 he=>El.bd he λr1 h3 h4=>by
  have hm:lastMarks [op,uW] [r,t]=false:=G0 (op:=uW) hs;have first:ag (ah X.prog X.w) A (aH l env) (λa' s₁=>ag (ah X.prog X.w) A (aH r env) (λb' s₂=>ag (ah X.prog X.w) A (a_ op a' b') (LQ X k j Z env A s H U σ₂ w b' r1) mR s₂) mR s₁) mR s :=
   vI.yi rn W h1 h2 oZ qi λu u2 s2 φ2 oy W2 hu pR=>Iz W2.R hu pR h3 W2.r.Aw λt'=>⟨rfl,φ2,oy.then (Pu.toks s2 t'),W2.sg (Sg.pu W2.R (Pu.toks s2 t')),(Pu.toks s2 t').vr W2.R pR⟩
  cases r1 with
  |true =>
   refine m_ h4 λz σ₃ h5 h4=>El.bd h4 λr2 h6 h7=>?_;have second:∀{Q:Value->Shared->Prop} {b' s3 φ3},Sg X s H σ₂ s3 φ3->Wk X k j Z env A s3 φ3 U σ₂->VR s3.heap φ3 w b'->(∀s4 φ4,Sg X s H σ₃ s4 φ4->Q (.bool r2) s4) ->
     ag (ah X.prog X.w) A (aH t env) (λc' s₁=>ag (ah X.prog X.w) A (a_ uW b' c') Q mR s₁) mR s3:=λsg W3 hb h =>
    vJ.then W3 h5 tX λu s' φ' oy W' hu=>Iz W'.R (mQ.vr W3.R (.none _ _) oy hb) hu h6 W'.r.Aw λt'=>h _ φ' ((sg.trans oy).then (Pu.toks s' t'))
   cases m with
   |false =>
    exact kB (ay first (λa' s₁ h=>chain_link (ay h (λb' s₂ h=>ay h (λc' s₃ h=>by
     obtain⟨rfl,φ3,sg,W3,hb⟩:=h;exact c9 (chain_last (second sg W3 hb λs4 φ4 Ax=>VQ.of h7 Ax rfl))) λ_ _ e=>e) λ_ _ e=>e)) λ_ _ e=>e) hm
   |true =>
    exact isTrue_chain (ay first (λa' s₁ h=>test_link (ay h (λb' s₂ h=>ay h (λc' s₃ h=>by
     obtain⟨rfl,φ3,sg,W3,hb⟩:=h;exact c9 (test_last (second sg W3 hb λs4 φ4 Ax=>c9 (TQ.of h7 Ax rfl)))) λ_ _ e=>e) λ_ _ e=>e)) λ_ _ e=>e) hm
  |false =>
   cases m with
   |false =>
    exact kB (ay first (λa' s₁ h=>chain_link (ay h (λb' s₂ h=>ay h (λc' s₃ h=>by
     obtain⟨rfl,φ3,sg,_⟩:=h;exact c9 (VQ.of h4 sg rfl)) λ_ _ e=>e) λ_ _ e=>e)) λ_ _ e=>e) hm
   |true =>
    exact isTrue_chain (ay first (λa' s₁ h=>test_link (ay h (λb' s₂ h=>ay h (λc' s₃ h=>by
     obtain⟨rfl,φ3,sg,_⟩:=h;exact c9 (TQ.of h4 sg rfl)) λ_ _ e=>e) λ_ _ e=>e)) λ_ _ e=>e) hm
@[elab_as_elim] theorem agb {n:String}{v:PV}{u:Value}{g:Fn}(OK:Ok X G P)(R:Rel X s.heap H Y)(e:ql mI Y n v=some g)(x:VR s.heap H v u){Q:PV->Value->Prop}
  (k:∀nn pp c es kk,H.l[nn]? =some pp->InstAt s.heap pp.1 (b_ (X.cls c) pp.2) (X.cls c) (some (dictOf es kk))->bk X.K (.ref (X.cls c)) (nm n)=some (some (.ref (X.fn g)))->d4 X.K (.ref (X.fn g))=some (.type "function")->cv (nm n) es=some none->Q (.loc nn) (.ref pp.1)):Q v u:=by
 cases v with
 |loc nn =>
  refine R.uA x e λpp o hp _ y e=>?_;cases o with
  |inst c fs =>
   refine y.Iw λy1 y2 Ke kk y3 hf hn=>?_;have mm:=OK.ml c n g e;refine k nn pp c Ke kk hp ⟨y1,rfl,rfl,y3⟩ mm.1 mm.2 (El.n3 (H8 n fs hf) λo e1 Av=>?_);cases ho:o with
   |none=>rw[e1,ho]
   |some w =>
    subst ho;cases hq:fs.find? λp=>decide (p.1=n) with
    |none=>rw[hq] at Av;exact Av.elim
    |some q =>
     have R6:=hn q (cU hq);rw[show q.1=n from l9 (cH (p:=λp:String×PV=>decide (p.1=n)) hq),mm.1] at R6;cases R6
  |_=>exact El.nn e
 |_=>exact El.nn e
theorem aa1 (OK:Ok X G P)(ho:qu X O k){o:E Fn}{es:Es Fn}(n:String)(ih:mH G P O X k o)(p8:uw G P O X k es):mH G P O X k (.nA o n es):=λm _ _ _ env A s H U _ pv σ' W he hc =>
 adA hc λb p l q hp hl hlen qi r9=>m_ he λv σ₁ h1 he=>El.bd he λg h2 he=>m_ he λvs σ₂ h3 he=>m_ he λr σ₃ h4 h5=>by
  refine qM (σ':=σ₃) rfl ?_;rw[arm_eval_Call,C5 hp];have om:=AP r9;have ahP:kD (l.length+([]:List Keyword).length) (dD q (cQ l env)) (backToKw q (keywordEach [] env))=true:=by
   unfold kD;rw[plain_all om];exact mY (show l.length+0+0<30 from hlen)
  have ajl:kE true b env p q=pure q:=by unfold kE;simp[hl]
  refine aj (ih.then W h1 qi λu s' φ' sg W' hu=>aj (eN ?_));revert h4;refine agb OK W'.R h2 hu λnn pp c Ke kk vK I mf mt wz h4=>?_;unfold methodCall;rw[ahP];refine aj (dB (method_fn (W'.B.tZ OK.cls) I (OK.cls.ga c) (OK.nga c) mf mt (by show(cv (nm n) Ke).map _=_;rw[wz];rfl) (aj (wpAny_of_eq ajl ?_))));exact hZ (P:=λh=>X.K.In h) (by rw[plain_any om];rfl) (keeps_K (OK.kf g)) (Hs p8 W' h3 r9 λus s2 φ2 oy W2 yV=>⟨W2.B.tZ OK.cls,
   HO ho h4 W2.r.room W2.B W2.R (.sX (.zW (oy.gr.ke _ _ vK)) yV) λw s3 φ3 sP hw=>⟨φ3,r,(sg.trans oy).trans sP,hw,h5⟩⟩)
theorem agc {kk d r:PV}{n:Nat}{a:Addr×Addr}{u z:Value}(R:Rel X s.heap H Y)(hp:H.l[n]? =some a)(y:VR s.heap H kk u)(zz:VR s.heap H d z)(e:zR Y kk d (.loc n)=some r) :
  ∃b k' xs,u=.ref b/\(sm X.prog X.w).is s.heap k' b/\s.heap.DictOfH (sm X.prog X.w) a.1 xs/\VR s.heap H r (((c_ xs k').map (·.2)).getD z):=El.n3 (R.get hp) λo ho x=>by
 have e:(Y[n]?).bind (Qg kk d)=some r:=e;rw[ho] at e;cases o with
 |pn l =>
  refine El.it e λuU e=>El.n3 (EL (X:=X) y uU) λb hb rC=>x.z_ λ_ xs hd hk hv=>⟨b,kk,xs,hb,rC,hd,?_⟩;cases e;have ov:=J5 kk hk hv;cases q:(l.find? λp=>decide (p.1=kk)).map (·.2) with
  |none =>
   rw[q] at ov;cases q2:(c_ xs kk).map (·.2) with
   |none=>exact zz
   |some _=>rw[q2] at ov;exact ov.elim
  |some p=>exact ov.get q (P:=λo=>VR s.heap H p (o.getD z)) λv hv=>hv
 |_=>exact El.nn e
@[elab_as_elim] theorem agd {v:PV}{u:Value}(R:Rel X s.heap H Y)(e:zw Y v=true)(x:VR s.heap H v u){Q:PV->Value->Prop}
  (k:∀nn pp xs,H.l[nn]? =some pp->s.heap.DictOfH (sm X.prog X.w) pp.1 xs->Q (.loc nn) (.ref pp.1)):Q v u:=by
 cases v with
 |loc nn =>
  refine x.zU λpp vK=>El.n3 (R.get vK) λo ho y=>?_;change (match Y[nn]? with|some (.pn _)=>true|_=>false)=true at e;rw[ho] at e;cases o with
  |pn l=>exact y.z_ λ_ xs hd _ _=>k nn pp xs vK hd
  |_=>exact El.bf e
 |_=>exact El.bf e
theorem aa2 {o q d:E Fn}(ih:mH G P O X k o)(ihq:mH G P O X k q)(ihd:mH G P O X k d):mH G P O X k (.wh o q d):=λm _ _ _ env A s H U _ pv σ' W he hc =>
 adB hc λb p y z pos hp hl qi hcq wC R7 tY=>m_ he λv σ₁ h1 h2=>El.it h2 λhT h2=>m_ h2 λkv σ₂ h3 h2=>m_ h2 λdv σ₃ h4 h2=>El.bd h2 λr h5 h6=>by
  refine qM (σ':=σ₃) rfl (wpAny_Call_method (T:="dict") (id:="dict.get") (C5 hp) ?_ hl PySem.F.plainAttrs_dict PySem.F.slot_dict_get PySem.F.type_dict_get (ih.then W h1 qi λu s' φ' sg W' hu=>?_))
  ·rw[plain_all (by show(notStar y&&(notStar z&&true))=true;rw[R7,tY];rfl)];rfl
  ·revert h5;refine agd W'.R hT hu λnn pp xs vK hd h5=>?_;have ho:∃o,s'.heap.get? pp.1=some o/\o.ExactDict:=hd.elim λo hd=>hd.elim λ_ hd=>hd.elim λ_ hd=>⟨o,hd.1,hd.2.1⟩;refine⟨ho.elim λo z=>⟨o,z.1,z.2.1⟩,λa' e=>by cases e;exact ho.elim λo z=>⟨o,z.1,z.2.2.1⟩,?_⟩;rw[wK R7,wK tY];refine wpAny_dict_get2_heap (knd:=sm X.prog X.w) (Gs W.r.Aw) (W'.R.BJ (bj vK)) (ihq.yi ihd W' h3 h4 hcq wC λu2 u3 s3 φ3 sP W3 pR Kf=>?_);exact El.Q0 (agc W3.R (sP.gr.ke _ _ vK) pR Kf h5) λb' k' xs' e1 e2 e3 e4=>⟨b',k',xs',e1,e2,e3,q0 (sg.trans sP) h6 _ _ (Pu.toks s3 _) e4⟩
theorem Y_ {c:Value}{us:List Value}(r:tI A k j):yv (A.under (.builtin "type.__call__" ⟨c::us,[]⟩)) k:=by
 have hw:(eO "type.__call__" ⟨c::us,[]⟩).weight<=2:=by
  show _+_+_+_<=2;have a1:(eO "type.__call__" ⟨c::us,[]⟩).frames=0:=rfl;have a2:(eO "type.__call__" ⟨c::us,[]⟩).isGuard=false:=by show guardIds.contains "type.__call__"=false;decide
  have a3:(eO "type.__call__" ⟨c::us,[]⟩).isCaller=false:=rfl;rw[a1,a2,a3]
  split<;>simp
 have h1:=r.d;have h2:=r.u;exact⟨r.hh,(by show A.depth+(eO "type.__call__" ⟨c::us,[]⟩).weight+12*k+10<=1000;lia),by show A.units+1+40*k+100<cLine;lia⟩
theorem Za (B:Base X s.heap)(R:Rel X s.heap H Y)(c:n_) :
  Sg X s H (Y++[.inst c []]) {s with heap:=(s.heap.push eP).push (b_ (X.cls c) s.heap.objs.size)} (H.add (s.heap.objs.size+1,s.heap.objs.size)) :=
 have hx:((s.heap.push eP).push (b_ (X.cls c) s.heap.objs.size)).get? (s.heap.objs.size+1)=some (b_ (X.cls c) s.heap.objs.size) :=
  kF s.heap eP▸bp (s.heap.push eP) (o:=b_ (X.cls c) s.heap.objs.size) rfl
 have z:=R.join B (p:=(s.heap.objs.size+1,s.heap.objs.size)) (o:=.inst c []) (h':=(s.heap.push eP).push (b_ (X.cls c) s.heap.objs.size)) (λb o e=>bO _ (bO _ e)) ⟨mL.Ep (eh _),mL.fresh _⟩
  ⟨hx,aZ (ia _),[],0,bO _ (bp _ rfl),rfl,λf hf=>nomatch hf⟩
 ⟨z.1,z.2,rfl,rfl⟩
theorem adO (OK:Ok X G P)(ho:qu X O k){es:Es Fn}(c:n_)(p8:uw G P O X k es):mH G P O X k (.new c es):=λm _ _ _ env A s H U _ pv σ' W he hc =>
 af3 hc λp l pos hg wy=>m_ he λvs σ₁ h1 he=>m_ he λr σ₂ h2 h3=>El.it h3 λhm h3=>by
  obtain⟨rfl,rfl⟩:=hm;cases h3;refine Call_ (Hr OK W.B W.F hg (OK.gc c) (hZ (P:=λh=>X.K.In h) (by rw[plain_any (AP wy)];rfl) (keeps_K (OK.kc c)) (Hs p8 W h1 wy λus s' φ' sg W' yV=>⟨W'.B.tZ OK.cls,wpAny_call ?_⟩)));have KI:=W'.B.tZ OK.cls;obtain⟨hi,ht⟩:=OK.qI c;refine make_core (makes_of KI (OK.mkc c)) (looks_findIn KI hi) (λself=>bind_fn KI self ht) (.inl rfl) ?_;have Gy:=Za W'.B W'.R c;have QM:=Eu (p:=(s'.heap.objs.size+1,s'.heap.objs.size)) W'.R.len;refine dF (ho (mZ c) (.loc σ₁.length::vs) (σ₁++[.inst c []]) .none _ h2 _ _ _ _ (Y_ W.r) (Sg.base W'.R Gy W'.B) Gy.rel (.sX (.zW QM) (mQ.p2 W'.R (.none _ _) Gy yV))) λq s2 z=>El.tT z λv φ2 e oy hv=>?_;cases e;cases(show v=.none from hv);exact⟨rfl,φ2,(sg.trans Gy).trans oy,.zW (oy.gr.ke _ _ QM)⟩
end
section
variable {X:Cx}{A:aA}{env:Env}{s:Shared}{H:lV}{U ρ':Loc}{Y:St}{Z:List af}{E:Value->Shared->Prop}
theorem DD {i:Nat}{id:af}(h:xT Z env.scope i id=true):Means Z i id/\(env.kindOf id=some .local\/env.kindOf id=some .cell) :=
 qh h λh1 h2 h3=>⟨⟨l9 h1,M8 h2⟩,((bM _ _).mp h3).imp l9 l9⟩
@[elab_as_elim] theorem ID {sc:Scope}{i:Nat}{is:List Nat}{l:List Expr}(h:u6 Z sc (i::is) l=true){Q:List Expr->Prop}(k:∀id pos es,xT Z sc i id=true->u6 Z sc is es=true->Q (.Name id pos::es)):Q l :=
 (adq h).elim λid z=>z.elim λpos z=>z.elim λes z=>z.1▸k id pos es z.2.1 z.2.2
theorem VW {ex:Addr->Prop}(hx:∀b,ex b->pG env b)(is:List Nat):∀{es:List Expr} {xs:List PV} {vs:List Value} {s:Shared} {U:Loc} {Q:Unit->Shared->Prop},u6 Z env.scope is es=true->(∀id pos,kG id pos∈es->∀b,PU env id b->ex b)->l6 s.heap H xs vs->bindAll is xs U=some ρ'->Rel X s.heap H Y->FR X env Z s.heap H U ->
  (∀s',mQ ex X s H Y s' H->FR X env Z s'.heap H ρ'->Q () s')->ag (ah X.prog X.w) A (assignInOrder ((dg es env).map (·.2)) vs) Q E s:=by
 induction is with
 |nil =>
  intro es xs vs s U Q hc _ hv hb R F h;cases xs with
  |nil =>
   cases(show vs=[] from hv);cases hb;exact uv hc (wpAny_assignInOrder_none (h s (mQ.refl R) F))
  |cons p xs=>exact El.nn hb
 |cons i is ih =>
  intro es xs vs s U Q hc he hv hb R F h;cases xs with
  |nil=>exact El.nn hb
  |cons p xs =>
   refine El.tT hv λv r e hv1 vB=>?_;subst e;revert he;refine ID hc λid pos es td rM he=>wpAny_assignInOrder_more (kH (F.store R (DD td).1 hv1 (DD td).2 λs1 sg F1=>?_));have Ay:mQ ex X s H Y s1 H:=sg.weaken λb _ e=>he id pos (aG ..) b e;have ok:pQ ex s.heap H:=λb e=>F.s8 b (hx b e);exact ih rM (λid pos hm=>he id pos (aE _ hm)) (mQ.p2 R ok Ay vB) hb sg.rel F1 λs2 oy F2=>h s2 (Ay.trans oy) F2
theorem Xi (is:List Nat):∀{es:List Expr},u6 Z env.scope is es=true->(dg es env).length=is.length/\(dg es env).findIdx? (·.1)=none:=by
 induction is with
 |nil=>intro es hc;exact uv hc ⟨rfl,rfl⟩
 |cons i is ih =>
  intro es hc;refine ID hc λid pos es td rM=>?_;have h:=ih rM;exact⟨lT (·+1) h.1,by show((false,_)::dg es env).findIdx? (·.1)=none;rw[List.findIdx?_cons,h.2];rfl⟩
theorem VY (is:List Nat):∀{xs:List PV} {U ρ':Loc},bindAll is xs U=some ρ'->is.length=xs.length:=by
 induction is with
 |nil=>intro xs _ _ h;cases xs with|nil=>rfl|cons _ _=>exact El.nn h
 |cons i is ih=>intro xs U ρ' h;cases xs with|nil=>exact El.nn h|cons _ _=>exact lT (·+1) (ih h)
def qP (env:Env)(target:Expr)(b:Addr):Prop:=b=env.locals\/∃x∈oV target,env.kindOf x=some .cell/\env.cells.lookup x=some b
theorem qP.vp {target:Expr}{b:Addr}(h:qP env target b):pG env b:=h.elim .inl λz=>z.elim λx z=>.inr ⟨x,z.2.2⟩
theorem Ew (hh:A.handled=none){t:Tg}{target:Expr}{x:PV}{v:Value}{Q:Unit->Shared->Prop}(hc:qq Z env.scope t target=true)(hv:VR s.heap H x v)(hb:p3 t x U=some ρ')(R:Rel X s.heap H Y)(F:FR X env Z s.heap H U)
  (h:∀s',mQ (qP env target) X s H Y s' H->FR X env Z s'.heap H ρ'->Q () s'):ag (ah X.prog X.w) A (bP target env v) Q E s:=by
 cases t with
 |v i =>
  cases hb;revert h;refine El.uC (IB hc) λid pos e hc h=>?_;subst e;exact kH (F.store R (DD hc).1 hv (DD hc).2 λs' sg=>h s' (sg.weaken λb _ e=>e.elim .inl λe=>.inr ⟨id,kI _,e⟩))
 |t is =>
  cases x with
  |tup xs =>
   revert h;refine El.FZ (IC hc) λes k pos e r9 h=>hv.p6 λa vs hT hs hlen=>?_;subst e;have en:=Xi (env:=env) is r9;refine wpAny_assign_Tuple hh hT (by rw[en.1,bF,hs.len];exact VY is hb) en.2 λh' ext=>?_;have pu:Pu s {s with heap:=h'}:=⟨λb o e=>ext b o (aZ (cM e)) e,rfl,rfl⟩;have CW:=Sg.pu R pu;exact VW (ex:=qP env (.Tuple es k pos)) (λb e=>qP.vp e) is r9 (λid p hm b e=>e.elim .inl λe=>.inr ⟨id,List.mem_filterMap.mpr ⟨_,hm,rfl⟩,e⟩) (pu.p2 R hs) hb CW.rel (F.sg R CW) λs2 oy F2=>h s2 (CW.wide.trans oy) F2
  |_=>exact El.nn hb
theorem Mm (l:List Expr)(c:Nat)(p:Pos){I:Addr}{v:Value}{o:Obj}{n:String}{fs:Array Value}{Q:Unit->Shared->Prop}(ho:s.heap.get? I=some o)(hc:o.cls=.type n)(hd:o.data=.fields fs)
  (hn:(["enumerate","zip","dict_itemiterator","dict_reverseitemiterator","odict_iterator","itertools.zip_longest","itertools.pairwise"].contains n)=false) (h:Q () s):ag (ah X.prog X.w) A (d5 (.Tuple l c p) (.ref I) v) Q E s:=by
 cases v with
 |ref a =>
  refine aj (wpAny_load ho ?_);rw[hc,hd];show ag _ A (if(_&&_)=true then _ else _) Q E s;rw[hn,Bool.false_and,lX (by decide)];exact aw h
 |_=>exact aw h
theorem zb {target:Expr}{I:Addr}{v:Value}{o:Obj}{n:String}{fs:Array Value}{Q:Unit->Shared->Prop}(ho:s.heap.get? I=some o)(hc:o.cls=.type n)(hd:o.data=.fields fs)
  (hn:(["enumerate","zip","dict_itemiterator","dict_reverseitemiterator","odict_iterator","itertools.zip_longest","itertools.pairwise"].contains n)=false) (h:Q () s):ag (ah X.prog X.w) A (d5 target (.ref I) v) Q E s:=by
 cases target with
 |Tuple l c p=>exact Mm l c p ho hc hd hn h
 |List l p=>exact Mm l 0 p ho hc hd hn h
 |_=>exact aw h
theorem oL.letGo {src:Src}{all:List PV}{I:Addr}{i:Nat}(x:oL X s.heap H src all I i){target:Expr}{v:Value}{Q:Unit->Shared->Prop}(h:Q () s):ag (ah X.prog X.w) A (d5 target (.ref I) v) Q E s:=by
 cases x.k with
 |lst _ _ it=>exact it.elim λ_ z=>zb z.1 z.2.1 z.2.2 (by decide) h
 |tup _ _ it=>exact it.elim λ_ z=>zb z.1 z.2.1 z.2.2 (by decide) h
 |loc _ _ _ _ it=>exact it.elim λ_ z=>zb z.1 z.2.1 z.2.2 (by decide) h
 |keys _ _ _ _ it=>exact it.elim λ_ z=>zb z.1 z.2.1 z.2.2 (by decide) h
 |range _ _ it=>exact zb it rfl rfl (by decide) h
 |str _ _ _ _ it=>exact it.elim λ_ z=>zb z.1 z.2.1 z.2.2 (by decide) h
noncomputable def qH (env:Env):List (af×NameKind)->List (af×Addr)->List (af×Addr)
 |[],acc=>acc
 |x::r,acc=>if x.2==.free then(match env.cells.lookup x.1 with|some c=>qH env r ((x.1,c)::acc)|none=>qH env r acc) else qH env r acc
theorem Ht {x:af×NameKind}{r:List (af×NameKind)}{acc:List (af×Addr)}{c:Addr}(h:(x.2==bY)=true)(hc:env.cells.lookup x.1=some c):qH env (x::r) acc=qH env r ((x.1,c)::acc):=by
 show(if _ then(match env.cells.lookup x.1 with|some c=>_|none=>_) else _)=_;rw[lW h,hc]
theorem Mn {x:af×NameKind}{r:List (af×NameKind)}{acc:List (af×Addr)}(h:(x.2==bY)=true)(hc:env.cells.lookup x.1=none):qH env (x::r) acc=qH env r acc:=by
 show(if _ then(match env.cells.lookup x.1 with|some c=>_|none=>_) else _)=_;rw[lW h,hc]
theorem HP {x:af×NameKind}{r:List (af×NameKind)}{acc:List (af×Addr)}(h:¬(x.2==bY)=true):qH env (x::r) acc=qH env r acc:=lX h
theorem Xj (env:Env)(names:List (af×NameKind)):∀(acc:List (af×Addr)),(∀x∈names,x.2=.free->∃c,env.cells.lookup x.1=some c) ->
  (forIn names acc (λx cs=>match x with|(name,kind)=>if(kind==.free)=true then(do let a ← cellOf env name;pure (bW ((name,a)::cs))) else pure (bW cs)):bA (List (af×Addr)))=pure (qH env names acc):=by
 induction names with
 |nil=>intro acc _;rw[fM];rfl
 |cons x r ih =>
  intro acc h;have hr:∀x∈r,x.2=.free->∃c,env.cells.lookup x.1=some c:=λx hx=>h x (aE _ hx);rw[dz];by_cases hk:(x.2==bY)=true
  ·obtain⟨c,hc⟩:=h x (aG ..) (beq_iff_eq.mp hk);rw[Ht hk hc];show(if(x.2==bY)=true then _ else _)>>=_=_;rw[lW hk];unfold cellOf;rw[hc];simp only[pure_bind];exact ih _ hr
  ·rw[HP hk];show(if(x.2==bY)=true then _ else _)>>=_=_;rw[lX hk,pure_bind];exact ih _ hr
theorem Te {scope:Scope}(h:∀x∈scope.names,x.2=.free->∃c,env.cells.lookup x.1=some c):closureFor scope env=pure (qH env scope.names []):=by
 have:=Xj env scope.names [] h;unfold closureFor;simp only[bind_pure];exact this
def xf (env:Env)(acc:List (af×Addr)):Prop:=∀n c,acc.lookup n=some c->env.cells.lookup n=some c
theorem xf.cons {acc:List (af×Addr)}{m:af}{c0:Addr}(h:xf env acc)(hc:env.cells.lookup m=some c0):xf env ((m,c0)::acc):=λn c e=>by
 rw[cw] at e;by_cases q:(n==m)=true
 ·rw[q] at e;cases e;rw[beq_iff_eq.mp q];exact hc
 ·rw[ew] at q;rw[q] at e;exact h n c e
theorem aa3 (names:List (af×NameKind)):∀{acc:List (af×Addr)},xf env acc->xf env (qH env names acc):=by
 induction names with
 |nil=>exactλh=>h
 |cons x r ih =>
  intro acc h;by_cases hk:(x.2==bY)=true
  ·cases hc:env.cells.lookup x.1 with
   |some c=>rw[Ht hk hc];exact ih (h.cons hc)
   |none=>rw[Mn hk hc];exact ih h
  ·rw[HP hk];exact ih h
theorem aa4 (names:List (af×NameKind)):∀{acc:List (af×Addr)} {n:af} {c:Addr},xf env acc->env.cells.lookup n=some c->((n,bY)∈names\/(acc.lookup n).isSome=true)->(qH env names acc).lookup n=some c:=by
 induction names with
 |nil =>
  intro acc n c ha hc hm;refine hm.elim (λhm=>nomatch hm) λhm=>(Option.isSome_iff_exists.mp hm).elim λc' e=>?_;show acc.lookup n=some c;rw[e,← hc,ha n c' e]
 |cons x r ih =>
  intro acc n c ha hc hm;by_cases hk:(x.2==bY)=true
  ·cases CX:env.cells.lookup x.1 with
   |some c0 =>
    rw[Ht hk CX];refine ih (ha.cons CX) hc ?_;by_cases q:(n==x.1)=true
    ·exact .inr (by rw[cw,q];rfl)
    ·rw[ew] at q;refine hm.imp (λhm=>(List.mem_cons.mp hm).elim (λe=>?_) id) λhm=>by rw[cw,q];exact hm
     rw[← e,beq_self_eq_true] at q;cases q
   |none =>
    rw[Mn hk CX];exact ih ha hc (hm.imp (λhm=>(List.mem_cons.mp hm).elim (λe=>by rw[← e,hc] at CX;cases CX) id) id)
  ·rw[HP hk];exact ih ha hc (hm.imp (λhm=>(List.mem_cons.mp hm).elim (λe=>absurd (by rw[← e];rfl) hk) id) id)
end
section
variable {G:List (String×PV)}{P:List Fn}{O:oh Fn}{X:Cx}{k:Nat}
variable {A:aA}{env:Env}{s:Shared}{H:lV}{U:Loc}{Y σ':St}{Z:List af}{j:Nat}
theorem VR.bound {h:Heap}{p:PV}{v:Value}{l:List PV}(R:Rel X h H Y)(x:VR h H p v)(e:ug Y p=some l):l.length<=2^20:=by
 cases p with
 |tup k=>cases e;exact x.p6 λ_ _ _ _ hb=>hb
 |lst k=>cases e;exact x.qF λ_ _ _ _ _ hb=>hb
 |str t=>exact El.it e λ_ e=>by cases e;exact a8 rfl
 |loc n=>exact R.qF x e λ_ _ _ _ _ _ _ hb e=>by cases e;exact hb
 |_=>exact El.nn e
def IQ (X:Cx)(s:Shared)(H:lV)(σ':St)(src:Src)(all:List PV)(r:Value)(s₂:Shared):Prop:=∃I φ',r=.ref I/\Sg X s H σ' s₂ φ'/\¬mL s.heap I/\I∉φ'.g/\oL X s₂.heap φ' src all I 0/\oD σ' src=some all/\all.length<=2^20
variable (G P O X k) in
def wb (it:It Fn):Prop:=∀(j:Nat) (Z:List af) (x:Expr) (env:Env) (A:aA) (s:Shared) (H:lV) (U:Loc) (Y:St) (src:Src) (all:List PV) (σ':St),
 Wk X k j Z env A s H U Y->z3 mI mZ O it U Y=some (src,all,σ')->vm G P it j Z env.scope x=true ->
 ag (ah X.prog X.w) A (aH x env) (λv s₁=>ag (ah X.prog X.w) A (dZ v) (IQ X s H σ' src all) mR s₁) mR s
theorem zc {s':Shared}{φ':lV}{σ':St}(R:Rel X s.heap H Y)(sg:Sg X s H σ' s' φ'){a:Addr}(h:¬mL s'.heap a):¬mL s.heap a:=λx=>h (sg.gr.live a x)
theorem aa5 {e:E Fn}(ih:mH G P O X k e):wb G P O X k (.e e):=λ_ _ _ _ _ _ _ _ _ _ _ _ W he hc =>
 ny hc λ_ hc=>m_ he λv σ₁ h1 he=>El.bd he λl h2 he=>by
  cases he;exact ih.then W h1 hc λu s' φ' sg W' hu=>adl W'.R hu h2 λs2 pu it=>⟨_,φ',rfl,sg.then pu,zc W.R sg (mL.fresh _),(W'.R.clear (mL.fresh _)).2,it,h2,hu.bound W'.R h2⟩
theorem aa6 {v:PV}{l:List PV}(e:w4 Y v=some l):l.length<=2^20:=by
 cases v with
 |loc n =>
  refine El.bd e λo _ e=>?_;cases o with
  |pk l =>
   refine El.it e λh e=>?_;cases e;rw[au];exact h
  |_=>exact El.nn e
 |_=>exact El.nn e
theorem aa7 {e:E Fn}(ih:mH G P O X k e):wb G P O X k (.d e):=λ_ _ _ _ _ _ _ _ _ _ _ _ W he hc =>
 ny hc λ_ hc=>m_ he λv σ₁ h1 he=>El.bd he λl h2 he=>by
  cases he;exact ih.then W h1 hc λu s' φ' sg W' hu=>adm W'.R hu h2 λs2 pu it=>⟨_,φ',rfl,sg.then pu,zc W.R sg (mL.fresh _),(W'.R.clear (mL.fresh _)).2,it,h2,aa6 h2⟩
theorem U4 (OK:Ok X G P){e:E Fn}(ih:mH G P O X k e):wb G P O X k (.range e):=λ_ _ _ env _ _ _ _ _ _ _ _ W he hc =>
 M7 hc λp y pos hg hc om=>m_ he λv σ₁ h1 h2=>by
  cases v with
  |int n =>
   refine El.it h2 λhn h2=>El.nL hn λn0 n1=>?_;cases h2;refine Call_ (LG OK W.B W.F hg OK.gr OK.br (h_ (plain_any (by show(notStar y&&true)=true;rw[om];rfl)) ?_));rw[wK om];exact hY (spliced_cons (ih.then W h1 hc λu s' φ' sg W' hu=>spliced_nil (Uu W'.R hu (l9 n0) (l9 n1) λI s2 pu nl it=>⟨I,φ',rfl,sg.then pu,zc W.R sg nl,(W'.R.clear nl).2,it,rfl,by
    rw[Ha];exact Int.toNat_le.mpr (dW (l9 n1) (by decide))⟩)))
  |_=>exact El.nn h2
end
noncomputable def lV.ghost (H:lV)(D:Addr):lV:=⟨H.l,D::H.g⟩
section
variable {X:Cx}{h h':Heap}{H:lV}{Y:St}{D:Addr}
theorem Ex (nl:¬mL h D)(k:∀b o,h.get? b=some o->h'.get? b=some o)(a:Addr)(l_:Array Value)(t:h.IsList a l_)(c:Clear H a):h'.IsList a l_/\Clear (H.ghost D) a :=
 t.elim λo t=>⟨⟨o,k _ _ t.1,t.2⟩,c.1,λhm=>(List.mem_cons.mp hm).elim (λe=>nl ⟨o,e▸t.1⟩) c.2⟩
theorem M9 (nl:¬mL h D)(k:∀b o,h.get? b=some o->h'.get? b=some o){p:PV}{v:Value}(x:VR h H p v):VR h' (H.ghost D) p v:=VR.sY (λa l_ t=>t.keeps k) (Ex nl k) (λn p e=>e) x
theorem Hu (nl:¬mL h D)(k:∀b o,h.get? b=some o->h'.get? b=some o){p:List PV}{v:List Value}(x:l6 h H p v):l6 h' (H.ghost D) p v:=l6.sY (λa l_ t=>t.keeps k) (Ex nl k) (λn p e=>e) x
theorem Rel.ghost (R:Rel X h H Y)(nl:¬mL h D)(k:∀b o,h.get? b=some o->h'.get? b=some o)(lv:mL h' D):Rel X h' (H.ghost D) Y :=
 ⟨R.len,λn p o e1 e2=>(R.obj n p o e1 e2).grow R.nC (λob e=>k _ _ e) (λob e=>k _ _ e) (λx=>M9 nl k x) (λx=>Hu nl k x) λa l_ t=>t.keeps k,R.apart,R.above,
  λb hb=>(List.mem_cons.mp hb).elim (λe=>e▸lv) λhb=>(R.ti b hb).elim λo e=>⟨o,k _ _ e⟩⟩
theorem LH {g:List Addr}(hg:H.g=D::g)(a:Addr)(l_:Array Value)(t:h.IsList a l_)(c:Clear H a):h.IsList a l_/\Clear ⟨H.l,g⟩ a:=⟨t,c.1,λhm=>c.2 (hg▸aE _ hm)⟩
theorem Xk {g:List Addr}(hg:H.g=D::g){p:PV}{v:Value}(x:VR h H p v):VR h ⟨H.l,g⟩ p v:=VR.sY (λa l_ t=>t) (LH hg) (λn p e=>e) x
theorem Lj {g:List Addr}(hg:H.g=D::g){p:List PV}{v:List Value}(x:l6 h H p v):l6 h ⟨H.l,g⟩ p v:=l6.sY (λa l_ t=>t) (LH hg) (λn p e=>e) x
theorem Rel.adP {g:List Addr}(R:Rel X h H Y)(hg:H.g=D::g):Rel X h ⟨H.l,g⟩ Y :=
 ⟨R.len,λn p o e1 e2=>(R.obj n p o e1 e2).grow R.nC (λob e=>e) (λob e=>e) (λx=>Xk hg x) (λx=>Lj hg x) λa l_ t=>t,R.apart,R.above,λb hb=>R.ti b (hg▸aE _ hb)⟩
theorem D5 {I:Addr}(R:Rel X h H Y)(ap:Apart H I)(ng:I∉H.g)(ok:pQ (λb=>b=I) h H)(k:∀b o,b≠I->h.get? b=some o->h'.get? b=some o) :
  Rel X h' H Y/\(∀{p:PV} {v:Value},VR h H p v->VR h' H p v)/\(∀{p:List PV} {v:List Value},l6 h H p v->l6 h' H p v):=by
 have kt:∀a l_,aN h a l_->aN h' a l_:=λa l_ t=>t.elim λo z=>⟨o,k _ _ (λe=>(ok a e).1 _ t) z.1,z.2⟩
 have kl:∀a l_,h.IsList a l_->Clear H a->h'.IsList a l_/\Clear H a:=λa l_ t c=>t.elim λo z=>⟨⟨o,k _ _ (λe=>(ok a e).2.elim (λq=>q _ t) c.2) z.1,z.2⟩,c⟩
 have vr:∀{p:PV} {v:Value},VR h H p v->VR h' H p v:=λx=>x.sY kt kl λ_ _ e=>e
 have p2:∀{p:List PV} {v:List Value},l6 h H p v->l6 h' H p v:=λx=>x.sY kt kl λ_ _ e=>e;exact⟨⟨R.len,λn p o e1 e2=>(R.obj n p o e1 e2).grow R.nC (λob e=>k _ _ (ap p (bj e1)).1 e) (λob e=>k _ _ (ap p (bj e1)).2 e) vr p2 kt,R.apart,R.above,
  λb hb=>(R.ti b hb).elim λo e=>⟨o,k _ _ (λq=>ng (q▸hb)) e⟩⟩,vr,p2⟩
end
theorem Zb {X:Cx}{ex:Addr->Prop}{s₀ s₁:Shared}{φ₀ φ':lV}{σ':St}{I:Addr}{h':Heap}{tk:Nat}(sg:mQ ex X s₀ φ₀ σ' s₁ φ')(hex:∀b,mL s₀.heap b->¬ex b)(nI:¬mL s₀.heap I)(R:Rel X h' φ' σ')
  (k:∀b o,b≠I->s₁.heap.get? b=some o->h'.get? b=some o):Sg X s₀ φ₀ σ' {s₁ with heap:=h',toks:=tk} φ' :=
 ⟨R,⟨λb o e ap _=>k b o (λq=>nI ⟨o,q▸e⟩) (sg.gr.keep b o e ap (hex b ⟨o,e⟩)),λb x=>(sg.gr.live b x).elim λo e=>⟨o,k b o (λq=>nI (q▸x)) e⟩,sg.gr.gh,sg.gr.ext⟩,sg.gens,sg.os⟩
section
variable {prog:Program}{w:az}{A:aA}{R:cR->Shared->Prop}{s:Shared}
theorem KX {elt target iter:Expr}{ifs:List Expr}{scope:Scope}{pos:Pos}{it acc:Value}{env:Env}
  (h:ag (ah prog w) A (fI it) (λr s₁=>match r with
   |none=>R (.ok .next) s₁
   |some v=>ag (ah prog w) A (d5 target it v) (λ_ yX=>ag (ah prog w) A (bP target env v) (λ_ s₂ =>
     ag (ah prog w) A (forIn ifs true λc r=>if r=true then do let ok ← isTrue c env (aH c env);pure (bW ok) else pure (bW r)) (λok s₃ =>
      if ok=true then ag (ah prog w) A (aH elt env) (λx s₄ =>
       ag (ah prog w) A (call (.builtin "list.append") [acc,x]) (λ_ s₅=>dc (ah prog w) A (.compLoop (.ListComp elt [⟨target,iter,ifs,0⟩] scope pos) 0 it acc env) R s₅) mR s₄) mR s₃
      else dc (ah prog w) A (.compLoop (.ListComp elt [⟨target,iter,ifs,0⟩] scope pos) 0 it acc env) R s₃) mR s₂) mR yX) mR s₁) mR s) :
  dc (ah prog w) A (.compLoop (.ListComp elt [⟨target,iter,ifs,0⟩] scope pos) 0 it acc env) R s:=by
 refine kJ ?_;show ag _ A ((compTurn (.ListComp elt [⟨target,iter,ifs,0⟩] scope pos) 0 it acc env).onRaise (λx=>do noteFrame x env;kK x)) _ _ s;refine wpAny_noted ?_;rw[compTurn_list];refine aj (eN (aj (ay h (λr s₁ h₁=>?_) λ_ _ h'=>h'.elim)));cases r with
 |none=>exact aw h₁
 |some v =>
  refine aj (ay h₁ (λ_ yX h₁=>?_) λ_ _ h'=>h'.elim);refine aj (ay h₁ (λ_ s₂ h₂=>aj (ay h₂ (λok s₃ h₃=>?_) λ_ _ h'=>h'.elim)) λ_ _ h'=>h'.elim);cases ok with
  |false=>exact aw ⟨rfl,h₃⟩
  |true =>
   exact aj (aj (ay h₃ (λx s₄ h₄=>aj (ay h₄ (λ_ s₅ h₅=>aw (aw ⟨rfl,h₅⟩)) λ_ _ h'=>h'.elim)) λ_ _ h'=>h'.elim))
end
noncomputable def wq:Data->Bool|.fields _=>true|.seq _ _=>true|_=>false
noncomputable def R8:Data->Bool|.seq _ _=>true|_=>false
noncomputable def QN:Value->Bool|.type n=>n=="list"|_=>false
section
variable {X:Cx}{env:Env}{Z:List af}{h:Heap}{H:lV}{U:Loc}
theorem M_ {a:Addr}{o o':Obj}{G:Prop}(e:h.get? a=some o)(e':h.get? a=some o')(f:Obj->Bool)(x:f o=true)(y:f o'=false):G:=El.tf ((x.symm.trans (lT f (aq (e.symm.trans e')))).trans y)
theorem ahQ {a:Addr}{m:af->Option Value}{o:Obj}(x:h.Ns a m)(e:h.get? a=some o):wq o.data=false :=
 El.FZ x λo' _ _ e' d=>(lT (λo=>wq o.data) (aq (e.symm.trans e'))).trans (lT wq d.1)
theorem adQ {a:Addr}{u:Option Value}{o:Obj}(x:h.IsCell a u)(e:h.get? a=some o):wq o.data=false :=
 x.elim λo' z=>(lT (λo=>wq o.data) (aq (e.symm.trans z.1))).trans (lT wq z.2)
theorem FR.ajm {b:Addr}{o:Obj}(F:FR X env Z h H U)(x:pG env b)(e:h.get? b=some o):wq o.data=false :=
 x.elim (λq=>F.loc.elim λm z=>ahQ z.1 (q▸e)) λz=>z.elim λn hc=>(F.sN n b hc).elim λu hu=>adQ hu e
theorem FR.less {ρ₂:Loc}(F:FR X env Z h H U)(hl:ρ₂.length=U.length)(k:∀(i:Nat) (v:PV),ρ₂[i]? =some (some v)->U[i]? =some (some v)):FR X env Z h H ρ₂ :=
 {F with len:=hl.trans F.len,loc:=F.loc.imp λm z=>⟨z.1,λi x v a b c=>z.2 i x v a (k i v b) c⟩,t4:=λi x v a b d=>F.t4 i x v a (k i v b) d}
theorem FR.QO {I:Addr}{o:Obj}(F:FR X env Z h H U)(e:h.get? I=some o)(d:wq o.data=true):∀b,pG env b->b≠I:=λb x q=>El.bf ((F.ajm x (q▸e)).symm.trans d)
theorem FR.aa8 {I:Addr}{o:Obj}{fs:Array Value}(F:FR X env Z h H U)(e:h.get? I=some o)(d:o.data=.fields fs):∀b,pG env b->b≠I:=F.QO e (lT wq d)
theorem FR.yw {src:Src}{all:List PV}{I:Addr}{i:Nat}(F:FR X env Z h H U)(it:oL X h H src all I i):∀b,pG env b->b≠I:=El.uC it.fields λ_ _ e d=>F.aa8 e d
theorem FR.P0 {D:Addr}{l_:Array Value}(F:FR X env Z h H U)(hp:h.PlainList D l_):∀b,pG env b->b≠D:=hp.elim λ_ e=>F.QO e rfl
theorem aa9 {I D:Addr}{l_:Array Value}{o:Obj}{fs:Array Value}(hp:h.PlainList D l_)(e:h.get? I=some o)(d:o.data=.fields fs):D≠I:=λq=>hp.elim λn e'=>M_ (q▸e') e (λo=>R8 o.data) rfl (lT R8 d)
theorem Hb {src:Src}{all:List PV}{I D:Addr}{l_:Array Value}{i:Nat}(hp:h.PlainList D l_)(it:oL X h H src all I i):D≠I:=El.uC it.fields λ_ _ e d=>aa9 hp e d
theorem LI {D:Addr}{l_:Array Value}(hp:h.PlainList D l_)(hg:D∈H.g):pQ (λb=>b=D) h H:=λb e=>⟨λal7 t=>hp.elim λn e'=>t.elim λo z =>
 M_ (e▸e') z.1 (λo=>QN o.cls) rfl (lT QN z.2.1),.inr (e▸hg)⟩
theorem LJ {D:Addr}{l_:Array Value}(hp:h.PlainList D l_):mL h D:=hp.elim λ_ e=>⟨_,e⟩
theorem Xl {ex:Addr->Prop}{h':Heap}{φ':lV}{D:Addr}{l_:Array Value}(hp:h.PlainList D l_)(g:oE ex h H h' φ')(ap:Apart H D)(ne:¬ex D):h'.PlainList D l_:=hp.imp λn e=>g.keep _ _ e ap ne
end
section
variable {X:Cx}{A:aA}
def CY (mN:Env)(D I:Addr)(b:Addr):Prop:=b=mN.locals\/b=D\/b=I
structure CL (X:Cx)(mN:Env)(Γ':List af)(src:Src)(all:List PV)(I D:Addr)(U:Loc)(i:Nat)(s:Shared)(H:lV)(Y:St)(us:List Value)(nz:List PV):Prop where
 B:Base X s.heap
 R:Rel X s.heap H Y
 F:FR X mN Γ' s.heap H U
 it:oL X s.heap H src all I i
 PL:s.heap.PlainList D us.toArray
 hD:D∈H.g
 ap:Apart H D
 vs:l6 s.heap H nz us
 hs:oD Y src=some all
inductive zX (X:Cx)(mN:Env)(Γ':List af)(ρ0:Loc)(src:Src)(all:List PV)(I D:Addr)(s:Shared)(H:lV)(nz:List PV)(σ':St)(q:cR)(s':Shared):Prop
 |mk (s₁:Shared) (φ':lV) (us:List Value) (h':Heap) (i:Nat) (c:CL X mN Γ' src all I D ρ0 i s₁ φ' σ' us nz) (sg:mQ (CY mN D I) X s H σ' s₁ φ') (hl:us.length<=all.length) (eq:q=.ok .next)
  (es:s'={s₁ with heap:=h'}) (ext:hE I s₁.heap h')
section
variable {mN:Env}{Γ':List af}{src:Src}{all:List PV}{I D:Addr}{U ρ':Loc}{i i':Nat}{s s':Shared}{H φ':lV}{Y σ':St}{us:List Value}{nz:List PV}
theorem CL.turn {ex:Addr->Prop}(c:CL X mN Γ' src all I D U i s H Y us nz)(sg:mQ ex X s H σ' s' φ')(ok:pQ ex s.heap H)(hb:∀b,ex b->X.base.get? b=none)(hs:oD σ' src=some all)(ne:¬ex D)
  (F:FR X mN Γ' s'.heap φ' ρ') (it:oL X s'.heap φ' src all I i'):CL X mN Γ' src all I D ρ' i' s' φ' σ' us nz :=
 ⟨mQ.base c.R sg c.B hb,sg.rel,F,it,Xl c.PL sg.gr c.ap ne,sg.gr.gh.symm▸c.hD,sg.gr.apart c.ap (LJ c.PL),mQ.p2 c.R ok sg c.vs,hs⟩
theorem CL.next (c:CL X mN Γ' src all I D U i s H Y us nz)(vL:X.base.get? I=none)(sg:mQ (λb=>b=I) X s H Y s' H)(it:oL X s'.heap H src all I i'):CL X mN Γ' src all I D U i' s' H Y us nz :=
 c.turn sg c.it.s8 (λb e=>e▸vL) c.hs (Hb c.PL c.it) (c.F.grow sg.gr c.R.nC c.it.s8 (c.F.yw c.it)) it
theorem CL.asg {target:Expr}(c:CL X mN Γ' src all I D U i s H Y us nz)(sg:mQ (qP mN target) X s H Y s' H)(F:FR X mN Γ' s'.heap H ρ'):CL X mN Γ' src all I D ρ' i s' H Y us nz :=
 have ok:pQ (qP mN target) s.heap H:=λb e=>c.F.s8 b (qP.vp e)
 c.turn sg ok (λb e=>c.F.IA b (qP.vp e)) c.hs (λe=>c.F.P0 c.PL _ (qP.vp e) rfl) F (c.it.grow sg.gr c.R.nC ok λe=>c.F.yw c.it _ (qP.vp e) rfl)
theorem CL.sg (c:CL X mN Γ' src all I D U i s H Y us nz)(sg:Sg X s H σ' s' φ')(hs:oD σ' src=some all):CL X mN Γ' src all I D U i s' φ' σ' us nz :=
 c.turn sg (.none _ _) (λ_ e=>e.elim) hs id (c.F.sg c.R sg) (c.it.grow sg.gr c.R.nC (.none _ _) id)
theorem CL.less (c:CL X mN Γ' src all I D U i s H Y us nz)(hl:ρ'.length=U.length/\∀(i:Nat) (v:PV),ρ'[i]? =some (some v)->U[i]? =some (some v)):CL X mN Γ' src all I D ρ' i s H Y us nz :=
 {c with F:=c.F.less hl.1 hl.2}
theorem CL.sF {h5:Heap}(c:CL X mN Γ' src all I D U i s H Y us nz){l_:Array Value}(PL:h5.PlainList D l_)(sb:cb D s.heap h5):mQ (λb=>b=D) X s H Y {s with heap:=h5} H :=
 EM (tk:=s.toks) c.R c.ap (LI c.PL c.hD) sb (LJ PL)
theorem CL.app {h5:Heap}{u:Value}{pv:PV}(c:CL X mN Γ' src all I D U i s H Y us nz)(Kg:X.base.get? D=none)(PL:h5.PlainList D (us.toArray.push u))(sb:cb D s.heap h5)(hu:VR s.heap H pv u) :
  CL X mN Γ' src all I D U i {s with heap:=h5} H Y (us++[u]) (nz++[pv]) :=
 have ok:=LI c.PL c.hD
 have sg:=c.sF PL sb
 ⟨mQ.base c.R sg c.B λb e=>e▸Kg,sg.rel,c.F.grow sg.gr c.R.nC ok (c.F.P0 c.PL),c.it.grow sg.gr c.R.nC ok λe=>Hb c.PL c.it e.symm,j8 us u▸PL,c.hD,c.ap,
  (mQ.p2 c.R ok sg c.vs).append (l6.sX (mQ.vr c.R ok sg hu) rfl),c.hs⟩
theorem zX.pre {ρ0:Loc}{q:cR}{s2:Shared}{σ₁:St}(sg:mQ (CY mN D I) X s H σ₁ s' φ')(h:zX X mN Γ' ρ0 src all I D s' φ' nz σ' q s2):zX X mN Γ' ρ0 src all I D s H nz σ' q s2:=by
 cases h with|mk s₁ Kh us h' i c Ay hl eq es ext=>exact⟨s₁,Kh,us,h',i,c,sg.trans Ay,hl,eq,es,ext⟩
end
@[reducible] noncomputable def FT (ifs:List Expr)(mN:Env):bA Bool:=forIn ifs true λc r=>if r=true then do let ok ← isTrue c mN (aH c mN);pure (bW ok) else pure (bW r)
def Fv (X:Cx)(A:aA)(elt:Expr)(mN:Env)(s:Shared)(H:lV)(σ₁:St):Option PV->Bool->Shared->Prop
 |none,ok,s₃=>ok=false/\∃φ',Sg X s H σ₁ s₃ φ'
 |some pv,ok,s₃=>ok=true/\ag (ah X.prog X.w) A (aH elt mN) (λu s₄=>∃φ',Sg X s H σ₁ s₄ φ'/\VR s₄.heap φ' pv u) mR s₃
structure CH (X:Cx)(A:aA)(mN:Env)(Γ':List af)(ρ0:Loc)(t:Tg)(target elt:Expr)(ifs:List Expr)(I D:Addr)(all:List PV)(g:Loc->St->Option (Option PV×St)):Prop where
 hh:A.handled=none
 hx:∀b,qP mN target b->b=mN.locals
 pe:qq Γ' mN.scope t target=true
 I3:∀x ρ₂,p3 t x ρ0=some ρ₂->ρ0.length=ρ₂.length/\∀(i:Nat) (v:PV),ρ0[i]? =some (some v)->ρ₂[i]? =some (some v)
 vL:X.base.get? I=none
 Kg:X.base.get? D=none
 hlen:all.length<=2^20
 ts:∀ρ₂ s H Y r σ₁,Base X s.heap->Rel X s.heap H Y->FR X mN Γ' s.heap H ρ₂->g ρ₂ Y=some (r,σ₁)->ag (ah X.prog X.w) A (FT ifs mN) (Fv X A elt mN s H σ₁ r) mR s
@[elab_as_elim] theorem VZ {src:Src}{all:List PV}{f:PV->St->Option (Option PV×St)}{x:PV}{xs:List PV}{Y:St}{r:List PV×St}(e:vV src all f (x::xs) Y=some r){P:List PV×St->Prop}
  (k:∀o σ₁ rs σ₂,f x Y=some (o,σ₁)->oD σ₁ src=some all->vV src all f xs σ₁=some (rs,σ₂)->P (o.toList++rs,σ₂)):P r :=
 m_ e λo σ₁ h1 e=>El.it e λh2 e=>m_ e λrs σ₂ h3 e=>by
  cases o with
  |some v=>exact El.sj e (k _ _ _ _ h1 h2 h3)
  |none=>exact El.sj e (k _ _ _ _ h1 h2 h3)
theorem Mo {V:Type}{all xs:List V}{i:Nat}{x:V}(hd:all.drop i=x::xs){G:Prop}(k:all[i]? =some x->all.drop (i+1)=xs->i+1<=all.length->G):G :=
 have h:all[i]? =some x:=by
  have:(all.drop i)[0]? =some x:=by rw[hd];rfl
  rwa[kz,iF] at this
 k h (by rw[← kM (i:=1) (j:=i) (l:=all),hd];rfl) (List.getElem?_eq_some_iff.mp h).1
theorem Na {V:Type}{all:List V}{i:Nat}(hd:all.drop i=[])(hi:i<=all.length):i=all.length:=eA hi (List.drop_eq_nil_iff.mp hd)
section
variable {mN:Env}{Γ':List af}{ρ0:Loc}{t:Tg}{target elt:Expr}{ifs:List Expr}{src:Src}{all:List PV}{I D:Addr}{g:Loc->St->Option (Option PV×St)}
variable (X A mN Γ' ρ0 t target elt ifs src all I D g) in
def Fw (xs:List PV):Prop:=∀(iter:Expr) (mr:Scope) (pos:Pos) (i:Nat) (s:Shared) (H:lV) (Y:St) (us:List Value) (nz:List PV) (r:List PV×St),all.drop i=xs->i<=all.length->us.length<=i ->
 CL X mN Γ' src all I D ρ0 i s H Y us nz->vV src all (λx Y=>(p3 t x ρ0).bind λρ₂=>g ρ₂ Y) xs Y=some r ->
 dc (ah X.prog X.w) A (.compLoop (.ListComp elt [⟨target,iter,ifs,0⟩] mr pos) 0 (.ref I) (.ref D) mN) (zX X mN Γ' ρ0 src all I D s H (nz++r.1) r.2) s
theorem aa_ (ab:CH X A mN Γ' ρ0 t target elt ifs I D all g):Fw X A mN Γ' ρ0 t target elt ifs src all I D g []:=λiter mr pos i s H Y us nz r hd hi hu c he=>by
 cases he;cases Na hd hi;exact KX (N_ ab.hh c.R c.it c.hs λh' ext=>⟨s,H,us,h',_,(bc nz).symm▸c,mQ.refl c.R,hu,rfl,rfl,ext⟩)
theorem aba {n i m:Nat}(h1:n<=i)(h2:i+1<=m)(h3:m<=2^20):n<=16777216:=ae h1 (ae (bE h2) (ae h3 (a8 rfl)))
theorem Zc (ab:CH X A mN Γ' ρ0 t target elt ifs I D all g){x:PV}{xs:List PV}(ih:Fw X A mN Γ' ρ0 t target elt ifs src all I D g xs):Fw X A mN Γ' ρ0 t target elt ifs src all I D g (x::xs) :=
 λiter mr pos i s H Y us nz r hd hi hu c he=>Mo hd λGz hd hi=>VZ he λo σ₁ rs σ₂ h1 uE Az=>El.bd h1 λρ₂ hb hg=>by
  refine KX (N9 c.R c.it c.hs Gz λv s1 AA hv AB=>?_);have c1:=c.next ab.vL AA AB
  refine AB.letGo (Ew ab.hh ab.pe hv hb c1.R c1.F λs2 AD F2=>?_);have c2:=c1.asg AD F2;have QP:mQ (CY mN D I) X s H Y s2 H:=(AA.weaken λb _ e=>.inr (.inr e)).trans (AD.weaken λb _ e=>.inl (ab.hx b e));have hl:=ab.I3 x ρ₂ hb;have ts:=ab.ts ρ₂ s2 H Y o σ₁ c2.B c2.R c2.F hg;clear AA AD AB c1 c hb hg Gz hv F2;refine ay ts (λok s3 z=>?_) λ_ _ e=>e;cases o with
  |none =>
   rw[lX (Bool.eq_false_iff.mp z.1)];exact z.2.elim λφ3 R9=>dF (ih iter mr pos (i+1) s3 φ3 σ₁ us nz (rs,σ₂) hd hi (ef hu) ((c2.sg R9 uE).less hl) Az) λq s' z=>z.pre (QP.trans R9.wide)
  |some pv =>
   rw[lW z.1];refine ay z.2 (λu s4 w=>w.elim λφ4 w=>?_) λ_ _ e=>e;have c4:=c2.sg w.1 uE;refine j7 c4.PL (λh5 R_ sb=>?_) ?_
   ·exact dF (ih iter mr pos (i+1) _ φ4 σ₁ (us++[u]) (nz++[pv]) (rs,σ₂) hd hi (by rw[ar];exact aU hu) ((c4.app ab.Kg R_ sb w.2).less hl) Az) λq s' z =>
     bR nz [pv] rs▸z.pre ((QP.trans w.1.wide).trans ((c4.sF R_ sb).weaken λb _ e=>.inr (.inl e)))
   ·rw[bF,sizeLine_eq];exact aba hu hi ab.hlen
theorem Mp (ab:CH X A mN Γ' ρ0 t target elt ifs I D all g):∀xs,Fw X A mN Γ' ρ0 t target elt ifs src all I D g xs
 |[]=>aa_ ab
 |_::xs=>Zc ab (Mp ab xs)
end
end
theorem Nb {f:af×NameKind->af×NameKind}{g:NameKind->NameKind}{x:af}(h1:∀n k,(f (n,k)).1=n)(h2:∀k,(f (x,k)).2=g k):∀l:List (af×NameKind),(l.map f).lookup x=(l.lookup x).map g
 |[]=>rfl
 |(n,k)::r=>by
  have ih:=Nb h1 h2 r;rw[a9,show f (n,k)=(n,(f (n,k)).2) from Prod.ext (h1 n k) rfl,cw,cw];cases hx:x==n with
  |true =>
   cases eq_of_beq hx;exact lT some (h2 k)
  |false=>exact ih
noncomputable def yY (env:Env)(x:af)(k:NameKind):NameKind:=if(k==bY&&env.scope.kind==.function&&env.kindOf x==some .cell) then fN else k
theorem C9 (mr:Scope)(env:Env)(x:af):(relabel mr env).names.lookup x=(mr.names.lookup x).map (yY env x) :=
 Nb (λn k=>by dsimp only;split<;>rfl) (λk=>by unfold yY;dsimp only;split<;>rfl) mr.names
theorem Zd {env:Env}{x:af}{k:NameKind}(e:yY env x k=.local):k=.local :=
 if h:(k==bY&&env.scope.kind==.function&&env.kindOf x==some .cell)=true then nomatch (lW h).symm.trans e else(lX h).symm.trans e
theorem abb {env:Env}{x:af}{k:NameKind}(e:yY env x k=.free):k=.free :=
 if h:(k==bY&&env.scope.kind==.function&&env.kindOf x==some .cell)=true then nomatch (lW h).symm.trans e else(lX h).symm.trans e
theorem abc {env:Env}{x:af}{k:NameKind}(e:yY env x k=.cell):k=.free\/k=.cell :=
 if h:(k==bY&&env.scope.kind==.function&&env.kindOf x==some .cell)=true then .inl (qh h λh _ _=>eq_of_beq h) else .inr ((lX h).symm.trans e)
structure Ac (Z:List af)(mr sc:Scope)(target:Expr):Prop where
 kind:mr.kind=.function
 Pa:∀x∈mr.names,x.2≠.cell
 loc:∀x∈mr.names,x.2=.local->mr.names.lookup x.1=some .local/\(x.1∈oV target\/x.1∉Z)
 Sa:∀x∈mr.names,x.2=.free->mr.names.lookup x.1=some .free/\(sc.names.lookup x.1=some .cell\/sc.names.lookup x.1=some .free)
 tg:∀x∈oV target,mr.names.lookup x=some .local
theorem P2 {a:Prop}[Decidable a]{b:Bool}(h:(!decide a||b)=true)(x:a):b=true:=by rwa[mY x] at h
theorem adR {Z:List af}{mr sc:Scope}{target:Expr}(h:zq Z mr sc target=true):Ac Z mr sc target :=
 qh h λh1 h2 h3=>⟨l9 h1,λx hx=>qh (List.all_eq_true.mp h2 x hx) λh _ _ e=>El.bf ((lT not (mY e)).symm.trans h),
  λx hx e=>qh (List.all_eq_true.mp h2 x hx) λ_ h _=>ny (P2 h e) λa b=>⟨l9 a,((bM _ _).mp b).imp List.contains_iff_mem.mp λq z=>El.bf ((lT not (List.contains_iff_mem.mpr z)).symm.trans q)⟩,
  λx hx e=>qh (List.all_eq_true.mp h2 x hx) λ_ _ h=>ny (P2 h e) λa b=>⟨l9 a,((bM _ _).mp b).imp l9 l9⟩,
  λx hx=>l9 (List.all_eq_true.mp h3 x hx)⟩
theorem Dp {V:Type}{l:List (af×V)}{n:af}{c:V}(h:l.lookup n=some c):(n,c)∈l:=mem_of_lookup h
section
variable {X:Cx}{env:Env}{Z:List af}{h h':Heap}{H φ₂:lV}{U:Loc}{Y:St}{mr:Scope}{target:Expr}{C:Addr}
theorem Ze (S:Ac Z mr env.scope target){x:af}{cl:List (af×Addr)}(e:(cA mr cl C env).kindOf x=some .local):mr.names.lookup x=some .local :=
 (Option.map_eq_some_iff.mp ((C9 mr env x).symm.trans e)).elim λk z=>z.1.trans (lT some (Zd z.2))
theorem Hc (S:Ac Z mr env.scope target){x:af}{cl:List (af×Addr)}
  (e:(cA mr cl C env).kindOf x=some .cell\/(cA mr cl C env).kindOf x=some .free):mr.names.lookup x=some .free/\(env.kindOf x=some .cell\/env.kindOf x=some .free) :=
 have key:mr.names.lookup x=some .free:=e.elim
  (λe=>(Option.map_eq_some_iff.mp ((C9 mr env x).symm.trans e)).elim λk z=>(abc z.2).elim (λq=>z.1.trans (lT some q)) λq=>(S.Pa (x,k) (Dp z.1) q).elim)
  λe=>(Option.map_eq_some_iff.mp ((C9 mr env x).symm.trans e)).elim λk z=>z.1.trans (lT some (abb z.2))
 ⟨key,(S.Sa _ (Dp key) rfl).2⟩
theorem Bw {V:Type}{U:List (Option V)}{n i:Nat}{v:V}(e:(U++aI n none)[i]? =some (some v)):i<U.length/\U[i]? =some (some v) :=
 if q:i<U.length then⟨q,(bB q).symm.trans e⟩ else by
  rw[ee (b8 q),List.getElem?_replicate] at e;exact El.it e λ_ e=>nomatch e
theorem LK {Δ:List af}{i:Nat}{x:af}(hi:i<Z.length)(hm:Means (Z++Δ) i x):Means Z i x/\x∉Δ:=by
 have h1:=hm.1;have h2:=hm.2;rw[bB hi] at h1;rw[ib hi,iI,not_or] at h2;exact⟨⟨h1,h2.1⟩,h2.2⟩
theorem FR.comp (F:FR X env Z h H U)(S:Ac Z mr env.scope target)(B:Base X h)(hk:∀b o,h.get? b=some o->h'.get? b=some o)(nl:¬mL h C)(hn:h'.Ns C λ_=>none)(ap:Apart φ₂ C)(hl:φ₂.l=H.l)
  (vr:∀{p:PV} {v:Value},VR h H p v->VR h' φ₂ p v):FR X (cA mr (qH env mr.names []) C env) (Z++oV target) h' φ₂ (U++aI (oV target).length none) :=
 have P4:xf env []:=λ_ _ e=>nomatch e
 have old:xf env (qH env mr.names []):=aa3 mr.names P4
 have Cc:∀n c,mr.names.lookup n=some .free->env.cells.lookup n=some c->(qH env mr.names []).lookup n=some c:=λn c e hc=>aa4 mr.names P4 hc (.inl (Dp e))
 have has:∀n,mr.names.lookup n=some .free/\(env.kindOf n=some .cell\/env.kindOf n=some .free)->∃c,(qH env mr.names []).lookup n=some c:=λn z=>(z.2.elim (F.xl n) (F.yt n)).imp λc hc=>Cc n c z.1 hc
 {kind:=S.kind,glob:=F.glob,blt:=F.blt,len:=by rw[ar,ar,kN,F.len]
  loc:=⟨_,hn,λi x v hm hv qJ=>have ahR:=Ze S qJ
   have z:=LK (F.len▸(Bw hv).1) hm
   ((S.loc _ (Dp ahR) rfl).2.elim z.2 λq=>q (bj z.1.1)).elim⟩
  t4:=λi x v hm hv qJ=>have k2:=Hc S qJ
   (F.t4 i x v (LK (F.len▸(Bw hv).1) hm).1 (Bw hv).2 k2.2).imp λc z=>z.imp λu z=>⟨Cc x c k2.1 z.1,zF z.2.1 λo e=>hk _ _ e,vr z.2.2⟩
  sN:=λn c hc=>(F.sN n c (old _ _ hc)).imp λu hu=>zF hu λo e=>hk _ _ e
  inj:=λn n' c a b=>F.inj n n' c (old _ _ a) (old _ _ b)
  sep:=λn c hc e=>(F.sN n c (old _ _ hc)).elim λu hu=>hu.elim λo eo=>have e:c=C:=e;nl ⟨o,e▸eo.1⟩
  xE:=ap
  t5:=λn c hc p hp=>F.t5 n c (old _ _ hc) p (hl▸hp)
  bL:=vO B nl
  bC:=λn c hc=>F.bC n c (old _ _ hc)
  xl:=λn e=>has n (Hc S (.inl e))
  yt:=λn e=>has n (Hc S (.inr e)) }
theorem adS (S:Ac Z mr env.scope target){cl:List (af×Addr)}(b:Addr)(h:qP (cA mr cl C env) target b):b=(cA mr cl C env).locals :=
 h.elim id λz=>z.elim λx z=>(nomatch ((lT (b4 (yY env x)) (S.tg x z.1)).symm.trans ((C9 mr env x).symm.trans z.2.1):some (yY env x .local)=some .cell))
theorem oE.qw {ex:Addr->Prop}{φ' φ₃ φ₄:lV}(g:oE ex h H h' φ')(e1:φ₃.l=H.l)(e2:φ₄.l=φ'.l)(e3:φ₄.g=φ₃.g):oE ex h φ₃ h' φ₄ :=
 ⟨λb o e ap ne=>g.keep b o e (λp hp=>ap p (e1▸hp)) ne,g.live,e3,by rw[e1,e2];exact g.ext⟩
theorem zH {I:Addr}{p:Obj->Prop}(k:∀b o,h.get? b=some o->h'.get? b=some o)(x:∃o,h.get? I=some o/\p o):∃o,h'.get? I=some o/\p o:=x.imp λ_ z=>⟨k _ _ z.1,z.2⟩
theorem oL.ghost {src:Src}{all:List PV}{I D:Addr}{i:Nat}(x:oL X h H src all I i)(nl:¬mL h D)(k:∀b o,h.get? b=some o->h'.get? b=some o):oL X h' (H.ghost D) src all I i:=⟨x.1,by
 cases x.k with
 |lst a vs it ne hl hc hv=>exact .lst a vs (zH k it) ne (Ex nl k _ _ hl hc).1 (Ex nl k _ _ hl hc).2 (Hu nl k hv)
 |tup a vs it ht hv=>exact .tup a vs (zH k it) (zH k ht) (Hu nl k hv)
 |loc n p es ep it=>exact .loc n p es ep (zH k it)
 |keys n p es ep it=>exact .keys n p es ep (zH k it)
 |range n ea it=>exact .range n ea (k _ _ it)
 |str t tk ea hs it=>exact .str t tk ea hs (zH k it)⟩
end
theorem oL.self {X:Cx}{A:aA}{E:Value->Shared->Prop}{s:Shared}{H:lV}{src:Src}{all:List PV}{I:Addr}{i:Nat}(x:oL X s.heap H src all I i){Q:Value->Shared->Prop}(h:Q (.ref I) s):ag (ah X.prog X.w) A (dZ (.ref I)) Q E s:=by
 cases x.k with
 |lst _ _ hit=>exact kO hit h
 |tup _ _ hit=>exact wpAny_pyIter_tupleiter hit h
 |loc _ _ _ _ hit=>exact kO hit h
 |keys _ _ _ _ hit=>exact wpAny_pyIter_keyiter hit h
 |range _ _ hit=>exact wpAny_pyIter_rangeiter hit h
 |str _ _ _ _ hit=>exact wpAny_pyIter_striter_ascii hit h
structure FU (X:Cx)(s:Shared)(H:lV)(σ₂:St)(vs:List PV)(D C:Addr)(s':Shared)(φg:lV)(us:List Value):Prop where
 gr:Gr s.heap H s'.heap ⟨φg.l,H.g⟩
 hg:φg.g=D::H.g
 rel:Rel X s'.heap φg σ₂
 gens:s'.gens=s.gens
 os:s'.os=s.os
 pl:s'.heap.PlainList D us.toArray
 p2:l6 s'.heap φg vs us
 len:us.length<=2^20
 rN:¬mL s.heap D
 rO:¬mL s.heap C
 bD:X.base.get? D=none
 ns:∃m,s'.heap.Ns C m
 t5:Apart φg C
 CZ:C∉φg.g
 Ki:Apart φg D
 Jv:C≠D
section
variable {G:List (String×PV)}{P:List Fn}{O:oh Fn}{X:Cx}{k:Nat}
variable {A:aA}{env:Env}{s:Shared}{H:lV}{U:Loc}{Y σ₁ σ₂:St}{Z:List af}{j:Nat}
structure IE (h h4:Heap)(o:Obj)(m:af->Option Value)(D C:Addr):Prop where
 keep:∀b o,h.get? b=some o->h4.get? b=some o
 rN:¬mL h D
 rO:¬mL h C
 hD:h4.get? D=some o
 ns:h4.Ns C m
 ne:C≠D
theorem age {h h4:Heap}{o o2:Obj}{m:af->Option Value}(hf:o.isFreed=false)(hn:h4.Ns (h.push o).objs.size m)(GA:cb (h.push o).objs.size ((h.push o).push o2) h4):IE h h4 o m h.objs.size (h.push o).objs.size :=
 have hC:(h.push o).objs.size=h.objs.size+1:=kF ..
 {keep:=λb o' e=>GA.extBut b o' (by rw[hC];exact aZ (gD (cM e))) (bO _ (bO _ e))
  rN:=mL.fresh _
  rO:=mL.Ep (by rw[hC];exact eh _)
  hD:=GA.extBut _ _ (by rw[hC];exact aZ (ia _)) (bO _ (bp _ hf))
  ns:=hn
  ne:=by rw[hC];exact(aZ (ia _)).symm }
section
variable {elt target iter:Expr}{ifs:List Expr}{mr:Scope}{pos:Pos}{t:Tg}{src:Src}{all vs:List PV}{g:Loc->St->Option (Option PV×St)}{I D C:Addr}{s2 s':Shared}{h4:Heap}{φ1:lV}{tk:Nat}{q:cR}{Γ':List af}{ρ0:Loc}{mN:Env}{m:af->Option Value}
theorem CL.start (K:IE s2.heap h4 {cls:=.type "list",dict:=none,data:=.seq ([]:List Value).toArray} (λ_=>none) D C)(S:Ac Z mr env.scope target)(B:Base X s2.heap)(R:Rel X s2.heap φ1 σ₁)(F:FR X env Z s2.heap φ1 U)
  (it:oL X s2.heap φ1 src all I 0) (hs:oD σ₁ src=some all) (yZ:(oV target).length=slots t) :
  CL X (cA mr (qH env mr.names []) C env) (Z++oV target) src all I D (U++aI (slots t) none) 0 {s2 with heap:=h4,toks:=tk} (φ1.ghost D) σ₁ [] [] :=
 ⟨⟨λb o e=>K.keep _ _ (B.keep b o e)⟩,R.ghost K.rN K.keep ⟨_,K.hD⟩,yZ▸F.comp S B K.keep K.rO K.ns (R.clear K.rO).1 rfl λx=>M9 K.rN K.keep x,it.ghost K.rN K.keep,⟨0,K.hD⟩,aG ..,(R.clear K.rN).1,rfl,hs⟩
theorem Nc {a:Addr}(e:H.g=D::φ1.g)(n:a≠D)(k:a∉φ1.g):a∉H.g:=λhm=>(List.mem_cons.mp (e▸hm)).elim n k
theorem zX.ajn (sg:Sg X s H σ₁ s2 φ1)(R:Rel X s.heap H Y)(B:Base X s.heap)(t7:¬mL s.heap I)(y4:I∉φ1.g)(K:IE s2.heap h4 {cls:=.type "list",dict:=none,data:=.seq ([]:List Value).toArray} m D mN.locals)(hlen:all.length<=2^20)
  (z:zX X mN Γ' ρ0 src all I D {s2 with heap:=h4,toks:=tk} (φ1.ghost D) vs σ₂ q s') {Q:cR->Prop} (k:∀φ' us,FU X s H σ₂ vs D mN.locals s' φ' us->Q (.ok .next)):Q q:=by
 cases z with|mk s₁ φ' us h' i c wH hl eq es ext =>
 cases eq;cases es;have hg:φ'.g=D::φ1.g:=wH.gr.gh;have QQ:=Hb c.PL c.it;have ajo:=Nc hg QQ.symm y4;have P:=D5 wH.rel c.it.1 ajo c.it.s8 ext;have rN:=zc R sg K.rN;have rO:=zc R sg K.rO;have hex:∀b,mL s.heap b->¬CY mN D I b:=λb lv e=>e.elim (λe=>rO (e▸lv)) λe=>e.elim (λe=>rN (e▸lv)) λe=>t7 (e▸lv);have g3:oE (CY mN D I) s.heap H s₁.heap ⟨φ'.l,φ1.g⟩:=((sg.gr.trans (Gr.of K.keep)).weaken λ_ _ e=>e.elim).trans (wH.gr.qw rfl rfl rfl);exact k φ' us
  {gr:=⟨λb o e ap _=>ext b o (λq=>t7 ⟨o,q▸e⟩) (g3.keep b o e ap (hex b ⟨o,e⟩)),λb x=>(g3.live b x).imp λo e=>ext b o (λq=>t7 (q▸x)) e,rfl,g3.ext⟩
   hg:=hg.trans (lT (D::·) sg.gr.gh),rel:=P.1,gens:=wH.gens.trans sg.gens,os:=wH.os.trans sg.os,pl:=c.PL.imp λn e=>ext _ _ QQ e,p2:=P.2.2 c.vs,len:=ae hl hlen,rN:=rN,rO:=rO
   bD:=vO B rN,ns:=c.F.loc.imp λm hm=>Fs hm.1 λo e=>ext _ _ (c.F.yw c.it _ (.inl rfl)) e,t5:=c.F.xE,CZ:=Nc hg K.ne λhm=>K.rO (sg.rel.ti _ hm),Ki:=c.ap,Jv:=K.ne }
theorem Mq {it:It Fn}(wt:wb G P O X k it){use:Option (Value->bA Unit)}{Q:Value->Shared->Prop}
  (wI:zq Z mr env.scope target=true) (sO:vm G P it j Z env.scope iter=true) (yZ:(oV target).length=slots t) (pe:qq (Z++oV target) (uB mr env.scope) t target=true)
  (W:Wk X k j Z env A s H U Y)
  (he:z3 mI mZ O it U Y=some (src,all,σ₁)) (Az:vV src all (λx Y=>(p3 t x (U++aI (slots t) none)).bind λρ₂=>g ρ₂ Y) all σ₁=some (vs,σ₂))
  (I3:∀x ρ₂,p3 t x (U++aI (slots t) none)=some ρ₂->(U++aI (slots t) (none:Option PV)).length=ρ₂.length/\∀(i:Nat) (v:PV),(U++aI (slots t) (none:Option PV))[i]? =some (some v)->ρ₂[i]? =some (some v))
  (ts:∀C cl ρ₂ s H Y r σ₁,Base X s.heap->Rel X s.heap H Y->FR X (cA mr cl C env) (Z++oV target) s.heap H ρ₂->g ρ₂ Y=some (r,σ₁) ->
   ag (ah X.prog X.w) A (FT ifs (cA mr cl C env)) (Fv X A elt (cA mr cl C env) s H σ₁ r) mR s)
  (IY:∀x,kP iter env x=pure x)
  (ajp:∀D C s' φg us,FU X s H σ₂ vs D C s' φg us->fO (ah X.prog X.w) A mR use Q (.ref D) C (.ok .next) s') :
  ag (ah X.prog X.w) A (fP (.ListComp elt [⟨target,iter,ifs,0⟩] mr pos) mr env (fQ [⟨target,iter,ifs,0⟩] pos) (fR []) (fS [⟨target,iter,ifs,0⟩]) (fT [⟨target,iter,ifs,0⟩] env) use) Q mR s:=by
 have S:=adR wI;refine wpAny_comprehension_free (g:=⟨target,iter,ifs,0⟩) (gs:=[]) rfl IY (Te λx hx e=>(S.Sa x hx e).2.elim (W.F.xl _) (W.F.yt _)) S.kind (λx hx e=>(S.loc x hx e).1) ?_
 show ag (ah X.prog X.w) A (aH iter env) _ mR s;refine ay (wt j Z iter env A s H U Y src all σ₁ W he sO) (λv s1 z=>ay z (λr s2 z=>?_) λ_ _ e=>e) λ_ _ e=>e;refine El.QZ z λI φ1 er sg t7 y4 Kj rY hlen=>?_;cases er;refine eE (wpAny_newFunctionEnv S.Pa (λ_ hy=>nomatch hy) (λh4 r_ GA=>?_) S.kind) (hd:=by size_fits)
 have K:=age rfl r_ GA
 have c:=CL.start (tk:=s2.toks+([]:List (af×Value)).length) K S (W.sg sg).B sg.rel (W.sg sg).F Kj rY yZ
 have loop:=dF (Mp (t:=t) (g:=g) (ifs:=ifs) ⟨W.r.hh,λb e=>adS S b e,pe,I3,vO W.B t7,vO W.B (zc W.R sg K.rN),hlen,ts _ (qH env mr.names [])⟩
   all iter mr pos 0 _ (φ1.ghost _) σ₁ [] [] (vs,σ₂) rfl (aC _) (aC _) c Az) λq s' z=>z.ajn sg W.R W.B t7 y4 K hlen (Q:=λq=>fO (ah X.prog X.w) A mR use Q (.ref _) _ q s') λφ' us e=>ajp _ _ s' φ' us e
 exact codeAny_compStart_list loop (c.it.self (s:={s2 with heap:=h4,toks:=s2.toks+([]:List (af×Value)).length}) loop)
end
section
variable {h:Heap}{φg:lV}{D:Addr}{g:List Addr}
theorem P5 (hg:φg.g=D::g)(a:Addr)(l_:Array Value)(t:h.IsList a l_)(c:Clear φg a):h.IsList a l_/\Clear ⟨φg.l++[(D,D)],g⟩ a :=
 ⟨t,λp hp=>(List.mem_append.mp hp).elim (c.1 p) λhp=>have n:D≠a:=λq=>c.2 (q▸hg▸aG ..);List.mem_singleton.mp hp▸⟨n,n⟩,λhm=>c.2 (hg▸aE _ hm)⟩
theorem P6 (n:Nat)(p:Addr×Addr)(e:φg.l[n]? =some p):(φg.l++[(D,D)])[n]? =some p:=(bB (List.getElem?_eq_some_iff.mp e).1).trans e
theorem ahS (hg:φg.g=D::g){p:PV}{v:Value}(x:VR h φg p v):VR h ⟨φg.l++[(D,D)],g⟩ p v:=x.sY (λ_ _ t=>t) (P5 hg) P6
theorem Pb (hg:φg.g=D::g){p:List PV}{v:List Value}(x:l6 h φg p v):l6 h ⟨φg.l++[(D,D)],g⟩ p v:=x.sY (λ_ _ t=>t) (P5 hg) P6
theorem agf {vs:List PV}{us:List Value}(R:Rel X h φg σ₂)(hg:φg.g=D::g)(pl:h.PlainList D us.toArray)(hv:l6 h φg vs us)(len:us.length<=2^20)(ap:Apart φg D)(bD:X.base.get? D=none):Rel X h ⟨φg.l++[(D,D)],g⟩ (σ₂++[.list vs]) :=
 R.snoc (λq hq=>have z:=ap q hq;⟨z.1,z.1,z.2,z.2⟩) ⟨bD,bD⟩ (λb hb=>R.ti b (hg▸aE _ hb)) (λq ob _ x=>x.grow R.nC (λ_ e=>e) (λ_ e=>e) (ahS hg) (Pb hg) λ_ _ t=>t)
  ⟨rfl,us,pl,Pb hg hv,hv.len▸len⟩
end
theorem abd {vs:List PV}{D C:Addr}{s':Shared}{φg:lV}{us:List Value}(R:Rel X s.heap H Y)(e:FU X s H σ₂ vs D C s' φg us)(mu:Bool) :
  ∃φ',Sg X s H (qX mu vs σ₂).2 s' φ'/\VR s'.heap φ' (qX mu vs σ₂).1 (.ref D)/\Apart φ' C/\C∉φ'.g:=by
 have CZ:C∉H.g:=λhm=>e.CZ (e.hg▸aE _ hm);cases mu with
 |false=>exact⟨⟨φg.l,H.g⟩,⟨e.rel.adP e.hg,e.gr,e.gens,e.os⟩,⟨D,us,rfl,e.pl.isList,⟨e.Ki,λhm=>e.rN (R.ti _ hm)⟩,Lj e.hg e.p2,e.p2.len▸e.len⟩,e.t5,CZ⟩
 |true =>
  exact⟨⟨φg.l++[(D,D)],H.g⟩,⟨agf e.rel e.hg e.pl e.p2 e.len e.Ki e.bD,⟨e.gr.keep,e.gr.live,rfl,e.gr.ext.elim λψ z=>⟨ψ++[(D,D)],(lT (·++[(D,D)]) z.1).trans (bR ..),
    λp hp=>(List.mem_append.mp hp).elim (z.2 p) λhp=>List.mem_singleton.mp hp▸⟨e.rN,e.rN⟩⟩⟩,e.gens,e.os⟩,
   ⟨(D,D),Eu (H:=φg) e.rel.len,rfl⟩,λp hp=>(List.mem_append.mp hp).elim (e.t5 p) λhp=>List.mem_singleton.mp hp▸⟨e.Jv.symm,e.Jv.symm⟩,CZ⟩
theorem gone {C:Addr}{s':Shared}{φ':lV}{σ':St}{pv:PV}{v:Value}{m:af->Option Value}(sg:Sg X s H σ' s' φ')(hv:VR s'.heap φ' pv v)(rO:¬mL s.heap C)(hn:s'.heap.Ns C m)(ap:Apart φ' C)(ng:C∉φ'.g){h':Heap}(sb:cb C s'.heap h') :
  Sg X s H σ' {s' with heap:=h'} φ'/\VR h' φ' pv v:=by
 have ok:pQ (λb=>b=C) s'.heap φ':=λb e=>e▸⟨(AY hn).1,.inl (AY hn).2⟩
 have k:∀b o,b≠C->s'.heap.get? b=some o->h'.get? b=some o:=λb o ne e=>(sb.2 b ne).trans e
 have P:=D5 sg.rel ap ng ok k;exact⟨Zb (tk:=s'.toks) sg (λ_ _ e=>e) rO P.1 k,P.2.1 hv⟩
end
section
variable (O:oh Fn)
noncomputable def P7 (elt:E Fn)(U:Loc)(Y:St):Option (Option PV×St):=(mU mI mZ O elt false U Y).bind λx=>some (some x.1,x.2)
noncomputable def Sb (c elt:E Fn)(U:Loc)(Y:St):Option (Option PV×St):=(mU mI mZ O c true U Y).bind λx=>match x.1 with
 |.bool true=>(mU mI mZ O elt false U x.2).bind λy=>some (some y.1,y.2)
 |.bool false=>some (none,x.2)
 |_=>none
end
theorem Oc {Z names:List af}{sc:Scope}{i:Nat}{id:af}(h:xT (Z++names) sc i id=true)(hn:id∈names):Z.length<=i :=
 qh h λ_ h2 _=>b8 λq=>by
  rw[ib q] at h2;exact El.bf ((lT not (List.contains_iff_mem.mpr (dj _ hn))).symm.trans h2)
theorem abe {Z names:List af}{sc:Scope}(is:List Nat):∀{es:List Expr},u6 (Z++names) sc is es=true->(∀id pos,kG id pos∈es->id∈names)->∀i∈is,Z.length<=i:=by
 induction is with
 |nil=>exactλ_ _ i hi=>nomatch hi
 |cons i is ih =>
  intro es h hn;revert hn;exact ID h λid pos es h1 h2 hn i' hi=>(List.mem_cons.mp hi).elim (λq=>q▸Oc h1 (hn id pos (aG ..))) (ih h2 (λid pos hm=>hn id pos (aE _ hm)) i')
def Cd (n:Nat)(U ρ₂:Loc):Prop:=U.length=ρ₂.length/\∀i,i<n->ρ₂[i]? =U[i]?
theorem Cd.set {n i:Nat}{v:Option PV}{U:Loc}(h:n<=i):Cd n U (U.set i v):=⟨(bw ..).symm,λ_ hl=>aX (bJ (aW hl h))⟩
theorem U5 {n:Nat}(is:List Nat):∀{xs:List PV} {U ρ₂:Loc},bindAll is xs U=some ρ₂->(∀i∈is,n<=i)->Cd n U ρ₂:=by
 induction is with
 |nil =>
  intro xs U ρ₂ h _;cases xs with
  |nil=>cases h;exact⟨rfl,λ_ _=>rfl⟩
  |cons _ _=>exact El.nn h
 |cons i is ih =>
  intro xs U ρ₂ h hi;cases xs with
  |nil=>exact El.nn h
  |cons x xs =>
   have z:=ih h λi' hm=>hi i' (aE _ hm)
   have y:Cd n U (U.set i (some x)):=.set (hi i (aG ..));exact⟨y.1.trans z.1,λi' hl=>(z.2 i' hl).trans (y.2 i' hl)⟩
theorem adT {Z:List af}{sc:Scope}{t:Tg}{target:Expr}{U ρ₂:Loc}{x:PV}(hc:qq (Z++oV target) sc t target=true)(hb:p3 t x U=some ρ₂):Cd Z.length U ρ₂:=by
 cases t with
 |v i =>
  refine El.uC (IB hc) λid pos e hc=>?_;subst e;cases hb;exact .set (Oc hc (kI _))
 |t is =>
  cases x with
  |tup xs =>
   refine El.FZ (IC hc) λes k pos e hc=>?_;subst e;exact U5 is hb (abe is hc λid pos hm=>List.mem_filterMap.mpr ⟨_,hm,rfl⟩)
  |_=>exact El.nn hb
theorem Od {Z:List af}{sc:Scope}{t:Tg}{target:Expr}{U ρ₂:Loc}{x:PV}{r:Nat}(hc:qq (Z++oV target) sc t target=true)(hl:U.length=Z.length)(hb:p3 t x (U++aI r none)=some ρ₂) :
  (U++aI r (none:Option PV)).length=ρ₂.length/\∀(i:Nat) (v:PV),(U++aI r (none:Option PV))[i]? =some (some v)->ρ₂[i]? =some (some v) :=
 have z:=adT hc hb
 ⟨z.1,λi v e=>(z.2 i (hl▸(Bw e).1)).trans e⟩
section
variable {G:List (String×PV)}{P:List Fn}{O:oh Fn}{X:Cx}{k:Nat}
variable {A:aA}{env:Env}{s:Shared}{H:lV}{U:Loc}{Y σ' σ₁:St}{Z:List af}{j:Nat}
theorem tI.less (r:tI A k (j+1)):tI A k j:=⟨r.hh,by have:=r.d;lia,by have:=r.u;lia⟩
theorem adU {elt:E Fn}(ih:mH G P O X k elt){y:Expr}{Γ':List af}{mN:Env}(hc:ma G P elt j Γ' mN.scope y=true){ρ₂:Loc}{r:Option PV}(W:Wk X k j Γ' mN A s H ρ₂ Y)(he:P7 O elt ρ₂ Y=some (r,σ₁)) :
  ag (ah X.prog X.w) A (FT [] mN) (Fv X A y mN s H σ₁ r) mR s :=
 m_ he λv σ₂ h1 he=>by
  cases he;exact wpAny_tests_nil ⟨rfl,ih.val W h1 hc⟩
theorem Zf {c elt:E Fn}(vJ:mH G P O X k c)(ih:mH G P O X k elt){y z:Expr}{Γ':List af}{mN:Env}(Kk:ma G P c j Γ' mN.scope z=true)(hc:ma G P elt j Γ' mN.scope y=true){ρ₂:Loc}{r:Option PV}(W:Wk X k j Γ' mN A s H ρ₂ Y)(he:Sb O c elt ρ₂ Y=some (r,σ₁)) :
  ag (ah X.prog X.w) A (FT [z] mN) (Fv X A y mN s H σ₁ r) mR s :=
 m_ he λv σ₂ h1 h2=>wpAny_tests_one (vJ.yh W h1 Kk λb s' φ' hv sg W'=>by
  cases hv;cases b with
  |true =>
   refine m_ h2 λw σ₃ h3 h2=>?_;cases h2;exact⟨rfl,ay (ih.val W' h3 hc) (λ_ _ z=>z.imp λφ2 z=>⟨sg.trans z.1,z.2⟩) λ_ _ e=>e⟩
  |false =>
   cases h2;exact⟨rfl,φ',sg⟩)
theorem G6 {iter:Expr}(h:vZ iter=true)(x:Value):kP iter env x=pure x:=by
 cases iter<;>first|rfl|exact El.bf h
theorem G3 {it:It Fn}{x:Expr}{sc:Scope}(h:vm G P it j Z sc x=true):vZ x=true:=by
 cases it with
 |e e=>exact ny h λh _=>h
 |d e=>exact ny h λh _=>h
 |range e=>exact M7 h λ_ _ _ _ _ _=>rfl
inductive P8 (X:Cx)(A:aA)(env:Env)(s:Shared)(use:Option (Value->bA Unit))(Q:Value->Shared->Prop):Expr->Prop
 |mk (y:Expr) (gens:_) (mr:Scope) (pos:Pos) (h:ag (ah X.prog X.w) A (fP (.ListComp y gens mr pos) mr env (fQ gens pos) (fR []) (fS gens) (fT gens env) use) Q mR s):P8 X A env s use Q (.ListComp y gens mr pos)
def FV (X:Cx)(A:aA)(s:Shared)(H:lV)(use:Option (Value->bA Unit))(Q:Value->Shared->Prop)(p:PV×St):Prop :=
 ∀D C s' φ',Sg X s H p.2 s' φ'->VR s'.heap φ' p.1 (.ref D)->Apart φ' C->C∉φ'.g->¬mL s.heap C->(∃m,s'.heap.Ns C m)->fO (ah X.prog X.w) A mR use Q (.ref D) C (.ok .next) s'
variable (G P O X k) in
def Ad (e:E Fn):Prop:=∀(j:Nat) (Z:List af) (x:Expr) (env:Env) (A:aA) (s:Shared) (H:lV) (U:Loc) (Y:St) (p:PV×St) (use:Option (Value->bA Unit)) (Q:Value->Shared->Prop),
 Wk X k j Z env A s H U Y->mU mI mZ O e false U Y=some p->ma G P e j Z env.scope x=true->FV X A s H use Q p->P8 X A env s use Q x
theorem FV.end {use:Option (Value->bA Unit)}{Q:Value->Shared->Prop}{mu:Bool}{vs:List PV}{D C:Addr}{s':Shared}{φg:lV}{us:List Value}(h:FV X A s H use Q (qX mu vs σ₁))(R:Rel X s.heap H Y)(e:FU X s H σ₁ vs D C s' φg us) :
  fO (ah X.prog X.w) A mR use Q (.ref D) C (.ok .next) s':=El.d14 (abd R e mu) λφ' sg hv ap ng=>h D C s' φ' sg hv ap ng e.rO e.ns
theorem Nf {it:It Fn}{elt:E Fn}{mu:Bool}{t:Tg}(wt:wb G P O X k it)(ih:mH G P O X k elt):Ad G P O X k (.comp mu elt t it):=λj Z x env A s H U Y p use Q W he hc hu=>by
 cases j with
 |zero=>exact El.bf hc
 |succ j =>
  refine adC hc λy target iter mr pos wI sO yZ pe ro=>m_ he λsrc q h1 he=>?_;refine m_ he λvs σ₂ h2 h3=>?_;cases h3;have W':Wk X k j Z env A s H U Y:=⟨W.r.less,W.B,W.R,W.F⟩;exact⟨_,_,_,_,Mq (t:=t) (g:=P7 O elt) wt wI sO yZ pe W' h1 h2 (λx ρ₂ hb=>Od pe W.F.len hb) (λC cl ρ₂ s H Y r σ₁ B R F h=>adU ih ro ⟨W'.r,B,R,F⟩ h) (G6 (G3 sO)) λD C s' φg us e=>hu.end W.R e⟩
theorem LL {it:It Fn}{elt c:E Fn}{mu:Bool}{t:Tg}(wt:wb G P O X k it)(ih:mH G P O X k elt)(vJ:mH G P O X k c):Ad G P O X k (.oC mu elt t it c):=λj Z x env A s H U Y p use Q W he hc hu=>by
 cases j with
 |zero=>exact El.bf hc
 |succ j =>
  refine Y4 hc λy target iter z mr pos wI sO yZ pe ro Kk=>m_ he λsrc q h1 he=>?_;refine m_ he λvs σ₂ h2 h3=>?_;cases h3;have W':Wk X k j Z env A s H U Y:=⟨W.r.less,W.B,W.R,W.F⟩;exact⟨_,_,_,_,Mq (t:=t) (g:=Sb O c elt) wt wI sO yZ pe W' h1 h2 (λx ρ₂ hb=>Od pe W.F.len hb) (λC cl ρ₂ s H Y r σ₁ B R F h=>Zf vJ ih Kk ro ⟨W'.r,B,R,F⟩ h) (G6 (G3 sO)) λD C s' φg us e=>hu.end W.R e⟩
theorem Ad.snd {e:E Fn}(h:Ad G P O X k e)(no:∀{U Y r},mU mI mZ O e true U Y=some r->False):mH G P O X k e:=λm j Z x env A s H U Y pv σ' W he hc=>by
 cases m with
 |true=>exact(no he).elim
 |false =>
  cases h j Z x env A s H U Y (pv,σ') none (λv s'=>∃φ',Sg X s H σ' s' φ'/\VR s'.heap φ' pv v) W he hc λD C s' φ' sg hv ap ng nl hn=>hn.imp λm hn=>⟨hn,λh' sb=>⟨φ',gone sg hv nl hn ap ng sb⟩⟩ with
  |mk y gens mr pos h =>
   show ag _ A _ _ mR s;rw[eval_ListComp];exact h
theorem abf {it:It Fn}{elt:E Fn}(mu:Bool)(t:Tg)(wt:wb G P O X k it)(ih:mH G P O X k elt):mH G P O X k (.comp mu elt t it):=(Nf wt ih).snd λhe=>El.bd he λ_ _ he=>El.bd he λ_ _ he=>El.nn he
theorem Xm {it:It Fn}{elt c:E Fn}(mu:Bool)(t:Tg)(wt:wb G P O X k it)(ih:mH G P O X k elt)(vJ:mH G P O X k c):mH G P O X k (.oC mu elt t it c):=(LL wt ih vJ).snd λhe=>El.bd he λ_ _ he=>El.bd he λ_ _ he=>El.nn he
end
-- al3 al0 is sound
section
variable {G:List (String×PV)}{P:List Fn}{O:oh Fn}{X:Cx}{k:Nat}(OK:Ok X G P)(ho:qu X O k)
include OK ho
mutual
theorem nN:∀e:E Fn,mH G P O X k e
 |.n5=>Y7
 |.oq b=>Y8 b
 |.lR i=>aaT i
 |.m4 t=>aaU t
 |.var i=>adG i
 |.glob n v=>aaV OK n v
 |.attr e a=>aaW OK (nN e) a
 |.idx e i=>adI (nN e) (nN i)
 |.ri e lo hi=>adJ (nN e) lo hi
 |.bin op a b=>adK op (nN a) (nN b)
 |.un op a=>af9 op (nN a)
 |.bo op es=>aga op (P9 es)
 |.cmp op a b=>adL op (nN a) (nN b)
 |.wg op uW a b c=>aa0 op uW (nN a) (nN b) (nN c)
 |.nu c a b=>adM (nN c) (nN a) (nN b)
 |.tup es=>adN (yj es)
 |.list es=>aaY (yj es)
 |.qB es=>Y9 (yj es)
 |.dict d=>aaZ d
 |.call f es=>aaX OK ho f (yj es)
 |.new c es=>adO OK ho c (yj es)
 |.nA o n es=>aa1 OK ho n (nN o) (yj es)
 |.wh o q d=>aa2 (nN o) (nN q) (nN d)
 |.bi b e=>af_ OK b (nN e)
 |.comp mu elt t it=>abf mu t (BZ it) (nN elt)
 |.oC mu elt t it c=>Xm mu t (BZ it) (nN elt) (nN c)
 |.bad=>adH
theorem yj:∀es:Es Fn,uw G P O X k es
 |.nil=>Xg
 |.cons e es=>VU (nN e) (yj es)
theorem P9:∀es:Es Fn,BY G P O X k es
 |.nil=>Xh
 |.cons e es=>VV (nN e) (P9 es)
theorem BZ:∀it:It Fn,wb G P O X k it
 |.e e=>aa5 (nN e)
 |.d e=>aa7 (nN e)
 |.range e=>U4 OK (nN e)
end
end
def yk (h:Heap)(H:lV):Flow->dh->Prop
 |.next,f=>f=.next
 |.cont,f=>f=.cont
 |.ret v,f=>∃u,f=.ret u/\VR h H v u
theorem Uv {value:Expr}{t:Option Expr}{line:Nat}{env:Env}(h:xV value=true):cS value t line env=pure false:=by
 cases value<;>first|rfl|exact El.bf h
theorem Xn {value o:Expr}{a:af}{p:Pos}{line:Nat}{env:Env}:cS value (some (.Attribute o a p)) line env=pure false:=by
 cases value<;>rfl
theorem Zg {value o i:Expr}{p:Pos}{line:Nat}{env:Env}:cS value (some (.Subscript o i p)) line env=pure false:=by
 cases value<;>rfl
theorem Zh {value:Expr}{l:List Expr}{n:Nat}{p:Pos}{line:Nat}{env:Env}:cS value (some (.Tuple l n p)) line env=pure false:=by
 cases value<;>rfl
theorem U6 {ts:List Expr}{n:Nat}{p:Pos}{value:Expr}{env:Env}(h:∀l n p,value≠.Tuple l n p):fU [.Tuple ts n p] value env=pure none:=by
 cases value<;>first|rfl|exact absurd rfl (h _ _ _)
theorem Tf {t value:Expr}{pos:Pos}{env:Env}(hs:cS value (some t) pos.line env=pure false)(Kl:fU [t] value env=pure none)(om:dg [t] env=[(false,bP t env)]) :
  exec (.Assign [t] value pos) env=(do standAt pos;let v ← aH value env;bP t env v;pure .next):=by
 have e:exec (.Assign [t] value pos) env=(do
   standAt pos
   if ← cS value (some t) pos.line env then do
    evalThenUse value env λv=>assignAll v ((dg [t] env).map (·.2))
    pure .next
   else do
    let v ← aH value env
    assignStores env v (← fU [t] value env) ((dg [t] env).map (·.2))):=rfl
 rw[e,hs,Kl,om];rfl
theorem GK {M:eM}{A:aA}{E:Value->Shared->Prop}{s:Shared}{t value:Expr}{pos:Pos}{env:Env}{Q:dh->Shared->Prop}(hs:cS value (some t) pos.line env=pure false)(Kl:fU [t] value env=pure none)
  (om:dg [t] env=[(false,bP t env)]) (h:ag M A (aH value env) (λv s₁=>ag M A (bP t env v) (λ_ s₂=>Q .next s₂) E s₁) E s):ag M A (exec (.Assign [t] value pos) env) Q E s:=by
 rw[Tf hs Kl om];exact aj (eN (aj (ay h (λv s₁ h₁=>aj (ay h₁ (λ_ s₂ h₂=>aw h₂) λ_ _ e=>e)) λ_ _ e=>e)))
section
variable {G:List (String×PV)}{P:List Fn}{O:oh Fn}{X:Cx}{k:Nat}
variable {A:aA}{env:Env}{s:Shared}{H:lV}{U ρ':Loc}{Y σ':St}{Z:List af}{j:Nat}
def PS (X:Cx)(env:Env)(Z:List af)(s:Shared)(H:lV)(r:Flow×Loc×St)(f:dh)(s':Shared):Prop:=∃φ',mQ (pG env) X s H r.2.2 s' φ'/\FR X env Z s'.heap φ' r.2.1/\yk s'.heap φ' r.1 f
variable (G P O X k) in
def tR (st:S Fn):Prop:=∀(j:Nat) (Z:List af) (x:Stmt) (env:Env) (A:aA) (s:Shared) (H:lV) (U:Loc) (Y:St) (r:Flow×Loc×St),
 Wk X k j Z env A s H U Y->F3 mI mZ O st U Y=some r->tQ G P st j Z env.scope x=true->ag (ah X.prog X.w) A (exec x env) (PS X env Z s H r) mR s
variable (G P O X k) in
def wd (ss:Ss Fn):Prop:=∀(j:Nat) (Z:List af) (l:List Stmt) (env:Env) (A:aA) (s:Shared) (H:lV) (U:Loc) (Y:St) (r:Flow×Loc×St),
 Wk X k j Z env A s H U Y->sA mI mZ O ss U Y=some r->sy G P ss j Z env.scope l=true->ag (ah X.prog X.w) A (bI l env) (PS X env Z s H r) mR s
theorem FR.sF {h h':Heap}(F:FR X env Z h H U){C:Addr}(k:∀b o,b≠C->h.get? b=some o->h'.get? b=some o)(ne:∀b,pG env b->b≠C)(vr:∀{p:PV} {v:Value},VR h H p v->VR h' H p v):FR X env Z h' H U :=
 {F with
  loc:=F.loc.imp λm z=>⟨Fs z.1 λo e=>k _ _ (ne _ (.inl rfl)) e,λi x v a b c=>(z.2 i x v a b c).imp λu z=>⟨z.1,vr z.2⟩⟩
  t4:=λi x v a b d=>(F.t4 i x v a b d).imp λc z=>z.imp λu z=>⟨z.1,zF z.2.1 λo e=>k _ _ (ne _ (.inr ⟨_,z.1⟩)) e,vr z.2.2⟩
  sN:=λn c hc=>(F.sN n c hc).imp λu hu=>zF hu λo e=>k _ _ (ne _ (.inr ⟨_,hc⟩)) e }
theorem FR.live (F:FR X env Z s.heap H U){b:Addr}(h:pG env b):mL s.heap b :=
 h.elim (λq=>q▸F.loc.elim λm z=>z.1.imp λo z=>z.elim λ_ z=>z.elim λ_ z=>z.1) λz=>z.elim λn hc=>(F.sN n b hc).elim λu hu=>hu.imp λo z=>z.1
theorem Oe {s':Shared}{φ':lV}{C:Addr}{h':Heap}(sg:mQ (pG env) X s H σ' s' φ')(R:Rel X h' φ' σ')(nl:¬mL s.heap C)(k:∀b o,b≠C->s'.heap.get? b=some o->h'.get? b=some o):mQ (pG env) X s H σ' {s' with heap:=h'} φ' :=
 ⟨R,⟨λb o e ap ne=>k b o (λq=>nl ⟨o,q▸e⟩) (sg.gr.keep b o e ap ne),λb x=>(sg.gr.live b x).imp λo e=>k b o (λq=>nl (q▸x)) e,sg.gr.gh,sg.gr.ext⟩,sg.gens,sg.os⟩
theorem Zi {t:Tg}{target:Expr}{p:PV×St}{Q:Value->Shared->Prop}(W:Wk X k j Z env A s H U Y)(pe:qq Z env.scope t target=true)(hb:p3 t p.1 U=some ρ')
  (h:∀s2 φ2,mQ (pG env) X s H p.2 s2 φ2->FR X env Z s2.heap φ2 ρ'->Q .none s2):FV X A s H (some (bP target env)) Q p:=λD C s' φ' sg hv ap ng rO hn=>by
 have F':=W.F.sg W.R sg;refine Ew W.r.hh pe hv hb sg.rel F' λs2 oy F2=>hn.elim λm hm=>?_
 have Sd:∀b,pG env b->b≠C:=λb e q=>rO (q▸W.F.live e)
 have Km:s2.heap.Ns C m:=Fs hm λo e=>oy.gr.keep _ _ e ap λx=>Sd C (qP.vp x) rfl
 have ok:pQ (λb=>b=C) s2.heap φ':=λb e=>e▸⟨(AY Km).1,.inl (AY Km).2⟩;refine⟨m,Km,λh' sb=>?_⟩
 have kk:∀b o,b≠C->s2.heap.get? b=some o->h'.get? b=some o:=λb o ne e=>(sb.2 b ne).trans e
 have P:=D5 oy.rel ap ng ok kk;exact h _ φ' (Oe (sg.wide.trans (oy.weaken λb _ e=>qP.vp e)) P.1 rO kk) (F2.sF kk Sd P.2.1)
theorem Zj (OK:Ok X G P)(ho:qu X O k){e:E Fn}{y:Expr}{gens:List hG}{mr:Scope}{pos:Pos}{sc:Scope}{j:Nat}(h:ma G P e j Z sc (.ListComp y gens mr pos)=true):Ad G P O X k e:=by
 cases e with
 |comp mu elt t it=>exact Nf (BZ OK ho it) (nN OK ho elt)
 |oC mu elt t it c=>exact LL (BZ OK ho it) (nN OK ho elt) (nN OK ho c)
 |bad=>exactλ_ _ _ _ _ _ _ _ _ _ _ _ _ he _ _=>El.nn he
 |_=>exact El.bf h
theorem abg {t:Tg}{e:E Fn}{y':Expr}{gens:List hG}{mr:Scope}{pos pos':Pos}{id:af}{p:Pos}{v:PV}{σ₁:St}(cu:Ad G P O X k e)(W:Wk X k j Z env A s H U Y)(pe:qq Z env.scope t (.Name id p)=true)(ro:ma G P e j Z env.scope (.ListComp y' gens mr pos')=true)
  (h1:mU mI mZ O e false U Y=some (v,σ₁)) (h2:p3 t v U=some ρ') (hb:cS (.ListComp y' gens mr pos') (some (.Name id p)) pos.line env=pure true) :
  ag (ah X.prog X.w) A (exec (.Assign [.Name id p] (.ListComp y' gens mr pos') pos) env) (PS X env Z s H (.next,ρ',σ₁)) mR s:=by
 have use:∀Q:Value->Shared->Prop,(∀s2 φ2,mQ (pG env) X s H σ₁ s2 φ2->FR X env Z s2.heap φ2 ρ'->Q .none s2)->ag (ah X.prog X.w) A (fP (.ListComp y' gens mr pos') mr env (fQ gens pos') (fR []) (fS gens) (fT gens env) (some (bP (.Name id p) env))) Q mR s:=λQ h=>by
  cases cu j Z (.ListComp y' gens mr pos') env A s H U Y (v,σ₁) (some (bP (.Name id p) env)) Q W h1 ro (Zi W pe h2 h) with
  |mk _ _ _ _ h=>exact h
 rw[exec_Assign_Name_used _ _ _ _ hb];refine aj (eN (aj ?_));show ag (ah X.prog X.w) A (fP (.ListComp y' gens mr pos') mr env (fQ gens pos') (fR []) (fS gens) (fT gens env) (some (bP (.Name id p) env))>>=λ_=>pure ()) _ mR s;exact aj (use _ λs2 φ2 sg F2=>aw (aw ⟨φ2,sg,F2,rfl⟩))
theorem abh (OK:Ok X G P)(ho:qu X O k){t:Tg}{e:E Fn}{y:Expr}{pos:Pos}{id:af}{p:Pos}{v:PV}{σ₁:St}(W:Wk X k j Z env A s H U Y)(pe:qq Z env.scope t (.Name id p)=true)(ro:ma G P e j Z env.scope y=true)(hk:I1 (.Name id p) y=true)
  (h1:mU mI mZ O e false U Y=some (v,σ₁)) (h2:p3 t v U=some ρ')
  (plain:ag (ah X.prog X.w) A (aH y env) (λv s₁=>ag (ah X.prog X.w) A (bP (.Name id p) env v) (λ_=>PS X env Z s H (.next,ρ',σ₁) .next) mR s₁) mR s) :
  ag (ah X.prog X.w) A (exec (.Assign [.Name id p] y pos) env) (PS X env Z s H (.next,ρ',σ₁)) mR s:=by
 cases y with
 |ListComp y' gens mr pos' =>
  refine El.JD (⟨_,rfl⟩:∃b,cS (.ListComp y' gens mr pos') (some (.Name id p)) pos.line env=pure b) λb hb=>?_;cases b with
  |false=>exact GK hb rfl rfl plain
  |true=>exact abg (Zj OK ho ro) W pe ro h1 h2 hb
 |SetComp=>exact El.bf hk
 |DictComp=>exact El.bf hk
 |_=>exact GK rfl rfl rfl plain
theorem adV (OK:Ok X G P)(ho:qu X O k)(t:Tg)(e:E Fn):tR G P O X k (.asg t e):=λj Z x env A s H U Y r W he hc=>af4 hc λg y pos pe ro hk=>m_ he λv σ₁ h1 he=>El.bd he λρ₁ h2 he=>by
 cases he;have plain:ag (ah X.prog X.w) A (aH y env) (λv s₁=>ag (ah X.prog X.w) A (bP g env v) (λ_=>PS X env Z s H (.next,ρ₁,σ₁) .next) mR s₁) mR s :=
  (nN OK ho e).then W h1 ro λu s' φ' sg W' hu=>Ew W.r.hh pe hu h2 W'.R W'.F λs2 oy F2=>⟨φ',sg.wide.trans (oy.weaken λb _ e=>qP.vp e),F2,rfl⟩
 cases t with
 |v i =>
  refine El.uC (IB pe) λid p e _=>?_;subst e;exact abh OK ho W pe ro hk h1 h2 plain
 |t is =>
  refine El.FZ (IC pe) λes n p e _=>?_;subst e;refine GK Zh (U6 λl n p e=>?_) rfl plain;subst e;exact El.bf hk
end
section
variable {prog:Program}{w:az}{A:aA}{R:cR->Shared->Prop}{s:Shared}
theorem K9 {target:Expr}{it:Value}{body:List Stmt}{env:Env}
  (h:ag (ah prog w) A (fI it) (λr s₁=>match r with
   |none=>ag (ah prog w) A (bI [] env) (λf s₃=>R (.ok f) s₃) mR s₁
   |some v=>ag (ah prog w) A (d5 target it v) (λ_ yX=>ag (ah prog w) A (bP target env v) (λ_ s₂=>ag (ah prog w) A (bI body env) (λf s₃=>match f with
      |.next|.cont=>dc (ah prog w) A (.forLoop target it body [] env) R s₃
      |.brk=>R (.ok .next) s₃
      |.ret v=>R (.ok (.ret v)) s₃) mR s₂) mR yX) mR s₁) mR s):dc (ah prog w) A (.forLoop target it body [] env) R s:=by
 refine kJ ?_;show ag _ A ((forTurn target it body [] env).onRaise (λx=>do noteFrame x env;kK x)) _ _ s;refine wpAny_noted ?_;simp only[forTurn];refine aj (eN (aj (wpAny_onRaise (ay h (λr s₁ h₁=>?_) λ_ _ h'=>h'.elim))));cases r with
 |none=>exact aw ⟨rfl,codeAny_block (ay h₁ (λ_ _ e=>e) λ_ _ e=>e.elim)⟩
 |some v =>
  refine aj (ay h₁ (λ_ yX h₁'=>?_) λ_ _ h'=>h'.elim);refine aj (ay h₁' (λ_ s₂ h₂=>aj (ay h₂ (λf s₃ h₃=>?_) λ_ _ h'=>h'.elim)) λ_ _ h'=>h'.elim);cases f with
  |next=>exact aw ⟨rfl,h₃⟩
  |cont=>exact aw ⟨rfl,h₃⟩
  |brk=>exact aw h₃
  |ret v=>exact aw h₃
end
section
variable {G:List (String×PV)}{P:List Fn}{O:oh Fn}{X:Cx}{k:Nat}
variable {A:aA}{env:Env}{s:Shared}{H:lV}{U ρ':Loc}{Y σ':St}{Z:List af}{j:Nat}
theorem KP (F:FR X env Z s.heap H U):interactive env=false:=by unfold interactive;rw[F.kind];rfl
theorem PS.pre {s':Shared}{φ':lV}{σ₁:St}{r:Flow×Loc×St}{f:dh}{s2:Shared}(sg:mQ (pG env) X s H σ₁ s' φ')(h:PS X env Z s' φ' r f s2):PS X env Z s H r f s2:=h.imp λ_ z=>⟨sg.trans z.1,z.2⟩
theorem adW (OK:Ok X G P)(ho:qu X O k)(e:E Fn):tR G P O X k (.ret e):=λj Z x env A s H U Y r W he hc=>af7 hc λy pos hc=>m_ he λv σ₁ h1 he=>by
 cases he;exact wpAny_Return_some ((nN OK ho e).then W h1 hc λu s' φ' sg W' hu=>⟨φ',sg.wide,W'.F,u,rfl,hu⟩)
theorem abi:tR G P O X k .cont:=λj Z x env A s H U Y r W he hc=>adE hc λpos=>by
 cases he;exact wpAny_Continue ⟨H,mQ.refl W.R,W.F,rfl⟩
theorem abj:tR G P O X k .bad:=λ_ _ _ _ _ _ _ _ _ _ _ he _=>El.nn he
theorem V0 (OK:Ok X G P)(ho:qu X O k)(o:E Fn)(a:String)(e:E Fn):tR G P O X k (.setattr o a e):=λj Z x env A s H U Y r W he hc=>Xf hc λb p y pos hf y5 ro hn =>
 m_ he λv σ₁ h1 he=>m_ he λw σ₂ h2 he=>El.bd he λσ₃ h3 he=>by
  cases he;exact plainObj_wpAny_Assign_Attribute ((nN OK ho e).yi (nN OK ho o) W h1 h2 ro y5 λu u2 s2 φ2 sg W2 hu pR =>
   W_ OK.cls W2.B W2.R pR hu h3 (List.contains_iff_mem.mp hf) λs3 sP=>⟨φ2,(sg.trans sP).wide,W2.F.sg W2.R sP,rfl⟩) Xn
theorem Xo (OK:Ok X G P)(ho:qu X O k)(o i e:E Fn):tR G P O X k (.rS o i e):=λj Z x env A s H U Y r W he hc=>Y5 hc λb i' p y pos r_ y5 sO ro hn =>
 m_ he λv σ₁ h1 he=>m_ he λw σ₂ h2 he=>m_ he λkk σ₃ h3 he=>El.bd he λσ₄ h4 he=>by
  cases he;exact wpAny_Assign_Subscript ((nN OK ho e).yi (nN OK ho o) W h1 h2 ro y5 λu u2 s2 φ2 sg W2 hu pR=>(nN OK ho i).then W2 h3 sO λu3 s3 φ3 sP W3 Kf =>
   YW W3.R (mQ.vr W2.R (.none _ _) sP pR) Kf (mQ.vr W2.R (.none _ _) sP hu) h4 W.r.Aw λs4 Ax=>⟨φ3,((sg.trans sP).trans Ax).wide,W3.F.sg W3.R Ax,rfl⟩) Zg
theorem abk (OK:Ok X G P)(ho:qu X O k)(e:E Fn):tR G P O X k (.expr e):=λj Z x env A s H U Y r W he hc=>adD hc λy pos hc hn=>m_ he λv σ₁ h1 h2=>El.it h2 λhs h2=>by
 cases h2;refine wpAny_Expr ((nN OK ho e).then W h1 hc λu s' φ' sg W' hu=>?_) (KP W.F) (Uv hn);have fin:PS X env Z s H (.next,U,σ₁) .next s':=⟨φ',sg.wide,W'.F,rfl⟩
 cases v with
 |none=>exact hu.vg fin
 |bool b=>exact hu.w7 fin
 |int i=>exact hu.qE λ_=>fin
 |_=>exact El.bf hs
theorem adX {n:Nat}(h:ya Y (.loc n)=true){G:Prop}(k:∀l,Y[n]? =some (.list l)->G):G:=by
 revert h;show(match Y[n]? with|some (.list _)=>true|_=>false)=true->G;cases e:Y[n]? with
 |none=>exact El.bf
 |some o=>cases o with
  |list l=>exactλ_=>k l e
  |_=>exact El.bf
theorem Xp (OK:Ok X G P)(ho:qu X O k)(o e:E Fn):tR G P O X k (.append o e):=λj Z x env A s H U Y r W he hc=>Y6 hc λb p y q pos hp hl y5 ro om =>
 m_ he λw σ₁ h1 h2=>El.it h2 λhL h2=>m_ h2 λv σ₂ h3 h2=>El.bd h2 λσ₃ h4 h2=>by
  cases h2;refine wpAny_Expr (wpAny_Call_append (C5 hp) (by rw[plain_all (l:=[y]) (show(notStar y&&true)=true by rw[om];rfl)];rfl) hl (by rw[wK om];rfl) ((nN OK ho o).then W h1 y5 λu s' φ' sg W' hu=>?_)) (KP W.F) rfl;cases w with
  |loc n =>
   refine hu.zU λpp vK=>adX hL λl hl=>(W'.R.obj n pp _ vK hl).w8 λ_ vs pl hs hb=>?_;refine⟨pp.1,vs.toArray,rfl,pl.elim λ_ e=>⟨_,_,e,rfl,rfl,rfl⟩,(nN OK ho e).then W' h3 ro λu2 s2 φ2 oy W2 pR=>?_⟩;refine El.tT (YX (A:=A) (E:=mR) (Q:=λv s'=>match v with|.ref _=>False|_=>PS X env Z s H (.next,U,σ₃) .next s') W2.R (.zW (oy.gr.ke _ _ vK)) pR h4 λs3 sP=>⟨φ2,((sg.trans oy).trans sP).wide,W2.F.sg W2.R sP,rfl⟩) λD l_ e1 _ h5=>?_
   cases e1;exact h5
  |_=>exact El.bf hL
theorem adY (OK:Ok X G P)(ho:qu X O k)(c:E Fn){a b:Ss Fn}(vI:wd G P O X k a)(rn:wd G P O X k b):tR G P O X k (.ite c a b):=λj Z x env A s H U Y r W he hc=>af5 hc λt y z pos tX oZ qi=>m_ he λv σ₁ h1 h2 =>
 wpAny_If ((nN OK ho c).yh W h1 tX λb' s' φ' hv sg W'=>by
  cases hv;cases b' with
  |true=>exact ay (vI j Z _ env A s' φ' U σ₁ r W' h2 oZ) (λf s2 z=>z.pre sg.wide) λ_ _ e=>e
  |false=>exact ay (rn j Z _ env A s' φ' U σ₁ r W' h2 qi) (λf s2 z=>z.pre sg.wide) λ_ _ e=>e)
theorem Xq:wd G P O X k .nil:=λj Z l env A s H U Y r W he hc=>by
 cases he;exact uv hc (kQ ⟨H,mQ.refl W.R,W.F,rfl⟩)
theorem V1 {st:S Fn}{ss:Ss Fn}(ih:tR G P O X k st)(p8:wd G P O X k ss):wd G P O X k (.cons st ss):=λj Z l env A s H U Y r W he hc=>aaS hc λx l' td rM=>El.bd he λq h1 h2=>by
 refine wpAny_execs_cons (ay (ih j Z _ env A s H U Y q W h1 td) (λf s' z=>z.elim λφ' z=>?_) λ_ _ e=>e);revert z h2;cases q with|mk fl q =>
 cases fl with
 |next =>
  intro h2 z;cases z.2.2;exact ay (p8 j Z _ env A s' φ' q.1 q.2 r ⟨W.r,mQ.base W.R z.1 W.B W.F.IA,z.1.rel,z.2.1⟩ h2 rM) (λf s2 y=>y.pre z.1) λ_ _ e=>e
 |cont =>
  intro h2 z;cases z.2.2;exact El.sj h2 ⟨φ',z.1,z.2.1,rfl⟩
 |ret v =>
  intro h2 z;refine El.n3 z.2.2 λu e hu=>?_;cases e;exact El.sj h2 ⟨φ',z.1,z.2.1,u,rfl,hu⟩
structure FL (X:Cx)(env:Env)(Z:List af)(src:Src)(all:List PV)(I:Addr)(i:Nat)(s:Shared)(H:lV)(U:Loc)(Y:St):Prop where
 B:Base X s.heap
 R:Rel X s.heap H Y
 F:FR X env Z s.heap H U
 it:oL X s.heap H src all I i
inductive zY (X:Cx)(env:Env)(Z:List af)(I:Addr)(s:Shared)(H:lV)(r:Flow×Loc×St)(q:cR)(s':Shared):Prop
 |mk (s₁:Shared) (φ':lV) (h':Heap) (f:dh) (sg:mQ (λb=>pG env b\/b=I) X s H r.2.2 s₁ φ') (F:FR X env Z s₁.heap φ' r.2.1) (ap:Apart φ' I) (ok:pQ (λb=>b=I) s₁.heap φ') (ne:∀b,pG env b->b≠I) (es:s'={s₁ with heap:=h'}) (ext:hE I s₁.heap h')
  (eq:q=.ok f) (hf:yk s₁.heap φ' r.1 f)
section
variable {src:Src}{all:List PV}{I:Addr}{i i':Nat}{s':Shared}{φ':lV}{r:Flow×Loc×St}
theorem FL.turn {ex:Addr->Prop}(c:FL X env Z src all I i s H U Y)(sg:mQ ex X s H σ' s' φ')(hb:∀b,ex b->X.base.get? b=none)(F:FR X env Z s'.heap φ' ρ')(it:oL X s'.heap φ' src all I i'):FL X env Z src all I i' s' φ' ρ' σ' :=
 ⟨mQ.base c.R sg c.B hb,sg.rel,F,it⟩
theorem FL.next (c:FL X env Z src all I i s H U Y)(vL:X.base.get? I=none)(sg:mQ (λb=>b=I) X s H Y s' H)(it:oL X s'.heap H src all I i'):FL X env Z src all I i' s' H U Y :=
 c.turn sg (λb e=>e▸vL) (c.F.grow sg.gr c.R.nC c.it.s8 (c.F.yw c.it)) it
theorem FL.Gn (c:FL X env Z src all I i s H U Y)(sg:mQ (pG env) X s H σ' s' φ')(F:FR X env Z s'.heap φ' ρ'):FL X env Z src all I i s' φ' ρ' σ' :=
 c.turn sg c.F.IA F (c.it.grow sg.gr c.R.nC c.F.s8 λe=>c.F.yw c.it _ e rfl)
theorem zY.pre {σ₁:St}{q:cR}{s2:Shared}(sg:mQ (λb=>pG env b\/b=I) X s H σ₁ s' φ')(h:zY X env Z I s' φ' r q s2):zY X env Z I s H r q s2:=by
 cases h with|mk s₁ Kh h' f Ay F ap ok ne es ext eq hf=>exact⟨s₁,Kh,h',f,sg.trans Ay,F,ap,ok,ne,es,ext,eq,hf⟩
theorem Xr {f:PV->Loc->St->Option (Flow×Loc×St)}{x:PV}{xs:List PV}(e:w9 src all f (x::xs) U Y=some r){G:Prop}(k1:∀v,f x U Y=some r->r.1=.ret v->G)
  (k2:∀q,f x U Y=some q->q.1=.next\/q.1=.cont->oD q.2.2 src=some all->w9 src all f xs q.2.1 q.2.2=some r->G):G:=El.bd e λq h e=>by
 cases q with|mk fl q =>
 cases fl with
 |ret v=>exact k1 v (h.trans e) (lT Prod.fst (aq e)).symm
 |next=>exact El.it e λh2 e=>k2 _ h (.inl rfl) h2 e
 |cont=>exact El.it e λh2 e=>k2 _ h (.inr rfl) h2 e
variable (X A env Z src all I) in
def Fx (target:Expr)(body:List Stmt)(f:PV->Loc->St->Option (Flow×Loc×St))(xs:List PV):Prop:=∀(i:Nat) (s:Shared) (H:lV) (U:Loc) (Y:St) (r:Flow×Loc×St),all.drop i=xs->i<=all.length->FL X env Z src all I i s H U Y->oD Y src=some all ->
 w9 src all f xs U Y=some r->dc (ah X.prog X.w) A (.forLoop target (.ref I) body [] env) (zY X env Z I s H r) s
theorem adZ (hh:A.handled=none){target:Expr}{body:List Stmt}{f:PV->Loc->St->Option (Flow×Loc×St)}:Fx X A env Z src all I target body f []:=λi s H U Y r hd hi c hs he=>by
 cases he;cases Na hd hi;exact K9 (N_ hh c.R c.it hs λh' ext=>kQ ⟨s,H,h',.next,mQ.refl c.R,c.F,c.it.1,c.it.s8,c.F.yw c.it,rfl,ext,rfl,rfl⟩)
theorem abl {b:Ss Fn}(rn:wd G P O X k b){t:Tg}{target:Expr}{body:List Stmt}(vL:X.base.get? I=none)(pe:qq Z env.scope t target=true)(qi:sy G P b j Z env.scope body=true)(hr:tI A k j){x:PV}{xs:List PV}
  (ih:Fx X A env Z src all I target body (λx U Y=>(p3 t x U).bind λU=>sA mI mZ O b U Y) xs):Fx X A env Z src all I target body (λx U Y=>(p3 t x U).bind λU=>sA mI mZ O b U Y) (x::xs) :=
 λi s H U Y r hd hi c hs he=>Mo hd λGz hd hi=>by
  refine K9 (N9 c.R c.it hs Gz λv s1 AA hv AB=>?_);have c1:=c.next vL AA AB
  have body:∀q,((p3 t x U).bind λU=>sA mI mZ O b U Y)=some q->∀{Q:dh->Shared->Prop},(∀f s3 φ3,mQ (λb=>pG env b\/b=I) X s H q.2.2 s3 φ3->FL X env Z src all I (i+1) s3 φ3 q.2.1 q.2.2->yk s3.heap φ3 q.1 f->Q f s3) ->
    ag (ah X.prog X.w) A (d5 target (.ref I) v) (λ_ yX=>ag (ah X.prog X.w) A (bP target env v) (λ_ s₂=>ag (ah X.prog X.w) A (bI body env) Q mR s₂) mR yX) mR s1:=λq hq Q h=>El.bd hq λρ₂ hb hg =>
   AB.letGo (Ew hr.hh pe hv hb c1.R c1.F λs2 AD F2=>by
    have c2:=c1.Gn (AD.weaken λb _ e=>qP.vp e) F2;exact ay (rn j Z body env A s2 H ρ₂ Y q ⟨hr,c2.B,c2.R,c2.F⟩ hg qi) (λf s3 z=>z.elim λφ3 z=>h f s3 φ3 ((AA.weaken λb _ e=>.inr e).trans ((AD.weaken λb _ e=>.inl (qP.vp e)).trans (z.1.weaken λb _ e=>.inl e))) (c2.Gn z.1 z.2.1) z.2.2) λ_ _ e=>e)
  refine Xr he (λv hq e1=>body r hq λf s3 φ3 sg c3 hf=>?_) λq hq xq uE Az=>body q hq λf s3 φ3 sg c3 hf=>?_
  ·have J9:=hf;rw[e1] at hf;refine El.n3 hf λu e hu=>?_;cases e;exact⟨s3,φ3,s3.heap,_,sg,c3.F,c3.it.1,c3.it.s8,c3.F.yw c3.it,rfl,λ_ _ _ e=>e,rfl,J9⟩
  ·have on:=dF (ih (i+1) s3 φ3 q.2.1 q.2.2 r hd hi c3 uE Az) λq s' z=>z.pre sg;refine xq.elim (λe=>?_) λe=>?_
   ·rw[e] at hf;cases hf;exact on
   ·rw[e] at hf;cases hf;exact on
theorem Ng {b:Ss Fn}(rn:wd G P O X k b){t:Tg}{target:Expr}{body:List Stmt}(vL:X.base.get? I=none)(pe:qq Z env.scope t target=true)(qi:sy G P b j Z env.scope body=true)(hr:tI A k j) :
  ∀xs,Fx X A env Z src all I target body (λx U Y=>(p3 t x U).bind λU=>sA mI mZ O b U Y) xs
 |[]=>adZ hr.hh
 |_::xs=>abl rn vL pe qi hr (Ng rn vL pe qi hr xs)
theorem yk.vr {h h':Heap}{fl:Flow}{f:dh}(x:yk h H fl f)(vr:∀{p:PV} {v:Value},VR h H p v->VR h' H p v):yk h' H fl f:=by
 cases fl with
 |next=>exact x
 |cont=>exact x
 |ret v=>exact x.imp λu z=>⟨z.1,vr z.2⟩
theorem zY.done {s2:Shared}{φ1:lV}{σ₁:St}{q:cR}(sg:Sg X s H σ₁ s2 φ1)(t7:¬mL s.heap I)(y4:I∉φ1.g)(z:zY X env Z I s2 φ1 r q s'):∃f,q=.ok f/\PS X env Z s H r f s':=by
 cases z with|mk s₁ φ' h' f wH F ap ok ne es ext eq hf =>
 cases eq;cases es;have P:=D5 wH.rel ap (wH.gr.gh.symm▸y4) ok ext;have CW:mQ (λb=>pG env b\/b=I) X s H r.2.2 s₁ φ':=sg.wide.trans wH;exact⟨f,rfl,φ',Oe (CW.weaken λb l e=>e.elim id λe=>(t7 (e▸l)).elim) P.1 t7 ext,F.sF ext ne P.2.1,hf.vr P.2.1⟩
end
theorem ad0 (OK:Ok X G P)(ho:qu X O k)(t:Tg)(it:It Fn){b:Ss Fn}(rn:wd G P O X k b):tR G P O X k (.for t it b):=λj Z x env A s H U Y r W he hc=>af6 hc λg i y pos pe sO qi=>m_ he λsrc q h1 h2 =>
 wpAny_For (ay (BZ OK ho it j Z _ env A s H U Y src q.1 q.2 W h1 sO) (λv s1 z=>ay z (λrr s2 z=>by
  refine El.QZ z λI φ1 er sg t7 y4 Kj rY hlen=>?_;cases er;have W':=W.sg sg;exact dF (Ng rn (vO W.B t7) pe qi W.r q.1 0 s2 φ1 U q.2 r rfl (aC _) ⟨W'.B,W'.R,W'.F,Kj⟩ rY h2) λq s' z=>El.n3 (z.done sg t7 y4) λf e h=>by subst e;exact h) λ_ _ e=>e) λ_ _ e=>e) (G6 (G3 sO))
end
section
variable {G:List (String×PV)}{P:List Fn}{O:oh Fn}{X:Cx}{k:Nat}(OK:Ok X G P)(ho:qu X O k)
include OK ho
mutual
theorem ajq:∀st:S Fn,tR G P O X k st
 |.asg t e=>adV OK ho t e
 |.setattr o a e=>V0 OK ho o a e
 |.rS o i e=>Xo OK ho o i e
 |.expr e=>abk OK ho e
 |.append o e=>Xp OK ho o e
 |.ite c a b=>adY OK ho c (B0 a) (B0 b)
 |.for t it b=>ad0 OK ho t it (B0 b)
 |.ret e=>adW OK ho e
 |.cont=>abi
 |.bad=>abj
theorem B0:∀ss:Ss Fn,wd G P O X k ss
 |.nil=>Xq
 |.cons st ss=>V1 (ajq st) (B0 ss)
end
end
noncomputable def u7 (x:af×Value)(slots:List (af×Value)):bA (ForInStep (List (af×Value))) :=
 if(ic x.fst slots).isNone=true then pure (bW (slots++[(x.fst,x.snd)])) else pure (bW slots)
theorem Nh:∀(L slots:List (af×Value)),(∀x∈L,(slots.lookup x.1).isNone=false)->forIn L slots u7=(pure slots:bA _)
 |[],slots,_=>by rw[fM]
 |x::L,slots,h=>by
  rw[dz];unfold u7;rw[lX (by rw[h x (by simp)];decide)];rw[pure_bind];exact Nh L slots λy hy=>h y (aE _ hy)
theorem lookup_append_none {l r:List (af×Value)}{n:af}(h:l.lookup n=none):(l++r).lookup n=r.lookup n:=by
 induction l with
 |nil=>rfl
 |cons p l ih =>
  obtain⟨m,v⟩:=p;rw[f6];simp only[cw] at h⊢
  split at h
  ·cases h
  ·exact ih h
theorem Ni:∀(L slots:List (af×Value)),(∀x∈L,slots.lookup x.1=none)->(L.map (·.1)).Nodup->forIn L slots u7=(pure (slots++L):bA _)
 |[],slots,_,_=>by rw[fM,bc]
 |x::L,slots,h,hn=>by
  rw[dz];rw[a9,dr] at hn;unfold u7;rw[lW (by rw[h x (by simp)];rfl)];rw[pure_bind];show forIn L (slots++[(x.1,x.2)]) u7=_;rw[Ni L (slots++[(x.1,x.2)]) (λy hy=>?_) hn.2,bR]
  ·rfl
  ·rw[lookup_append_none (h y (aE _ hy))];have ne:¬y.1=x.1:=λe=>hn.1 (List.mem_map.mpr ⟨y,hy,e⟩);have:(y.1==x.1)=false:=by simpa using ne
   simp only[cw,this,List.lookup_nil]
theorem K_ {V β:Type}(f:V->β->bA (ForInStep β)):∀(l r:List V) (b b':β),forIn l b f=(pure b':bA β)->(∀x b,∃b'',f x b=pure (bW b''))->forIn (l++r) b f=forIn r b' f
 |[],r,b,b',h,_=>by
  rw[fM] at h;have:b=b':=by cases h;rfl
  subst this;rfl
 |x::l,r,b,b',h,hf=>by
  rw[f6,dz];rw[dz] at h;obtain⟨b2,e⟩:=hf x b;rw[e,pure_bind] at h⊢;exact K_ f l r b2 b' h hf
theorem LM:∀{ns:List af} {vs:List Value} (n:af),n∉ns.take vs.length->(ns.zip vs).lookup n=none
 |[],_,_,_=>rfl
 |_::_,[],_,_=>rfl
 |m::ns,v::vs,n,h=>by
  simp only[dn,kR,bT,not_or] at h;simp only[fV,cw];have:(n==m)=false:=by simpa using h.1
  rw[this];exact LM n h.2
theorem GP:∀{ns:List af} {vs:List Value} (n:af),n∈ns.take vs.length->((ns.zip vs).lookup n).isNone=false
 |[],_,_,h=>by simp at h
 |_::_,[],_,h=>by simp at h
 |m::ns,v::vs,n,h=>by
  simp only[dn,kR,bT] at h;simp only[fV,cw]
  split
  ·rfl
  ·rename_i q;rcases h with h|h
   ·subst h;simp at q
   ·exact GP n h
theorem KY:∀{ns:List af} {vs:List Value} (slots:List (af×Value)),ns.Nodup->vs.length=ns.length->(∀(i:Nat) (n:af) (v:Value),ns[i]? =some n->vs[i]? =some v->slots.lookup n=some v)->ns.filterMap (λn=>(slots.lookup n).map (n,·))=ns.zip vs
 |[],_,_,_,_,_=>rfl
 |n::ns,[],_,_,h,_=>by simp at h
 |n::ns,v::vs,slots,hn,hl,h=>by
  rw[dr] at hn;have h0:=h 0 n v rfl rfl;simp only[List.filterMap_cons,h0,jg,fV];rw[KY slots hn.2 (by simpa using hl) λi m u a b=>h (i+1) m u (by simpa using a) (by simpa using b)]
theorem LN:∀{ns:List af} {vs:List Value},ns.Nodup->∀(i:Nat) (n:af) (v:Value),ns[i]? =some n->vs[i]? =some v->(ns.zip vs).lookup n=some v
 |[],_,_,i,n,v,h,_=>by simp at h
 |m::ns,[],_,i,n,v,_,h=>by simp at h
 |m::ns,u::vs,hn,i,n,v,h1,h2=>by
  rw[dr] at hn;simp only[fV,cw];cases i with
  |zero =>
   simp only[List.getElem?_cons_zero,dM] at h1 h2;subst h1 h2;simp
  |succ i =>
   simp only[i_] at h1 h2;have:¬n=m:=λe=>hn.1 (e▸bj h1);have:(n==m)=false:=by simpa using this
   rw[this];exact LN hn.2 i n v h1 h2
theorem Of {V:Type}(l:List V){n:Nat}(h:n<=l.length){G:Prop}(k:∀a b,l=a++b->a.length=n->G):G:=k (l.take n) (l.drop n) (kS n l).symm (List.length_take_of_le h)
theorem Zk {rP t8 Kn:List af}{vals d0 d1:List Value}(hs:∀n∈Kn,n∈rP)(h1:rP.length=vals.length)(h2:Kn.length=d0.length)(h3:t8.length=d1.length)(hn:(rP++t8).Nodup) :
  forIn ((Kn++t8).zip (d0++d1)) (rP.zip vals) u7=(pure ((rP++t8).zip (vals++d1)):bA _):=by
 have tk:rP.take vals.length=rP:=List.take_of_length_le (ax h1)
 have nd:=List.nodup_append.mp hn;rw[ie h2,K_ u7 _ _ _ _ (Nh _ _ λx hx=>GP _ (tk.symm▸hs _ (ig (a:=x.1) (b:=x.2) hx).1)) (λx b=>by unfold u7;split<;>exact⟨_,rfl⟩),
  Ni _ _ (λx hx=>LM _ λq=>nd.2.2 _ (tk▸q) _ (ig (a:=x.1) (b:=x.2) hx).1 rfl) (by rw[kT (ax h3)];exact nd.2.1),ie h1]
theorem ar1 {x y z:Nat}(h:x=x+y - z)(hz:z<=x+y):z=y:=jm ((lT (·+z) h).trans (Nat.sub_add_cancel hz))
theorem ar2 {x y v:Nat}:x+y - (v+y - v)=x:=by rw[ek,Nat.add_sub_cancel]
theorem ar3 {m a b:Nat}(h:a+b<=a+m):b<=m:=Nat.le_of_add_le_add_left h
theorem abm {ns:List af}{vals ds:List Value}(hn:ns.Nodup)(hv:vals.length<=ns.length)(hd:ns.length<=vals.length+ds.length)(uH:ds.length<=ns.length) :
  forIn ((gV (ns.length - ds.length) ns).zip ds) (ns.zip vals) u7=(pure (ns.zip (vals++ds.drop (ds.length - (ns.length - vals.length)))):bA _)/\(vals++ds.drop (ds.length - (ns.length - vals.length))).length=ns.length:=by
 refine Of ns hv λrP t8 e h1=>?_;cases e;rw[ar,h1] at hd;have hz:=ar3 hd;refine Of ds (gY ds.length t8.length) λd0 d1 e h0=>?_;cases e;rw[ar] at h0 hz;have h3:=ar1 h0 hz;rw[ar,ar,h3] at uH;have hle:=Nat.le_of_add_le_add_right uH;have x1:(rP++t8).zip vals=rP.zip vals:=by
  have:=ie (l₁:=rP) (r₁:=t8) (l₂:=vals) (r₂:=[]) h1;rw[bc] at this;rw[this,List.zip_nil_right,bc]
 have x2:(d0++d1).drop ((d0++d1).length - ((rP++t8).length - vals.length))=d1:=by
  rw[ar,ar,h1,h3,ar2,List.drop_left]
 have x3:(rP++t8).drop ((rP++t8).length - (d0++d1).length)=rP.drop (rP.length - d0.length)++t8:=by
  rw[ar,ar,h3,Nat.add_sub_add_right,ib (gY ..)]
 rw[x1,x2,x3];exact⟨Zk (λn hm=>List.mem_of_mem_drop hm) h1 (by rw[gX,kU hle]) h3 hn,by rw[ar,ar,h1,h3]⟩
theorem abn {ns:List af}{vals ds:List Value}(hd:ns.length<=vals.length+ds.length):(!(kV (λn=>(ic n (ns.zip vals)).isNone) (kW (ns.length - ds.length) ns)).isEmpty)=false:=by
 rw[List.filter_eq_nil_iff.mpr λn hm=>by rw[GP n ((List.take_subset_take_left ns (Nat.sub_le_iff_le_add.mpr hd)) hm)];decide];rfl
theorem H_ {M:eM}{A:aA}{E:Value->Shared->Prop}{s:Shared}{V:Type}{c:Prop}[Decidable c]{x y:bA V}{Q:V->Shared->Prop}(h:¬c)(k:ag M A y Q E s):ag M A (if c then x else y) Q E s:=(lX h).symm▸k
theorem agg {M:eM}{A:aA}{E:Value->Shared->Prop}{s:Shared}{V:Type}{x:bA V}{a:V}{Q:V->Shared->Prop}(h:x=pure a)(k:Q a s):ag M A x Q E s:=h▸aw k
theorem abo {M:eM}{A:aA}{E:Value->Shared->Prop}{s:Shared}{fd:FuncData}{as:List Arg}{kwd:List (Option Expr)}{GB:List Expr}{vals ds:List Value}{Q:List (af×Value)->Shared->Prop}
  (hp:fd.params=⟨[],as,none,[],kwd,none,GB⟩) (hn:(as.map (·.arg)).Nodup) (hv:vals.length<=as.length) (hd:as.length<=vals.length+ds.length) (uH:ds.length<=as.length)
  (s9:∀(Q:Option (Array Value)->Shared->Prop),(∀r,(r=some ds.toArray\/(ds=[]/\r=none))->Q r s)->ag M A (seqItems? fd.defaults) Q E s)
  (h:Q ((as.map (·.arg)).zip (vals++ds.drop (ds.length - (as.length - vals.length)))) s):ag M A (bindArgs fd ⟨vals,[]⟩) Q E s:=by
 generalize r_:as.map (·.arg)=ns at hn h;have qU:as.length=ns.length:=by rw[← r_,au]
 rw[qU] at hv hd uH h;have z:=abm hn hv hd uH;have k1:∀oO:List af,oO=ns->¬(decide (vals.length>oO.length)&&(none:Option Arg).isNone)=true:=λoO e=>by rw[e,decide_eq_false (Nat.not_lt.mpr hv)];exact ij
 have e1:ds.drop (ds.length - ns.length)=ds:=by rw[Nat.sub_eq_zero_of_le uH];rfl
 have k2:∀(oO:List af) (D:List Value),oO=ns->D=ds->¬(!(kV (λn=>(ic n (oO.zip vals)).isNone) (kW (oO.length - (D.drop (D.length - oO.length)).length) oO)).isEmpty)=true:=λoO D e e'=>by
  rw[e,e',e1,abn hd];exact ij
 have k3:∀(oO:List af) (D:List Value),oO=ns->D=ds->forIn ((gV (oO.length - (D.drop (D.length - oO.length)).length) oO).zip (D.drop (D.length - oO.length))) (oO.zip vals) u7=(pure (ns.zip (vals++ds.drop (ds.length - (ns.length - vals.length)))):bA _):=λoO D e e'=>by
  rw[e,e',e1];exact z.1
 have k4:∀oO:List af,oO=ns->Q (oO.filterMap λn=>((ns.zip (vals++ds.drop (ds.length - (ns.length - vals.length)))).lookup n).map (n,·)) s:=λoO e=>by
  rw[e,KY _ hn z.2 (LN hn)];exact h
 unfold bindArgs;rw[hp];refine aj ?_;show ag M A (pure _) _ E s;refine aw (aj (s9 _ λr hr=>?_));have e0:(r.getD #[]).toList=ds:=hr.elim (λe=>e▸rfl) λe=>e.2▸e.1.symm;refine H_ (k1 _ r_) (H_ (k2 _ _ r_ e0) (aj (agg (k3 _ _ r_ e0) ?_)));refine aj ?_;show ag M A (pure _) _ E s;refine aw (H_ ij ?_);show ag M A (pure _) _ E s;exact aw (k4 _ ((bc _).trans r_))
theorem V2 {ko:af->Option NameKind}{n:af}(b:List (af×Value)):∀{m:af->Option Value},n∉b.map (·.1)->eQ ko b m n=m n:=by
 induction b with
 |nil=>exactλ_=>rfl
 |cons p r ih =>
  intro m h;have h:=not_or.mp (λq=>h (List.mem_cons.mpr q));unfold eQ;rw[ih h.2];by_cases q:ko p.1=some .local
  ·rw[lW q];exact lX h.1
  ·rw[lX q]
theorem V3 {ko:af->Option NameKind}{n:af}(b:List (af×Value)):∀{m:af->Option Value},n∉b.map (·.1)->eR ko b m n=m n:=by
 induction b with
 |nil=>exactλ_=>rfl
 |cons p r ih =>
  intro m h;have h:=not_or.mp (λq=>h (List.mem_cons.mpr q));unfold eR;rw[ih h.2];by_cases q:ko p.1=some .local
  ·rw[lW q]
  ·rw[lX q];exact lX h.1
theorem Zl {ko:af->Option NameKind}{n:af}{v:Value}(hk:ko n=some .local)(b:List (af×Value)):∀{m:af->Option Value},(b.map (·.1)).Nodup->(n,v)∈b->eQ ko b m n=some v:=by
 induction b with
 |nil=>exactλ_ h=>nomatch h
 |cons p r ih =>
  intro m hn h;have hn:=List.nodup_cons.mp hn;refine(List.mem_cons.mp h).elim (λh=>?_) (ih hn.2);cases h;unfold eQ;rw[V2 r hn.1,lW hk];exact lW rfl
theorem Zm {ko:af->Option NameKind}{n:af}{v:Value}(hk:ko n≠some .local)(b:List (af×Value)):∀{m:af->Option Value},(b.map (·.1)).Nodup->(n,v)∈b->eR ko b m n=some v:=by
 induction b with
 |nil=>exactλ_ h=>nomatch h
 |cons p r ih =>
  intro m hn h;have hn:=List.nodup_cons.mp hn;refine(List.mem_cons.mp h).elim (λh=>?_) (ih hn.2);cases h;unfold eR;rw[V3 r hn.1,lX hk];exact lW rfl
theorem Lk {l:List (af×Addr)}{n x:af}{a:Addr}(h:n=x\/(l.lookup n).isSome=true):(((x,a)::l).lookup n).isSome=true:=by
 rw[cw];cases q:n==x with
 |true=>rfl
 |false=>exact h.elim (λe=>El.bf (q.symm.trans (beq_iff_eq.mpr e))) id
theorem Th {n:af}(l:List (af×NameKind)):∀{L:Nat} {acc:List (af×Addr)},(acc.lookup n).isSome=true->((fW L l acc).lookup n).isSome=true:=by
 induction l with
 |nil=>exactλh=>h
 |cons p r ih =>
  intro L acc h;unfold fW
  split
  ·exact ih (Lk (.inr h))
  ·exact ih h
theorem LO {n:af}(l:List (af×NameKind)):∀{L:Nat} {acc:List (af×Addr)},(n,fN)∈l->((fW L l acc).lookup n).isSome=true:=by
 induction l with
 |nil=>exactλh=>nomatch h
 |cons p r ih =>
  intro L acc h;unfold fW;refine(List.mem_cons.mp h).elim (λh=>?_) λh=>?_
  ·cases h;rw[lW (show(fN==fN)=true from rfl)];exact Th r (Lk (.inl rfl))
  ·split<;>exact ih h
structure Jw (X:Cx)(G:List (String×PV))(P:List Fn)(f:Fn):Prop where
 mk' ::
 ex:∃(fd:FuncData) (body:List Stmt) (o:Obj) (as:List Arg) (kwd:List (Option Expr)) (GB:List Expr) (ds:List Value),
  X.base.get? (X.fn f)=some o/\o.data=.func fd/\fd.body=.stmts body/\sy G P (funcs f).body 3 ((funcs f).names.map nm) fd.scope body=true /\
  (fd.scope.kind=.function/\fd.scope.isGenerator=false/\fd.scope.isCoroutine=false/\fd.globals=a7/\fd.builtins=cz/\fd.closure=[]) /\
  (fd.params=⟨[],as,none,[],kwd,none,GB⟩/\as.map (·.arg)=((funcs f).names.map nm).take (funcs f).ru/\(funcs f).ru<=(funcs f).names.length/\(((funcs f).names.map nm).take (funcs f).ru).Nodup) /\
  (∀x∈((funcs f).names.map nm).take (funcs f).ru,fd.scope.names.lookup x=some .local\/fd.scope.names.lookup x=some .cell)/\(∀n,fd.scope.names.lookup n≠some .free) /\
  (l6 X.base lV.nil (funcs f).defaults ds/\(∀v∈(funcs f).defaults,v.isData=true)/\(funcs f).defaults.length<=(funcs f).ru /\
   ((∃a o n,fd.defaults=.ref a/\X.base.get? a=some o/\o.data=.seq ds.toArray n)\/(ds=[]/\fd.defaults=.none)))/\X.base.CodeRec fd.code fd.qualname
theorem abp {X:Cx}{h:Heap}{H:lV}(B:Base X h)(l:List PV):∀{us:List Value},(∀v∈l,v.isData=true)->l6 X.base lV.nil l us->l6 h H l us:=by
 induction l with
 |nil=>exactλ_ x=>x
 |cons p l ih =>
  intro us hd x;refine El.tT x λv r e hv hr=>?_;exact⟨v,r,e,VR.DZ (λa l_ t=>t.imp λo z=>⟨B.keep _ _ z.1,z.2⟩) (hd p (aG ..)) (VR.data (ψ:=H) (hd p (aG ..)) hv),ih (λv hv=>hd v (aE _ hv)) hr⟩
theorem ad1 {h:Heap}{H:lV}{v:PV}(l:List PV):∀{us:List Value} {i:Nat},l6 h H l us->l[i]? =some v->∃u,us[i]? =some u/\VR h H v u:=by
 induction l with
 |nil=>exactλ_ e=>nomatch e
 |cons p l ih =>
  intro us i x e;refine El.tT x λw r eu hw hr=>?_;subst eu;cases i with
  |zero=>exact El.sj e ⟨w,rfl,hw⟩
  |succ i=>exact(ih hr e:∃u,r[i]? =some u/\VR h H v u)
theorem ad2 {h:Heap}{H:lV}{b:List PV}{vs:List Value}(y:l6 h H b vs)(a:List PV):∀{us:List Value},l6 h H a us->l6 h H (a++b) (us++vs):=by
 induction a with
 |nil=>intro us x;cases(show us=[] from x);exact y
 |cons p a ih =>
  intro us x;refine El.tT x λv r e hv hr=>?_;subst e;exact⟨v,r++vs,rfl,hv,ih hr⟩
theorem abq {h:Heap}{H:lV}(n:Nat):∀{a:List PV} {us:List Value},l6 h H a us->l6 h H (a.drop n) (us.drop n):=by
 induction n with
 |zero=>exactλx=>x
 |succ n ih =>
  intro a us x;cases a with
  |nil=>cases(show us=[] from x);exact x
  |cons p a =>
   refine El.tT x λv r e hv hr=>?_;subst e;exact ih hr
section
variable {G:List (String×PV)}{P:List Fn}{O:oh Fn}{X:Cx}{k:Nat}
theorem P_ {s s':Shared}{a:Addr}{m:af->Option Value}{cl:List (af×Addr)}{mc:af->Option Value}(x:InCallC s a m cl mc s'):Pu s s':=El.uC x.done λh' tk e q8=>by
 subst e;exact⟨q8,rfl,rfl⟩
theorem Zn {Z ns:List af}{nz:List PV}(r_:Z.take ns.length=ns)(h:nz.length=ns.length):(nz.map some++aI (Z.length - ns.length) (none:Option PV)).length=Z.length:=by
 have h2:=lT bG r_;rw[fc] at h2;rw[ar,au,kN,h,fJ (h2▸ei ..)]
theorem ad3 {h:Heap}{H:lV}{Z ns:List af}{nz:List PV}{us:List Value}{i:Nat}{n:af}{v:PV}(hl:nz.length=ns.length)(r_:Z.take ns.length=ns)(hv:l6 h H nz us)(e1:Z[i]? =some n)
  (e2:(nz.map some++aI (Z.length - ns.length) none)[i]? =some (some v)):∃u,(n,u)∈ns.zip us/\VR h H v u:=by
 have z:=Bw e2
 have e3:=z.2;rw[cJ] at e3;refine El.n3 (Option.map_eq_some_iff.mp e3) λw e4 e5=>?_;cases e5;refine(ad1 nz hv e4).imp λu y=>⟨bj (i:=i) (List.getElem?_zip_eq_some.mpr ⟨?_,y.1⟩),y.2⟩;rw[← r_,iV,lW (by rw[← hl,← au (f:=some)];exact z.1)];exact e1
theorem abr {env:Env}{s s':Shared}{H:lV}{Y:St}{Z ns:List af}{nz:List PV}{us:List Value}(B:Base X s.heap)(R:Rel X s.heap H Y)(x:InCallC s env.locals (eQ env.kindOf (ns.zip us) λ_=>none) env.cells (eR env.kindOf (ns.zip us) λ_=>none) s')
  (hk:env.scope.kind=.function) (hg:env.globals=a7) (hb:env.builtins=cz) (r_:Z.take ns.length=ns) (yO:ns.Nodup) (hv:l6 s.heap H nz us) (hl:us.length=ns.length)
  (hf:∀n,env.kindOf n≠some .free) (hc:∀n,env.kindOf n=some .cell->∃c,env.cells.lookup n=some c) :
  FR X env Z s'.heap H (nz.map some++aI (Z.length - ns.length) none):=by
 have pu:=P_ x
 have Qa:∀b,s.heap.objs.size<=b->¬mL s.heap b:=λb hb=>mL.Ep hb
 have nl:¬mL s.heap env.locals:=Qa _ x.toInCall.fresh
 have nc:∀n c,env.cells.lookup n=some c->¬mL s.heap c:=λn c e=>Qa _ (aS (aT x.toInCall.fresh (x.above n c (mem_of_lookup e))))
 have nd:((ns.zip us).map (·.1)).Nodup:=by rw[kT (ax hl.symm)];exact yO
 have slot:∀(i:Nat) (n:af) (v:PV),Z[i]? =some n->(nz.map some++aI (Z.length - ns.length) none)[i]? =some (some v)->∃u,(n,u)∈ns.zip us/\VR s'.heap H v u:=λi n v e1 e2 =>
  (ad3 (hv.len.symm.trans hl) r_ hv e1 e2).imp λu z=>⟨z.1,pu.vr R z.2⟩
 exact
  {kind:=hk,glob:=hg,blt:=hb,len:=Zn r_ (hv.len.symm.trans hl)
   loc:=⟨_,x.toInCall.ns,λi n v hm e xF=>(slot i n v hm.1 e).imp λu z=>⟨Zl xF _ nd z.1,z.2⟩⟩
   t4:=λi n v hm e xF=>El.n3 (slot i n v hm.1 e) λu hu yT=>xF.elim (λxF=>(hc n xF).imp λc tX=>⟨u,tX,Zm (ko:=env.kindOf) (λq=>nomatch xF.symm.trans q) _ nd hu▸x.cell n c tX,yT⟩) λxF=>absurd xF (hf n)
   sN:=λn c e=>⟨_,x.cell n c e⟩,inj:=λn n' c e e'=>name_of_addr x.apart (mem_of_lookup e) (mem_of_lookup e'),sep:=λn c e=>bJ (x.above n c (mem_of_lookup e))
   xE:=(R.clear nl).1,t5:=λn c e=>(R.clear (nc n c e)).1,bL:=vO B nl,bC:=λn c e=>vO B (nc n c e),xl:=hc,yt:=λn e=>absurd e (hf n) }
theorem Zo {A:aA}{env:Env}(hr:yv A (k+1)):tI (A.deeper env) k 3:=⟨hr.hh,by have:=hr.d;show A.depth+1+12*k+3*3+12<=1000;lia,by have:=hr.u;show A.units+3+40*k+8*3+108<cLine;lia⟩
theorem Xs {A:aA}(hr:yv A (k+1)):A.depth<recursionLimit:=by have:=hr.d;unfold recursionLimit;lia
def QR (q:Flow×Loc×St)(r:PV)(σ':St):Prop:=q.2.2=σ'/\(q.1=.ret r\/(q.1=.next/\r=.none))
theorem abt {O:oh Fn}{fd:BN Fn}{args:List PV}{Y:St}{r:PV}{σ':St}(he:Ic mI mZ O fd args Y=some (r,σ')){G:Prop}(k:∀U q,my fd args=some U->sA mI mZ O fd.body U Y=some q->QR q r σ'->G):G :=
 El.bd he λU h1 he=>El.bd he λq h2 h3=>k U q h1 h2 (by
  cases q with|mk fl q=>cases fl with
  |ret v=>cases h3;exact⟨rfl,.inl rfl⟩
  |next=>cases h3;exact⟨rfl,.inr ⟨rfl,rfl⟩⟩
  |cont=>exact El.nn h3)
theorem abu {h:Heap}{H:lV}{q:Flow×Loc×St}{r:PV}{σ':St}{fr:dh}(z:QR q r σ')(x:yk h H q.1 fr):(fr=.next/\r=.none)\/∃u,fr=.ret u/\VR h H r u:=by
 refine z.2.elim (λe=>.inr ?_) λe=>.inl ⟨?_,e.2⟩
 ·rw[e] at x;exact x
 ·rw[e.1] at x;exact x
theorem Zp (OK:Ok X G P)(FW:X.base.NoLimit)(hf:∀f,Jw X G P f)(ih:qu X (lY k) k):qu X (lY (k+1)) (k+1):=λf args Y r σ' he=>abt (fd:=funcs f) (Mr.symm.trans he) λU q h1 h2 h3=>El.it h1 λFy h1=>by
 have h1:=aq h1;intro A s H vs hr B R hv;obtain⟨fd,body,o,as,kwd,GB,ds,ho,hd,ahT,ajr,⟨hk,ajs,y5,Cy,tc,ajt⟩,⟨hp,has,hnp,yO⟩,hpk,ahU,⟨s9,hdd,uH,aju⟩,wC⟩:=(hf f).ex;have qU:as.length=(funcs f).ru:=by
  have:=lT bG has;rwa[au,fc,au,gS hnp] at this
 have GC:vs.length=args.length:=hv.len;have FX:ds.length=(funcs f).defaults.length:=s9.len;refine codeAny_call_function (Xs hr) (B.keep _ _ ho) hd y5 ajs ahT (wC.keeps B.keep) ?_;refine abo (ds:=ds) hp (by rw[has];exact yO) (by rw[GC,qU];exact Fy.1) (by rw[GC,qU,FX];exact Fy.2) (by rw[FX,qU];exact uH) (λQ hQ=>?_) ?_
 ·rcases aju with⟨a,od,n,e1,e2,e3⟩|⟨e1,e2⟩
  ·rw[e1];exact jG (B.keep _ _ e2) e3 (hQ _ (.inl rfl))
  ·rw[e2];exact aw (hQ none (.inr ⟨e1,rfl⟩))
 rw[ajt];have hU:l6 s.heap H (args++(funcs f).defaults.drop ((funcs f).defaults.length - ((funcs f).ru - args.length))) (vs++ds.drop (ds.length - (as.length - vs.length))):=by
  rw[FX,qU,GC];exact ad2 (abq _ (abp B _ hdd s9)) _ hv
 have hUl:(vs++ds.drop (ds.length - (as.length - vs.length))).length=(as.map (·.arg)).length:=by
  rw[ar,gX,au,FX,qU,GC,kU (Nat.sub_le_iff_le_add'.mpr Fy.2),fJ Fy.1]
 refine wpAny_newFunctionEnv_cells hk (λx hx=>(hpk x.1 (has▸(ig (a:=x.1) (b:=x.2) hx).1)).imp id λe=>⟨e,LO _ (mem_of_lookup e)⟩) λenv he s1 x=>?_;have pu:=P_ x;refine⟨(FW.keeps B.keep).keeps pu.keep,codeAny_func ?_⟩;have wI:env.scope=fd.scope:=by rw[he];rfl
 have Se:∀n,env.kindOf n=fd.scope.names.lookup n:=λn=>lT (λsc:Scope=>sc.names.lookup n) wI;have F:FR X env ((funcs f).names.map nm) s1.heap H U:=by
  have z:=abr (Z:=(funcs f).names.map nm) (ns:=as.map (·.arg)) B R x (by rw[wI];exact hk) (by rw[he];exact Cy) (by rw[he];exact tc) (by rw[au,qU];exact has.symm) (by rw[has];exact yO) hU hUl
   (λn e=>ahU n ((Se n).symm.trans e)) (λn e=>by
    have z:=LO (L:=s.heap.objs.size+1) (acc:=[]) _ (mem_of_lookup ((Se n).symm.trans e));rw[he];exact Option.isSome_iff_exists.mp z)
  rw[au,au,qU] at z;exact h1▸z
 have Gx:=Sg.pu R pu;refine ay (B0 OK ih _ 3 _ body env (A.deeper env) s1 H U Y q ⟨Zo hr,pu.base B,Gx.rel,F⟩ h2 (by rw[wI];exact ajr)) (λfr s2 z=>z.elim λφ' z=>?_) λ_ _ e=>e.elim;have sg:Sg X s H q.2.2 s2 φ':=(Gx.wide.trans z.1).weaken λb hb e=>mL.Ep (e.elim (λe=>e▸x.toInCall.fresh) λe=>e.elim λn e=>aS (aT x.toInCall.fresh (x.above n b (mem_of_lookup e)))) hb;rw[h3.1] at sg;refine(abu h3 z.2.2).elim (λe=>?_) λe=>e.elim λu e=>?_
 ·cases e.1;cases e.2;exact⟨.none,φ',rfl,sg,rfl⟩
 ·cases e.1;exact⟨u,φ',rfl,sg,e.2⟩
theorem QS (OK:Ok X G P)(FW:X.base.NoLimit)(hf:∀f,Jw X G P f):∀k,qu X (lY k) k
 |0=>λf args Y r σ' he=>El.nn (abI.symm.trans he)
 |k+1=>Zp OK FW hf (QS OK FW hf k)
end
noncomputable abbrev PW:Program:=lK
noncomputable def sv (s:String)(t:Nat):Value:=.str (bq s) t
noncomputable def nv (n t:Nat):Value:=.int (eC n) t
noncomputable def mF (l:List Value):Obj:=⟨.type "tuple",none,.seq ⟨l⟩ 0,#[]⟩
noncomputable def nZ (c:Value)(l:List Value):Obj:=⟨c,none,.fields ⟨l⟩,#[]⟩
noncomputable def Qb (t:Nat):Value:=sv "/claim/cut.py" t
noncomputable def de (P:cC)(s:String)(t:Nat)(v:Value):DictEntry:=⟨eH P (bq s),sv s t,v⟩
noncomputable def rf (c:Value)(l:List DictEntry)(e:Nat):Obj:=⟨c,none,.dict ⟨l⟩ e,#[]⟩
noncomputable def we (nm qual:Value)(file line ahV flags:Nat)(fn:Bool)(a:Nat)(r:List Value)(t:Nat):Obj :=
 nZ (.type "code") (nm::qual::Qb file::nv line 0::nv ahV 0::nv 0 0::nv 0 0::nv flags 0::.ref a::.bool fn::nv 181 0::.ref (c8 a)::.none::(r++[nv t 0,nv line 0,Qb (c8 t)]))
noncomputable def ahW (x:Str×NameKind):Bool:=match x.2 with
 |.local=>true
 |_=>false
noncomputable def Jx (f:Nat->Str->Value):Nat->List (Str×NameKind)->List Value
 |_,[]=>[]
 |t,x::r=>bif ahW x then f t x.1::Jx f (c8 t) r else Jx f t r
noncomputable def ajv (t:Nat)(s:Str):Value:=.str s t
noncomputable def nM (long:Bool)(d:Stmt)(q:Option String)(a t:Nat)(df m:Value)(j:Nat):Obj:=match d with
 |.FunctionDef nm args body _ _ _ sc _ _ pos =>
  let qn:Str:=match q with|some q=>bq q|none=>nm
  let vn:List Value:=bif long then Jx ajv (bZ t 3) sc.names else[]
  let fd (g:Nat) (df m c:Value):FuncData:={name:=nm,qualname:=qn,params:=args,body:=.stmts body,scope:=sc,globals:=g,closure:=[],defaults:=df,kwdefaults:=.none,pyModule:=m,code:=c}
  let f:Nat:=bif long then bZ a 4 else bZ a 2
  let l:List Obj:=[⟨.none,none,.func (fd 0 .none .none .none),#[]⟩,
   we (.str nm t) (.str qn (c8 t)) (bZ t 2) pos.line args.args.length 3 true a (bif long then[.ref (bZ a 2),.ref (bZ a 3),.ref f] else[.none,.none,.ref f]) (bZ (bZ t 3) vn.length),
   ⟨.type "function",none,.func (fd 3 df m (.ref (c8 f))),#[]⟩]
  (mF []::nZ .none []::(bif long then mF vn::mF []::l else l)).getD j default
 |_=>default
noncomputable def mkT (n:Nat)(f:Nat->Obj)(d:Nat):Nat->Nat->BT:=Nat.rec (λ_ _=>.nil) (λ_ ih a s=>Bool.rec .nil (.node (f a) (ih (bZ a s) (bZ s s)) (ih (bZ a (bZ s s)) (bZ s s))) (d8 a n)) d
noncomputable def rZ (i:Nat):Stmt:=(eS PW).getD i default
noncomputable def subAt (i j:Nat):Stmt:=match rZ i with
 |.ClassDef _ _ _ body _ _ _ _ _ _ _=>body.getD j default
 |s=>s
noncomputable def nB:Value:=sv "kindkeep.hosts" 1030
noncomputable def nO:Value:=sv "kindkeep.types" 283
noncomputable def mod2:Value:=sv "law_pq0591_01" 1541
noncomputable def qQ:Value:=sv "kindkeep.typeops" 813
noncomputable def rD:Value:=sv "kindkeep.excess" 1427
noncomputable def tS:Value:=sv "kindkeep.diags" 194
noncomputable def lZ (a k:Nat)(x y:Obj):Obj:=bif d8 a k then x else y
noncomputable def mV (i s t:Nat)(m:Value)(a:Nat):Obj:=nM true (rZ i) none s t .none m (aF a s)
noncomputable def oz (i s t:Nat)(m:Value)(a:Nat):Obj:=nM false (rZ i) none s t .none m (aF a s)
noncomputable def oP (l:List Obj)(a s:Nat):Obj:=l.getD (aF a s) default
noncomputable def tail3 (P:cC):List DictEntry:=[de P "__doc__" 166 .none,de P "__package__" 167 .none,de P "__loader__" 168 (.builtin "__main__.__loader__#opaque"),de P "__spec__" 169 .none,de P "__annotations__" 170 (.ref 6),de P "__builtins__" 171 (.ref 4),de P "__file__" 173 (sv "/claim/cut.py" 172),de P "__cached__" 174 .none,de P "_wall" 193 (.ref 21),de P "KeepError" 226 (.ref 39),de P "TooDeep" 255 (.ref 60),de P "HostFault" 282 (.ref 80),de P "Y_KEY" 286 (nv 1 285),de P "Y_BOOL" 288 (nv 2 287),de P "Y_STR" 290 (nv 3 289),de P "Y_NUM" 292 (nv 4 291),de P "Y_ENUM" 294 (nv 5 293),de P "Y_UNION" 296 (nv 6 295),de P "Y_INTER" 298 (nv 7 297),de P "Y_OBJ" 300 (nv 8 299),de P "Y_REF" 302 (nv 9 301),de P "Y_PARAM" 304 (nv 10 303),de P "Y_ARRAY" 306 (nv 11 305),de P "Y_TUPLE" 308 (nv 12 307),de P "Y_SIG" 310 (nv 13 309),de P "Y_KEYOF" 312 (nv 14 311),de P "Y_INDEX" 314 (nv 15 313),de P "Y_COND" 316 (nv 16 315),de P "Y_MAPPED" 318 (nv 17 317),de P "Y_TPL" 320 (nv 18 319),de P "Y_ALIAS" 322 (nv 19 321),de P "ANY" 324 (nv 0 323),de P "UNKNOWN" 326 (nv 1 325),de P "NEVER" 328 (nv 2 327),de P "VOID" 330 (nv 3 329),de P "UNDEF" 332 (nv 4 331),de P "NULLT" 334 (nv 5 333),de P "STRING" 336 (nv 6 335),de P "NUMBER" 338 (nv 7 337),de P "FALSE_T" 340 (nv 8 339),de P "TRUE_T" 342 (nv 9 341),de P "OBJECTT" 344 (nv 10 343),de P "EMPTY" 346 (nv 11 345),de P "ERR" 348 (nv 13 347),de P "FRESH_F" 350 (nv 14 349),de P "FRESH_T" 352 (nv 15 351),de P "P_OPT" 354 (nv 1 353),de P "P_READONLY" 356 (nv 2 355),de P "P_PRIVATE" 358 (nv 8 357),de P "P_PROTECTED" 360 (nv 16 359),de P "E_NEED" 362 (nv 0 361),de P "E_OPT" 364 (nv 1 363),de P "E_REST" 366 (nv 2 365),de P "E_SPREAD" 368 (nv 3 367),de P "D_INTERFACE" 370 (nv 2 369),de P "D_OBJALIAS" 372 (nv 3 371),de P "FAM_OTHER" 374 (nv 0 373),de P "FAM_STR" 376 (nv 1 375),de P "FAM_NUM" 378 (nv 2 377),de P "FAM_BOOL" 380 (nv 3 379),de P "FAM_NULL" 382 (nv 4 381),de P "FAM_UNDEF" 384 (nv 5 383),de P "FAM_VOID" 386 (nv 6 385),de P "FAM_OBJ" 388 (nv 7 387),de P "MAX_UNION" 390 (nv 400 389),de P "FIRST_ROWS" 412 (.ref 105),de P "LITERAL_ROWS" 413 (.ref 106),de P "MARKED_ROWS" 414 (.ref 107),de P "OBJECT_ROWS" 415 (.ref 108),de P "KEY_FAMILIES" 422 (.ref 109),de P "TypeTable" 477 (.ref 140),de P "Decl" 522 (.ref 161),de P "kind_of" 530 (.ref 172),de P "str_type" 540 (.ref 180),de P "num_type" 550 (.ref 188),de P "bool_type" 560 (.ref 196),de P "ref_type" 569 (.ref 203),de P "array_type" 579 (.ref 211),de P "last_mark" 589 (.ref 218),de P "needed_to_last" 602 (.ref 225),de P "one_rest" 616 (.ref 232),de P "tuple_type" 623 (.ref 238),de P "sorted_props" 629 (.ref 243),de P "obj_type" 643 (.ref 255),de P "sig_type" 656 (.ref 264),de P "func_type" 664 (.ref 271),de P "new_decl" 674 (.ref 278),de P "parts_of" 683 (.ref 285),de P "whole_of_row" 691 (.ref 292),de P "regular_twin" 700 (.ref 299),de P "join_bools" 707 (.ref 306),de P "stays_beside" 716 (.ref 313),de P "top_of" 724 (.ref 320),de P "union" 730 (.ref 325),de P "add_undef" 738 (.ref 332),de P "is_literal" 746 (.ref 339),de P "is_unit" 754 (.ref 346),de P "is_fresh" 763 (.ref 353),de P "regular_one" 771 (.ref 360),de P "regular" 777 (.ref 365),de P "common_family" 783 (.ref 370),de P "meet_family" 794 (.ref 377),de P "family" 805 (.ref 384),de P "is_nullish_family" 812 (.ref 391),de P "MAX_DRAWN" 816 (nv 200 815),de P "MEET_NEVER" 818 (nv 0 817),de P "MEET_LEFT" 820 (nv 1 819),de P "MEET_RIGHT" 822 (nv 2 821),de P "MEET_BOTH" 824 (nv 3 823),de P "all_units" 830 (.ref 396),de P "value_literal" 839 (.ref 403),de P "kinds_apart" 848 (.ref 410),de P "units_clash" 854 (.ref 415),de P "body_props" 863 (.ref 422),de P "flat_props" 880 (.ref 429),de P "shapes_clash" 886 (.ref 434),de P "meet_nullish" 896 (.ref 441),de P "meet_values" 907 (.ref 448),de P "meet_objects" 918 (.ref 455),de P "meet_case" 929 (.ref 462),de P "lay_on" 942 (.ref 469),de P "members_of_meet" 951 (.ref 476),de P "meet_parts" 957 (.ref 481),de P "meet_two" 970 (.ref 488),de P "inter" 981 (.ref 495),de P "value_holds" 991 (.ref 502),de P "units_fit" 1004 (.ref 509),de P "MOST_PLAIN" 1008 (nv 40 1007),de P "PLAIN_ROWS" 1009 (.ref 510),de P "hidden_apart" 1019 (.ref 517),de P "plain_shape" 1029 (.ref 524),de P "MOST_ROUNDS" 1033 (nv 200 1032),de P "MOST_SHAPES" 1035 (nv 40 1034),de P "MOST_BASES" 1037 (nv 60 1036),de P "Thin" 1207 (.ref 653),de P "RefHost" 1261 (.ref 695),de P "elem_read" 1269 (.ref 704),de P "row_elem" 1275 (.ref 709),de P "told_places" 1283 (.ref 716),de P "find_prop" 1292 (.ref 723),de P "is_digits" 1298 (.ref 728),de P "place_of" 1305 (.ref 735),de P "is_number_name" 1312 (.ref 742),de P "prop_row" 1323 (.ref 749),de P "read_type" 1331 (.ref 756),de P "late_place" 1337 (.ref 761),de P "list_read" 1346 (.ref 768),de P "index_read" 1357 (.ref 775),de P "prop_of_parts" 1363 (.ref 780),de P "prop_type" 1376 (.ref 788),de P "index_of" 1387 (.ref 795),de P "index_of_parts" 1400 (.ref 802),de P "hosts_elem_kinds" 1406 (.ref 807),de P "elem_type" 1413 (.ref 813),de P "tuple_at" 1422 (.ref 820),de P "LIST_ROWS" 1423 (.ref 821),de P "SHAPED_ROWS" 1424 (.ref 822),de P "DEFERRED_ROWS" 1425 (.ref 823),de P "OPEN_ROWS" 1426 (.ref 825),de P "is_weak" 1434 (.ref 830),de P "shows_nothing" 1444 (.ref 837),de P "is_weak_kind" 1450 (.ref 842),de P "weak_fault" 1456 (.ref 847),de P "missing_prop" 1466 (.ref 854),de P "takes_all" 1472 (.ref 859),de P "knows" 1481 (.ref 866),de P "tells_apart" 1487 (.ref 871),de P "lets_unit" 1493 (.ref 876),de P "told_parts" 1499 (.ref 881),de P "checked_parts" 1505 (.ref 886),de P "excess_within" 1511 (.ref 891),de P "excess_one" 1517 (.ref 896),de P "asked_elem" 1528 (.ref 903),de P "list_excess" 1534 (.ref 908),de P "excess" 1540 (.ref 913),de P "_law_masks" 1563 (.ref 914),de P "_law_wides" 1572 (.ref 915),de P "_law_draw" 1583 (.ref 922),de P "_law_norm" 1590 (.ref 929),de P "_law_mask" 1598 (.ref 936),de P "_law_own" 1613 (.ref 943),de P "_law_within" 1619 (.ref 948),de P "_law_asked" 1637 (.ref 955),de P "_law_atom" 1646 (.ref 962),de P "_law_type" 1652 (.ref 967),de P "_law_index" 1661 (.ref 974),de P "_law_build" 1667 (.ref 979),de P "_law_both" 1675 (.ref 986),de P "_law_read" 1686 (.ref 993),de P "_law_single" 1693 (.ref 1000),de P "_law_lets" 1702 (.ref 1007),de P "_law_open" 1708 (.ref 1012),de P "_law_bare" 1715 (.ref 1019),de P "_law_knows" 1721 (.ref 1024),de P "_law_spare" 1727 (.ref 1029),de P "_law_weak" 1733 (.ref 1034),de P "_law_lacks" 1739 (.ref 1039),de P "law" 1745 (.ref 1044)]
noncomputable def codes:List Value:=[(nv 1 0),(nv 0 0),(.ref 20),(nv 5 0),(nv 0 0),(.ref 27),(nv 10 0),(nv 0 0),(.ref 48),(nv 15 0),(nv 0 0),(.ref 68),(nv 79 0),(nv 0 0),(.ref 115),(nv 105 0),(nv 0 0),(.ref 150),(nv 123 0),(nv 0 0),(.ref 171),(nv 125 0),(nv 0 0),(.ref 179),(nv 127 0),(nv 0 0),(.ref 187),(nv 129 0),(nv 0 0),(.ref 195),(nv 131 0),(nv 0 0),(.ref 202),(nv 133 0),(nv 0 0),(.ref 210),(nv 135 0),(nv 0 0),(.ref 217),(nv 141 0),(nv 0 0),(.ref 224),(nv 151 0),(nv 0 0),(.ref 231),(nv 163 0),(nv 0 0),(.ref 237),(nv 170 0),(nv 0 0),(.ref 242),(nv 175 0),(nv 0 0),(.ref 254),(nv 177 0),(nv 0 0),(.ref 263),(nv 179 0),(nv 0 0),(.ref 270),(nv 181 0),(nv 0 0),(.ref 277),(nv 185 0),(nv 0 0),(.ref 284),(nv 192 0),(nv 0 0),(.ref 291),(nv 201 0),(nv 0 0),(.ref 298),(nv 206 0),(nv 0 0),(.ref 305),(nv 210 0),(nv 0 0),(.ref 312),(nv 214 0),(nv 0 0),(.ref 319),(nv 219 0),(nv 0 0),(.ref 324),(nv 236 0),(nv 0 0),(.ref 331),(nv 238 0),(nv 0 0),(.ref 338),(nv 240 0),(nv 0 0),(.ref 345),(nv 242 0),(nv 0 0),(.ref 352),(nv 245 0),(nv 0 0),(.ref 359),(nv 249 0),(nv 0 0),(.ref 364),(nv 253 0),(nv 0 0),(.ref 369),(nv 257 0),(nv 0 0),(.ref 376),(nv 266 0),(nv 0 0),(.ref 383),(nv 283 0),(nv 0 0),(.ref 390),(nv 291 0),(nv 0 0),(.ref 395),(nv 294 0),(nv 0 0),(.ref 402),(nv 299 0),(nv 0 0),(.ref 409),(nv 303 0),(nv 0 0),(.ref 414),(nv 312 0),(nv 0 0),(.ref 421),(nv 317 0),(nv 0 0),(.ref 428),(nv 336 0),(nv 0 0),(.ref 433),(nv 340 0),(nv 0 0),(.ref 440),(nv 346 0),(nv 0 0),(.ref 447),(nv 356 0),(nv 0 0),(.ref 454),(nv 364 0),(nv 0 0),(.ref 461),(nv 378 0),(nv 0 0),(.ref 468),(nv 392 0),(nv 0 0),(.ref 475),(nv 401 0),(nv 0 0),(.ref 480),(nv 410 0),(nv 0 0),(.ref 487),(nv 424 0),(nv 0 0),(.ref 494),(nv 433 0),(nv 0 0),(.ref 501),(nv 438 0),(nv 0 0),(.ref 508),(nv 451 0),(nv 0 0),(.ref 516),(nv 457 0),(nv 0 0),(.ref 523),(nv 476 0),(nv 0 0),(.ref 530),(nv 531 0),(nv 0 0),(.ref 663),(nv 547 0),(nv 0 0),(.ref 703),(nv 551 0),(nv 0 0),(.ref 708),(nv 555 0),(nv 0 0),(.ref 715),(nv 562 0),(nv 0 0),(.ref 722),(nv 567 0),(nv 0 0),(.ref 727),(nv 570 0),(nv 0 0),(.ref 734),(nv 572 0),(nv 0 0),(.ref 741),(nv 576 0),(nv 0 0),(.ref 748),(nv 584 0),(nv 0 0),(.ref 755),(nv 586 0),(nv 0 0),(.ref 760),(nv 589 0),(nv 0 0),(.ref 767),(nv 593 0),(nv 0 0),(.ref 774),(nv 602 0),(nv 0 0),(.ref 779),(nv 607 0),(nv 0 0),(.ref 787),(nv 620 0),(nv 0 0),(.ref 794),(nv 629 0),(nv 0 0),(.ref 801),(nv 641 0),(nv 0 0),(.ref 806),(nv 643 0),(nv 0 0),(.ref 812),(nv 658 0),(nv 0 0),(.ref 819),(nv 667 0),(nv 0 0),(.ref 829),(nv 671 0),(nv 0 0),(.ref 836),(nv 679 0),(nv 0 0),(.ref 841),(nv 684 0),(nv 0 0),(.ref 846),(nv 689 0),(nv 0 0),(.ref 853),(nv 697 0),(nv 0 0),(.ref 858),(nv 707 0),(nv 0 0),(.ref 865),(nv 711 0),(nv 0 0),(.ref 870),(nv 719 0),(nv 0 0),(.ref 875),(nv 723 0),(nv 0 0),(.ref 880),(nv 730 0),(nv 0 0),(.ref 885),(nv 737 0),(nv 0 0),(.ref 890),(nv 744 0),(nv 0 0),(.ref 895),(nv 752 0),(nv 0 0),(.ref 902),(nv 762 0),(nv 0 0),(.ref 907),(nv 772 0),(nv 0 0),(.ref 912),(nv 787 0),(nv 0 0),(.ref 921),(nv 792 0),(nv 0 0),(.ref 928),(nv 802 0),(nv 0 0),(.ref 935),(nv 804 0),(nv 0 0),(.ref 942),(nv 821 0),(nv 0 0),(.ref 947),(nv 826 0),(nv 0 0),(.ref 954),(nv 842 0),(nv 0 0),(.ref 961),(nv 850 0),(nv 0 0),(.ref 966),(nv 855 0),(nv 0 0),(.ref 973),(nv 857 0),(nv 0 0),(.ref 978),(nv 872 0),(nv 0 0),(.ref 985),(nv 874 0),(nv 0 0),(.ref 992),(nv 881 0),(nv 0 0),(.ref 999),(nv 883 0),(nv 0 0),(.ref 1006),(nv 890 0),(nv 0 0),(.ref 1011),(nv 899 0),(nv 0 0),(.ref 1018),(nv 901 0),(nv 0 0),(.ref 1023),(nv 907 0),(nv 0 0),(.ref 1028),(nv 934 0),(nv 0 0),(.ref 1033),(nv 941 0),(nv 0 0),(.ref 1038),(nv 947 0),(nv 0 0),(.ref 1043)]
noncomputable def ahX (P:cC)(a:Nat):Obj :=
 lZ a 532 (lZ a 258 (lZ a 152 (lZ a 71 (lZ a 37 (lZ a 15 (lZ a 12 (oP [boot_o_0 P,boot_o_1 P,rf .none [de P "type.__subclasses__.Exception.0" 223 (nv 39 0),de P "type.__subclasses__.Exception.n" 224 (nv 1 0)] 2,default,boot_o_4 P,boot_o_5 P,boot_o_6 P,boot_o_7 P,boot_o_8 P,boot_o_9 P,boot_o_10 P,mF []] a 0) (oP [default,(we (sv "<module>" 182) (sv "<module>" 183) 184 1 0 0 false 11 [.none,.none,.none] 185),⟨(.type "frame"),none,.plain,#[some (.ref 13),some (.ref 3),some (.ref 3),none,some (sv "__main__" 164),none,some (.ref 0)]⟩] a 12)) (lZ a 22 (nM true (rZ 0) none 15 187 .none (sv "__main__" 164) (aF a 15)) (lZ a 30 (oP [mF [(.type "Exception")],nZ (.type "builtin_function_or_method") [(.builtin "type.__prepare__"),(.type "type")],rf (.type "dict") [de P "__module__" 203 tS,de P "__qualname__" 205 (sv "KeepError" 204),de P "__firstlineno__" 207 (nv 5 206),de P "__init__" 216 (.ref 36),de P "__static_attributes__" 219 (.ref 37)] 5,mF [],nZ .none [(nv 7 0),(nv 4 0),(.ref 35)],(we (sv "KeepError" 198) (sv "KeepError" 199) 200 5 0 0 false 25 [.none,.none,.none] 201),⟨(.type "frame"),none,.plain,#[some (.ref 27),some (.ref 3),some (.ref 24),none,some tS,none,some (.ref 0)]⟩,mF [(sv "" 208)]] a 22) (nM true (subAt 2 0) (some "KeepError.__init__") 30 209 (.ref 29) tS (aF a 30))))) (lZ a 51 (lZ a 49 (oP [mF [(sv "number" 217),(sv "text" 218)],rf (.type "dict") [de P "__module__" 203 tS,de P "__firstlineno__" 207 (nv 5 206),de P "__init__" 216 (.ref 36),de P "__static_attributes__" 219 (.ref 37),de P "__weakref__" 221 (.ref 40),de P "__doc__" 222 .none] 3,⟨.type "type",none,.cls {name:=bq "KeepError",bases:=[(.type "Exception")],mro:=[(.ref 39),(.type "Exception"),(.type "BaseException"),(.type "object")],ns:=38,qualname:=bq "KeepError",subclasses:=[(.ref 60),(.ref 80)]},#[some (.ref 22),none,some (sv "KeepError" 196),some (sv "KeepError" 204),some (.builtin "Exception.__new__"),some (.bool true)]⟩,nZ (.type "getset_descriptor") [(sv "__weakref__" 220),(.ref 39),(.builtin "ExceptionGroup.__weakref__"),.none],nZ (.type "super") [(.ref 39),(.ref 39),(.ref 39)],nZ (.type "builtin_function_or_method") [(.builtin "object.__init_subclass__"),(.ref 39)],mF [(.ref 39)],nZ (.type "builtin_function_or_method") [(.builtin "type.__prepare__"),(.type "type")],rf (.type "dict") [de P "__module__" 234 tS,de P "__qualname__" 236 (sv "TooDeep" 235),de P "__firstlineno__" 238 (nv 10 237),de P "__init__" 249 (.ref 57),de P "__static_attributes__" 252 (.ref 58)] 5,mF [],nZ .none [(nv 12 0),(nv 4 0),(.ref 56)],(we (sv "TooDeep" 229) (sv "TooDeep" 230) 231 10 0 0 false 46 [.none,.none,.none] 232)] a 37) (oP [⟨(.type "frame"),none,.plain,#[some (.ref 48),some (.ref 3),some (.ref 45),none,some tS,none,some (.ref 0)]⟩,mF [(nv 2589 239),(sv "" 240)]] a 49)) (lZ a 58 (nM true (subAt 3 0) (some "TooDeep.__init__") 51 241 (.ref 50) tS (aF a 51)) (lZ a 70 (oP [mF [(sv "number" 250),(sv "text" 251)],rf (.type "dict") [de P "__module__" 234 tS,de P "__firstlineno__" 238 (nv 10 237),de P "__init__" 249 (.ref 57),de P "__static_attributes__" 252 (.ref 58),de P "__doc__" 253 .none] 2,⟨.type "type",none,.cls {name:=bq "TooDeep",bases:=[(.ref 39)],mro:=[(.ref 60),(.ref 39),(.type "Exception"),(.type "BaseException"),(.type "object")],ns:=59,qualname:=bq "TooDeep"},#[some (.ref 43),none,some (sv "TooDeep" 227),some (sv "TooDeep" 235),some (.builtin "Exception.__new__"),some (.bool true)]⟩,nZ (.type "super") [(.ref 60),(.ref 60),(.ref 60)],nZ (.type "builtin_function_or_method") [(.builtin "object.__init_subclass__"),(.ref 60)],mF [(.ref 39)],nZ (.type "builtin_function_or_method") [(.builtin "type.__prepare__"),(.type "type")],rf (.type "dict") [de P "__module__" 263 tS,de P "__qualname__" 265 (sv "HostFault" 264),de P "__firstlineno__" 267 (nv 15 266),de P "__init__" 276 (.ref 77),de P "__static_attributes__" 279 (.ref 78)] 5,mF [],nZ .none [(nv 17 0),(nv 4 0),(.ref 76)],(we (sv "HostFault" 258) (sv "HostFault" 259) 260 15 0 0 false 66 [.none,.none,.none] 261),⟨(.type "frame"),none,.plain,#[some (.ref 68),some (.ref 3),some (.ref 65),none,some tS,none,some (.ref 0)]⟩] a 58) (oP [mF [(sv "" 268)]] a 70))))) (lZ a 117 (lZ a 90 (lZ a 78 (nM true (subAt 4 0) (some "HostFault.__init__") 71 269 (.ref 70) tS (aF a 71)) (oP [mF [(sv "number" 277),(sv "text" 278)],rf (.type "dict") [de P "__module__" 263 tS,de P "__firstlineno__" 267 (nv 15 266),de P "__init__" 276 (.ref 77),de P "__static_attributes__" 279 (.ref 78),de P "__doc__" 280 .none] 2,⟨.type "type",none,.cls {name:=bq "HostFault",bases:=[(.ref 39)],mro:=[(.ref 80),(.ref 39),(.type "Exception"),(.type "BaseException"),(.type "object")],ns:=79,qualname:=bq "HostFault"},#[some (.ref 63),none,some (sv "HostFault" 256),some (sv "HostFault" 264),some (.builtin "Exception.__new__"),some (.bool true)]⟩,nZ (.type "super") [(.ref 80),(.ref 80),(.ref 80)],nZ (.type "builtin_function_or_method") [(.builtin "object.__init_subclass__"),(.ref 80)],mF [(nv 1 285),(sv "any" 391)],mF [(nv 1 285),(sv "unknown" 392)],mF [(nv 1 285),(sv "never" 393)],mF [(nv 1 285),(sv "void" 394)],mF [(nv 1 285),(sv "undefined" 395)],mF [(nv 1 285),(sv "null" 396)],mF [(nv 1 285),(sv "string" 397)]] a 78)) (lZ a 102 (oP [mF [(nv 1 285),(sv "number" 398)],mF [(nv 2 287),(nv 0 399),(nv 0 400)],mF [(nv 2 287),(nv 1 401),(nv 0 402)],mF [(nv 1 285),(sv "object" 403)],mF [],mF [],mF [],mF [],mF [],mF [(nv 8 299),(.ref 94),(.ref 95),(.ref 96),(.ref 97),(.ref 98),(nv 0 404)],mF [(nv 8 405),(nv 9 406)],mF [(nv 6 295),(.ref 100)]] a 90) (lZ a 114 (oP [mF [(nv 1 285),(sv "error" 407)],mF [(nv 2 287),(nv 0 408),(nv 1 409)],mF [(nv 2 287),(nv 1 410),(nv 1 411)],mF [(.ref 83),(.ref 84),(.ref 85),(.ref 86),(.ref 87),(.ref 88),(.ref 89),(.ref 90),(.ref 91),(.ref 92),(.ref 93),(.ref 99),(.ref 101),(.ref 102),(.ref 103),(.ref 104)],mF [(nv 2 287),(nv 3 289),(nv 4 291),(nv 5 293)],mF [(nv 2 287),(nv 3 289),(nv 4 291),(nv 5 293),(nv 8 299)],mF [(nv 8 299),(nv 9 301),(nv 11 305),(nv 12 307),(nv 13 309)],rf (.type "dict") [⟨3,nv 3 329,(nv 6 385)⟩,⟨4,nv 4 331,(nv 5 383)⟩,⟨5,nv 5 333,(nv 4 381)⟩,⟨6,nv 6 335,(nv 1 375)⟩,⟨7,nv 7 337,(nv 2 377)⟩,⟨10,nv 10 343,(nv 7 387)⟩] 6,mF [],nZ (.type "builtin_function_or_method") [(.builtin "type.__prepare__"),(.type "type")],rf (.type "dict") [de P "__module__" 430 nO,de P "__qualname__" 432 (sv "TypeTable" 431),de P "__firstlineno__" 434 (nv 79 433),de P "__init__" 442 (.ref 123),de P "row" 450 (.ref 130),de P "put" 459 (.ref 137),de P "__static_attributes__" 470 (.ref 138)] 7,mF []] a 102) (oP [nZ .none [(nv 81 0),(nv 4 0),(.ref 122),(nv 95 0),(nv 4 0),(.ref 129),(nv 98 0),(nv 4 0),(.ref 136)],(we (sv "TypeTable" 425) (sv "TypeTable" 426) 427 79 0 0 false 113 [.none,.none,.none] 428),⟨(.type "frame"),none,.plain,#[some (.ref 115),some (.ref 3),some (.ref 112),none,some nO,none,some (.ref 0)]⟩] a 114)))) (lZ a 131 (lZ a 124 (nM true (subAt 64 0) (some "TypeTable.__init__") 117 435 .none nO (aF a 117)) (nM true (subAt 64 1) (some "TypeTable.row") 124 443 .none nO (aF a 124))) (lZ a 138 (nM true (subAt 64 2) (some "TypeTable.put") 131 451 .none nO (aF a 131)) (lZ a 150 (oP [mF [(sv "bounds" 460),(sv "decls" 461),(sv "defaults" 462),(sv "index" 463),(sv "names" 464),(sv "origins" 465),(sv "putting" 466),(sv "renamed" 467),(sv "rows" 468),(sv "shaping" 469)],rf (.type "dict") [de P "__module__" 430 nO,de P "__firstlineno__" 434 (nv 79 433),de P "__init__" 442 (.ref 123),de P "row" 450 (.ref 130),de P "put" 459 (.ref 137),de P "__static_attributes__" 470 (.ref 138),de P "__dict__" 472 (.ref 141),de P "__weakref__" 474 (.ref 142),de P "__doc__" 475 .none] 4,⟨.type "type",none,.cls {name:=bq "TypeTable",bases:=[(.type "object")],mro:=[(.ref 140),(.type "object")],ns:=139,qualname:=bq "TypeTable"},#[none,none,some (sv "TypeTable" 423),some (sv "TypeTable" 431),some (.builtin "object.__new__"),some (.bool true)]⟩,nZ (.type "getset_descriptor") [(sv "__dict__" 471),(.ref 140),(.builtin "function.__dict__"),(.builtin "function.__dict__#set")],nZ (.type "getset_descriptor") [(sv "__weakref__" 473),(.ref 140),(.builtin "ExceptionGroup.__weakref__"),.none],nZ (.type "super") [(.ref 140),(.ref 140),(.ref 140)],nZ (.type "builtin_function_or_method") [(.builtin "object.__init_subclass__"),(.ref 140)],mF [],nZ (.type "builtin_function_or_method") [(.builtin "type.__prepare__"),(.type "type")],rf (.type "dict") [de P "__module__" 485 nO,de P "__qualname__" 487 (sv "Decl" 486),de P "__firstlineno__" 489 (nv 105 488),de P "__init__" 499 (.ref 158),de P "__static_attributes__" 515 (.ref 159)] 5,mF [],nZ .none [(nv 107 0),(nv 4 0),(.ref 157)]] a 138) (oP [(we (sv "Decl" 480) (sv "Decl" 481) 482 105 0 0 false 148 [.none,.none,.none] 483),⟨(.type "frame"),none,.plain,#[some (.ref 150),some (.ref 3),some (.ref 147),none,some nO,none,some (.ref 0)]⟩] a 150)))))) (lZ a 204 (lZ a 181 (lZ a 166 (lZ a 159 (nM true (subAt 65 0) (some "Decl.__init__") 152 490 .none nO (aF a 152)) (oP [mF [(sv "abstract" 500),(sv "at" 501),(sv "bases" 502),(sv "body" 503),(sv "busy" 504),(sv "did" 505),(sv "extends_class" 506),(sv "file" 507),(sv "kind" 508),(sv "members" 509),(sv "name" 510),(sv "nid" 511),(sv "params" 512),(sv "static" 513),(sv "variances" 514)],rf (.type "dict") [de P "__module__" 485 nO,de P "__firstlineno__" 489 (nv 105 488),de P "__init__" 499 (.ref 158),de P "__static_attributes__" 515 (.ref 159),de P "__dict__" 517 (.ref 162),de P "__weakref__" 519 (.ref 163),de P "__doc__" 520 .none] 4,⟨.type "type",none,.cls {name:=bq "Decl",bases:=[(.type "object")],mro:=[(.ref 161),(.type "object")],ns:=160,qualname:=bq "Decl"},#[none,none,some (sv "Decl" 478),some (sv "Decl" 486),some (.builtin "object.__new__"),some (.bool true)]⟩,nZ (.type "getset_descriptor") [(sv "__dict__" 516),(.ref 161),(.builtin "function.__dict__"),(.builtin "function.__dict__#set")],nZ (.type "getset_descriptor") [(sv "__weakref__" 518),(.ref 161),(.builtin "ExceptionGroup.__weakref__"),.none],nZ (.type "super") [(.ref 161),(.ref 161),(.ref 161)],nZ (.type "builtin_function_or_method") [(.builtin "object.__init_subclass__"),(.ref 161)]] a 159)) (lZ a 173 (mV 66 166 523 nO a) (lZ a 174 (oP [mF [(nv 0 531)]] a 173) (nM true (rZ 67) none 174 532 (.ref 173) nO (aF a 174))))) (lZ a 189 (lZ a 182 (oP [mF [(nv 0 541)]] a 181) (nM true (rZ 68) none 182 542 (.ref 181) nO (aF a 182))) (lZ a 190 (oP [mF [(nv 0 551)]] a 189) (lZ a 197 (nM true (rZ 69) none 190 552 (.ref 189) nO (aF a 190)) (mV 70 197 561 nO a))))) (lZ a 233 (lZ a 212 (lZ a 205 (oP [mF [(nv 0 570)]] a 204) (nM true (rZ 71) none 205 571 (.ref 204) nO (aF a 205))) (lZ a 219 (mV 72 212 580 nO a) (lZ a 226 (mV 73 219 590 nO a) (mV 74 226 603 nO a)))) (lZ a 244 (lZ a 234 (oP [mF [(nv 0 617)]] a 233) (lZ a 239 (nM false (rZ 75) none 234 618 (.ref 233) nO (aF a 234)) (oz 76 239 624 nO a))) (lZ a 249 (oP [mF [],mF [],mF [],mF [],mF [(.ref 244),(.ref 245),(.ref 246),(.ref 247),(nv 0 630)]] a 244) (lZ a 256 (nM true (rZ 77) none 249 631 (.ref 248) nO (aF a 249)) (oP [mF [],mF [(.ref 256),(nv 0 644)]] a 256))))))) (lZ a 397 (lZ a 326 (lZ a 293 (lZ a 272 (lZ a 265 (nM true (rZ 78) none 258 645 (.ref 257) nO (aF a 258)) (mV 79 265 657 nO a)) (lZ a 279 (mV 80 272 665 nO a) (lZ a 286 (mV 81 279 675 nO a) (mV 82 286 684 nO a)))) (lZ a 307 (lZ a 300 (mV 83 293 692 nO a) (mV 84 300 701 nO a)) (lZ a 314 (mV 85 307 708 nO a) (lZ a 321 (mV 86 314 717 nO a) (oz 87 321 725 nO a))))) (lZ a 361 (lZ a 340 (lZ a 333 (mV 88 326 731 nO a) (mV 89 333 739 nO a)) (lZ a 347 (mV 90 340 747 nO a) (lZ a 354 (mV 91 347 755 nO a) (mV 92 354 764 nO a)))) (lZ a 378 (lZ a 366 (oz 93 361 772 nO a) (lZ a 371 (oz 94 366 778 nO a) (mV 95 371 784 nO a))) (lZ a 385 (mV 96 378 795 nO a) (lZ a 392 (mV 97 385 806 nO a) (oz 104 392 825 qQ a)))))) (lZ a 463 (lZ a 430 (lZ a 411 (lZ a 404 (mV 105 397 831 qQ a) (mV 106 404 840 qQ a)) (lZ a 416 (oz 107 411 849 qQ a) (lZ a 423 (mV 108 416 855 qQ a) (mV 109 423 864 qQ a)))) (lZ a 442 (lZ a 435 (oz 110 430 881 qQ a) (mV 111 435 887 qQ a)) (lZ a 449 (mV 112 442 897 qQ a) (lZ a 456 (mV 113 449 908 qQ a) (mV 114 456 919 qQ a))))) (lZ a 496 (lZ a 477 (lZ a 470 (mV 115 463 930 qQ a) (mV 116 470 943 qQ a)) (lZ a 482 (oz 117 477 952 qQ a) (lZ a 489 (mV 118 482 958 qQ a) (mV 119 489 971 qQ a)))) (lZ a 511 (lZ a 503 (mV 120 496 982 qQ a) (lZ a 510 (mV 121 503 992 qQ a) (oP [mF [(nv 1 285),(nv 2 287),(nv 3 289),(nv 4 291),(nv 5 293)]] a 510))) (lZ a 518 (nM true (rZ 125) none 511 1010 .none (sv "kindkeep.shapes" 1005) (aF a 511)) (lZ a 525 (nM true (rZ 126) none 518 1020 .none (sv "kindkeep.shapes" 1005) (aF a 518)) (oP [mF [],nZ (.type "builtin_function_or_method") [(.builtin "type.__prepare__"),(.type "type")],rf (.type "dict") [de P "__module__" 1045 nB,de P "__qualname__" 1047 (sv "Thin" 1046),de P "__firstlineno__" 1049 (nv 476 1048),de P "__init__" 1057 (.ref 538),de P "force" 1065 (.ref 545),de P "put_deferred" 1073 (.ref 552),de P "put_cond" 1082 (.ref 559),de P "lay_row" 1091 (.ref 566),de P "bound" 1099 (.ref 573),de P "shape" 1107 (.ref 580),de P "fits" 1116 (.ref 587),de P "lies" 1125 (.ref 594),de P "infers" 1135 (.ref 601),de P "tpl_fits" 1144 (.ref 608),de P "shape_fits" 1153 (.ref 615),de P "put_in" 1162 (.ref 622),de P "own_sig" 1171 (.ref 629),de P "forget" 1178 (.ref 636),de P "list_prop" 1187 (.ref 643),de P "list_index" 1195 (.ref 650),de P "__static_attributes__" 1200 (.ref 651)] 21,mF [],nZ .none [(nv 478 0),(nv 4 0),(.ref 537),(nv 484 0),(nv 4 0),(.ref 544),(nv 487 0),(nv 4 0),(.ref 551),(nv 490 0),(nv 4 0),(.ref 558),(nv 493 0),(nv 4 0),(.ref 565),(nv 496 0),(nv 4 0),(.ref 572),(nv 499 0),(nv 4 0),(.ref 579),(nv 502 0),(nv 4 0),(.ref 586),(nv 505 0),(nv 4 0),(.ref 593),(nv 508 0),(nv 4 0),(.ref 600),(nv 511 0),(nv 4 0),(.ref 607),(nv 514 0),(nv 4 0),(.ref 614),(nv 517 0),(nv 4 0),(.ref 621),(nv 520 0),(nv 4 0),(.ref 628),(nv 523 0),(nv 4 0),(.ref 635),(nv 526 0),(nv 4 0),(.ref 642),(nv 529 0),(nv 4 0),(.ref 649)],(we (sv "Thin" 1040) (sv "Thin" 1041) 1042 476 0 0 false 528 [.none,.none,.none] 1043),⟨(.type "frame"),none,.plain,#[some (.ref 530),some (.ref 3),some (.ref 527),none,some nB,none,some (.ref 0)]⟩] a 525)))))))) (lZ a 808 (lZ a 679 (lZ a 602 (lZ a 567 (lZ a 546 (lZ a 539 (nM true (subAt 131 0) (some "Thin.__init__") 532 1050 .none nB (aF a 532)) (nM true (subAt 131 1) (some "Thin.force") 539 1058 .none nB (aF a 539))) (lZ a 553 (nM true (subAt 131 2) (some "Thin.put_deferred") 546 1066 .none nB (aF a 546)) (lZ a 560 (nM true (subAt 131 3) (some "Thin.put_cond") 553 1074 .none nB (aF a 553)) (nM true (subAt 131 4) (some "Thin.lay_row") 560 1083 .none nB (aF a 560))))) (lZ a 581 (lZ a 574 (nM true (subAt 131 5) (some "Thin.bound") 567 1092 .none nB (aF a 567)) (nM true (subAt 131 6) (some "Thin.shape") 574 1100 .none nB (aF a 574))) (lZ a 588 (nM true (subAt 131 7) (some "Thin.fits") 581 1108 .none nB (aF a 581)) (lZ a 595 (nM true (subAt 131 8) (some "Thin.lies") 588 1117 .none nB (aF a 588)) (nM true (subAt 131 9) (some "Thin.infers") 595 1126 .none nB (aF a 595)))))) (lZ a 637 (lZ a 616 (lZ a 609 (nM true (subAt 131 10) (some "Thin.tpl_fits") 602 1136 .none nB (aF a 602)) (nM true (subAt 131 11) (some "Thin.shape_fits") 609 1145 .none nB (aF a 609))) (lZ a 623 (nM true (subAt 131 12) (some "Thin.put_in") 616 1154 .none nB (aF a 616)) (lZ a 630 (nM true (subAt 131 13) (some "Thin.own_sig") 623 1163 .none nB (aF a 623)) (nM true (subAt 131 14) (some "Thin.forget") 630 1172 .none nB (aF a 630))))) (lZ a 663 (lZ a 644 (nM true (subAt 131 15) (some "Thin.list_prop") 637 1179 .none nB (aF a 637)) (lZ a 651 (nM true (subAt 131 16) (some "Thin.list_index") 644 1188 .none nB (aF a 644)) (oP [mF [(sv "deep" 1196),(sv "most_deep" 1197),(sv "most_rounds" 1198),(sv "tab" 1199)],rf (.type "dict") [de P "__module__" 1045 nB,de P "__firstlineno__" 1049 (nv 476 1048),de P "__init__" 1057 (.ref 538),de P "force" 1065 (.ref 545),de P "put_deferred" 1073 (.ref 552),de P "put_cond" 1082 (.ref 559),de P "lay_row" 1091 (.ref 566),de P "bound" 1099 (.ref 573),de P "shape" 1107 (.ref 580),de P "fits" 1116 (.ref 587),de P "lies" 1125 (.ref 594),de P "infers" 1135 (.ref 601),de P "tpl_fits" 1144 (.ref 608),de P "shape_fits" 1153 (.ref 615),de P "put_in" 1162 (.ref 622),de P "own_sig" 1171 (.ref 629),de P "forget" 1178 (.ref 636),de P "list_prop" 1187 (.ref 643),de P "list_index" 1195 (.ref 650),de P "__static_attributes__" 1200 (.ref 651),de P "__dict__" 1202 (.ref 654),de P "__weakref__" 1204 (.ref 655),de P "__doc__" 1205 .none] 4,⟨.type "type",none,.cls {name:=bq "Thin",bases:=[(.type "object")],mro:=[(.ref 653),(.type "object")],ns:=652,qualname:=bq "Thin",subclasses:=[(.ref 695)]},#[none,none,some (sv "Thin" 1038),some (sv "Thin" 1046),some (.builtin "object.__new__"),some (.bool true)]⟩,nZ (.type "getset_descriptor") [(sv "__dict__" 1201),(.ref 653),(.builtin "function.__dict__"),(.builtin "function.__dict__#set")],nZ (.type "getset_descriptor") [(sv "__weakref__" 1203),(.ref 653),(.builtin "ExceptionGroup.__weakref__"),.none],nZ (.type "super") [(.ref 653),(.ref 653),(.ref 653)],nZ (.type "builtin_function_or_method") [(.builtin "object.__init_subclass__"),(.ref 653)],mF [(.ref 653)],nZ (.type "builtin_function_or_method") [(.builtin "type.__prepare__"),(.type "type")],rf (.type "dict") [de P "__module__" 1215 nB,de P "__qualname__" 1217 (sv "RefHost" 1216),de P "__firstlineno__" 1219 (nv 531 1218),de P "__init__" 1227 (.ref 671),de P "shape" 1235 (.ref 678),de P "fits" 1244 (.ref 685),de P "lies" 1253 (.ref 692),de P "__static_attributes__" 1258 (.ref 693)] 8,mF [],nZ .none [(nv 533 0),(nv 4 0),(.ref 670),(nv 539 0),(nv 4 0),(.ref 677),(nv 542 0),(nv 4 0),(.ref 684),(nv 545 0),(nv 4 0),(.ref 691)]] a 651))) (lZ a 665 (oP [(we (sv "RefHost" 1210) (sv "RefHost" 1211) 1212 531 0 0 false 661 [.none,.none,.none] 1213),⟨(.type "frame"),none,.plain,#[some (.ref 663),some (.ref 3),some (.ref 660),none,some nB,none,some (.ref 0)]⟩] a 663) (lZ a 672 (nM true (subAt 132 0) (some "RefHost.__init__") 665 1220 .none nB (aF a 665)) (nM true (subAt 132 1) (some "RefHost.shape") 672 1228 .none nB (aF a 672))))))) (lZ a 743 (lZ a 710 (lZ a 693 (lZ a 686 (nM true (subAt 132 2) (some "RefHost.fits") 679 1236 .none nB (aF a 679)) (nM true (subAt 132 3) (some "RefHost.lies") 686 1245 .none nB (aF a 686))) (lZ a 698 (oP [mF [(sv "deep" 1254),(sv "most_deep" 1255),(sv "most_rounds" 1256),(sv "tab" 1257)],rf (.type "dict") [de P "__module__" 1215 nB,de P "__firstlineno__" 1219 (nv 531 1218),de P "__init__" 1227 (.ref 671),de P "shape" 1235 (.ref 678),de P "fits" 1244 (.ref 685),de P "lies" 1253 (.ref 692),de P "__static_attributes__" 1258 (.ref 693),de P "__doc__" 1259 .none] 2,⟨.type "type",none,.cls {name:=bq "RefHost",bases:=[(.ref 653)],mro:=[(.ref 695),(.ref 653),(.type "object")],ns:=694,qualname:=bq "RefHost"},#[some (.ref 658),none,some (sv "RefHost" 1208),some (sv "RefHost" 1216),some (.builtin "object.__new__"),some (.bool true)]⟩,nZ (.type "super") [(.ref 695),(.ref 695),(.ref 695)],nZ (.type "builtin_function_or_method") [(.builtin "object.__init_subclass__"),(.ref 695)]] a 693) (lZ a 705 (mV 133 698 1262 nB a) (oz 134 705 1270 nB a)))) (lZ a 724 (lZ a 717 (mV 135 710 1276 nB a) (mV 136 717 1284 nB a)) (lZ a 729 (oz 137 724 1293 nB a) (lZ a 736 (mV 138 729 1299 nB a) (mV 139 736 1306 nB a))))) (lZ a 776 (lZ a 757 (lZ a 750 (mV 140 743 1313 nB a) (mV 141 750 1324 nB a)) (lZ a 762 (oz 142 757 1332 nB a) (lZ a 769 (mV 143 762 1338 nB a) (mV 144 769 1347 nB a)))) (lZ a 789 (lZ a 781 (oz 145 776 1358 nB a) (lZ a 782 (oP [mF [(nv 0 1364)]] a 781) (nM true (rZ 146) none 782 1365 (.ref 781) nB (aF a 782)))) (lZ a 796 (mV 147 789 1377 nB a) (lZ a 803 (mV 148 796 1388 nB a) (oz 149 803 1401 nB a))))))) (lZ a 916 (lZ a 860 (lZ a 831 (lZ a 814 (lZ a 809 (oP [mF [(nv 0 1407)]] a 808) (nM false (rZ 150) none 809 1408 (.ref 808) nB (aF a 809))) (lZ a 821 (mV 151 814 1414 nB a) (lZ a 826 (oP [mF [(nv 11 305),(nv 12 307)],mF [(nv 8 299),(nv 9 301)],mF [(nv 10 303),(nv 14 311),(nv 15 313),(nv 16 315),(nv 17 317),(nv 18 319),(nv 19 321)],mF [(nv 6 295),(nv 7 297)],mF [(nv 6 295),(nv 7 297),(nv 10 303),(nv 14 311),(nv 15 313),(nv 16 315),(nv 17 317),(nv 18 319),(nv 19 321)]] a 821) (oz 157 826 1429 rD a)))) (lZ a 843 (lZ a 838 (mV 158 831 1435 rD a) (oz 159 838 1445 rD a)) (lZ a 848 (oz 160 843 1451 rD a) (lZ a 855 (mV 161 848 1457 rD a) (oz 162 855 1467 rD a))))) (lZ a 887 (lZ a 872 (lZ a 867 (mV 163 860 1473 rD a) (oz 164 867 1482 rD a)) (lZ a 877 (oz 165 872 1488 rD a) (lZ a 882 (oz 166 877 1494 rD a) (oz 167 882 1500 rD a)))) (lZ a 904 (lZ a 892 (oz 168 887 1506 rD a) (lZ a 897 (oz 169 892 1512 rD a) (mV 170 897 1518 rD a))) (lZ a 909 (oz 171 904 1529 rD a) (lZ a 914 (oz 172 909 1535 rD a) (oP [mF [(nv 1 1543),(nv 8 1544),(nv 2 1545),(nv 4 1546),(nv 3 1547),(nv 16 1548),(nv 24 1549),(nv 64 1550),(nv 192 1551),(nv 256 1552),(nv 512 1553),(nv 32 1554),(nv 36 1555),(nv 513 1556),(nv 0 1557),(nv 1024 1558),(nv 2048 1559),(nv 4096 1560),(nv 8192 1561),(nv 4 1562)],mF [(nv 4 1564),(nv 32 1565),(nv 36 1566),(nv 4 1567),(nv 1024 1568),(nv 4096 1569),(nv 2048 1570),(nv 8192 1571)]] a 914)))))) (lZ a 980 (lZ a 949 (lZ a 930 (lZ a 923 (mV 176 916 1573 mod2 a) (mV 177 923 1584 mod2 a)) (lZ a 937 (mV 178 930 1591 mod2 a) (lZ a 944 (mV 179 937 1599 mod2 a) (oz 180 944 1614 mod2 a)))) (lZ a 963 (lZ a 956 (mV 181 949 1620 mod2 a) (mV 182 956 1638 mod2 a)) (lZ a 968 (oz 183 963 1647 mod2 a) (lZ a 975 (mV 184 968 1653 mod2 a) (oz 185 975 1662 mod2 a))))) (lZ a 1013 (lZ a 994 (lZ a 987 (mV 186 980 1668 mod2 a) (mV 187 987 1676 mod2 a)) (lZ a 1001 (mV 188 994 1687 mod2 a) (lZ a 1008 (mV 189 1001 1694 mod2 a) (oz 190 1008 1703 mod2 a)))) (lZ a 1030 (lZ a 1020 (mV 191 1013 1709 mod2 a) (lZ a 1025 (oz 192 1020 1716 mod2 a) (oz 193 1025 1722 mod2 a))) (lZ a 1035 (oz 194 1030 1728 mod2 a) (lZ a 1040 (oz 195 1035 1734 mod2 a) (oz 196 1040 1740 mod2 a))))))))
noncomputable def Jy (P:cC)(nm:Value)(m ep q n:Nat):BT:=((mkT n (ahX P) 11 0 1).set 3 (λ_=>rf (.type "dict") (de P "__name__" 165 nm::(tail3 P).take m) ep)).set 12 (λ_=>nZ .none (codes.take q))
noncomputable def mW:Env:={scope:=PW.main.scope,locals:=mainNs,globals:=mainNs,cells:=[],code:=.ref 13,frame:=some 14}
noncomputable def sg (a n:Nat):List Stmt:=((eS PW).drop a).take n
noncomputable def pD (nm:Value)(m ep q n toks:Nat)(w:az)(os:aJ):SharedT:={tree:=Jy w.params nm m ep q n,n:=n,life:={},gens:=#[],drawn:={},toks:=toks,os:=os}
noncomputable def S0 (w:az)(os:aJ):SharedT:={tree:=(Jy w.params (sv "__main__" 164) 8 9 0 15).set 2 (λ_=>boot_o_2 w.params),n:=15,life:={},gens:=#[],drawn:={},toks:=187,os:=os}
noncomputable abbrev pB:Pos:={line:=0,col:=0,endLine:=0,endCol:=0}
theorem pc4 (w:az)(p:Program)(b:List Stmt)(os:aJ):aV aK p w 11 (some (.ref 6)) 1 1500 (S0 w os) (bQ (sg 0 5) mW (.body b mW) pB [bt pB])=some (.next,pD (sv "kindkeep.diags" 194) 12 13 12 83 283 w os,.body b mW,⟨15,0,19,24⟩):=by
 show aV aK p _ 11 (some (.ref 6)) 1 1500 _ ⟨(bI _ mW).wrap cf cg id id,_,_,_⟩=_;rw[cj,ck,cm]
 kernel_rfl
theorem ajw (w:az)(p:Program)(b:List Stmt)(os:aJ):aV aK p w 11 (some (.ref 6)) 1 1500 (pD (sv "kindkeep.diags" 194) 12 13 12 83 283 w os) (bQ (sg 5 58) mW (.body b mW) ⟨15,0,19,24⟩ [bt pB])=some (.next,pD (sv "kindkeep.types" 283) 69 70 12 109 416 w os,.body b mW,⟨77,0,77,11⟩):=by
 show aV aK p _ 11 (some (.ref 6)) 1 1500 _ ⟨(bI _ mW).wrap cf cg id id,_,_,_⟩=_;rw[cj,ck,cm]
 kernel_rfl
theorem ahY (w:az)(p:Program)(b:List Stmt)(os:aJ):aV aK p (w.withFollow "special-get-raises" false) 11 (some (.ref 6)) 1 1500 (pD (sv "kindkeep.types" 283) 69 70 12 109 416 (w.withFollow "special-get-raises" false) os) (bQ (sg 63 1) mW (.body b mW) ⟨77,0,77,11⟩ [bt pB])=some (.next,pD (sv "kindkeep.types" 283) 70 71 12 110 423 (w.withFollow "special-get-raises" false) os,.body b mW,⟨78,0,78,12⟩):=by
 show aV aK p _ 11 (some (.ref 6)) 1 1500 _ ⟨(bI _ mW).wrap cf cg id id,_,_,_⟩=_;rw[cj,ck,cm]
 kernel_rfl
theorem ahZ (w:az)(p:Program)(b:List Stmt)(os:aJ):aV aK p (w.withFollow "special-get-raises" true) 11 (some (.ref 6)) 1 1500 (pD (sv "kindkeep.types" 283) 69 70 12 109 416 (w.withFollow "special-get-raises" true) os) (bQ (sg 63 1) mW (.body b mW) ⟨77,0,77,11⟩ [bt pB])=some (.next,pD (sv "kindkeep.types" 283) 70 71 12 110 423 (w.withFollow "special-get-raises" true) os,.body b mW,⟨78,0,78,12⟩):=by
 show aV aK p _ 11 (some (.ref 6)) 1 1500 _ ⟨(bI _ mW).wrap cf cg id id,_,_,_⟩=_;rw[cj,ck,cm]
 kernel_rfl
theorem ajx (w:az)(p:Program)(b:List Stmt)(os:aJ):aV aK p w 11 (some (.ref 6)) 1 1500 (pD (sv "kindkeep.types" 283) 69 70 12 109 416 w os) (bQ (sg 63 1) mW (.body b mW) ⟨77,0,77,11⟩ [bt pB])=some (.next,pD (sv "kindkeep.types" 283) 70 71 12 110 423 w os,.body b mW,⟨78,0,78,12⟩):=by
 cases h:w.params.followText "special-get-raises" with
 |false=>have:=ahY w p b os;rwa[← h,kX] at this
 |true=>have:=ahZ w p b os;rwa[← h,kX] at this
theorem ajy (w:az)(p:Program)(b:List Stmt)(os:aJ):aV aK p w 11 (some (.ref 6)) 1 1500 (pD (sv "kindkeep.types" 283) 70 71 12 110 423 w os) (bQ (sg 64 17) mW (.body b mW) ⟨78,0,78,12⟩ [bt pB])=some (.next,pD (sv "kindkeep.types" 283) 87 88 63 279 675 w os,.body b mW,⟨181,0,184,15⟩):=by
 show aV aK p _ 11 (some (.ref 6)) 1 1500 _ ⟨(bI _ mW).wrap cf cg id id,_,_,_⟩=_;rw[cj,ck,cm]
 kernel_rfl
theorem ah0 (w:az)(p:Program)(b:List Stmt)(os:aJ):aV aK p w 11 (some (.ref 6)) 1 1500 (pD (sv "kindkeep.types" 283) 87 88 63 279 675 w os) (bQ (sg 81 24) mW (.body b mW) ⟨181,0,184,15⟩ [bt pB])=some (.next,pD (sv "kindkeep.typeops" 813) 110 111 117 397 831 w os,.body b mW,⟨291,0,293,73⟩):=by
 show aV aK p _ 11 (some (.ref 6)) 1 1500 _ ⟨(bI _ mW).wrap cf cg id id,_,_,_⟩=_;rw[cj,ck,cm]
 kernel_rfl
theorem ah1 (w:az)(p:Program)(b:List Stmt)(os:aJ):aV aK p w 11 (some (.ref 6)) 1 1500 (pD (sv "kindkeep.typeops" 813) 110 111 117 397 831 w os) (bQ (sg 105 16) mW (.body b mW) ⟨291,0,293,73⟩ [bt pB])=some (.next,pD (sv "kindkeep.typeops" 813) 126 127 165 503 992 w os,.body b mW,⟨433,0,437,56⟩):=by
 show aV aK p _ 11 (some (.ref 6)) 1 1500 _ ⟨(bI _ mW).wrap cf cg id id,_,_,_⟩=_;rw[cj,ck,cm]
 kernel_rfl
theorem ah2 (w:az)(p:Program)(b:List Stmt)(os:aJ):aV aK p w 11 (some (.ref 6)) 1 1500 (pD (sv "kindkeep.typeops" 813) 126 127 165 503 992 w os) (bQ (sg 121 15) mW (.body b mW) ⟨433,0,437,56⟩ [bt pB])=some (.next,pD (sv "kindkeep.hosts" 1030) 139 140 189 717 1284 w os,.body b mW,⟨555,0,561,22⟩):=by
 show aV aK p _ 11 (some (.ref 6)) 1 1500 _ ⟨(bI _ mW).wrap cf cg id id,_,_,_⟩=_;rw[cj,ck,cm]
 kernel_rfl
theorem ah3 (w:az)(p:Program)(b:List Stmt)(os:aJ):aV aK p w 11 (some (.ref 6)) 1 1500 (pD (sv "kindkeep.hosts" 1030) 139 140 189 717 1284 w os) (bQ (sg 136 15) mW (.body b mW) ⟨555,0,561,22⟩ [bt pB])=some (.next,pD (sv "kindkeep.hosts" 1030) 154 155 234 814 1414 w os,.body b mW,⟨643,0,657,48⟩):=by
 show aV aK p _ 11 (some (.ref 6)) 1 1500 _ ⟨(bI _ mW).wrap cf cg id id,_,_,_⟩=_;rw[cj,ck,cm]
 kernel_rfl
theorem ah4 (w:az)(p:Program)(b:List Stmt)(os:aJ):aV aK p w 11 (some (.ref 6)) 1 1500 (pD (sv "kindkeep.hosts" 1030) 154 155 234 814 1414 w os) (bQ (sg 151 15) mW (.body b mW) ⟨643,0,657,48⟩ [bt pB])=some (.next,pD (sv "kindkeep.excess" 1427) 168 169 264 877 1494 w os,.body b mW,⟨719,0,722,70⟩):=by
 show aV aK p _ 11 (some (.ref 6)) 1 1500 _ ⟨(bI _ mW).wrap cf cg id id,_,_,_⟩=_;rw[cj,ck,cm]
 kernel_rfl
theorem ah5 (w:az)(p:Program)(b:List Stmt)(os:aJ):aV aK p w 11 (some (.ref 6)) 1 1500 (pD (sv "kindkeep.excess" 1427) 168 169 264 877 1494 w os) (bQ (sg 166 15) mW (.body b mW) ⟨719,0,722,70⟩ [bt pB])=some (.next,pD (sv "law_pq0591_01" 1541) 182 183 300 949 1620 w os,.body b mW,⟨821,0,825,51⟩):=by
 show aV aK p _ 11 (some (.ref 6)) 1 1500 _ ⟨(bI _ mW).wrap cf cg id id,_,_,_⟩=_;rw[cj,ck,cm]
 kernel_rfl
theorem ah6 (w:az)(p:Program)(b:List Stmt)(os:aJ):aV aK p w 11 (some (.ref 6)) 1 1500 (pD (sv "law_pq0591_01" 1541) 182 183 300 949 1620 w os) (bQ (sg 181 16) mW (.body b mW) ⟨821,0,825,51⟩ [bt pB])=some (.next,pD (sv "law_pq0591_01" 1541) 198 199 348 1045 1746 w os,.body b mW,⟨947,0,990,15⟩):=by
 show aV aK p _ 11 (some (.ref 6)) 1 1500 _ ⟨(bI _ mW).wrap cf cg id id,_,_,_⟩=_;rw[cj,ck,cm]
 kernel_rfl
noncomputable def rs (a:Nat):List Stmt:=(eS PW).drop a
theorem abv (a n:Nat):rs a=sg a n++rs (a+n):=by rw[rs,sg,rs,← kM,kS]
theorem uf {w:az}{a n N:Nat}{pos pos':Pos}{S S':SharedT}{b:List Stmt}{r:Shared}(h:aV aK PW w 11 (some (.ref 6)) 1 1500 S (bQ (sg a n) mW (.body b mW) pos [bt pB])=some (.next,S',.body b mW,pos'))
  (k:d6 aK PW w 11 (some (.ref 6)) N S'.abs (fX (rs (a+n)) mW (.body b mW) pos' [bt pB])=some r):d6 aK PW w 11 (some (.ref 6)) (1500+N) S.abs (fX (rs a) mW (.body b mW) pos [bt pB])=some r:=by
 rw[abv a n];exact piece_app (segRun_of h) k
noncomputable def H1 (P:cC):Heap:=absHeap (Jy P (sv "law_pq0591_01" 1541) 198 199 348 1045) 1045 {}
noncomputable def qV:Program:=view PW [196]
noncomputable def rU:List Str:=(["_wall","KeepError","TooDeep","HostFault","Y_KEY","Y_BOOL","Y_STR","Y_NUM","Y_ENUM","Y_UNION","Y_INTER","Y_OBJ","Y_REF","Y_PARAM","Y_ARRAY","Y_TUPLE","Y_SIG","Y_KEYOF","Y_INDEX","Y_COND","Y_MAPPED","Y_TPL","Y_ALIAS","ANY","UNKNOWN","NEVER","VOID","UNDEF","NULLT","STRING","NUMBER","FALSE_T","TRUE_T","OBJECTT","EMPTY","ERR","FRESH_F","FRESH_T","P_OPT","P_READONLY","P_PRIVATE","P_PROTECTED","E_NEED","E_OPT","E_REST","E_SPREAD","D_INTERFACE","D_OBJALIAS","FAM_OTHER","FAM_STR","FAM_NUM","FAM_BOOL","FAM_NULL","FAM_UNDEF","FAM_VOID","FAM_OBJ","MAX_UNION","FIRST_ROWS","LITERAL_ROWS","MARKED_ROWS","OBJECT_ROWS","KEY_FAMILIES","TypeTable","Decl","kind_of","str_type","num_type","bool_type","ref_type","array_type","last_mark","needed_to_last","one_rest","tuple_type","sorted_props","obj_type","sig_type","func_type","new_decl","parts_of","whole_of_row","regular_twin","join_bools","stays_beside","top_of","union","add_undef","is_literal","is_unit","is_fresh","regular_one","regular","common_family","meet_family","family","is_nullish_family","MAX_DRAWN","MEET_NEVER","MEET_LEFT","MEET_RIGHT","MEET_BOTH","all_units","value_literal","kinds_apart","units_clash","body_props","flat_props","shapes_clash","meet_nullish","meet_values","meet_objects","meet_case","lay_on","members_of_meet","meet_parts","meet_two","inter","value_holds","units_fit","MOST_PLAIN","PLAIN_ROWS","hidden_apart","plain_shape","MOST_ROUNDS","MOST_SHAPES","MOST_BASES","Thin","RefHost","elem_read","row_elem","told_places","find_prop","is_digits","place_of","is_number_name","prop_row","read_type","late_place","list_read","index_read","prop_of_parts","prop_type","index_of","index_of_parts","hosts_elem_kinds","elem_type","tuple_at","LIST_ROWS","SHAPED_ROWS","DEFERRED_ROWS","OPEN_ROWS","is_weak","shows_nothing","is_weak_kind","weak_fault","missing_prop","takes_all","knows","tells_apart","lets_unit","told_parts","checked_parts","excess_within","excess_one","asked_elem","list_excess","excess","_law_masks","_law_wides","_law_draw","_law_norm","_law_mask","_law_own","_law_within","_law_asked","_law_atom","_law_type","_law_index","_law_build","_law_both","_law_read","_law_single","_law_lets","_law_open","_law_bare","_law_knows","_law_spare","_law_weak","_law_lacks"]:List String).map bq
theorem ad4 (w:az):((cD w.params).isNs a7&&(d7 ([]:List GenState)).size==0,(cD w.params).objs.size,(cD w.params).nsMap a7 "__annotations__")=(true,11,some (.ref 6)):=by kernel_rfl
theorem ad5 (w:az):(fencedOpening aK PW w 20000).map (λs=>(s.heap,s.gens,s.drawn,s.toks))=some (cD w.params,d7 [],eT,eU) :=
 boot_open (by kernel_rfl) (by decide +kernel) (λs=>by kernel_rfl) w
noncomputable def cB:Code:=.body (eS PW) mW
noncomputable def Sk (w:az)(os:aJ):Shared:=(pD (sv "law_pq0591_01" 1541) 198 199 348 1045 1746 w os:SharedT).abs
theorem agh (w:az)(os:aJ):topGo aK PW w 11 (some (.ref 6)) 12 ⟨cD w.params,d7 [],eT,eU,os⟩ (topStub PW)=some ((S0 w os).abs,⟨denote aK cB,cB,pB,[bt pB]⟩):=by kernel_rfl
noncomputable def Sf (s:Shared):Heap:=s.heap
noncomputable def C0 (s:Shared):Bool:=recOk (RowW.records (PySem.Challenge.rw_pq0591_01.row.toRowW)) s
theorem agi:rs 197=[]:=by kernel_rfl
theorem agj (w:az)(os:aJ):d6 aK PW w 11 (some (.ref 6)) 2 (Sk w os) (fX [] mW cB ⟨947,0,990,15⟩ [bt pB])=some (Sk w os):=by kernel_rfl
theorem agk (w:az)(os:aJ):∃M,dG M 20000=true/\d6 aK PW w 11 (some (.ref 6)) M ⟨cD w.params,d7 [],eT,eU,os⟩ (topStub PW)=some (Sk w os):=by
 have hb:segRun aK PW w 11 (some (.ref 6)) 1 1 (S0 w os).abs (blockOf (eS PW) mW cB pB [bt pB])=some (.next,(S0 w os).abs,cB,pB):=by kernel_rfl
 have he:d6 aK PW w 11 (some (.ref 6)) 2 (Sk w os) (fX (rs 197) mW cB ⟨947,0,990,15⟩ [bt pB])=some (Sk w os):=by rw[agi];exact agj w os
 exact⟨_,by decide +kernel,go_top (agh w os) (piece_block hb (uf (pc4 w PW _ os) (uf (ajw w PW _ os) (uf (ajx w PW _ os) (uf (ajy w PW _ os) (uf (ah0 w PW _ os) (uf (ah1 w PW _ os) (uf (ah2 w PW _ os) (uf (ah3 w PW _ os) (uf (ah4 w PW _ os) (uf (ah5 w PW _ os) (uf (ah6 w PW _ os) he))))))))))))⟩
theorem l0 (w:az)(os:aJ):(staticsOk (eV PW.main.body) (cD w.params) (H1 w.params))=true:=by kernel_rfl
theorem l1 (w:az)(os:aJ):namesBound PW (H1 w.params)=true:=by kernel_rfl
theorem l2 (w:az)(os:aJ):gensDone (Sk w os)=true:=by kernel_rfl
theorem l3 (w:az)(os:aJ):laidKept (cD w.params) (H1 w.params)=true:=by kernel_rfl
theorem k1 (w:az)(os:aJ):seen ((recsOf qV).map (·.name)) (ownsOf qV) [] {(Sk w os) with gens:=#[]}=expectedOf qV:=by kernel_rfl
theorem k2 (w:az)(os:aJ):(Sk w os).heap.bltView=bltViewBooted:=by kernel_rfl
theorem k3 (w:az)(os:aJ):(Sk w os).heap.keysOk (fY qV rU) ((recsOf qV).map (·.name)) ((litsOf qV).map (·.1)) ((clssOf qV (fY qV rU)).map (·.name))=true:=by kernel_rfl
theorem k4 (w:az)(os:aJ):(Sk w os).heap.accountedOkI (eV PW.main.body)=true:=by kernel_rfl
theorem k5 (w:az)(os:aJ):((Sk w os).heap.isNs a7&&(Sk w os).heap.isNs cz&&tablesOk qV (Sk w os).heap&&C0 (Sk w os)&&((Sk w os).gens.size==0))=true:=by kernel_rfl
theorem k6 (w:az)(os:aJ):tabsOk qV (Sk w os)=true:=by kernel_rfl
theorem k7 (w:az)(os:aJ):pinSeenD qV (drecsOf qV) (Sk w os)=pinGoodD (drecsOf qV):=by kernel_rfl
theorem k8 (w:az)(os:aJ):plainSeenE qV (fY qV rU) (Sk w os)=plainGoodE qV (fY qV rU):=by kernel_rfl
theorem k9 (w:az)(os:aJ):plainSeenD qV rU (Sk w os)=plainGoodD qV rU:=by kernel_rfl
theorem k10 (w:az)(os:aJ):wideSeen qV (Sk w os)=wideGood qV:=by kernel_rfl
theorem yL (w:az)(os:aJ):clsSeenW qV rU (Sk w os)=clsGoodW qV rU:=by kernel_rfl
theorem ad6 (w:az)(os:aJ):d6 aK PW w 11 (some (.ref 6)) 20000 ⟨cD w.params,d7 [],eT,eU,os⟩ (topStub PW)=some ⟨H1 w.params,#[],{},1746,os⟩:=by
 obtain⟨M,hM,h⟩:=agk w os;have:=topRun_mono (20000 - M) _ _ _ _ h;rwa[show M+(20000 - M)=20000 from fJ (a8 hM)] at this
theorem ad7 (w:az)(os:aJ):il qV rU (eV PW.main.body) C0 true (Sk w os)=iu qV rU:=by
 unfold il iu;rw[k1 w os,k2 w os,k3 w os,k4 w os,k6 w os,k7 w os,k8 w os,k9 w os,k10 w os,yL w os];have h5:=k5 w os;simp only[aL] at h5;simp only[h5.1.1.1.1,h5.1.1.1.2,h5.1.1.2,h5.1.2,h5.2,if_true,i9]
theorem ad8:LeftO PW qV rU C0 Sf (λw=>H1 w.params) 20000:=by
 refine LeftO.of_pieces (H₀:=λP=>cD P) (H₁:=H1) (gs₀:=d7 []) (gs₁:=#[]) (d₀:=eT) (d₁:={}) (k₀:=eU) (k₁:=1746) (m₀:=11) (ann:=some (.ref 6)) (M:=20000) ad5 ad4 ad6 (by decide) λw=>?_
 funext os
 have a0:=l0 w os;have a1:=l1 w os;have a2:gensDone ⟨H1 w.params,#[],{},1746,os⟩=true:=l2 w os;have a3:=l3 w os;have b:il qV rU (eV PW.main.body) C0 true ⟨H1 w.params,#[],{},1746,os⟩=iu qV rU:=ad7 w os;rw[a0,a1,a2,a3,b];rfl
noncomputable def xm:DefRec:=((defOf qV "law").getD (⟨PySem.Str.empty,default,[],default,default⟩,[])).1
theorem Og:defOf qV "law"=some (xm,[]):=by kernel_rfl
theorem Zq:PW.theDef "law"=some (xm.params,xm.body,xm.scope):=by kernel_rfl
abbrev Walk:Prop:=WalkO qV rU (λ_ _=>True) (λw h=>∀b o,(H1 w.params).get? b=some o->h.get? b=some o) PySem.Challenge.rw_pq0591_01.row.toRowW
  xm [] λf vs=>PySem.call f vs
noncomputable abbrev LR:OpenLaw:=lL
theorem rl1:namesResolve PW=true:=by rw[Fast.te8377067652309620493];kernel_rfl
theorem rl2:(["vars","dir","locals"]:List Str).filter (readsOut PW PW.main.body)=[]:=by rw[Fast.te13343964577679436407];kernel_rfl
theorem rl3:noRoadLSs {strict:=!(eV PW.main.body).all cThrough.contains,foot:=none,bare:=[]} PW.main.body=true:=by rw[kY];kernel_rfl
theorem rl4:namesMeet PW PW.main.body (λ_ n=>attrL n)=true:=by rw[iw,Fast.te17868728402115742887];kernel_rfl
theorem rl5:PW.boundNames.all (λn=>!worldNames.contains n)=true:=by rw[kZ];kernel_rfl
theorem rl6:LR.bound'.all (λn=>!builtinNamed n||LR.about==[n]||!LR.reads n)=true:=by rw[k_];kernel_rfl
theorem rl7:LR.own.all (λn=>!builtinNamed n)=true:=by rw[k_];kernel_rfl
theorem rl8:namesMeet LR.prog LR.above (λ_ n=>!LR.own.contains n)=true:=by rw[iw];kernel_rfl
theorem Zr:looksOpen PW=true:=by
 delta looksOpen
 rw[rl2];exact cT (cT (cT (cT (cT (by kernel_rfl) (by rw[Fast.te12862048085361865435];kernel_rfl)) rl1) rl5) rl3) rl4
theorem abw:LR.row.partSaid=true:=by
 delta OpenRow.partSaid
 repeat' with_reducible refine cT ?_ ?_
 ·exact Zr
 all_goals kernel_rfl
theorem ad9:LR.row.wellSaid=true:=by
 delta OpenRow.wellSaid
 exact cT (cT abw (by rw[kZ];kernel_rfl)) (by kernel_rfl)
theorem ad_:LR.wellSaid=true:=by
 delta OpenLaw.wellSaid
 repeat' with_reducible refine cT ?_ ?_
 ·exact ad9
 all_goals first|with_reducible exact rl6|with_reducible exact rl7|with_reducible exact rl8|(rw[kY];kernel_rfl)|(rw[iw];kernel_rfl)|(rw[Fast.te8179353310426384613];kernel_rfl)|(rw[Fast.te9558739934217749035];kernel_rfl)|kernel_rfl
theorem abx:la PW=true:=by
 delta la lM lN
 rw[Fast.te6116379765354995101,Fast.te15985051520779696433]
 kernel_rfl
theorem holds_of (walk:Walk):PySem.Challenge.rw_pq0591_01.Holds:=by
 w_on
 refine holds_law ad_ λal8=>?_;refine holds_open (q:=qV) (loose:=rU) (Xt:=C0) (XP:=λ_ _=>True) (Yf:=Sf) (Ya:=λw=>H1 w.params) (YP:=λw h=>∀b o,(H1 w.params).get? b=some o->h.get? b=some o) (d:=xm) (kwd:=[]) (N:=20000)
  ad8 (λw s e b o q=>by have e:s.heap=H1 w.params:=e;rw[e];exact q) (λw h h' y k b o q=>k b o (y b o q)) (λ_ _=>trivial) (λ_ _ _ _ _=>trivial)
  Og Zq (by kernel_rfl) (λs e=>recFacts_of e) (by rfl) (by assumption) (by decide +kernel) ⟨rfl,rfl,rfl,rfl,rfl,abx⟩ ?_ walk
 w_witness2
noncomputable def B1:List (String×PV):=[("FIRST_ROWS",(.tup [(.tup [(.int 1),(.str "any")]),(.tup [(.int 1),(.str "unknown")]),(.tup [(.int 1),(.str "never")]),(.tup [(.int 1),(.str "void")]),(.tup [(.int 1),(.str "undefined")]),(.tup [(.int 1),(.str "null")]),(.tup [(.int 1),(.str "string")]),(.tup [(.int 1),(.str "number")]),(.tup [(.int 2),(.int 0),(.int 0)]),(.tup [(.int 2),(.int 1),(.int 0)]),(.tup [(.int 1),(.str "object")]),(.tup [(.int 8),(.tup []),(.tup []),(.tup []),(.tup []),(.tup []),(.int 0)]),(.tup [(.int 6),(.tup [(.int 8),(.int 9)])]),(.tup [(.int 1),(.str "error")]),(.tup [(.int 2),(.int 0),(.int 1)]),(.tup [(.int 2),(.int 1),(.int 1)])])),("Y_STR",(.int 3)),("Y_NUM",(.int 4)),("Y_BOOL",(.int 2)),("Y_REF",(.int 9)),("Y_ARRAY",(.int 11)),("E_NEED",(.int 0)),("E_OPT",(.int 1)),("E_REST",(.int 2)),("E_SPREAD",(.int 3)),("Y_TUPLE",(.int 12)),("Y_OBJ",(.int 8)),("Y_SIG",(.int 13)),("NEVER",(.int 2)),("Y_UNION",(.int 6)),("Y_TPL",(.int 18)),("STRING",(.int 6)),("NUMBER",(.int 7)),("Y_ENUM",(.int 5)),("MARKED_ROWS",(.tup [(.int 2),(.int 3),(.int 4),(.int 5),(.int 8)])),("FALSE_T",(.int 8)),("FRESH_F",(.int 14)),("TRUE_T",(.int 9)),("FRESH_T",(.int 15)),("ANY",(.int 0)),("ERR",(.int 13)),("UNKNOWN",(.int 1)),("MAX_UNION",(.int 400)),("UNDEF",(.int 4)),("LITERAL_ROWS",(.tup [(.int 2),(.int 3),(.int 4),(.int 5)])),("NULLT",(.int 5)),("VOID",(.int 3)),("MOST_PLAIN",(.int 40)),("PLAIN_ROWS",(.tup [(.int 1),(.int 2),(.int 3),(.int 4),(.int 5)])),("EMPTY",(.int 11)),("MOST_ROUNDS",(.int 200)),("MOST_SHAPES",(.int 40)),("P_OPT",(.int 1)),("MOST_BASES",(.int 60)),("Y_INTER",(.int 7)),("OBJECTT",(.int 10)),("SHAPED_ROWS",(.tup [(.int 8),(.int 9)])),("OPEN_ROWS",(.tup [(.int 6),(.int 7),(.int 10),(.int 14),(.int 15),(.int 16),(.int 17),(.int 18),(.int 19)])),("LIST_ROWS",(.tup [(.int 11),(.int 12)])),("_law_masks",(.tup [(.int 1),(.int 8),(.int 2),(.int 4),(.int 3),(.int 16),(.int 24),(.int 64),(.int 192),(.int 256),(.int 512),(.int 32),(.int 36),(.int 513),(.int 0),(.int 1024),(.int 2048),(.int 4096),(.int 8192),(.int 4)])),("_law_wides",(.tup [(.int 4),(.int 32),(.int 36),(.int 4),(.int 1024),(.int 4096),(.int 2048),(.int 8192)])),("P_READONLY",(.int 2)),("D_INTERFACE",(.int 2))]
noncomputable def BM:List Fn:=[.Be,.D6,.A0,.DE,.D7,.AL,.zf,.C7,.D8,.Dq,.Dg,.D9,.sig_type,.D_,.sR,.Dh,.Di,.Dr,.Dj,.EO,.union,.zg,.Ds,.Ez,.A1,.AI,.regular,.DF,.Dl,.DG,.AJ,.Ea,.DH,.He,.AE,.vQ,.DI,.DJ,.AM,.tp,.wU,.AQ,.EA,.y6,.uY,.sQ,.y8,.takes_all,.BP,.Dm,.DM,.Dv,.C_,.Dc,.Dw,.zd,.Dn,.uh,.qL,.Eb,.zj,.zx,.AN,.zh,.Ec,.tw,.AS,.uZ,.xR,.zk,.Dx,.Ed,.A2,.Ee,.DN,.tq,.A3,.DO,.rF]
noncomputable def sd (f:Fn):Addr:=([123,137,158,172,180,188,196,203,211,218,225,232,238,243,255,264,278,285,292,299,306,313,320,325,332,339,346,353,360,365,396,502,509,524,545,573,643,650,671,678,685,709,723,728,742,749,756,768,775,788,795,813,830,837,842,847,854,859,866,871,876,881,886,891,896,903,908,913,922,929,936,943,948,955,962,967,974,979,986,993,1000,1007,1012,1019,1024,1029,1034,1039,1044][f.val]?).getD 0
noncomputable def pW:n_->Addr
 |.sf=>140
 |.Decl=>161
 |.qk=>695
noncomputable def Ko:List Fn:=List.finRange 89
theorem Oh (f:Fn):f∈Ko:=List.mem_finRange f
noncomputable def ajz:List Addr:=[3,0,140,139,161,160,695,694,653,652,123,137,158,172,180,188,196,203,211,218,225,232,238,243,255,264,278,285,292,299,306,313,320,325,332,339,346,353,360,365,396,502,509,524,545,573,643,650,671,678,685,709,723,728,742,749,756,768,775,788,795,813,830,837,842,847,854,859,866,871,876,881,886,891,896,903,908,913,922,929,936,943,948,955,962,967,974,979,986,993,1000,1007,1012,1019,1024,1029,1034,1039,1044]
noncomputable def Jz (v:Value)(f:Addr->Bool):Bool:=match v with|.ref a=>f a|_=>false
theorem Pc {v:Value}{f:Addr->Bool}{G:Prop}(e:Jz v f=true)(k:∀a,v=.ref a->f a=true->G):G:=by
 cases v with
 |ref a=>exact k a rfl e
 |_=>exact El.bf e
noncomputable def QT (v:Value)(i:Int):Bool:=match v with|.int j _=>decide (j=i)|_=>false
theorem agl {v:Value}{i:Int}(e:QT v i=true):∃t,v=.int i t:=by
 cases v with
 |int j t=>exact⟨t,l9 e▸rfl⟩
 |_=>exact El.bf e
noncomputable def QU (v:Value)(i:String):Bool:=match v with|.str j _=>decide (j=nm i)|_=>false
theorem agm {v:Value}{i:String}(e:QU v i=true):∃t,v=.str (nm i) t:=by
 cases v with
 |str j t=>exact⟨t,l9 e▸rfl⟩
 |_=>exact El.bf e
noncomputable def JA (d:Data)(f:Array Value->Bool):Bool:=match d with|.seq a _=>f a|_=>false
theorem Pd {d:Data}{f:Array Value->Bool}{G:Prop}(e:JA d f=true)(k:∀a n,d=.seq a n->f a=true->G):G:=by
 cases d with
 |seq a n=>exact k a n rfl e
 |_=>exact El.bf e
mutual
noncomputable def Kq (h:Heap):PV->Value->Bool
 |.none,v=>decide (v=.none)
 |.int i,v=>QT v i
 |.str s,v=>QU v s
 |.tup l,v=>Jz v λa=>(h.get? a).any λo=>decide (o.cls=.type "tuple")&&JA o.data λl_=>FY h l l_.toList&&decide (l.length<=2^20)
 |_,_=>false
noncomputable def FY (h:Heap):List PV->List Value->Bool
 |[],r=>r.isEmpty
 |_::_,[]=>false
 |p::l,v::r=>Kq h p v&&FY h l r
end
mutual
theorem IF {h:Heap}:∀{p:PV} {v:Value},Kq h p v=true->VR h lV.nil p v/\p.isData=true
 |.none,v,e=>⟨l9 (p:=v=.none) e,rfl⟩
 |.bool _,_,e=>El.bf e
 |.int _,_,e=>⟨agl e,rfl⟩
 |.str _,_,e=>⟨agm e,rfl⟩
 |.tup _,_,e=>Pc e λa ev e=>o5 e λo ho e=>El.nL e λhc e=>Pd e λl_ n hd e=>El.nL e λh1 h2=>(Ia h1).elim λx y=>⟨⟨a,l_.toList,ev,⟨o,ho,l9 hc,n,hd⟩,x,l9 h2⟩,y⟩
 |.lst _,_,e=>El.bf e
 |.loc _,_,e=>El.bf e
theorem Ia {h:Heap}:∀{l:List PV} {vs:List Value},FY h l vs=true->l6 h lV.nil l vs/\PV.pF l=true
 |[],_,e=>⟨List.isEmpty_iff.mp e,rfl⟩
 |_::_,[],e=>El.bf e
 |_::_,v::r,e=>El.nL e λe1 e2=>(IF e1).elim λa b=>(Ia e2).elim λc d=>⟨⟨v,r,rfl,a,c⟩,(aL _ _).mpr ⟨b,d⟩⟩
end
theorem Ll:∀{l:List PV},PV.pF l=true->∀v∈l,v.isData=true
 |[],_,_,h=>nomatch h
 |_::_,e,v,h=>El.nL e λe1 e2=>(List.mem_cons.mp h).elim (λh=>h▸e1) λh=>Ll e2 v h
noncomputable def QV (h:Heap)(d:Value)(l:List PV):Bool:=(decide (d=.none)&&l.isEmpty)||Jz d λa=>(h.get? a).any λo=>JA o.data λl_=>FY h l l_.toList
theorem aea {h:Heap}{d:Value}{l:List PV}(e:QV h d l=true):∃ds:List Value,l6 h lV.nil l ds/\(∀v∈l,v.isData=true)/\((∃a o n,d=.ref a/\h.get? a=some o/\o.data=.seq ds.toArray n)\/(ds=[]/\d=.none)) :=
 ((bM _ _).mp e).elim (λe=>El.nL e λe1 e2=>⟨[],(List.isEmpty_iff.mp e2).symm▸rfl,(List.isEmpty_iff.mp e2).symm▸λ_ h=>(nomatch h),.inr ⟨rfl,l9 e1⟩⟩) λe =>
  Pc e λa ev e=>o5 e λo ho e=>Pd e λl_ n hd e=>(Ia e).elim λx y=>⟨l_.toList,x,Ll y,.inl ⟨a,o,n,ev,ho,hd⟩⟩
noncomputable def Qc (b:FuncBody)(f:List Stmt->Bool):Bool:=match b with|.stmts b=>f b|_=>false
theorem aeb {b:FuncBody}{f:List Stmt->Bool}{G:Prop}(e:Qc b f=true)(k:∀a,b=.stmts a->f a=true->G):G:=by
 cases b with
 |stmts a=>exact k a rfl e
 |_=>exact El.bf e
noncomputable def QW (p:Arguments):Bool:=p.posonlyargs.isEmpty&&(p.vararg.isNone&&(p.kwonlyargs.isEmpty&&p.kwarg.isNone))
theorem mkA {a d:List Arg}{b:List Arg}{c f:Option Arg}{k:List (Option Expr)}{g:List Expr}(h1:a=[])(h2:c=none)(h3:d=[])(h4:f=none):Arguments.mk a b c d k f g=⟨[],b,none,[],k,none,g⟩:=by cases h1;cases h2;cases h3;cases h4;rfl
theorem bl {a b:Bool}(e:(a&&b)=true):a=true:=El.nL e λe _=>e
theorem br {a b:Bool}(e:(a&&b)=true):b=true:=El.nL e λ_ e=>e
theorem p9 {a b c:Bool}(e:(a&&(b&&c))=true):c=true:=br (br e)
theorem qW {a b c d r:Bool}(e:(a&&(b&&(c&&(d&&r))))=true):r=true:=p9 (p9 e)
theorem tm {a b c d e f g h r:Bool}(z:(a&&(b&&(c&&(d&&(e&&(f&&(g&&(h&&r))))))))=true):r=true:=qW (qW z)
theorem agn {p:Arguments}(e:QW p=true):p=⟨[],p.args,none,[],p.kw_defaults,none,p.defaults⟩:=by
 cases p;exact mkA (List.isEmpty_iff.mp (bl e)) (Option.isNone_iff_eq_none.mp (bl (br e))) (List.isEmpty_iff.mp (bl (p9 e))) (Option.isNone_iff_eq_none.mp (br (p9 e)))
noncomputable def fdB (h:Heap)(f:Fn)(fd:FuncData):Bool:=Qc fd.body λb=>QW fd.params &&
 (sy B1 BM (funcs f).body 3 ((funcs f).names.map nm) fd.scope b&&(decide (fd.scope.kind=.function)&&(!fd.scope.isGenerator&&(!fd.scope.isCoroutine&&(decide (fd.globals=a7)&&(decide (fd.builtins=cz) &&
  (fd.closure.isEmpty&&(decide (fd.params.args.map (·.arg)=((funcs f).names.map nm).take (funcs f).ru)&&(decide ((funcs f).ru<=(funcs f).names.length)&&(decide (((funcs f).names.map nm).take (funcs f).ru).Nodup &&
  ((((funcs f).names.map nm).take (funcs f).ru).all (λx=>decide (fd.scope.names.lookup x=some .local)||decide (fd.scope.names.lookup x=some .cell))&&(fd.scope.names.all (λx=>!decide (x.2=.free)) &&
  (QV h fd.defaults (funcs f).defaults&&(decide ((funcs f).defaults.length<=(funcs f).ru)&&h.codeRecOk fd.code fd.qualname))))))))))))))
noncomputable def Qd (d:Data)(f:FuncData->Bool):Bool:=match d with|.func a=>f a|_=>false
theorem aec {d:Data}{f:FuncData->Bool}{G:Prop}(e:Qd d f=true)(k:∀a,d=.func a->f a=true->G):G:=by
 cases d with
 |func a=>exact k a rfl e
 |_=>exact El.bf e
noncomputable def Sh (h:Heap)(f:Fn):Bool:=(h.get? (sd f)).any λo=>Qd o.data (fdB h f)
theorem I4 {b:Bool}(e:(!b)=true):b=false:=by cases b with|false=>rfl|true=>exact El.bf e
theorem ago {X:Cx}{f:Fn}(ha:X.fn f=sd f)(e:Sh X.base f=true):Jw X B1 BM f :=
 o5 e λo ho e=>aec e λfd hd e=>aeb e λb hb e=>(aea (bl (br (qW (tm e))))).elim λds d =>
   ⟨fd,b,o,fd.params.args,_,_,ds,ha.symm▸ho,hd,hb,(bl (br e)),⟨l9 (bl (p9 e)),I4 (bl (br (p9 e))),I4 (bl (qW e)),l9 (bl (br (qW e))),l9 (bl (p9 (qW e))),List.isEmpty_iff.mp (bl (br (p9 (qW e))))⟩,⟨agn (bl e),l9 (bl (tm e)),l9 (bl (br (tm e))),l9 (bl (p9 (tm e)))⟩,
    λx hx=>((bM _ _).mp (List.all_eq_true.mp (bl (br (p9 (tm e)))) x hx)).imp l9 l9,λn hn=>xg (I4 (List.all_eq_true.mp (bl (qW (tm e))) _ (mem_of_lookup hn))) rfl,⟨d.1,d.2.1,l9 (bl (p9 (qW (tm e)))),d.2.2⟩,.of_ok (br (p9 (qW (tm e))))⟩
noncomputable def I5 (h:Heap)(a:Addr):Option (Addr×Obj):=(h.get? a).map (a,·)
noncomputable def KF (P:cC):Frag:=ajz.filterMap (I5 (H1 P))
theorem aed {h:Heap}{a b:Addr}{o:Obj}(e:I5 h b=some (a,o)):h.get? a=some o:=(El.mp (P:=λp=>h.get? p.1=some p.2) e λ_ e=>e:h.get? (a,o).1=_)
theorem V4 {h:Heap}{l:List Addr}{a:Addr}{o:Obj}(e:(l.filterMap (I5 h)).lookup a=some o):h.get? a=some o :=
 (List.lookup_eq_some_iff.mp e).elim λ_ e=>e.elim λ_ e=>(List.mem_filterMap.mp (e.1▸dj _ (aG ..))).elim λ_ e=>aed e.2
theorem ah7 (P:cC):(KF P).In (H1 P):=λa o e=>V4 e
noncomputable def JB:List n_:=[.sf,.Decl,.qk]
theorem aby (c:n_):c∈JB:=l9 (by cases c<;>exact Eq.refl true:decide (c∈JB)=true)
noncomputable def GD:List BI:=[.len,.sorted,.tuple,.all,.any,.str]
theorem Oi (b:BI):b∈GD:=l9 (by cases b<;>exact Eq.refl true:decide (b∈GD)=true)
noncomputable def B2:List (n_×String×Fn):=[(.sf,"put",.wJ),(.qk,"force",.xM),(.qk,"bound",.xN),(.qk,"list_prop",.xI),(.qk,"list_index",.xH),(.qk,"shape",.xJ),(.qk,"fits",.y7)]
theorem yl {c:n_}{m s:String}{g f:Fn}{r:Option Fn}(e:(if m=s then some g else r)=some f)(h:(c,s,g)∈B2)(k:r=some f->(c,m,f)∈B2):(c,m,f)∈B2 :=
 if q:m=s then by rw[lW q] at e;exact q▸aq e▸h else k ((lX q).symm.trans e)
theorem Zs:∀{c:n_} {m:String} {f:Fn},mI c m=some f->(c,m,f)∈B2
 |.sf,_,_,e=>yl e (by decide) El.nn
 |.Decl,_,_,e=>El.nn e
 |.qk,_,_,e=>yl e (by decide) λe=>yl e (by decide) λe=>yl e (by decide) λe=>yl e (by decide) λe=>yl e (by decide) λe=>yl e (by decide) El.nn
noncomputable def GF (x:Option (Option Value))(a:Addr):Bool:=decide (x=some (some (.ref a)))
noncomputable def GG (x:Option (Option Value)):Bool:=decide (x=some none)
noncomputable def Si (x:Option Value):Bool:=decide (x=some (.type "function"))
noncomputable def QX (K:Frag)(c:n_):Bool :=
 decide (bk K (.ref (pW c)) "__getattribute__"=some (some (.builtin "object.__getattribute__")))&&(decide (bk K (.ref (pW c)) "__setattr__"=some (some (.builtin "object.__setattr__")))&&(g7 K (pW c)&&(g8 K (pW c)&&(fieldNames.all (λa=>GG (bk K (.ref (pW c)) (nm a))) &&
  (GF (bz K a7 (nm (clsName c))) (pW c)&&(eL K (.ref (pW c))&&(makesIn K (pW c)&&(GF (bk K (.ref (pW c)) "__init__") (sd (mZ c))&&(Si (d4 K (.ref (sd (mZ c))))&&GG (bk K (.ref (pW c)) "__getattr__"))))))))))
structure ajA (K:Frag)(c:n_):Prop where
 g:bk K (.ref (pW c)) "__getattribute__"=some (some (.builtin "object.__getattribute__"))
 s:bk K (.ref (pW c)) "__setattr__"=some (some (.builtin "object.__setattr__"))
 p:g7 K (pW c)=true
 d:g8 K (pW c)=true
 f:∀a∈fieldNames,bk K (.ref (pW c)) (nm a)=some none
 n:bz K a7 (nm (clsName c))=some (some (.ref (pW c)))
 k:eL K (.ref (pW c))=true
 m:makesIn K (pW c)=true
 i:bk K (.ref (pW c)) "__init__"=some (some (.ref (sd (mZ c))))
 t:d4 K (.ref (sd (mZ c)))=some (.type "function")
 a:bk K (.ref (pW c)) "__getattr__"=some none
theorem agp {K:Frag}{c:n_}(e:QX K c=true):ajA K c :=
  ⟨l9 (bl e),l9 (bl (br e)),(bl (p9 e)),(bl (br (p9 e))),λa h=>l9 (List.all_eq_true.mp (bl (qW e)) a h),l9 (bl (br (qW e))),(bl (p9 (qW e))),(bl (br (p9 (qW e)))),l9 (bl (tm e)),l9 (bl (br (tm e))),l9 (p9 (tm e))⟩
noncomputable def ah8 (K:Frag)(h:Heap)(p:String×PV):Bool:=(bz K a7 (nm p.1)).any λu=>u.any (Kq h p.2)
noncomputable def ajB (K:Frag)(x:n_×String×Fn):Bool:=GF (bk K (.ref (pW x.1)) (nm x.2.1)) (sd x.2.2)&&Si (d4 K (.ref (sd x.2.2)))
noncomputable def Pe (K:Frag)(h:Heap):Bool :=
 JB.all (QX K)&&(B1.all (ah8 K h)&&(BM.all (λf=>GF (bz K a7 (nm (fnName f))) (sd f))&&(GD.all (λb=>GG (bz K a7 (nm (xZ b)))) &&
  (GG (bz K a7 ("range":af))&&(GD.all (λb=>decide (bz K cz (nm (xZ b))=some (some (PX b))))&&(decide (bz K cz ("range":af)=some (some (.type "range")))&&(Ko.all (λf=>eL K (.ref (sd f)))&&(B2.all (ajB K)&&((h.get? dT).isSome&&h.noLimitOk)))))))))
theorem abz {X:Cx}(hc:X.cls=pW)(hf:X.fn=sd)(Gi:X.K.In X.base)(e:Pe X.K X.base=true):Ok X B1 BM/\X.base.NoLimit:=by
 cases X;cases hc;cases hf;have cl:=λc=>agp (List.all_eq_true.mp (bl e) c (aby c));exact⟨⟨⟨Gi,λc=>(cl c).g,λc=>(cl c).s,λc=>(cl c).p,λc=>(cl c).d,λc a ha=>(cl c).f a ha⟩,λn v hm=>o5 (List.all_eq_true.mp (bl (br e)) _ hm) λx hx e=>o5 e λu hu e=>⟨u,hx.trans (lT some hu),(IF e).2,(IF e).1⟩,
   λf hm=>l9 (List.all_eq_true.mp (bl (p9 e)) f hm),λc=>(cl c).n,λb=>l9 (List.all_eq_true.mp (bl (br (p9 e))) b (Oi b)),l9 (bl (qW e)),λb=>l9 (List.all_eq_true.mp (bl (br (qW e))) b (Oi b)),l9 (bl (p9 (qW e))),
   λf=>List.all_eq_true.mp (bl (br (p9 (qW e)))) f (Oh f),λc=>(cl c).k,λc=>(cl c).m,λc=>⟨(cl c).i,(cl c).t⟩,λc m f ht=>(λh=>⟨l9 (bl h),l9 (br h)⟩) (List.all_eq_true.mp (bl (tm e)) _ (Zs ht)),λc=>(cl c).a⟩,.of_ok (p9 (tm e))⟩
theorem LP (P:cC):Pe (KF P) (H1 P)=true:=by kernel_rfl
theorem abA (P:cC):Ko.all (Sh (H1 P))=true:=by kernel_rfl
noncomputable def XW (w:az):Cx where
 prog:=PW
 w:=w
 K:=KF w.params
 base:=H1 w.params
 sys:=bl (br (br (br (br (br (br (br (br (br (LP w.params))))))))))
 cls:=pW
 fn:=sd
theorem Sj (w:az):Ok (XW w) B1 BM/\(XW w).base.NoLimit:=abz rfl rfl (ah7 w.params) (LP w.params)
theorem ajC (w:az)(k:Nat):qu (XW w) (lY k) k:=QS (Sj w).1 (Sj w).2 (λf=>ago rfl (List.all_eq_true.mp (abA w.params) f (Oh f))) k
def JC:Prop:=∀l:List Int,l.length<=63->∃k σ',k<=50/\lY k .rF [.lst (l.map .int)] []=some (.bool true,σ')
theorem agq {x:eW}(e:iy [] x .int=true):∃i,x=.int i:=by
 cases x with
 |int i=>exact⟨i,rfl⟩
 |_=>exact El.bf e
theorem La:∀{xs:List eW},lb [] xs .int=true->∃l:List Int,xs=l.map .int
 |[],_=>⟨[],rfl⟩
 |_::_,e=>El.nL e λe1 e2=>(agq e1).elim λi h=>(La e2).elim λl k=>⟨i::l,h▸k▸rfl⟩
theorem aee {x:eW}(e:iy [] x (.list .int)=true):∃l,x=.list l/\lb [] l .int=true:=by
 cases x with
 |list l=>exact⟨l,rfl,(iJ _).symm.trans e⟩
 |_=>exact El.bf e
theorem Xu:∀{args:List eW},WShape.hasAll [] args [.list .int]=true->∃l:List Int,args=[.list (l.map .int)]
 |[],e=>El.bf e
 |[_],e=>El.nL e λe _=>El.n3 (aee e) λ_ h e=>(La e).elim λl k=>⟨l,h▸k▸rfl⟩
 |_::_::_,e=>El.nL e λ_ e=>El.bf e
theorem LS {cl:af->Option Addr}{h:Heap}:∀{l:List Int} {vs:List Value} {as:List Addr},ReadsAllW [] cl h vs (l.map .int) as->l6 h lV.nil (l.map .int) vs
 |[],_,_,r=>(lg r).1
 |_::_,_,_,r=>El.Q1 (lh r) λv vs _ _ e _ r1 r2=>El.n3 (readsW_int_inv r1) λt e1 _=>⟨v,vs,e,⟨t,e1⟩,LS r2⟩
theorem agr (a:Addr):Clear lV.nil a:=⟨λ_ h=>(nomatch h),λh=>(nomatch h)⟩
theorem abB {cl:af->Option Addr}{h:Heap}{l:List Int}{vals:List Value}{as:List Addr}(hl:l.length<=63)(r:ReadsAllW [] cl h vals [.list (l.map .int)] as):l6 h lV.nil [.lst (l.map .int)] vals :=
 El.Q1 (lh r) λv vs _ _ e _ r1 r2=>El.Q0 (readsW_list_inv r1) λa ws _ ev hL r _ =>
  ⟨v,vs,e,⟨a,ws.toList,ev,hL,agr a,LS r,ae (ax (au ..)) (ae hl (by decide))⟩,(lg r2).1⟩
theorem ah9 {l:List Int}{R:WRecords}{e:WCtx}(h:iz R (.and (.not (.lit (.bool (decide ((63:Int)<((l.map lj).length:Int)))))) (.lit (.bool true))) e=true):l.length<=63 :=
 if q:(63:Int)<((l.map lj).length:Int) then El.bf ((lT (λb=>iz R (.and (.not (.lit (.bool b))) (.lit (.bool true))) e) (mY q)).symm.trans h)
 else ae (ax (au ..).symm) (Int.ofNat_le.mp (Int.not_lt.mp q))
theorem abC {args:List eW}(h:(PySem.Challenge.rw_pq0591_01.row.toRowW).claim.pre args=true):∃l:List Int,args=[.list (l.map .int)]/\l.length<=63 :=
 (pre_splitW h).elim λh1 h2=>(Xu h1).elim λl e=>⟨l,e,ah9 (R:=(PySem.Challenge.rw_pq0591_01.row.toRowW).records) (e:={args:=args}) (by subst e;exact h2)⟩
theorem abD:xm.name=("law":af):=defOf_name Og
theorem Pf (P:cC):(H1 P).isNs a7=true/\(H1 P).nsMap a7 ("law":af)=some (.ref (sd .rF)):=⟨by kernel_rfl,by kernel_rfl⟩
theorem aef {w:az}{h:Heap}{mg:af->Option Value}{a:Addr}(YP:∀b o,(H1 w.params).get? b=some o->h.get? b=some o)(e2:mg=h.nsMap a7)(GH:mg xm.name=some (.ref a)):sd .rF=a:=by
 rw[abD,e2,← ((Heap.Ns.of_isNs (Pf w.params).1).keeps YP).eq_nsMap,(Pf w.params).2] at GH;exact jw (aq GH)
theorem ajD (X:Cx)(h:Heap):Rel X h lV.nil []:=⟨rfl,λ_ _ _ e=>El.nn (List.getElem?_nil.symm.trans e),λ_ _ _ _ e=>El.nn (List.getElem?_nil.symm.trans e),λ_ h=>(nomatch h),λ_ h=>(nomatch h)⟩
theorem ah_ {k:Nat}(h:k<=50):yv callerA k:=⟨rfl,ae (ak (av (cx 12 h) 301) 10) (by decide),aT (ak (av (cx 40 h) 4) 100) (by decide)⟩
theorem aeg (Ce:JC){w:az}{s:Shared}{l:List Int}{vals:List Value}(hl:l.length<=63)(YP:∀b o,(H1 w.params).get? b=some o->s.heap.get? b=some o)(hv:l6 s.heap lV.nil [.lst (l.map .int)] vals) :
  ag (ah PW w) callerA (call (.ref (sd .rF)) vals) (λv s'=>v=.bool true/\∃σ' φ',Sg (XW w) s lV.nil σ' s' φ') mR s :=
 El.uC (Ce l hl) λk σ' hk ajE=>HO (X:=XW w) (O:=lY k) (ajC w k) ajE (ah_ hk) ⟨YP⟩ (ajD _ _) hv λ_ _ φ' sg hv=>⟨hv,σ',φ',sg⟩
theorem abE (l:List Int):(iy [] (.bool true) .bool&&iz [] (.eq .res (.lit (.bool true))) {args:=[.list (l.map .int)],res:=some (.bool true),after:=[.list (l.map .int)]})=true:=by kernel_rfl
theorem aeh (Ce:JC):Walk:=λw s₀ s₁ mg mb G YP a _ _ _ _ _ _ _ _ _ _ GH aia args vals as ajF _ xA _ _=>El.n3 (abC ajF) λl hl QY=>by
 cases hl;refine aef YP G.T.g.eq_nsMap GH▸ay (aeg Ce QY YP (abB QY xA)) (λv s' z=>?_) λ_ _ e=>e.elim;exact z.elim λev z=>z.elim λσ' z=>z.elim λφ' sg=>ev ▸
  ⟨.inl ⟨_,_,[],rfl,λ_=>rfl,ReadsW.bool true,abE l,λ_=>⟨dv,λ_ hm=>(nomatch hm)⟩⟩,.of_keep (λb o e=>sg.gr.keep b o e (λp hp=>(nomatch hp)) id),sg.os,.of_eq (sg.gens.trans aia)⟩
theorem abF (Ce:JC):PySem.Challenge.rw_pq0591_01.Holds:=holds_of (aeh Ce)
theorem al1:PySem.Challenge.rw_pq0591_01.Holds:=abF aaC
end Mine.Internal
theorem PySem.Challenge.cw_pq0591_01_holds : PySem.Challenge.rw_pq0591_01.Holds :=
  Mine.Internal.al1
