import PyProof.Rows.All
import Wide.All
import OpenK.AllK
import Lean
import PySem.Challenge.RW_xw0060_01
open PySem.Str renaming ofString → ArP, empty → Ayq
open PySem renaming wpAny_bind → ArQ, Value → ArR, wpAny_pure → ArS, Shared → ArT, World → ArV, wpAny_mono → ArY, Addr → Ar0, Around → Ar4, wpAny → Ar5, Heap → Asb, wpAny_loadPart' → Asd, wpAny_holding → Aso, DictEntry → Ass, sizeLine_eq → Ast, codeAny → Asu, Scope → Asv, wpAny_field → Asx, wpAny_newObj_type → AsF, wpAny_standAt → AsH, wpAny_callSpecial?_slot → AsN, Program → AsR, mainGlobals → AsS, wpAny_setField_rec → As4, wpAny_call_entry → Ata, NameKind → Atk, OsState → Atn, builtinsNs → Atu, treeTable → Atz, wpAny_rule → AtF, notedBy → AtK, rawInt → AtQ, codeAny_builtin → AtR, sizeLine → AtY, wpAny_setField → At0, wpAny_seqItems → At1, call_isinstance → At7, getMethod_builtin → Aua, codeAny_mono → Aub, nsFind → Auc, plainId_quiet → Aue, wpAny_getItem_list_slice → Aug, Result → Auh, Stmt → Auj, Thread → Auk, richCompare_meets_room → Aur, cStatics → Auu, Model → Auw, letOwnedTupleGo → Aux, codeAny_of_tree → Auy, holding → Auz, compareOp → AuA, wpAny_attempt → AuB, wpAny_loadPart_at → AuH, wpAny_loadPart → AuI, sysModules → AuK, isInstance → AuL, assignEach → AuM, firstArgMember → AuN, cLine → AuR, mainNs → AuS, IsPair → AuT, Comprehension → AuW, compStart → AuY, Arguments → Au3, ExcName → Avu, ExceptHandler → Avv, FuncData → AvK, IsEnum → Awp, IsPart → Awq, ItemsOf → Awr, Keeper → Aws, Operator → AxR, PyData → Ax0, Data → Ax6, bindName → Ayg, call → Ayh, isType → Ayi, newList → Ayj, operate → Ayk, wpAt_of_wpAny → Ayl, aRefKeyMayBeTheName_at → AyB, arm_exec_Assign → AyD, arm_execs_nil → AyE, assign → AyF, assignInOrder → AyG, binaryOp → AyH, bltViewBooted → AyI, call_meets → AyJ, callerA → AyK, cameBackBy → AyL, checkBuiltinCall → AyM, classAt → AyN, codeAny_call_builtin → AyO, compEnvC → AyP, compTurn → AyQ, comprehension → AyR, denote → AyT, evalEach → AyW, excClassObj → AyX, findBy → AyY, foldedSetIterable → AyZ, getItem → Ay1, importedModules → Ay4, isExcClass → Ay5, isSubtype → Ay6, isSubtype_type → Ay7, newFunctionEnv → Aze, newTuple → Azf, noteFrame → Azg, pastItsLine_dict → Azh, pyIter → Azk, pyNext → Azl, relabel → Azm, seqIndex? → Azn, seqItems? → Azo, setAttr → Azq, setFlight → Azr, setItem → Azs, starEach → Azt, storeName → Azv, subscripted → Azx, swappedStores → Azy, swapsWithSole → Azz, theTreesLotGoes → AzA, typeLookup → AzF, typeOf → AzG, valueAt → AzH, wpAny_alloc → AzI, wpAny_askSetting → AzJ, wpAny_call → AzK, wpAny_dropValue → AzL, wpAny_getItem_list → AzM, wpAny_getItem_list_neg → AzN, wpAny_handled → AzO, wpAny_isInstance → AzP, wpAny_isSubtype_exc → AzQ, wpAny_lookBehind → AzR, wpAny_newList → AzS, wpAny_newTuple → AzT, wpAny_noted → AzU, wpAny_of_eq → AzV, wpAny_onRaise → AzW, wpAny_point → AzX, wpAny_specialOf → AzY, wpAny_throw → AzZ, wpAny_truthy_bool → Az0, wpAny_updatePart → Az1, wpAny_updateSeq → Az2
open Nat renaming eq_of_beq_eq_true → ArU, beq → ArX, le_of_ble_eq_true → Asp, ble → AsO, mod → AsV, le_refl → As0, div → Atm, le_of_not_lt → AtE, le_trans → AtH, ne_of_lt → AtI, ne_of_gt → AtJ, blt → AtP, zero_le → Auo, beq_refl → Auq, succ → Auv, lt_succ_of_lt → AuG, add_assoc → Aw8, add_comm → Aw9, add_le_add → Axa, add_le_add_left → Axb, add_lt_add_left → Axc, add_right_comm → Axd, add_sub_add_left → Axe, add_sub_cancel → Axf, add_sub_cancel_left → Axg, ble_eq_true_of_le → Axh, eq_or_lt_of_le → Axi, exists_eq_add_of_le → Axj, exists_eq_add_of_lt → Axk, le_add_right → Axl, le_of_eq → Axm, le_of_lt → Axn, le_of_lt_succ → Axo, le_succ → Axp, le_succ_of_le → Axq, lt_add_of_pos_right → Axr, lt_of_le_of_lt → Axs, lt_of_lt_of_eq → Axt, lt_of_lt_of_le → Axu, lt_of_succ_lt_succ → Axv, lt_succ_self → Axw, min_eq_left → Axx, min_eq_right → Axy, mod_two_eq_zero_or_one → Axz, mul_le_mul_left → AxA, ne_of_beq_eq_false → AxB, not_le_of_lt → AxC, not_lt_zero → AxD, sub_add_cancel → AxE, sub_le → AxF, sub_self → AxG, sub_sub_self → AxH, succ_add_eq_add_succ → AxI, succ_ne_self → AxJ, succ_pos → AxK, zero_add → AxL, zero_lt_of_lt → AxM
open PySem.Heap renaming get?_push_of_some → ArW, get?_push_size → Ar9, get?_update_self → Asa, get?_update_other → Asj, SameBut → AsD, lt_size → As2, ExtBut → Atg, size_push → Att, get?_none_of_le → AuO, IsList → AvM, get?_push_ne → AvN, get?_update_ne → AvO
open List renaming prefix_refl → ArZ, length_append → Ar1, getElem?_eq_some_iff → Ar2, mem_cons → Ar3, append_nil → Ar7, getElem?_eq_getElem → Ar8, getElem?_append_right → Asc, prefix_append → Asf, size_toArray → Asg, mem_singleton → Ash, lookup_cons → Asm, getElem?_append_left → Asn, nil_append → Asq, length_cons → Asr, mem_append → AsA, append_assoc → AsE, length_map → AsQ, take_of_length_le → AsT, map_cons → AsZ, zip_cons_cons → As3, take_append_drop → As5, drop_eq_nil_of_le → As9, drop_eq_getElem_cons → Atc, take_append_of_le_length → Ath, nodup_cons → Atl, forIn_cons → Atp, mem_of_getElem? → Atq, length_take → Atr, drop_of_length_le → Aty, length_nil → AtA, mem_append_right → AtC, mem_append_left → AtL, nodup_nil → AtM, forIn_nil → AtN, lookup → AtX, contains_cons → AtZ, mem_map → At8, length_range → At9, cons_append → Aul, any_eq_true → Aum, eq_nil_of_length_eq_zero → Aup, getElem?_take → Aut, isEmpty_iff → AuQ, drop → AuZ, append_cons → Aww, append_toArray → Awx, cons → Awy, dropWhile_cons → AwB, drop_drop → AwC, drop_zero → AwD, filterMap_cons → AwE, find?_cons → AwF, find?_toArray → AwG, foldl → AwH, foldl_cons → AwI, forall_mem_cons → AwJ, getElem?_concat_length → AwK, getElem?_eq_none_iff → AwL, getElem?_inj → AwM, getElem?_map → AwN, getElem?_toArray → AwO, getElem_range → AwP, length_drop → AwQ, length_reverse → AwR, length_take_of_le → AwS, map_append → AwT, mem_filter → AwU, mem_map_of_mem → AwV, mem_toArray → AwW, nodup_append → AwX, not_mem_nil → AwY, range → AwZ, replicate → Aw0, reverse_cons → Aw1, reverse_reverse → Aw2, take_length → Aw3, toArray → Aw4, zip_append → Aw5
open Int renaming ofNat → Ar6, ofNat_eq_natCast → AsI, eq_ofNat_of_zero_le → AsY, le_refl → As1, fmod_eq_emod_of_nonneg → As7, natCast_nonneg → AtG, toNat_natCast → AuF, add_assoc → AvP, add_le_add_right → AvQ, add_le_of_le_sub_right → AvR, add_mul_ediv_left → AvS, add_right_comm → AvT, add_zero → AvU, ediv_eq_zero_of_lt → AvV, ediv_nonneg → AvW, emod_lt_of_pos → AvX, emod_nonneg → AvY, fdiv → AvZ, fdiv_eq_ediv_of_nonneg → Av0, fmod → Av1, le_antisymm → Av2, le_of_eq → Av3, le_of_lt → Av4, le_sub_one_of_lt → Av5, le_trans → Av6, lt_of_le_of_lt → Av7, lt_of_lt_of_le → Av8, max_comm → Av9, min_eq_left → Awa, mul → Awb, mul_le_mul_of_nonneg_left → Awc, mul_le_mul_of_nonpos_left → Awd, ne_of_gt → Awe, ne_of_lt → Awf, not_lt → Awg, ofNat_le → Awi, ofNat_lt → Awj, one_mul → Awk, sub → Awl, sub_eq_zero → Awm, toNat_of_nonneg → Awn, zero_add → Awo
open Option.some renaming inj → Ase, injEq → AxW
open PySem.PyData renaming keyHash → Asi
open Pure renaming pure → Asl
open Bool renaming and_eq_true_iff → Asw, false_ne_true → AsJ, false_eq_true → AsM, and_eq_true → AsW, eq_iff_iff → Ato, not_eq_true' → Ava, or_eq_true_iff → Avb, or_true → Avc
open Prod.mk renaming inj → Asy
open PySem.Builtin.Range renaming rangeSize → Asz, rangeFitsLong → Ax3, small → Ax4
open List.Mem renaming head → AsB, tail → AsC
open ForInStep renaming yield → AsG, done → AvJ
open PySem.Heap.SameBut renaming update → AsK
open PySem.Obj renaming putName → AsL, mapSeq → Ate, mapFields → Ats, data_mapFields → At2, isFreed_of_fields → At4, cls → AxN, dropNameByArray → AxO, dropName_eq → AxP
open PySem.F renaming slot_list_getitem → AsP, slot_list_append → Aui, plainAttrs_list → Aun, args_list_contains_2 → Avx, args_tuple_contains_2 → Avy, entry_list_contains → Avz, entry_tuple_contains → AvA, slot_enumerate_next → AvB, slot_list_contains → AvC, slot_range_iterator_next → AvD, slot_tuple_contains → AvE, slot_tuple_iterator_next → AvF, args_list_append_2 → Ax7, entry_list_append → Ax8, plain_list_iadd → Ax9, slot_list_extend → Aya, slot_list_pop → Ayb, slot_str_encode → Ayc, slot_tuple_getitem → Ayd, slot_tuple_index → Aye, slot_tuple_len → Ayf
open PySem.W renaming look_both → AsU, noRoadLSs → Atb, boot_o_0 → Atv, Frag → Atw, boot_o_4 → AtD, boot_o_1 → AtT, Looks → AtV, boot_heap → AuP, findIn → AuU, GoodWG → AvL, OpenLaw → AxQ, any_some → AyC, emptyDict → AyU, handedIn → Ay2, hasDictIn → Ay3, laidKept → Ay8, lookIn → Ay9, looks_clsIn → Aza, looks_findIn → Azb, looks_subIn → Azc, namesBound → Azd, piecesOf → Azi, plainGet_of → Azj, staticsOk → Azu, topFrame → AzB, topRun → AzC, topStub → AzD, typeIs_bytes → AzE
open Array renaming getElem?_eq_some_iff → AsX, length_toList → AtU, any_eq_false' → Au4, any_toList → Au5, getElem?_eq_getElem → Au6, toArray_toList → Au7, toList → Au8
open PySem.Around renaming under_plainId → As6
open PySem.NameKind renaming free → As8, cell → AuC
open PySem.Value renaming none → Atd, ref → Ati, type → AtS, notImplemented → AuJ, bool → AuX, isInt → Ayw, isStrOf → Ayx
open PySem.Builtin.SmallTypes renaming ownedTupleHandOut → Atf, ownedTupleIsFree → Atj, nextOf → At6
open PySem.Env renaming kindOf → Atx
open Option renaming map_some → AtB, map_eq_some_iff → AtW, bind_eq_some_iff → AxS, bind_some → AxT, isSome_iff_exists → AxU, some → AxV
open PySem.W.FB renaming slot_bytes_getitem → At3, args_bytes_getitem_2 → AvG, entry_bytes_getitem → AvH
open PySem.Builtin.Slice renaming slicePlaces → At5, sliceAdjust → Avk, sliceApplied → Avl
open PySem.AutoSeq1 renaming sub_tuple_tuple → Aud, sub_list_list → Au9
open PySem.Builtin.Tuple renaming tupleExact → Auf, tupleCompareSizes → Avm, tupleIsExact → Avn, tupleItemsOf → Avo
open PUnit renaming unit → Aus
open Ne renaming symm → AuD
open PySem.TablesWhole renaming holds → AuE, gather → Ays, noTwice → Ayt, wModule → Ayu, wSs → Ayv
open PySem.ExcName renaming means → AuV
open And renaming imp → Au0, imp_left → Au1, imp_right → Au2
open PySem.Builtin.BaseException renaming bexcPut → Avd
open PySem.Builtin.Bytes renaming sliced → Ave, subscript? → Avf
open PySem.Builtin.List renaming listExtendWith → Avg, listFitsIndex → Avh, listSameRef → Avi, listTooLong → Avj
open Char renaming toNat → Avp
open Classical renaming em → Avq
open PySem.Code renaming quiet_builtin → Avr
open PySem.DictEntry renaming refKey → Avs
open PySem.EntryCells renaming newEntry → Avt
open Exists renaming imp → Avw
open PySem.Flow renaming next → AvI
open Int.ofNat renaming inj → Awh
open PySem.Keeper renaming boundFrame → Awt, frame → Awu, machine → Awv
open List.cons renaming inj → Awz, injEq → AwA
open PySem.W.Looks renaming ld → Aw6
open PySem.Manifest renaming Receiver → Aw7
open PySem.Pin renaming globalOf_eq → AxX
open Prod renaming ext → AxY, fst → AxZ
open PyProof.Rows renaming slot_tuple_getitem → Ax1, get?_update_seq → Ay0, seqObj → Azp, subscriptTail → Azw
open PyProof renaming noPylong_small → Ax2
open PySem.Challenge renaming rw_xw0060_01 → Ax5
open PySem.SeqRoads2 renaming in_meets → Aym, notIn_meets → Ayn
open PySem.Shared renaming asleep_of_life → Ayo
open Std.Legacy renaming Range → Ayp
open Sum.inl renaming inj → Ayr
open PySem.Value.ref renaming inj → Ayy
open PySem.Value.type renaming inj → Ayz
open PySem.W.WData renaming layableAll → AyA
open PySem.comprehension renaming letGo → AyS
open LawfulBEq renaming eq_of_beq → AyV
set_option Elab.async false
set_option linter.unusedVariables false
set_option maxRecDepth 100000
set_option maxHeartbeats 0
set_option backward.match.sparseCases false
set_option bootstrap.genMatcherCode false
set_option genSizeOf false
set_option tactic.hygienic false
open PySem PySem.W PySem.W.Fast PySem.Calls PyProof.Rows
namespace Mine.Internal
noncomputable section
section
variable{α β γ:Type}{M:Auw}{A:Ar4}{E:ArR->ArT->Prop}{s:ArT}{Q:β->ArT->Prop}
theorem AA{a:α}{f:α->Sem β}(h:Ar5 M A (f a) Q E s):Ar5 M A (pure a>>=f) Q E s:=ArQ (ArS h)
theorem Az{m:Sem α}{f:α->Sem β}{P:α->ArT->Prop}{E':ArR->ArT->Prop}(h:Ar5 M A m P E' s)(hQ:∀a s',P a s'->Ar5 M A (f a) Q E s')
  (hE:∀e s',E' e s'->E e s'):Ar5 M A (m>>=f) Q E s:=ArQ (ArY h hQ hE)
theorem Bm{f:Unit->Sem β}(h:Ar5 M A (f ()) Q E s):Ar5 M A (standAt pos>>=f) Q E s:=ArQ (AsH h)
theorem DA{tag:String}{f:Unit->Sem β}(h:Ar5 M A (f ()) Q E s):Ar5 M A (rule tag>>=f) Q E s:=ArQ (AtF h)
theorem GQ{a b:Sem β}{c:Prop}[Decidable c](n:¬c)(h:Ar5 M A b Q E s):Ar5 M A (if c then a else b) Q E s:=(if_neg n:(if c then a else b)=b).symm▸h
theorem ZV{a b:Sem β}{c:Prop}[Decidable c](n:c)(h:Ar5 M A a Q E s):Ar5 M A (if c then a else b) Q E s:=(if_pos n:(if c then a else b)=a).symm▸h
theorem Up{f:Unit->Sem β}(h:Ar5 M A (f ()) Q E s):Ar5 M A (point>>=f) Q E s:=ArQ (AzX h)
theorem Oi{removed keep:List ArR}{f:Unit->Sem β}(h:Ar5 M A (f ()) Q E s):Ar5 M A (letGo removed keep>>=f) Q E s:=ArQ (wpAny_letGo h)
theorem Dz{m:Sem α}{f:α->Sem β}(h:Ar5 M A (m>>=f) Q E s):Ar5 M A (holding vs m>>=f) Q E s:=λΓ p hΓ=>by have:=h Γ p hΓ;rw[Sem.wp_bind'] at this ⊢;rw[Sem.wp_holding];exact this
theorem AB{a:Ar0}{o:Obj}{vs:Array ArR}{i:Nat}{x:ArR}{f:ArR->Sem β}(ho:s.heap.get? a=some o)(hd:o.data= .fields vs)(hi:vs[i]?=some x)
  (h:Ar5 M A (f x) Q E s):Ar5 M A (field (.ref a) i>>=f) Q E s:=ArQ (Asx ho hd hi h)
theorem GF{a:Ar0}{o:Obj}{items:Array ArR}{n:Nat}{f:Option (Array ArR)->Sem β}(ho:s.heap.get? a=some o)(hd:o.data= .seq items n)
  (h:Ar5 M A (f<|some items) Q E s):Ar5 M A (Azo (.ref a)>>=f) Q E s:=ArQ (At1 ho hd h)
theorem JP{v:ArR}{T:String}{f:ArR->Sem β}(hT:s.TypeIs v T)(h:Ar5 M A (f<|.type T) Q E s):Ar5 M A (AzG v>>=f) Q E s:=ArQ (wpAny_typeOf hT h)
theorem mU{items:List ArR}{f:ArR->Sem β}(En:items.length≤AtY)
  (h:Ar5 M A (f (.ref s.heap.objs.size)) Q E {s with heap:=s.heap.push {cls:=.type "tuple",data:=.seq items.toArray}}):Ar5 M A (Azf items>>=f) Q E s:=
 ArQ (AzT h En)
theorem bEq{t:Sem α}{a:α}{f:α->Sem β}(h:t=pure a)(hQ:Ar5 M A (f a) Q E s):Ar5 M A (t>>=f) Q E s:=ArQ (AzV h hQ)
theorem fY{a:Ar0}{f:Obj->Sem β}(ho:s.heap.get? a=some o)(h:Ar5 M A (f o) Q E s):Ar5 M A (load a>>=f) Q E s:=ArQ (wpAny_load ho h)
theorem R2{m:Sem α}{f:Except ArR α->Sem β}(h:Ar5 M A m (λa s'=>Ar5 M A (f<|.ok a) Q E s') (λe s'=>Ar5 M A (f<|.error e) Q E s') s):
  Ar5 M A (m.attempt>>=f) Q E s:=ArQ (AuB h)
theorem Ql{f:ArR->Sem β}(h:Ar5 M A (f<|.str x s.toks) Q E {s with toks:=s.toks+1}):Ar5 M A (mkText x>>=f) Q E s:=ArQ (wpAny_mkText h)
theorem aI{i:Int}{f:ArR->Sem β}(h:Ar5 M A (f<|.int i s.toks) Q E {s with toks:=s.toks+1}):Ar5 M A (mkInt i>>=f) Q E s:=ArQ (wpAny_mkInt h)
end
section
variable{β:Type}{prog:AsR}{w:ArV}{A:Ar4}{E:ArR->ArT->Prop}{s:ArT}{Q:β->ArT->Prop}
theorem R3{a:Ar0}{cls:ArR}{vs:Array ArR}{k:Nat}{x:ArR}{f:Unit->Sem β}
  (ho:s.heap.get? a=some {cls:=cls,dict:=none,data:=.fields vs,slots:= #[]})(hk:k<vs.size)
  (h:∀h',h'.get? a=some {cls:=cls,dict:=none,data:=.fields (vs.setIfInBounds k x),slots:= #[]}->AsD a s.heap h'->Ar5 (model prog w) A (f ()) Q E {s with heap:=h'}):
  Ar5 (model prog w) A (setField (.ref a) k x>>=f) Q E s:=ArQ (As4 ho hk h)
theorem tB{T:Ar0}{a b x:ArR}{k:Nat}{f:Unit->Sem β}(hT:AuT s.heap T a b)
  (h:∀h',h'.get? T=some {cls:=.type "tuple",data:=.seq ((#[a,b]:Array ArR).setIfInBounds k x)}->AsD T s.heap h'->Ar5 (model prog w) A (f ()) Q E {s with heap:=h'}):
  Ar5 (model prog w) A (updateSeq T (·.setIfInBounds k x)>>=f) Q E s:=ArQ (wpAny_updateSeq_pair hT h)
end
noncomputable def bt{α:Type}(b:Bool)(x y:α):α:= @Bool.rec (λz=>α) y x b
noncomputable def LR{α β:Type}(n:β)(c:α->List α->β->β)(l:List α):β:= @List.rec α (λz=>β) n c l
noncomputable def LC{α β:Type}(n:β)(c:α->List α->β)(l:List α):β:= @List.rec α (λz=>β) n (λa r z=>c a r) l
noncomputable def NR{β:Type}(z:β)(s:Nat->β->β)(n:Nat):β:= @Nat.rec (λzz=>β) z s n
noncomputable def NC{β:Type}(z:β)(s:Nat->β)(n:Nat):β:= @Nat.rec (λzz=>β) z (λm zz=>s m) n
noncomputable def OR{α β:Type}(n:β)(s:α->β)(o:Option α):β:= @Option.rec α (λz=>β) n s o
noncomputable def IR{β:Type}(p:Nat->β)(q:Nat->β)(i:Int):β:= @Int.rec (λz=>β) p q i
def rgG{α:Type}(r:Option Int×Option Int)(f:Int->Int->α)(d:α):α:=OR d (λa=>OR d (f a) r.2) r.1
noncomputable def sG{α β γ:Type}(f:α->β->γ)(p:α×β):γ:= @Prod.rec α β (λz=>γ) f p
def oS{α:Type}(o:Option α)(f:α->Bool):Bool:=OR false f o
def both(a b:Bool):Bool:=bt a b false
theorem hide{P:Prop}(h:∀G:Prop,(P->G)->G):P:=h P id
theorem ff{P:Prop}(h:false=true):P:=nomatch h
theorem B9{b x y:Bool}{P:Prop}(h:bt b x y=true)(k1:b=true->x=true->P)(k0:b=false->y=true->P):P:=match b,h with
 |true,h=>k1 rfl h |false,h=>k0 rfl h
theorem Df{α:Type}{b:Bool}{x y:α}{P:α->Prop}(h1:b=true->P x)(h0:b=false->P y):P (bt b x y):=match b,h1,h0 with
 |true,h1,_=>h1 rfl |false,_,h0=>h0 rfl
theorem qC{α:Type}{r:Option Int×Option Int}{f:Int->Int->α}{d:α}{P:α->Prop}(h1:∀a b,r=(some a,some b)->P (f a b))(h0:P d):P (rgG r f d):=match r,h1 with
 |(some a,some b),h1=>h1 a b rfl |(some a,none),_=>h0 |(none,_),_=>h0
theorem sH{α β:Type}{f:α->β->Bool}{p:α×β}(h:sG f p=true):f p.1 p.2=true:=h
theorem bl{a b:Bool}(h:both a b=true):a=true:=B9 h (λe z=>e) λz=>ff
theorem br{a b:Bool}(h:both a b=true):b=true:=B9 h (λz e=>e) λz=>ff
theorem Cp{α:Type}{o:Option α}{f:α->Bool}{P:Prop}(h:oS o f=true)(k:∀a,o=some a->f a=true->P):P:=match o,h with
 |some a,h=>k a rfl h |none,h=>ff h
theorem uniq{α:Type}{x:Option α}{a b:α}(h1:x=some a)(h2:x=some b):b=a:=Ase (h2.symm.trans h1)
theorem ns{α:Type}{a:α}{P:Prop}(h:none=some a):P:=nomatch h
theorem sn{α:Type}{x:Option α}{a:α}{P:Prop}(h1:x=some a)(h2:x=none):P:=nomatch h2.symm.trans h1
noncomputable abbrev KM:=List (Nat×Obj)
def Av:KM->Nat->Option Obj
 | [],_=>none
 |p::l,a=>match ArX p.1 a with
  |true=>some p.2 |false=>Av l a
def JI:KM->Nat->Obj->KM
 | [],_,_=>[]
 |p::l,a,o=>match ArX p.1 a with
  |true=>(p.1,o)::l |false=>p::JI l a o
theorem AE(p:Nat×Obj)(l:KM)(a:Nat):Av (p::l) a=if p.1=a then some p.2 else Av l a:=by
 show(match ArX p.1 a with |true=>some p.2 |false=>Av l a)=_;cases h:ArX p.1 a with
 |true=>exact(if_pos (ArU h)).symm
 |false=>exact(if_neg (AxB h)).symm
theorem Kc(p:Nat×Obj)(l:KM)(a:Nat)(o:Obj):JI (p::l) a o=if p.1=a then(p.1,o)::l else p::JI l a o:=by
 show(match ArX p.1 a with |true=>(p.1,o)::l |false=>p::JI l a o)=_;cases h:ArX p.1 a with
 |true=>exact(if_pos (ArU h)).symm
 |false=>exact(if_neg (AxB h)).symm
theorem S0{a:Nat}{K:KM}(h:Av K a=some x):Av (JI K a o) a=some o:=by
 induction K with
 |nil=>exact ns h
 |cons p l ih=>
  rw[AE] at h;rw[Kc];by_cases e:p.1=a
  ·rw[if_pos e,AE,if_pos e]
  ·rw[if_neg e,AE,if_neg e];exact ih ((if_neg e).symm.trans h)
theorem QR{a b:Nat}(n:a≠b){K:KM}:Av (JI K a o) b=Av K b:=by
 induction K with
 |nil=>rfl
 |cons p l ih=>
  rw[Kc,AE];by_cases e:p.1=a
  ·have ne:p.1≠b:=λq=>n (e.symm.trans q)
   rw[if_pos e,AE,if_neg ne,if_neg ne]
  ·rw[if_neg e,AE,ih]
structure B2(K:KM)(n tk:Nat)(s:ArT):Prop where
 size:s.heap.objs.size=n
 toks:s.toks=tk
 here:∀a o,Av K a=some o->s.heap.get? a=some o
noncomputable def K8:List Frame->Bool
 | .gen .. ::_=>true |_=>false
noncomputable def Xn:List Nat->List Char->Bool
 | [],_=>true |_::_,[]=>false
 |n::l,c::r=>match ArX n c.toNat with
  |true=>Xn l r |false=>false
theorem d8{l:List Char}:∀{r:List Char},l<+:r->Xn (l.map Avp) r=true:=by
 induction l with
 |nil=>exact λ{r} _=>rfl
 |cons a l ih=>
  intro r h
  induction r with
  |nil=>exact absurd (List.prefix_nil.mp h) (List.cons_ne_nil _ _)
  |cons b r=>have q:=List.cons_prefix_cons.mp h;show(match ArX a.toNat b.toNat with |true=>Xn (l.map Avp) r |false=>false)=true;rw[←q.1,Auq];exact ih q.2
def Nh:Code->Bool
 | .builtin id _=>match Xn [108,105,102,101,116,105,109,101,46] id.toList with
  |true=>false |false=>true
 |_=>true
theorem x4:("lifetime.":String).toList.map Avp= [108,105,102,101,116,105,109,101,46]:=by decide
theorem Pg{id:String}{args:Args}(h:Nh (.builtin id args)=true):id.startsWith "lifetime."=false:=Bool.eq_false_iff.mpr λq=>by have p:=x4▸d8 (String.startsWith_string_iff.mp q);have h:(match Xn [108,105,102,101,116,105,109,101,46] id.toList with |true=>false |false=>true)=true:=h;rw[p] at h;exact ff h
noncomputable def Ln(n₀:Nat)(ann:Option ArR)(a:Ar0):Bool:=AsO n₀ a||a==AuS||a==Auu||ann==some (.ref a)
def stepK(den:Code->Sem Fin)(p:AsR)(w:ArV)(n₀:Nat)(ann:Option ArR)(K:KM)(n tk:Nat)(t:Auk):Option (KM×Nat×Nat×Auk):=
 match t.cur with
 | .load a _ k=>match Av K a with
  |some o=>some (K,n,tk,⟨k o,t.code,t.pos,t.stack⟩) |none=>none
 | .loadIfAlive a k=>match Av K a with
  |some o=>some (K,n,tk,⟨k (some o),t.code,t.pos,t.stack⟩) |none=>none
 | .update a _ f k=>match Av K a with
  |some o=>match Ln n₀ ann a with
   |false=>none
   |true=>match(f o).isFreed with
    |true=>none |false=>some (JI K a (f o),n,tk,⟨k (),t.code,t.pos,t.stack⟩)
  |none=>none
 | .alloc o k=>match o.isFreed with
  |true=>none |false=>some ((n,o)::K,n+1,tk,⟨k n,t.code,t.pos,t.stack⟩)
 | .fresh k=>some (K,n,tk+1,⟨k tk,t.code,t.pos,t.stack⟩)
 | .pure (.done _)| .raise _=>match K8 t.stack with
  |true=>none
  |false=>match step den p w {} t with
   | .go _ t'=>some (K,n,tk,t') | .halt _ _=>none
 | .pure (.again c)=>match Nh c with
  |false=>none
  |true=>match step den p w {} t with
   | .go _ t'=>some (K,n,tk,t') | .halt _ _=>none
 | .rule .. | .at .. | .point .. | .ask _ | .call .. | .handled .. | .stack _=>match step den p w {} t with
   | .go _ t'=>some (K,n,tk,t') | .halt _ _=>none
 |_=>none
def sM(K:KM)(s s':ArT):Prop:=∀a o,s.heap.get? a=some o->Av K a=none->s'.heap.get? a=some o
section
variable{den:Code->Sem Fin}{p:AsR}{w:ArV}{n₀:Nat}{ann:Option ArR}{K:KM}{n tk:Nat}{t:Auk}{r:KM×Nat×Nat×Auk}
theorem N5{a:Nat}{k:Unit->Sem Fin}{code:Code}{pos:Pos}{stack:List Frame}(h:stepK den p w n₀ ann K n tk ⟨.update a q f k,code,pos,stack⟩=some r):∃o,Av K a=some o∧Ln n₀ ann a=true∧(f o).isFreed=false∧r=(JI K a<|f o,n,tk,⟨k (),code,pos,stack⟩):=by
 have h:(match Av K a with |some o=>(match Ln n₀ ann a with |false=>none |true=>(match(f o).isFreed with |true=>none |false=>some (JI K a<|f o,n,tk,⟨k (),code,pos,stack⟩)))|none=>none)=some r:=h;cases e:Av K a with
 |none=>rw[e] at h;exact ns h
 |some o=>
  rw[e] at h;have h:=h;cases e2:Ln n₀ ann a with
  |false=>rw[e2] at h;exact ns h
  |true=>
   rw[e2] at h;have h:(match(f o).isFreed with |true=>none |false=>some (JI K a<|f o,n,tk,⟨k (),code,pos,stack⟩))=some r:=h;cases e3:(f o).isFreed with
   |true=>rw[e3] at h;exact ns h
   |false=>rw[e3] at h;exact⟨o,rfl,rfl,e3,(Ase h).symm⟩
theorem NQ(h:stepK den p w n₀ ann K n tk t=some r):stepOk n₀ ann t=true:=by
 obtain⟨cur,code,pos,stack⟩:=t
 induction cur with
 |pure f=>induction f with
  |done f=>rfl
  |again c=>induction c with
   |builtin id args=>have h:(match Nh (.builtin id args) with |false=>none |true=>match step den p w {} ⟨.pure (.again (.builtin id args)),code,pos,stack⟩ with | .go _ t'=>some (K,n,tk,t')| .halt _ _=>none)=some r:=h;have q:=Pg (eq_true_of_ne_false λe=>by rw[e] at h;exact ns h);show(((!(id.startsWith "lifetime.")||_)&& !false&&true)&&true)=true;refine q.symm▸?_;rfl
   |_=>rfl
 |update a q f k=>exact(N5 h).elim λo z=>z.2.1
 |raise |rule | «at» |point |ask |call |handled |stack |load |loadIfAlive |fresh |alloc=>rfl |_=>exact ns h
structure sP(K K':KM)(n' Jp:Nat)(s s':ArT):Prop where
 D:B2 K' n' Jp s'
 S:sM K s s'
 Z:∀a,Av K a=none->(s.heap.get? a).isSome=true->Av K' a=none
 g:s'.gens=s.gens
 d:s'.drawn=s.drawn
 o:s'.os=s.os
abbrev T9(den:Code->Sem Fin)(p:AsR)(w:ArV)(K:KM)(s:ArT)(t:Auk)(r:KM×Nat×Nat×Auk):Prop:=∃s',step den p w s t= .go s' r.2.2.2∧sP K r.1 r.2.1 r.2.2.1 s s'
theorem step_same(D:B2 K n tk s){X:Auk}(hs:step den p w s t= .go s X)(h:some (K,n,tk,X)=some r):T9 den p w K s t r:=by obtain rfl:=Ase h;exact⟨s,hs,D,λz z e z=>e,λz e z=>e,rfl,rfl,rfl⟩
theorem step_quiet(D:B2 K n tk s)(q:∃X,∀s,step den p w s t= .go s X)(h:(match step den p w {} t with | .go _ t'=>some (K,n,tk,t')| .halt _ _=>none)=some r):T9 den p w K s t r:=by obtain⟨X,hs⟩:=q;rw[hs] at h;exact step_same D (hs s) h
theorem J5{o:Outcome}{s:ArT}(h:(match finish o s with | .go _ t'=>some (K,n,tk,t')| .halt _ _=>none)=some r):False:=by
 unfold finish at h;by_cases e:leftWithCleanup s.gens=true
 ·rw[if_pos e] at h;exact ns h
 ·rw[if_neg e] at h;exact ns h
theorem QF{b:Bool}{x:Step}(h:(match b with |true=>none |false=>match x with | .go _ t'=>some (K,n,tk,t')| .halt _ _=>none)=some r):b=false∧(match(generalizing:=false) x with | .go _ t'=>some (K,n,tk,t')| .halt _ _=>none)=some r:=by
 induction b with
 |true=>exact ns h
 |false=>exact⟨rfl,h⟩
theorem Wu{a:Nat}{k:Obj->Sem Fin}{code:Code}{pos:Pos}{stack:List Frame}(h:(match Av K a with |some o=>some (K,n,tk,⟨k o,code,pos,stack⟩)|none=>none)=some r):∃o,Av K a=some o∧some (K,n,tk,⟨k o,code,pos,stack⟩)=some r:=by
 cases e:Av K a with
 |none=>rw[e] at h;exact ns h
 |some o=>rw[e] at h;exact⟨o,rfl,h⟩
theorem Hy(h:stepK den p w n₀ ann K n tk t=some r)(D:B2 K n tk s):T9 den p w K s t r:=by
 obtain⟨cur,code,pos,stack⟩:=t
 induction cur with
 |pure f=>induction f with
  |again c=>exact step_quiet D ⟨_,λs=>rfl⟩ (by
    have h:(match Nh c with |false=>none |true=>match step den p w {} ⟨.pure<|.again c,code,pos,stack⟩ with | .go _ t'=>some (K,n,tk,t')| .halt _ _=>none)=some r:=h
    rwa [show Nh c=true from eq_true_of_ne_false λe=>by rw[e] at h;exact ns h] at h)
  |done f=>
   have h:=QF (b:=K8 stack) (x:=step den p w {} ⟨.pure<|.done f,code,pos,stack⟩) h
   induction stack with
   |nil=>exact(J5 (o:=.done f) (s:={}) h.2).elim
   |cons f rest=>induction f with
    |ret=>exact step_quiet D ⟨_,λs=>rfl⟩ h.2
    |gen=>exact ff h.1.symm
 |raise e₀=>
  have h:=QF (b:=K8 stack) (x:=step den p w {} ⟨.raise e₀,code,pos,stack⟩) h
  induction stack with
  |nil=>exact(J5 (o:=.uncaught e₀) (s:={}) h.2).elim
  |cons f rest=>induction f with
   |ret=>exact step_quiet D ⟨_,λs=>rfl⟩ h.2
   |gen=>exact ff h.1.symm
 |rule | «at» |point |ask |call |handled |stack=>exact step_quiet D ⟨_,λs=>rfl⟩ h
 |load a q k=>obtain⟨o,e,h⟩:=Wu (k:=k) h;refine step_same D ?_ h;show(match s.heap.get? a with |some o=>Step.go s ⟨k o,code,pos,stack⟩|none=>.halt _ s)=_;rw[D.here a o e]
 |loadIfAlive a k=>obtain⟨o,e,h⟩:=Wu (k:=λo=>k (some o)) h;have z:step den p w s ⟨.loadIfAlive a k,code,pos,stack⟩= .go s ⟨k (s.heap.get? a),code,pos,stack⟩:=rfl;exact step_same D (z.trans (congrArg (λo=>Step.go s ⟨k o,code,pos,stack⟩) (D.here a o e))) h
 |fresh k=>obtain rfl:=Ase h;exact⟨{s with toks:=s.toks+1},congrArg (λi=>Step.go {s with toks:=s.toks+1} ⟨k i,code,pos,stack⟩) D.toks,⟨D.size,congrArg (· +1) D.toks,D.here⟩,λzz zz e zz=>e,λzz e zz=>e,rfl,rfl,rfl⟩
 |alloc o k=>
  have hr:o.isFreed=false∧((n,o)::K,n+1,tk,⟨k n,code,pos,stack⟩)=r:=by
   have h:(match o.isFreed with |true=>none |false=>some ((n,o)::K,n+1,tk,⟨k n,code,pos,stack⟩))=some r:=h;cases e:o.isFreed with
   |true=>rw[e] at h;exact ns h
   |false=>rw[e] at h;exact⟨rfl,Ase h⟩
  obtain⟨hf,rfl⟩:=hr;have hn:s.heap.objs.size=n:=D.size;refine⟨{s with heap:=s.heap.push o},congrArg (λi=>Step.go {s with heap:=s.heap.push o} ⟨k i,code,pos,stack⟩) hn,⟨(Att ..).trans (congrArg (· +1) hn),D.toks,λa o' e=>?_⟩,λa o' e zz=>ArW _ e,λa e q=>?_,rfl,rfl,rfl⟩
  ·rw[AE] at e;by_cases q:n=a
   ·rw[if_pos q] at e;exact q▸hn▸Ase e▸Ar9 _ hf
   ·rw[if_neg q] at e;exact ArW _ (D.here a o' e)
  ·obtain⟨o',Ho⟩:=AxU.mp q;exact(AE ..).trans ((if_neg λz:n=a=>Nat.lt_irrefl _ ((z.symm.trans hn.symm)▸As2 Ho)).trans e)
 |update a q f k=>
  obtain⟨o,e,_,hf,rfl⟩:=N5 h;have ho:=D.here a o e;have z:step den p w s ⟨.update a q f k,code,pos,stack⟩=if(s.heap.get? a).isSome then .go {s with heap:=s.heap.update a f} ⟨k (),code,pos,stack⟩ else _:=rfl
  have nb:∀{b},Av K b=none->a≠b:=λz q=>sn e (q▸z)
  refine⟨{s with heap:=s.heap.update a f},z.trans<|if_pos<|ho▸rfl,⟨(AsK (h:=s.heap) (a:=a) (f:=f)).1.trans D.size,D.toks,λb o' e'=>?_⟩,λb o' e' z=>(AvO _ _ _ _ (nb z).symm).trans e',λb z zz=>(QR<|nb z).trans z,rfl,rfl,rfl⟩;by_cases hb:a=b
  ·subst hb;exact uniq (S0 e) e'▸Asa _ ho hf
  ·exact(AvO _ _ _ _<|AuD hb).trans (D.here b o'<|(QR hb).symm.trans e')
 |_=>exact ns h
end
def segK(tb:String->Option Builtin)(p:AsR)(w:ArV)(n₀:Nat)(ann:Option ArR)(b:Nat):Nat->KM->Nat->Nat->Auk->Option (Flow×KM×Nat×Nat×Code×Pos)
 |0,_,_,_,_=>none
 |N+1,K,n,tk,t=>match endAt b t with
  |some f=>some (f,K,n,tk,t.code,t.pos)
  |none=>match stepK (AyT tb) p w n₀ ann K n tk t with
   |some (K',n',Jp,t')=>segK tb p w n₀ ann b N K' n' Jp t' |none=>none
theorem PY{n₀:Nat}{b:Nat}{N:Nat}:∀{K K':KM} {n n' tk Jp:Nat} {t:Auk} {f:Flow} {c:Code} {q:Pos},segK tb p w n₀ ann b N K n tk t=some (f,K',n',Jp,c,q)->
  ∀{s:ArT},B2 K n tk s->∃s',segRun tb p w n₀ ann b N s t=some (f,s',c,q)∧sP K K' n' Jp s s':=by
 induction N with
 |zero=>exact λh=>ns h
 |succ N ih=>
  intro K K' n n' tk Jp t f c q h s D;have h:(match endAt b t with |some f=>some (f,K,n,tk,t.code,t.pos)|none=>match stepK (AyT tb) p w n₀ ann K n tk t with |some (K',n',Jp,t')=>segK tb p w n₀ ann b N K' n' Jp t' |none=>none)=some (f,K',n',Jp,c,q):=h;rw[segRun];cases he:endAt b t with
  |some f'=>rw[he] at h;cases h;exact⟨s,rfl,D,λzz zz e zz=>e,λzz e zz=>e,rfl,rfl,rfl⟩
  |none=>
   rw[he] at h;cases hs:stepK (AyT tb) p w n₀ ann K n tk t with
   |none=>rw[hs] at h;exact ns h
   |some r=>rw[hs] at h;obtain⟨s₁,e1,g1⟩:=Hy hs D;obtain⟨s',e2,g2⟩:=ih h g1.D;refine(NQ hs).symm▸?_;refine e1.symm▸?_;exact⟨s',e2,g2.D,λa o e z=>g2.S a o (g1.S a o e z) (g1.Z a z (e▸rfl)),λa z i=>(AxU.mp i).elim λo ho=>g2.Z a (g1.Z a z i) (g1.S a o ho z▸rfl),g2.g.trans g1.g,g2.d.trans g1.d,g2.o.trans g1.o⟩
lay_quick Mine.Internal.segK
def Agree(h h':Asb):Prop:=h.get? 0=h'.get? 0∧h.get? 2=h'.get? 2∧h.get? 3=h'.get? 3∧h.get? 4=h'.get? 4
section
variable{h h':Asb}{a:Ar0}
theorem EA(e:h.get? a=h'.get? a):h.isNs a=h'.isNs a:=by unfold Heap.isNs;rw[e]
theorem Gi(e:h.get? a=h'.get? a):h.nsKeys a=h'.nsKeys a:=by unfold Heap.nsKeys;rw[e]
theorem Tf(e:h.get? a=h'.get? a):h.nsPairs a=h'.nsPairs a:=by unfold Heap.nsPairs;rw[e]
theorem E6(e:h.get? a=h'.get? a):h.nsMap a=h'.nsMap a:=by funext x;unfold Heap.nsMap;rw[e]
end
theorem TF{k:Asb}{ms:List Str}(A:Agree h h')(B:Agree k k'):Azu ms h k=Azu ms h' k':=by unfold Azu;rw[EA (a:=Auu) A.2.1,EA (a:=Auu) B.2.1,Gi (a:=Auu) A.2.1,Gi (a:=Auu) B.2.1,E6 (a:=Auu) A.2.1,E6 (a:=Auu) B.2.1]
theorem aO{p:AsR}(A:Agree h h'):Azd p h=Azd p h':=by unfold Azd;rw[EA (a:=AsS) A.2.2.1,Gi (a:=AsS) A.2.2.1]
theorem oX{k:Asb}(A:Agree h h')(B:Agree k k'):Ay8 h k=Ay8 h' k':=by unfold Ay8;rw[EA (a:=AsS) A.2.2.1,EA (a:=AsS) B.2.2.1,E6 (a:=AsS) A.2.2.1,E6 (a:=AsS) B.2.2.1]
theorem sQ{ms:List Str}(A:Agree h h'):h.accountedOkI ms=h'.accountedOkI ms:=by unfold Heap.accountedOkI;rw[EA (a:=Auu) A.2.1,Gi (a:=Auu) A.2.1,E6 (a:=Auu) A.2.1]
theorem tJ(A:Agree h h'):h.bltView=h'.bltView:=by unfold Heap.bltView;rw[Tf (a:=Atu) A.1]
noncomputable def Xr(o:Option ArR)(a:Nat):Bool:=match o with
 |some (.ref b)=>ArX b a |_=>false
theorem NB{a:Nat}(h:Xr o a=true):o=some (.ref a):=by
 induction o with
 |none=>exact ff h
 |some v=>induction v with
  |ref b=>exact congrArg (λx=>some (Ati x)) (ArU h)
  |_=>exact ff h
def Pc(p:AsR)(name:Str)(aL:Ar0)(h₀ h₁:Asb):Bool:=
 Azu (Ay4 p.main.body) h₀ h₁&&Azd p h₁&&Ay8 h₀ h₁&&h₁.accountedOkI (Ay4 p.main.body)&&h₁.isNs Atu&&h₁.isNs AsS&&
 Xr (h₁.nsMap AsS "__builtins__") 4&&Xr (h₁.nsMap AsS name) aL
inductive mE(p:AsR)(name:Str)(aL:Ar0)(h₀ h₁:Asb):Prop
 |mk (l1:Azu (Ay4 p.main.body) h₀ h₁=true) (l2:Azd p h₁=true) (l3:Ay8 h₀ h₁=true) (l4:h₁.accountedOkI (Ay4 p.main.body)=true) (l5:h₁.isNs Atu=true) (l6:h₁.isNs AsS=true)
  (l7:h₁.nsMap AsS "__builtins__"=some (.ref 4)) (l8:h₁.nsMap AsS name=some (.ref aL))
theorem Ng{h₀ h₁ k₀ k₁:Asb}(A:Agree k₀ h₀)(B:Agree k₁ h₁)(L:Pc p name aL h₀ h₁=true):mE p name aL k₀ k₁:=
 have x:=Asw.mp L;have y:=Asw.mp x.1;have z:=Asw.mp y.1;have u:=Asw.mp z.1;have v:=Asw.mp u.1;have w:=Asw.mp v.1;have q:=Asw.mp w.1;have m:=E6 (a:=AsS) B.2.2.1
 ⟨(TF A B).trans q.1,(aO B).trans q.2,(oX A B).trans w.2,(sQ B).trans v.2,(EA (a:=Atu) B.1).trans u.2,(EA (a:=AsS) B.2.2.1).trans z.2,(congrFun m _).trans<|NB y.2,(congrFun m _).trans<|NB x.2⟩
inductive sF(p:AsR)(name:Str)(K:KM)(aL:Ar0):Prop
 |mk (o:Obj) (fd:AvK) (args:Au3) (body:List Auj) (scope:Asv) (p1:Av K aL=some o) (p2:o.data= .func fd) (p3:p.theDef name=some (args,body,scope)) (p4:fd.name=name) (p5:fd.qualname=name) (p6:fd.params=args)
  (p7:fd.body= .stmts body) (p8:fd.scope=scope) (p9:fd.globals=AuS) (p10:fd.closure= []) (p11:fd.builtins=Atu) (p12:args.defaults= []) (p13:fd.defaults= .none) (p14:kwWritten? args.kwonlyargs args.kw_defaults=some []) (p15:fd.kwdefaults= .none)
theorem VK{P:Prop}(h:∀G:Prop,(P->G)->G):P:=h P id
theorem aN(P:Params):(AuP P).isNs AsS=true:=by kernel_rfl
theorem Ux(P:Params):(AuP P).nsMap AsS "__annotations__"=some (.ref 6):=by kernel_rfl
theorem Lb{l:AxQ}{N M n₁ t₁ aL:Nat}{K₁:ArV->KM}{h₀ h₁:ArV->Asb}{slots:Array (Option ArR)}
  (PX:l.wellSaid=true)(hb:l.prog.bare)(hop:opensWell l.prog=true)(hw:l.row.toRowW.promised)(hO:(frees l.row.toRowW&&l.row.within.isEmpty)=true)(hwr:l.writes=false)
  (e0:opening l.prog=plainProg l.prog.main.scope.names)(hN:AsO 600 N=true)(hf:∀s,fenceModules? l.prog s=some s)
  (run:∀(w:ArV) (s₀:ArT),s₀.heap=AuP w.params->s₀.gens= #[]->s₀.toks=boot_toks->
   ∃s₁,AzC Atz l.prog w 11 (some<|.ref 6) M s₀ (AzD l.prog)=some s₁∧s₁.gens= #[]∧B2 (K₁ w) n₁ t₁ s₁)
  (a0:∀w:ArV,Agree (AuP w.params)<|h₀ w)(a1:∀(w:ArV) (s:ArT),B2 (K₁ w) n₁ t₁ s->Agree s.heap (h₁ w))
  (x9:∀w:ArV,Pc l.prog l.name aL (h₀ w) (h₁ w)=true)(blt:∀w:ArV,(h₁ w).bltView=AyI)
  (bm:∀w:ArV,Av (K₁ w) 4=some ⟨.type "module",some Atu,.plain,slots⟩)
  (pin:∀(w:ArV),sF l.prog l.name (K₁ w) aL)
  (call:∀(w:ArV) (s s₁:ArT) (args:List WData) (vs:List ArR) (as:List Ar0),B2 (K₁ w) n₁ t₁ s->s.gens= #[]->l.row.toRowW.claim.pre args=true->AyA args=true->Laid [] w s s₁ args vs as->
   Ar5 (model l.prog w) AyK (Ayh (.ref aL) vs) (λv s'=>AvL l.row.toRowW.claim (AyN s.heap) (AuV s.heap) args s₁ (.ok<|.ret v) s')
    (λe s'=>AvL l.row.toRowW.claim (AyN s.heap) (AuV s.heap) args s₁ (.error e) s') s₁):l.Holds:=by
 have hwi:=(Asw.mp hO).2;obtain⟨hZ,hu,ha,hap,hm⟩:=frees_parts (Asw.mp hO).1;refine⟨PX,row_said PX,hw,⟨hb,hop,rfl⟩,hw.witness,λw=>?_⟩;refine VK λG0 out0=>?_
 have h:=boot_open e0 hN hf w;obtain⟨s₀,h2,e'⟩:=AtW.mp h;rw[←table_eq_tree] at h2;obtain⟨s,h4,h5⟩:=AxS.mp h2;have A:=AfterImport.of_importEnds h4;refine out0 ⟨⟨s,A⟩,λs' N8=>?_⟩;obtain rfl:s'=s:=AfterImport.unique N8 A;have z:s₀.asleep:=Ayo (fence_lifeW h5) A.life;refine VK λG out=>?_
 have E1:s₀.heap=AuP w.params:=congrArg AxZ e';have E2:s₀.gens= #[]:=congrArg (λx=>x.2.1) e';have E3:s₀.toks=boot_toks:=congrArg (λx=>x.2.2.2) e';obtain⟨s₁,r,g1,D⟩:=run w s₀ E1 E2 E3;rw[←table_eq_tree] at r;obtain⟨ra,lf,os,fr⟩:=topRun_spec _ _ _ _ z r;have A0:Agree s₀.heap (h₀ w):=E1▸a0 w;have A1:=a1 w s₁ D;obtain⟨L1,L2,L3,L4,L5,L6,L7,L8⟩:=Ng A0 A1 (x9 w);have AeE:s₁.heap.bltView=AyI:=(tJ A1).trans (blt w);have z1:s₁.asleep:=Ayo lf z;have hT:TopRan l.prog w s₀ s₁:=⟨ra,lf,Shared.rest_eq os,λb o hb hn=>fr b o (by
   have:=As2 hb;rw[E1] at this;exact this) (λq=>hn (.inl q)) (λq=>hn (.inr<|.inl q)) (λq=>hn (.inr (.inr (by
   have hg:s₀.heap.isNs AsS=true:=by refine E1.symm▸?_;exact aN _
   exact(AxX hg _).trans<|(E1▸Ux w.params).trans q)))) hb,
  Heap.accountedI_of_ok L4,statics_of_ok L1,Pin.keysAreStrs_of L6,λx hx=>(Pin.builtinOf_eq L5 x).trans (Heap.of_bltView L5 AeE x hx),
  ⟨4,_,(AxX L6 _).trans L7,D.here _ _<|bm w,rfl,rfl⟩,λg hg=>(by rw[g1] at hg;simp at hg),names_of_bound L2,laid_of_kept L3⟩
 refine out ⟨s₀,h5,E2,s₁,hT,λn hn=>?_,λx hx=>(nomatch hx),λx hx=>(nomatch hx),?_⟩
 ·obtain rfl:n=l.name:=by
   have:n∈[l.name]:=hn;simpa using this
  obtain⟨o,fd,args,body,scope,p1,p2,p3,p4,p5,p6,p7,p8,p9,p10,p11,p12,p13,p14,p15⟩:=pin w;exact⟨aL,o,fd,args,body,scope,(AxX L6 _).trans L8,D.here _ _ p1,p2,p3,p4,p5,p6,p7,p8,p9,p10,p11,.inl ⟨p12,p13⟩,[],p14,.inl ⟨rfl,p15⟩⟩
 ·refine ClaimW.callFrom_of_specG (c:=l.row.toRowW.claim) (tree:=λvs=>do match←nsGet AuS l.name with
   |some f=>do ret (←Ayh f vs)
   |none=>unsupported "claim.caller:no-such-global") z1 g1 λargs SQ n8 ord vX=>?_
  refine VK λG out=>?_
  obtain⟨⟨vs,s₂⟩,MX⟩:=AxU.mp (layAllW_isSome (P:=w.params) (ord:=ord) (R:=[]) (cl:=AyN s₁.heap) (λc hc=>(nomatch hc)) args l.row.args s₁ (pre_splitW (r:=l.row.toRowW) SQ).1);have keeps:=layAllW_keeps _ _ _ MX;have hal:=layAllW_rest _ _ _ MX;obtain⟨as,hrd,hin,hold⟩:=reads_layAllW vX _ _ _ MX n8 s₂.heap (λzz zz e=>e);have LL:Laid [] w s₁ s₂ args vs as:=⟨⟨ord,vX,MX⟩,hrd,hin,hold,keeps,hal.1.trans g1,hal.2.2.1⟩;have hi:=ident_freeW hu ha hap;have v5:=AuQ.mp hwi;have cc:=call w s₁ s₂ args vs as D g1 SQ n8 LL;have hg₂:s₂.heap.Ns AsS (s₁.heap.nsMap AsS):=by obtain⟨o,es,ep,x1,x2⟩:=Heap.Ns.of_isNs L6;exact⟨o,es,ep,keeps _ _ x1,x2⟩
  have nw:l.row.writes=true->False:=λq=>absurd (show l.writes=true from q) (by refine hwr.symm▸?_;exact AsJ)
  refine out ⟨vs,s₂,MX,ArQ<|wpAny_nsGet hg₂ ?_⟩;refine L8.symm▸?_;exact ArQ (ArY cc (λv s' g=>ArS ⟨_,rfl,have y:=g.laid (c:=l.row.toRowW.claim) hZ v5 hi LL;⟨y.1,y.2.1,y.2.2,λq=>(nw q).elim⟩⟩) λe s' g=>have y:=g.laid (c:=l.row.toRowW.claim) hZ v5 hi LL;⟨y.1,y.2.1,y.2.2,λq=>(nw q).elim⟩)
def goK(tb:String->Option Builtin)(p:AsR)(w:ArV)(n₀:Nat)(ann:Option ArR):Nat->KM->Nat->Nat->Auk->Option (KM×Nat×Nat×Auk)
 |0,K,n,tk,t=>some (K,n,tk,t)
 |N+1,K,n,tk,t=>match through t with
  |true=>none
  |false=>match stepK (AyT tb) p w n₀ ann K n tk t with
   |some (K',n',Jp,t')=>goK tb p w n₀ ann N K' n' Jp t' |none=>none
theorem J4{n₀:Nat}:∀{N:Nat} {K K':KM} {n n' tk Jp:Nat} {t t':Auk},goK tb p w n₀ ann N K n tk t=some (K',n',Jp,t')->
  ∀{s:ArT},B2 K n tk s->∃s',topGo tb p w n₀ ann N s t=some (s',t')∧B2 K' n' Jp s'∧s'.gens=s.gens
 |0,_,_,_,_,_,_,_,_,h,s,D=>by cases h;exact⟨s,rfl,D,rfl⟩
 |N+1,K,K',n,n',tk,Jp,t,t',h,s,D=>by
  unfold goK at h;unfold topGo;cases he:through t with
  |true=>rw[he] at h;cases h
  |false=>
   rw[he] at h;cases hs:stepK (AyT tb) p w n₀ ann K n tk t with
   |none=>rw[hs] at h;cases h
   |some r=>obtain⟨K₁,n₁,tk₁,t₁⟩:=r;rw[hs] at h;obtain⟨s₁,e1,D1,_,_,g1,_,_⟩:=Hy hs D;obtain⟨s',e2,D2,g2⟩:=J4 h D1;refine⟨s',?_,D2,g2.trans g1⟩;rw[NQ hs];dsimp only;rw[e1];exact e2
def kz:List Nat->List (Option Obj)->KM
 |a::as,some o::os=>(a,o)::kz as os |_::as,none::os=>kz as os |_,_=>[]
theorem HT(K:KM):∀(as:List Nat) (a:Nat) (o:Obj),Av (kz as<|as.map<|Av K) a=some o->Av K a=some o
 | [],_,_,h=>by cases h
 |b::as,a,o,h=>by
  rw[AsZ] at h;cases q:Av K b with
  |none=>rw[q] at h;exact HT K as a o h
  |some x=>
   rw[q] at h;have h':Av ((b,x)::kz as (as.map<|Av K)) a=some o:=h;rw[AE] at h';by_cases e:b=a
   ·subst e;rw[if_pos rfl] at h';refine q.symm▸?_;exact h'
   ·rw[if_neg e] at h';exact HT K as a o h'
def ob(as:List Nat)(r:Option (Flow×KM×Nat×Nat×Code×Pos)):Option (Flow×List (Option Obj)×Nat×Nat×Code×Pos):=match r with
 |some (f,K,n,tk,c,p)=>some (f,as.map (Av K),n,tk,c,p) |none=>none
def obG(as:List Nat)(r:Option (KM×Nat×Nat×Auk)):Option (List (Option Obj)×Nat×Nat×Auk):=match r with
 |some (K,n,tk,t)=>some (as.map (Av K),n,tk,t) |none=>none
theorem Kb(K X:KM)(a:Nat):Av (K++X) a=(Av K a).or (Av X a):=by
 induction K with
 |nil=>rfl |cons p K ih=>rw[Aul,AE,AE,ih];by_cases e:p.1=a<;>simp[e]
theorem O7{K:KM}{a:Nat}(h:a∉K.map (·.1)):Av K a=none:=by
 induction K with
 |nil=>rfl |cons p K ih=>rw[AE,if_neg (λe=>h (by rw[AsZ,e];exact .head _)),ih λq=>h (by rw[AsZ];exact .tail _ q)]
theorem SY{K:KM}{a:Nat}{o:Obj}(hd:(K.map (·.1)).Nodup)(h:(a,o)∈K):Av K a=some o:=by
 induction K with
 |nil=>cases h
 |cons p K ih=>
  rw[AE];rw[AsZ,Atl] at hd;rcases Ar3.mp h with e |h
  ·subst e;exact if_pos rfl
  ·rw[if_neg (λe=>hd.1 (by rw[e];exact AwV (f:=λx:Nat×Obj=>x.1) h))];exact ih hd.2 h
structure JN(K R:KM)(n tk:Nat)(s:ArT):Prop where
 k:B2 K n tk s
 r:∀p∈R,s.heap.get? p.1=some p.2
 g:s.gens= #[]
theorem i7{p:AsR}{w:ArV}{c:Code}{pos':Pos}{N n tk n' Jp:Nat}{t:Auk}{K K2 X R:KM}{as:List Nat}{os:List (Option Obj)}
  (h:ob as (segK Atz p w 11 (some<|.ref 6) 1 N K n tk t)=some (.next,os,n',Jp,c,pos'))(hz:kz as os=K2++X)
  (hX:((K2++X).map (·.1)).Nodup)(hR:∀b∈R.map (·.1),b∉K.map (·.1)){s:ArT}(D:JN K R n tk s):
  ∃s',segRun Atz p w 11 (some<|.ref 6) 1 N s t=some (.next,s',c,pos')∧JN K2 (X++R) n' Jp s':=by
 cases hs:segK Atz p w 11 (some<|.ref 6) 1 N K n tk t with
 |none=>rw[hs] at h;cases h
 |some r=>
  obtain⟨f,K',n₁,tk₁,c₁,p₁⟩:=r;rw[hs] at h;have h':some (f,as.map<|Av K',n₁,tk₁,c₁,p₁)=some (AvI,os,n',Jp,c,pos'):=h;simp only[AxW,Prod.mk.injEq] at h';obtain⟨rfl,rfl,rfl,rfl,rfl,rfl⟩:=h';obtain⟨s',e,D',S,_,g,_,_⟩:=PY hs D.k;have hk:∀a o,Av (K2++X) a=some o->s'.heap.get? a=some o:=λa o q=>D'.here a o (HT K' as a o (by refine hz.symm▸?_;exact q))
  refine⟨s',e,⟨D'.size,D'.toks,λa o q=>hk a o (by rw[Kb,q];rfl)⟩,λz oD=>?_,g.trans D.g⟩;rcases AsA.mp oD with m |m
  ·exact hk z.1 z.2 (SY hX<|AtC _ m)
  ·exact S z.1 z.2 (D.r z m) (O7<|hR _<|AwV m)
theorem Xk{p:AsR}{w:ArV}{env:Env}{c:Code}{q pos p':Pos}{n N:Nat}{s s' r:ArT}{B:List Auj}(i j:Nat)
  (h:segRun Atz p w 11 (some<|.ref 6) 1 n s (Azi ((B.drop i).take j) env c pos [AzB q])=some (.next,s',c,p'))
  (k:AzC Atz p w 11 (some<|.ref 6) N s' (restOf (B.drop<|i+j) env c p' [AzB q])=some r):AzC Atz p w 11 (some<|.ref 6) (n+N) s (restOf (B.drop i) env c pos [AzB q])=some r:=by
 have e:B.drop i=(B.drop i).take j++B.drop (i+j):=by rw[←AwC,As5]
 refine e.symm▸?_;exact piece_app h k
theorem nK{p:AsR}{w:ArV}{env:Env}{c:Code}{q pos:Pos}{s:ArT}:AzC Atz p w 11 (some<|.ref 6) 2 s (restOf [] env c pos [AzB q])=some s:=rfl
lay_quick Mine.Internal.segK Mine.Internal.goK
noncomputable abbrev PR:AsR:=PySem.Challenge.pw_xw0060_01
noncomputable abbrev OL:AxQ:=Ax5
noncomputable def rR(p:AsR):Look:={strict:= !(Ay4 p.main.body).all cThrough.contains,foot:=none,bare:=(["vars","dir","locals"]:List Str).filter (readsOut p p.main.body)}
noncomputable def Kf:Look:={strict:=false,foot:=none,bare:=[]}
def x5(p:AsR):Bool:=(rR p).strict==false&&(rR p).bare== []
noncomputable def Rt(OL:AxQ):Bool:=OL.row.loose.isEmpty&&OL.row.makers.isEmpty&&
 (OL.row.records.isEmpty||OL.row.raises.all λct=>ct.1 != .builtin "AttributeError"&&ct.1 != .builtin "TypeError")&&
 (OL.row.raises.all λct=>match ct.1 with | .builtin n=> !OL.row.prog.boundNames.contains (ArP n)&& !ofTheWorld.contains n | .own _=>true)&&
 decide (OL.row.records.map (·.1)).Nodup&&(OL.row.records.all λx=> !x.1.opensWith "__"&& !builtinNamed x.1&&OL.row.prog.boundNames.contains x.1&&x.2.all λf=> !f.1.opensWith "__")&&
 OL.row.toRowW.solid&&OL.row.pre.litsOk&&OL.row.post.litsOk&&OL.row.raises.all (·.2.litsOk)&&
 OL.row.mutates.all (λi=>match OL.row.args[i]? with
  |some sh=> !sh.arms.any WShape.isObj
  |none=>false)&&
 OL.row.within.all (λi=>decide (i<OL.row.args.length))&&OL.row.same.all (λi=>decide (i<OL.row.args.length))
noncomputable def lk_sre(p:AsR)(o:AxQ):Bool:=sreFenced p.main
theorem lk_sre_self:lk_sre=lk_sre:=rfl
name_quick lF_sre for Mine.Internal.lk_sre by Mine.Internal.lk_sre_self
theorem oW:lk_sre PR OL=true:=(congrFun (congrFun lF_sre_eq PR) OL).trans (by kernel_rfl)
noncomputable def lk_into(p:AsR)(o:AxQ):Bool:=((moduleNames p.main.body).isEmpty||lookedIntoSs (moduleNames p.main.body) p.main.body)
theorem lk_into_self:lk_into=lk_into:=rfl
name_quick lF_into for Mine.Internal.lk_into by Mine.Internal.lk_into_self
theorem c8:lk_into PR OL=true:=(congrFun (congrFun lF_into_eq PR) OL).trans (by kernel_rfl)
noncomputable def lk_res(p:AsR)(o:AxQ):Bool:=namesResolve p
theorem lk_res_self:lk_res=lk_res:=rfl
name_quick lF_res for Mine.Internal.lk_res by Mine.Internal.lk_res_self
theorem oU:lk_res PR OL=true:=(congrFun (congrFun lF_res_eq PR) OL).trans (by kernel_rfl)
def lk_lk(p:AsR)(o:AxQ):Bool:=x5 p
theorem lk_lk_self:lk_lk=lk_lk:=rfl
name_quick lF_lk for Mine.Internal.lk_lk by Mine.Internal.lk_lk_self
theorem xP:lk_lk PR OL=true:=(congrFun (congrFun lF_lk_eq PR) OL).trans (by kernel_rfl)
def lk_road0(p:AsR)(o:AxQ):Bool:=Atb Kf ((p.main.body.drop 0).take 31)
theorem lk_road0_self:lk_road0=lk_road0:=rfl
name_quick lF_road0 for Mine.Internal.lk_road0 by Mine.Internal.lk_road0_self
theorem Wh:lk_road0 PR OL=true:=(congrFun (congrFun lF_road0_eq PR) OL).trans (by kernel_rfl)
def lk_road1(p:AsR)(o:AxQ):Bool:=Atb Kf ((p.main.body.drop 31).take 31)
theorem lk_road1_self:lk_road1=lk_road1:=rfl
name_quick lF_road1 for Mine.Internal.lk_road1 by Mine.Internal.lk_road1_self
theorem Wi:lk_road1 PR OL=true:=(congrFun (congrFun lF_road1_eq PR) OL).trans (by kernel_rfl)
def lk_road2(p:AsR)(o:AxQ):Bool:=Atb Kf ((p.main.body.drop 62).take 31)
theorem lk_road2_self:lk_road2=lk_road2:=rfl
name_quick lF_road2 for Mine.Internal.lk_road2 by Mine.Internal.lk_road2_self
theorem Wk:lk_road2 PR OL=true:=(congrFun (congrFun lF_road2_eq PR) OL).trans (by kernel_rfl)
def lk_road3(p:AsR)(o:AxQ):Bool:=Atb Kf ((p.main.body.drop 93).take 31)
theorem lk_road3_self:lk_road3=lk_road3:=rfl
name_quick lF_road3 for Mine.Internal.lk_road3 by Mine.Internal.lk_road3_self
theorem Wl:lk_road3 PR OL=true:=(congrFun (congrFun lF_road3_eq PR) OL).trans (by kernel_rfl)
def lk_road4(p:AsR)(o:AxQ):Bool:=Atb Kf ((p.main.body.drop 124).take 31)
theorem lk_road4_self:lk_road4=lk_road4:=rfl
name_quick lF_road4 for Mine.Internal.lk_road4 by Mine.Internal.lk_road4_self
theorem Wm:lk_road4 PR OL=true:=(congrFun (congrFun lF_road4_eq PR) OL).trans (by kernel_rfl)
def lk_road5(p:AsR)(o:AxQ):Bool:=Atb Kf ((p.main.body.drop 155).take 31)
theorem lk_road5_self:lk_road5=lk_road5:=rfl
name_quick lF_road5 for Mine.Internal.lk_road5 by Mine.Internal.lk_road5_self
theorem Wo:lk_road5 PR OL=true:=(congrFun (congrFun lF_road5_eq PR) OL).trans (by kernel_rfl)
def lk_road6(p:AsR)(o:AxQ):Bool:=Atb Kf ((p.main.body.drop 186).take 31)
theorem lk_road6_self:lk_road6=lk_road6:=rfl
name_quick lF_road6 for Mine.Internal.lk_road6 by Mine.Internal.lk_road6_self
theorem Wq:lk_road6 PR OL=true:=(congrFun (congrFun lF_road6_eq PR) OL).trans (by kernel_rfl)
def lk_road7(p:AsR)(o:AxQ):Bool:=Atb Kf ((p.main.body.drop 217).take 31)
theorem lk_road7_self:lk_road7=lk_road7:=rfl
name_quick lF_road7 for Mine.Internal.lk_road7 by Mine.Internal.lk_road7_self
theorem Wr:lk_road7 PR OL=true:=(congrFun (congrFun lF_road7_eq PR) OL).trans (by kernel_rfl)
noncomputable def lk_meet(p:AsR)(o:AxQ):Bool:=namesMeet p p.main.body λz n=>attrL n
theorem lk_meet_self:lk_meet=lk_meet:=rfl
name_quick lF_meet for Mine.Internal.lk_meet by Mine.Internal.lk_meet_self
theorem c9:lk_meet PR OL=true:=(congrFun (congrFun lF_meet_eq PR) OL).trans (by kernel_rfl)
def lk_row(p:AsR)(o:AxQ):Bool:=Rt o
theorem lk_row_self:lk_row=lk_row:=rfl
name_quick lF_row for Mine.Internal.lk_row by Mine.Internal.lk_row_self
theorem oV:lk_row PR OL=true:=(congrFun (congrFun lF_row_eq PR) OL).trans (by kernel_rfl)
noncomputable def lk_c3(p:AsR)(o:AxQ):Bool:=noClassBlock p o.footing
theorem lk_c3_self:lk_c3=lk_c3:=rfl
name_quick lF_c3 for Mine.Internal.lk_c3 by Mine.Internal.lk_c3_self
theorem w5:lk_c3 PR OL=true:=(congrFun (congrFun lF_c3_eq PR) OL).trans (by kernel_rfl)
noncomputable def lk_c6(p:AsR)(o:AxQ):Bool:=Atb {strict:=true,foot:=some o.bound',writes:=o.writes,may:=o.may} o.footing
theorem lk_c6_self:lk_c6=lk_c6:=rfl
name_quick lF_c6 for Mine.Internal.lk_c6 by Mine.Internal.lk_c6_self
theorem w8:lk_c6 PR OL=true:=(congrFun (congrFun lF_c6_eq PR) OL).trans (by kernel_rfl)
noncomputable def lk_d4(p:AsR)(o:AxQ):Bool:=namesMeet p o.footing (λsc n=>(!(["type","isinstance","issubclass","getattr","hasattr"]:List Str).contains n||sc.names.lookup n==some .globalImplicit)&&(o.may != some n||sc.kind== .module||sc.names.lookup n==some .globalImplicit))
theorem lk_d4_self:lk_d4=lk_d4:=rfl
name_quick lF_d4 for Mine.Internal.lk_d4 by Mine.Internal.lk_d4_self
theorem xI:lk_d4 PR OL=true:=(congrFun (congrFun lF_d4_eq PR) OL).trans (by kernel_rfl)
noncomputable def lk_d8(p:AsR)(o:AxQ):Bool:=namesMeet p o.above (λz n=> !o.own.contains n)
theorem lk_d8_self:lk_d8=lk_d8:=rfl
name_quick lF_d8 for Mine.Internal.lk_d8 by Mine.Internal.lk_d8_self
theorem xN:lk_d8 PR OL=true:=(congrFun (congrFun lF_d8_eq PR) OL).trans (by kernel_rfl)
noncomputable def lk_d9(p:AsR)(o:AxQ):Bool:=namesMeet p o.footing λsc n=>sc.kind== .module||sc.names.lookup n != some .globalExplicit
theorem lk_d9_self:lk_d9=lk_d9:=rfl
name_quick lF_d9 for Mine.Internal.lk_d9 by Mine.Internal.lk_d9_self
theorem xO:lk_d9 PR OL=true:=(congrFun (congrFun lF_d9_eq PR) OL).trans (by kernel_rfl)
noncomputable def lk_mm(p:AsR)(o:AxQ):Bool:=(p.boundNames.all (λn=> !worldNames.contains n))&&((p.boundNames.contains o.row.name)&&((!startupNames.contains o.row.name)&&((decide (o.foot≤(behindTheImports p).length))&&((o.footing.all footLine)&&((o.most.all (λn=>decide (63≤n)))&&((o.bound.all (λn=>decide (2^63≤n)))&&((defStands o.about o.above)&&((o.namesIt)&&((((["type","isinstance","issubclass","getattr","hasattr"]:List Str).all (λn=>o.about != [n])))&&((o.bound'.all (λn=> !builtinNamed n||o.about== [n]|| !o.reads n))&&(((!o.writes||(p.main.body.flatMap importedNames).all λn=> !o.reads n))&&((((p.main.body.flatMap importedNames).all (λn=> !o.reads n||(drawsOf n p.main.body).all λmn=>mn.2 != ("attrgetter":Str)&&mn.2 != ("methodcaller":Str))))&&((o.own.contains o.name)&&((o.own.eraseDups.length==o.own.length)&&(o.own.all (λn=> !builtinNamed n))))))))))))))))
theorem lk_mm_self:lk_mm=lk_mm:=rfl
name_quick lF_mm for Mine.Internal.lk_mm by Mine.Internal.lk_mm_self
theorem xQ:lk_mm PR OL=true:=(congrFun (congrFun lF_mm_eq PR) OL).trans (by kernel_rfl)
theorem Of{a b:Bool}(h:(a&&b)=true):a=true:=(Asw.mp h).1
theorem Og{a b:Bool}(h:(a&&b)=true):b=true:=(Asw.mp h).2
noncomputable abbrev mm0:=xQ
abbrev xR:=Of mm0
abbrev mm1:=Og mm0
abbrev wX:=Of mm1
abbrev mm2:=Og mm1
abbrev wY:=Of mm2
abbrev mm3:=Og mm2
abbrev wZ:=Of mm3
abbrev mm4:=Og mm3
abbrev w4:=Of mm4
abbrev mm5:=Og mm4
abbrev w6:=Of mm5
abbrev mm6:=Og mm5
abbrev w7:=Of mm6
abbrev mm7:=Og mm6
abbrev w9:=Of mm7
abbrev mm8:=Og mm7
abbrev xA:=Of mm8
abbrev mm9:=Og mm8
abbrev xC:=Of mm9
abbrev yH:=Og mm9
abbrev xD:=Of yH
abbrev yI:=Og yH
abbrev xF:=Of yI
abbrev yJ:=Og yI
abbrev xH:=Of yJ
abbrev yK:=Og yJ
abbrev xJ:=Of yK
abbrev yL:=Og yK
abbrev xK:=Of yL
abbrev Afu:=Og yL
abbrev xM:=Afu
theorem XE(lk:Look)(a b:List Auj):Atb lk (a++b)=(Atb lk a&&Atb lk b):=by
 induction a with
 |nil=>rfl |cons s a ih=>exact(congrArg (noRoadLS lk s&& ·) ih).trans (Bool.and_assoc _ _ _).symm
theorem Dl(lk:Look)(B:List Auj)(i j:Nat)(h:Atb lk ((B.drop i).take j)=true)(k:Atb lk (B.drop<|i+j)=true):Atb lk (B.drop i)=true:=by
 have e:B.drop i=(B.drop i).take j++B.drop (i+j):=by rw[←AwC,As5]
 rw[e,XE,h,k];rfl
theorem XF:PR.main.body.drop 248= []:=by kernel_rfl
theorem x6:rR PR=Kf:=by have h:=xP;unfold lk_lk x5 at h;obtain⟨h1,h2⟩:=Asw.mp h;have e1:=beq_iff_eq.mp h1;have e2:=beq_iff_eq.mp h2;unfold rR at e1 e2;unfold rR Kf;dsimp only at e1 e2;rw[e1,e2]
theorem dA:Atb (rR PR) PR.main.body=true:=by rw[x6];show Atb Kf (PR.main.body.drop 0)=true;refine Dl Kf PR.main.body 0 31 Wh ?_;refine Dl Kf PR.main.body 31 31 Wi ?_;refine Dl Kf PR.main.body 62 31 Wk ?_;refine Dl Kf PR.main.body 93 31 Wl ?_;refine Dl Kf PR.main.body 124 31 Wm ?_;refine Dl Kf PR.main.body 155 31 Wo ?_;refine Dl Kf PR.main.body 186 31 Wq ?_;refine Dl Kf PR.main.body 217 31 Wr ?_;show Atb Kf (PR.main.body.drop 248)=true;rw[XF];rfl
theorem o4:looksOpen PR=true:=AsU (AsU (AsU (AsU (AsU oW c8) oU) xR) dA) c9
theorem part0:OL.row.partSaid=true:=by have h:=oV;unfold lk_row Rt at h;unfold OpenRow.partSaid;simp only[AsW,and_assoc] at h ⊢;exact⟨o4,h⟩
theorem Aaa:OL.row.wellSaid=true:=AsU (AsU part0 wX) wY
theorem PX:OL.wellSaid=true:=
 AsU (AsU (AsU (AsU (AsU (AsU (AsU (AsU (AsU (AsU (AsU (AsU (AsU (AsU (AsU (AsU (AsU (AsU Aaa wZ) w4) w5) w6) w7) w8) w9) xA) xC) xD) xF) xH) xI) xJ) xK) xM) xN) xO
structure FK where
 name:Str
 params:Au3
 body:List Auj
 scope:Asv
noncomputable def iU:FK:=⟨Ayq,⟨[],[],none,[],[],none,[]⟩,[],default⟩
def gH(b:List Auj)(i:Nat):FK:=match b[i]? with
 |some (.FunctionDef n a b _ _ _ sc _ _ _)=>⟨n,a,b,sc⟩ |_=>iU
def dT(i:Nat):FK:=gH PR.main.body i
def dM(i j:Nat):FK:=match PR.main.body[i]? with
 |some (.ClassDef _ _ _ b _ _ _ _ _ _ _)=>gH b j |_=>iU
noncomputable def uT(d:FK)(qual:Str)(dfl kw md:ArR)(code:Nat)(sl:Array (Option ArR)):Obj:=
 {cls:=.type "function",data:=.func {name:=d.name,qualname:=qual,params:=d.params,body:=.stmts d.body,scope:=d.scope,globals:=3,closure:=[],defaults:=dfl,kwdefaults:=kw,doc:=.none,pyModule:=md,annotations:=none,code:=.ref code,closureTuple:=.none,builtins:=0},slots:=sl}
noncomputable def en(w:ArV)(x:Str)(t:Nat)(v:ArR):Ass:=⟨Asi w.params x,.str x t,v⟩
noncomputable def dO(es:List Ass)(n:Nat):Obj:={cls:=.type "dict",data:=.dict ⟨es⟩ n}
noncomputable def tO(vs:List ArR):Obj:={cls:=.none,data:=.fields ⟨vs⟩}
noncomputable def HG:List Nat->List ArR
 |l::a::r=>.int (Ar6 l) 0:: .int 0 0:: .ref a::HG r |_=>[]
noncomputable def cdP(n q:Str)(t:Nat)(l c f:Int)(a:Nat)(x:Int)(u:Nat):Obj:={cls:=.type "code",data:=.fields #[.str n t,.str q (t+1),.str (ArP "/claim/cut.py") (t+2),.int l 0,.int c 0,.int 0 0,.int 0 0,.int f 0,.ref a,.bool true,.int 181 0,.ref (a+1),.none,.none,.none,.ref (a+2),.int x 0,.int l 0,.str (ArP "/claim/cut.py") u]}
noncomputable def clO(n:Str)(b m:List ArR)(ns:Ar0)(s:Array (Option ArR)):Obj:={cls:=.type "type",data:=.cls {name:=n,bases:=b,mro:=m,ns:=ns,qualname:=n,hasDict:=true,slotNames:=[],subclasses:=[],abstract:=false,collection:=none,hasDel:=false},slots:=s}
noncomputable def cdO(n q:Str)(t:Nat)(l c f:Int)(a:Nat)(x:Int)(u:Nat):Obj:={cls:=.type "code",data:=.fields #[.str n t,.str q (t+1),.str "/claim/cut.py" (t+2),.int l 0,.int c 0,.int 0 0,.int 0 0,.int f 0,.ref a,.bool true,.int 181 0,.ref (a+1),.none,.ref (a+2),.ref (a+3),.ref (a+4),.int x 0,.int l 0,.str "/claim/cut.py" u]}
noncomputable abbrev yC:ArR:=.str "chancore.errors" 194
noncomputable abbrev md1:ArR:=.str "chancore.dispatch" 540
noncomputable abbrev pC:ArR:=.str "chancore.integers" 551
noncomputable abbrev pD:ArR:=.str "chancore.plain_frames" 667
noncomputable abbrev md4:ArR:=.str "chancore.values" 848
noncomputable abbrev md5:ArR:=.str "chancore.plain_store" 926
noncomputable abbrev md6:ArR:=.str "chancore.types" 1250
noncomputable abbrev md7:ArR:=.str "chancore.plain_ways" 1403
noncomputable abbrev md8:ArR:=.str "chancore.texts" 1451
noncomputable abbrev Kg:ArR:=.str "chancore.reader_exprs" 1546
noncomputable abbrev yD:ArR:=.str "chancore.check_state" 1773
noncomputable abbrev yE:ArR:=.str "chancore.choices" 1816
noncomputable abbrev pB:ArR:=.str "chancore.plain_channels" 1857
noncomputable abbrev yF:ArR:=.str "chancore.plain_gates" 2058
noncomputable abbrev WI:ArR:=.str "chancore.plain_reader" 2894
noncomputable abbrev Ph:ArR:=.str "chancore.world" 3150
noncomputable abbrev EB:ArR:=.str "law_xw0060_01" 3267
noncomputable def fT(d:FK)(m:ArR)(c:Nat):Obj:=uT d d.name .none .none m c #[]
noncomputable def fM(d:FK)(q:Str)(m:ArR)(c:Nat):Obj:=uT d q .none .none m c #[]
noncomputable def Fv(n q:Str)(t:Nat)(l c:Int)(a x:Nat):Obj:=cdO n q t l c 3 a (Ar6 x) (x+1)
noncomputable def cPM(n q:Str)(t:Nat)(l c:Int)(a x:Nat):Obj:=cdP n q t l c 3 a (Ar6 x) (x+1)
noncomputable def CB(d:FK):Nat->Int->Int->Nat->Nat->Obj:=Fv d.name d.name
noncomputable def ZO(d:FK):Nat->Int->Int->Nat->Nat->Obj:=cPM d.name d.name
noncomputable def UN(n:Str)(a d t u:Nat):Obj:=clO n [.type "object"] [.ref a,.type "object"] d #[none,none,some (.str n t),some (.str n u),some (.builtin "object.__new__"),some (.bool true)]
noncomputable def er(w:ArV)(x:Str)(t a:Nat):Ass:=en w x t (.ref a)
def Dt:Env:={scope:=PR.main.scope,locals:=AuS,globals:=AuS,cells:=[],code:=.ref 13,frame:=some 14}
def AL:Code:=.body PR.main.body Dt
def Je(w:ArV)(N i j:Nat)(K:KM)(n tk:Nat)(pos:Pos):=segK Atz PR w 11 (some (.ref 6)) 1 N K n tk (Azi ((PR.main.body.drop i).take j) Dt AL pos [AzB ⟨0,0,0,0⟩])
noncomputable def rS:Obj:={cls:=(.type "code"),data:=.fields #[.str "<module>" 182,.str "<module>" 183,.str "/claim/cut.py" 184,.int 1 0,.int 0 0,.int 0 0,.int 0 0,.int 0 0,.ref 11,.bool false,.int 181 0,.ref 12,.none,.none,.none,.none,.int 185 0,.int 1 0,.str "/claim/cut.py" 186]}
noncomputable abbrev T7:List Nat:=[3,12,13,4,0,2,1]
noncomputable def XJ(g t s:Obj)(X:KM)(n tk:Nat)(p:Pos)(w:ArV):Option (Flow×List (Option Obj)×Nat×Nat×Code×Pos):=some (.next,[some g,some t,some rS,some (AtD w.params),some (Atv w.params),some s,some (AtT w.params)]++X.map (λp=>some p.2),n,tk,AL,p)
def KTop(g t s:Obj)(w:ArV):KM:=[(3,g),(12,t),(13,rS),(4,AtD w.params),(0,Atv w.params),(2,s),(1,AtT w.params)]
def Cy(w:ArV):List Ass:=[en w "__doc__" 166 .none,en w "__package__" 167 .none,en w "__loader__" 168 (.builtin "__main__.__loader__#opaque"),en w "__spec__" 169 .none,er w "__annotations__" 170 6,er w "__builtins__" 171 4,en w "__file__" 173 (.str "/claim/cut.py" 172),en w "__cached__" 174 .none,er w "_wall" 193 21,er w "ChanError" 227 39,er w "NameFault" 243 52,er w "TypeFault" 259 64,er w "MachineFault" 285 83,er w "FuelFault" 301 95,er w "GoPanic" 326 114,er w "RUNTIME_ERROR" 329 117,er w "runtime_panic" 336 124,er w "Reached" 371 142,er w "without_pointer" 378 153,er w "own_methods" 386 160,er w "members_at" 392 165,er w "embedded_in" 406 172,er w "Levels" 448 196,er w "start_type" 458 207,er w "find_member" 472 214,er w "names_of_methods" 488 221,er w "member_or_none" 497 228,er w "is_in_set" 503 233,er w "method_set" 516 240,er w "lack_of" 527 247,er w "implements" 539 254,er w "face_fits" 550 261,er w "KIND_BITS" 583 262,er w "SHIFTING_OPS" 586 263,er w "has_sign" 593 270,er w "least_int" 600 277,er w "wrapped_int" 609 284,er w "cut_quotient" 618 291,er w "shifted_int" 628 298,er w "exact_result" 638 305,er w "int_arithmetic" 648 312,er w "int_unary" 657 319,er w "is_ordered_so" 666 326,er w "PlainPanic" 698 343,er w "PlainCall" 760 385,er w "PlainRoutine" 792 406,er w "PlainRoutines" 847 446,er w "LOOSE_TAGS" 853 451,en w "MOST_PARTS" 857 (.int 1048576 856),er w "need_few" 865 458,er w "value_tag" 872 465,er w "values_equal" 887 473,er w "value_key" 900 481,er w "leaf_text" 908 488,er w "value_text" 925 496,en w "MOST_ELEMENTS" 931 (.int 1048576 930),er w "part_along" 940 503,er w "with_part_along" 950 510,er w "place_of_pointer" 957 517,er w "pointer_to" 964 524,er w "inner_place" 972 531,er w "PlainMap" 1027 567,er w "PlainStore" 1212 691,er w "MapRound" 1249 717,er w "underlying_of" 1259 728,er w "is_comparable" 1265 733,er w "zero_value" 1271 738,er w "POINTED_NAMES" 1281 739,er w "face_receiver" 1299 746,er w "part_of_receiver" 1314 753,er w "resolved_call" 1325 760,er w "begun_call" 1331 765,er w "begun_builtin" 1341 772,er w "enter_later" 1354 779,er w "run_defers" 1364 786,er w "results_of" 1370 791,er w "behind_deferred" 1380 798,er w "lead_on" 1395 805,er w "recovered_by" 1402 812,er w "is_place_at" 1413 819,er w "way_of_place" 1424 826,er w "begin_of_way" 1434 833,er w "place_on_way" 1450 840,en w "WRONG_RUNE" 1454 (.int 65533 1453),en w "LAST_RUNE" 1456 (.int 1114111 1455),en w "FIRST_HALF" 1458 (.int 55296 1457),en w "LAST_HALF" 1460 (.int 57343 1459),er w "LONG_HEADS" 1470 844,er w "is_right_rune" 1477 851,er w "head_of" 1488 858,er w "rune_at" 1502 865,er w "runes_of" 1513 872,er w "rune_places" 1524 879,er w "octets_of_rune" 1530 884,er w "octets_of" 1536 889,er w "cut_text" 1545 896,er w "COMPARING_SIGNS" 1554 897,er w "OCTET_KIND" 1557 898,en w "MOST_OCTETS" 1561 (.int 1048576 1560),er w "asked_values" 1567 903,er w "ask_value" 1579 910,er w "told_value" 1585 915,er w "parts_asked" 1591 920,er w "parts_of_value" 1597 925,er w "do_load" 1608 932,er w "do_pointer" 1619 939,er w "do_second" 1630 946,er w "do_made" 1642 953,er w "count_of_parts" 1648 958,er w "made_of" 1660 965,er w "part_of_value" 1669 972,er w "joined_texts" 1677 979,er w "plain_binary" 1688 986,er w "plain_converted" 1700 993,er w "plain_asserted" 1712 1000,er w "plain_looked_up" 1724 1007,er w "plain_cut" 1742 1014,er w "new_thing" 1748 1019,er w "bound_method" 1757 1026,er w "do_call" 1772 1033,er w "TypedFn" 1815 1050,er w "Choices" 1856 1078,en w "CLOSED_SEND" 1860 (.str "send on closed channel" 1859),en w "CLOSED_TWICE" 1862 (.str "close of closed channel" 1861),en w "CLOSED_NIL" 1864 (.str "close of nil channel" 1863),er w "PlainChannel" 1895 1099,er w "PlainChannels" 2057 1216,er w "PlainGates" 2122 1263,er w "CountedRound" 2175 1298,er w "ToldRound" 2223 1333,er w "round_over" 2233 1344,en w "MOST_ROOM" 2239 (.int 1048576 2238),er w "NOTHING_TOLD" 2241 1346,er w "GATE_NAMES" 2248 1347,er w "do_builtin" 2260 1354,er w "builtin_value" 2273 1361,er w "deed_done" 2279 1366,er w "values_listed" 2287 1373,er w "chosen_of" 2297 1380,er w "size_told" 2307 1387,er w "made_thing" 2319 1394,er w "pass_gate" 2333 1401,er w "number_of_channel" 2340 1408,er w "do_send" 2352 1415,er w "do_receive" 2363 1422,er w "meet_channel" 2378 1429,er w "do_sent" 2388 1436,er w "do_got" 2401 1443,er w "received_told" 2410 1450,er w "statements_told" 2419 1457,er w "do_rows" 2433 1464,er w "do_statement" 2445 1471,er w "plain_tasks" 2453 1478,er w "later_tasks" 2463 1485,er w "long_tasks" 2471 1492,er w "do_drop" 2481 1499,er w "do_either" 2492 1506,er w "do_behind" 2502 1513,er w "parts_of_target" 2510 1520,er w "assign_at" 2521 1527,er w "value_before" 2533 1534,er w "assigning_tasks" 2539 1539,er w "values_told" 2547 1546,er w "do_assign" 2553 1551,er w "do_before" 2564 1558,er w "do_update" 2582 1565,er w "do_let" 2598 1572,er w "do_give" 2611 1579,er w "do_given" 2624 1586,er w "do_return" 2637 1593,er w "read_callee" 2646 1600,er w "do_go" 2662 1607,er w "do_defer" 2675 1614,er w "do_turn" 2686 1621,er w "do_turned" 2696 1628,er w "begin_turn" 2704 1635,er w "do_again" 2716 1642,er w "do_walk" 2728 1649,er w "name_given" 2736 1656,er w "walk_on" 2750 1663,er w "do_item" 2764 1670,er w "do_take" 2777 1677,er w "do_taken" 2792 1684,er w "do_ask" 2807 1691,er w "do_asked" 2821 1698,er w "enter_row" 2832 1705,er w "do_typed" 2849 1712,er w "begin_named" 2860 1719,er w "select_parts" 2870 1726,er w "do_select" 2876 1731,er w "do_selected" 2893 1738,er w "do_point" 2905 1745,er w "do_defers" 2915 1752,er w "TASK_DEEDS" 2994 1753,er w "all_functions" 3000 1760,er w "PlainRun" 3149 1861,er w "PLAIN" 3153 1868,er w "NamedRow" 3188 1885,er w "known_rows" 3201 1896,er w "World" 3266 1928,er w "_law_whole" 3271 1933,er w "_law_text" 3273 1934,er w "_law_bool" 3275 1935,er w "_law_any" 3277 1937,er w "_law_three" 3282 1939,er w "_law_row" 3286 1941,er w "_law_map" 3292 1944,er w "_law_pair" 3300 1950,er w "_law_func" 3302 1953,er w "_law_spool" 3311 1960,er w "_law_drawn" 3320 1967,er w "_law_one" 3328 1974,er w "_law_held" 3338 1981,er w "_law_run" 3361 1988,er w "_law_read" 3372 1995,er w "_law_shown" 3378 2000,er w "_law_told_right" 3389 2007,er w "_law_leaf" 3399 2014,er w "_law_at" 3407 2021,er w "_law_number" 3426 2028,er w "_law_cut" 3437 2035,er w "_law_made_form" 3456 2042,er w "_law_told_form" 3486 2049,er w "_law_form_right" 3492 2054,er w "law" 3500 2061]
noncomputable def Jo:List Nat:=[1,20,5,27,11,48,13,60,15,72,20,91,22,103,28,123,31,130,37,152,39,159,41,164,55,171,64,178,83,206,91,213,110,220,121,227,126,232,130,239,140,246,146,253,155,260,162,269,164,276,166,283,169,290,172,297,177,304,194,311,198,318,202,325,213,332,218,353,246,395,253,416,283,457,286,464,294,472,317,480,334,487,341,495,365,502,369,509,374,516,378,523,380,530,382,537,404,577,494,701,510,727,512,732,527,737,542,745,564,752,570,759,582,764,596,771,602,778,611,785,624,790,629,797,637,804,650,811,656,818,665,825,676,832,684,839,701,850,703,857,709,864,722,871,729,878,736,883,744,888,746,895,754,902,756,909,772,914,783,919,800,924,817,931,820,938,823,945,828,952,832,957,836,964,857,971,864,978,868,985,876,992,888,999,896,1006,901,1013,916,1018,936,1025,942,1032,949,1039,960,1060,976,1088,982,1109,1068,1226,1109,1273,1127,1308,1140,1343,1155,1353,1165,1360,1182,1365,1194,1372,1196,1379,1202,1386,1216,1393,1231,1400,1246,1407,1248,1414,1251,1421,1254,1428,1263,1435,1265,1442,1269,1449,1274,1456,1276,1463,1281,1470,1296,1477,1305,1484,1309,1491,1320,1498,1322,1505,1328,1512,1330,1519,1334,1526,1343,1533,1348,1538,1356,1545,1358,1550,1366,1557,1369,1564,1375,1571,1382,1578,1385,1585,1388,1592,1394,1599,1397,1606,1406,1613,1412,1620,1418,1627,1421,1634,1423,1641,1431,1648,1434,1655,1436,1662,1449,1669,1452,1676,1455,1683,1461,1690,1470,1697,1476,1704,1482,1711,1492,1718,1496,1725,1501,1730,1521,1737,1531,1744,1533,1751,1536,1759,1543,1766,1625,1874,1632,1895,1641,1902,1689,1959,1693,1966,1700,1973,1702,1980,1707,1987,1722,1994,1731,1999,1738,2006,1757,2013,1761,2020,1763,2027,1773,2034,1777,2041,1784,2048,1794,2053,1804,2060]
def Zs:List ArR:=HG Jo
def zP(w:ArV):List Ass:=(Cy w).take 8
noncomputable def JL:List ArR:=[]
def g0(w:ArV):Obj:=dO (en w "__name__" 165 (.str "__main__" 164)::zP w) 9
noncomputable def ZZ(w:ArV):Obj:={cls:=.none,data:=.dict #[] 0}
def zQ(w:ArV):List Ass:=(Cy w).take 17
def Zr:List ArR:=HG (Jo.take 16)
def g1(w:ArV):Obj:=dO (en w "__name__" 165 (.str "chancore.lookup" 337)::zQ w) 18
def CM(w:ArV):Obj:={cls:=.none,data:=.dict #[en w "type.__subclasses__.Exception.0" 224 (.int 39 0),en w "type.__subclasses__.Exception.n" 225 (.int 1 0)] 2}
noncomputable def x29:Obj:={cls:=(.type "tuple"),data:=.seq #[.int 0 208] 0}
def x35:Obj:=Fv "__init__" "ChanError.__init__" 209 7 3 30 215
def x36:Obj:=uT (dM 2 0) "ChanError.__init__" (.ref 29) .none yC 35 #[]
def x38(w:ArV):Obj:={cls:=(.type "dict"),data:=.dict #[en w "__module__" 203 yC,en w "__firstlineno__" 207 (.int 5 206),er w "__init__" 217 36,er w "__static_attributes__" 220 37,er w "__weakref__" 222 40,en w "__doc__" 223 .none] 3}
noncomputable def x39:Obj:={cls:=(.type "type"),data:=.cls {name:="ChanError",bases:=[.type "Exception"],mro:=[.ref 39,.type "Exception",.type "BaseException",.type "object"],ns:=38,qualname:="ChanError",hasDict:=true,slotNames:=[],subclasses:=[.ref 52,.ref 64,.ref 83,.ref 95,.ref 114],abstract:=false,collection:=none,hasDel:=false},slots:= #[some (.ref 22),none,some (.str "ChanError" 196),some (.str "ChanError" 204),some (.builtin "Exception.__new__"),some (.bool true)]}
def AaH:Obj:=Fv "__init__" "GoPanic.__init__" 314 24 2 105 319
def AaI:Obj:=fM (dM 7 0) "GoPanic.__init__" yC 110
def AaJ(w:ArV):Obj:={cls:=(.type "dict"),data:=.dict #[en w "__module__" 309 yC,en w "__firstlineno__" 313 (.int 22 312),er w "__init__" 321 111,er w "__static_attributes__" 323 112,en w "__doc__" 324 .none] 2}
noncomputable def q8:Obj:=clO "GoPanic" [.ref 39] [.ref 114,.ref 39,.type "Exception",.type "BaseException",.type "object"] 113 #[some (.ref 98),none,some (.str "GoPanic" 302),some (.str "GoPanic" 310),some (.builtin "Exception.__new__"),some (.bool true)]
def AaK:Obj:=CB (dT 9) 330 28 1 118 334
def AaL:Obj:=fT (dT 9) yC 123
def X0(w:ArV):KM:=[(29,x29),(35,x35),(36,x36),(38,x38 w),(39,x39),(110,AaH),(111,AaI),(113,AaJ w),(114,q8),(123,AaK),(124,AaL)]
def l0(w:ArV):=ob (T7++(X0 w).map (·.1)) (Je w 1451 0 11 (KTop (g0 w) (tO JL) (ZZ w) w) 15 187 ⟨0,0,0,0⟩)
def r0(w:ArV):=XJ (g1 w) (tO Zr) (CM w) (X0 w) 125 339 ⟨30,0,30,8⟩ w
def zR(w:ArV):List Ass:=(Cy w).take 43
def eX:List ArR:=HG (Jo.take 64)
def g2(w:ArV):Obj:=dO (en w "__name__" 165 pD::zR w) 44
def AaM:Obj:=CB (dT 27) 542 155 3 255 548
def AaN:Obj:=fT (dT 27) md1 260
def JM(w:ArV):Obj:={cls:=(.type "dict"),data:=.dict #[en w "int" 553 (.int 64 554),en w "int8" 555 (.int 8 556),en w "int16" 557 (.int 16 558),en w "int32" 559 (.int 32 560),en w "int64" 561 (.int 64 562),en w "uint" 563 (.int 64 564),en w "uint8" 565 (.int 8 566),en w "uint16" 567 (.int 16 568),en w "uint32" 569 (.int 32 570),en w "uint64" 571 (.int 64 572)] 10}
noncomputable def AaO:Obj:={cls:=(.type "tuple"),data:=.seq #[.str "<<" 584,.str ">>" 585] 0}
def AaP:Obj:=CB (dT 31) 587 162 1 264 591
def AaQ:Obj:=fT (dT 31) pC 269
def AaR:Obj:=CB (dT 32) 594 164 1 271 598
def AaS:Obj:=fT (dT 32) pC 276
def AaT:Obj:=CB (dT 33) 601 166 2 278 607
def AaU:Obj:=fT (dT 33) pC 283
def AaV:Obj:=CB (dT 36) 629 177 3 299 636
def AaW:Obj:=fT (dT 36) pC 304
def AaX:Obj:=CB (dT 37) 639 194 4 306 646
def AaY:Obj:=fT (dT 37) pC 311
def AaZ:Obj:=CB (dT 38) 649 198 3 313 655
def Aa0:Obj:=fT (dT 38) pC 318
def Aa1:Obj:=CB (dT 39) 658 202 3 320 664
def Aa2:Obj:=fT (dT 39) pC 325
def X1(w:ArV):KM:=[(260,AaM),(261,AaN),(262,JM w),(263,AaO),(269,AaP),(270,AaQ),(276,AaR),(277,AaS),(283,AaT),(284,AaU),(304,AaV),(305,AaW),(311,AaX),(312,AaY),(318,AaZ),(319,Aa0),(325,Aa1),(326,Aa2)]
def l1(w:ArV):=ob (T7++(X1 w).map (·.1)) (Je w 1388 11 30 (KTop (g1 w) (tO Zr) (CM w) w) 125 339 ⟨30,0,30,8⟩)
def r1(w:ArV):=XJ (g2 w) (tO eX) (CM w) (X1 w) 327 669 ⟨212,0,212,8⟩ w
def zS(w:ArV):List Ass:=(Cy w).take 59
def eY:List ArR:=HG (Jo.take 90)
def g3(w:ArV):Obj:=dO (en w "__name__" 165 md5::zS w) 60
def Aa3:Obj:=Fv "__init__" "PlainCall.__init__" 711 220 2 355 716
def Aa4:Obj:=fM (dM 42 0) "PlainCall.__init__" pD 360
def Aa5:Obj:=Fv "do_later" "PlainCall.do_later" 719 229 2 362 724
def Aa6:Obj:=fM (dM 42 1) "PlainCall.do_later" pD 367
def Aa7:Obj:=Fv "take" "PlainCall.take" 727 232 2 369 734
def Aa8:Obj:=fM (dM 42 2) "PlainCall.take" pD 374
def Aa9(w:ArV):Obj:={cls:=(.type "dict"),data:=.dict #[en w "__module__" 706 pD,en w "__firstlineno__" 710 (.int 218 709),er w "__init__" 718 361,er w "do_later" 726 368,er w "take" 736 375,er w "leave_to" 745 382,er w "__static_attributes__" 753 383,er w "__dict__" 755 386,er w "__weakref__" 757 387,en w "__doc__" 758 .none] 4}
noncomputable def Aba:Obj:=UN "PlainCall" 385 384 699 707
def Abb:Obj:=Fv "__init__" "PlainRoutines.__init__" 805 255 2 418 810
def Abd:Obj:=fM (dM 44 0) "PlainRoutines.__init__" pD 423
def Abe(w:ArV):Obj:={cls:=(.type "dict"),data:=.dict #[en w "__module__" 800 pD,en w "__firstlineno__" 804 (.int 253 803),er w "__init__" 812 424,er w "new_one" 820 431,er w "pick_one" 826 436,er w "wake_one" 836 443,er w "__static_attributes__" 840 444,er w "__dict__" 842 447,er w "__weakref__" 844 448,en w "__doc__" 845 .none] 4}
noncomputable def Abf:Obj:=UN "PlainRoutines" 446 445 793 801
noncomputable def Abg:Obj:={cls:=(.type "tuple"),data:=.seq #[.str "slice" 850,.str "map" 851,.str "func" 852] 0}
def Abh:Obj:=CB (dT 48) 858 283 2 452 863
def Abi:Obj:=fT (dT 48) md4 457
def Abj:Obj:=CB (dT 49) 866 286 1 459 870
def Abk:Obj:=fT (dT 49) md4 464
noncomputable def Abl:Obj:={cls:=(.type "tuple"),data:=.seq #[.none] 0}
def Abm:Obj:=Fv "value_key" "value_key" 888 317 3 475 898
def Abn:Obj:=uT (dT 51) "value_key" (.ref 474) .none md4 480 #[]
def Abo:Obj:=CB (dT 56) 932 365 2 497 938
def Abp:Obj:=fT (dT 56) md5 502
def Abq:Obj:=CB (dT 57) 941 369 3 504 948
def Abr:Obj:=fT (dT 57) md5 509
def Abs:Obj:=CB (dT 58) 951 374 1 511 955
def Abt:Obj:=fT (dT 58) md5 516
def X2(w:ArV):KM:=[(360,Aa3),(361,Aa4),(367,Aa5),(368,Aa6),(374,Aa7),(375,Aa8),(384,Aa9 w),(385,Aba),(423,Abb),(424,Abd),(445,Abe w),(446,Abf),(451,Abg),(457,Abh),(458,Abi),(464,Abj),(465,Abk),(474,Abl),(480,Abm),(481,Abn),(502,Abo),(503,Abp),(509,Abq),(510,Abr),(516,Abs),(517,Abt)]
def l2(w:ArV):=ob (T7++(X2 w).map (·.1)) (Je w 1450 41 18 (KTop (g2 w) (tO eX) (CM w) w) 327 669 ⟨212,0,212,8⟩)
def r2(w:ArV):=XJ (g3 w) (tO eY) (CM w) (X2 w) 518 958 ⟨374,0,377,47⟩ w
def zT(w:ArV):List Ass:=(Cy w).take 66
def eZ:List ArR:=HG (Jo.take 104)
def g4(w:ArV):Obj:=dO (en w "__name__" 165 md6::zT w) 67
def Abu:Obj:=CB (dT 59) 958 378 1 518 962
def Abv:Obj:=fT (dT 59) md5 523
def Abw:Obj:=CB (dT 60) 965 380 2 525 970
def Abx:Obj:=fT (dT 60) md5 530
def Aby:Obj:=Fv "__init__" "PlainMap.__init__" 985 384 1 539 989
def Abz:Obj:=fM (dM 61 0) "PlainMap.__init__" md5 544
def AbA:Obj:=Fv "entry_of" "PlainMap.entry_of" 992 388 2 546 998
def AbB:Obj:=fM (dM 61 1) "PlainMap.entry_of" md5 551
def AbC:Obj:=Fv "put" "PlainMap.put" 1001 394 4 553 1009
def AbD:Obj:=fM (dM 61 2) "PlainMap.put" md5 558
def AbE(w:ArV):Obj:={cls:=(.type "dict"),data:=.dict #[en w "__module__" 980 md5,en w "__firstlineno__" 984 (.int 382 983),er w "__init__" 991 545,er w "entry_of" 1000 552,er w "put" 1011 559,er w "take_out" 1017 564,er w "__static_attributes__" 1020 565,er w "__dict__" 1022 568,er w "__weakref__" 1024 569,en w "__doc__" 1025 .none] 4}
noncomputable def AbF:Obj:=UN "PlainMap" 567 566 973 981
def AbG:Obj:=Fv "__init__" "PlainStore.__init__" 1040 406 2 579 1045
def AbH:Obj:=fM (dM 62 0) "PlainStore.__init__" md5 584
def AbI:Obj:=Fv "new_cell" "PlainStore.new_cell" 1048 412 2 586 1053
def AbJ:Obj:=fM (dM 62 1) "PlainStore.new_cell" md5 591
def AbK:Obj:=Fv "new_row" "PlainStore.new_row" 1056 416 2 593 1061
def AbL:Obj:=fM (dM 62 2) "PlainStore.new_row" md5 598
def AbM:Obj:=Fv "load" "PlainStore.load" 1064 420 2 600 1072
def AbN:Obj:=fM (dM 62 3) "PlainStore.load" md5 605
def AbO:Obj:=Fv "store" "PlainStore.store" 1075 426 3 607 1085
def AbP:Obj:=fM (dM 62 4) "PlainStore.store" md5 612
def AbQ:Obj:=Fv "whole_slice" "PlainStore.whole_slice" 1088 434 2 614 1093
def AbR:Obj:=fM (dM 62 5) "PlainStore.whole_slice" md5 619
def AbS:Obj:=Fv "element_place" "PlainStore.element_place" 1096 437 3 621 1102
def AbT:Obj:=fM (dM 62 6) "PlainStore.element_place" md5 626
noncomputable def AbU:Obj:=cPM "slice_listed" "PlainStore.slice_listed" 1105 442 2 628 1108
def AbV:Obj:=fM (dM 62 7) "PlainStore.slice_listed" md5 631
def AbW:Obj:=Fv "part_of_slice" "PlainStore.part_of_slice" 1123 449 5 640 1136
def AbX:Obj:=fM (dM 62 9) "PlainStore.part_of_slice" md5 645
def AbY:Obj:=Fv "new_map" "PlainStore.new_map" 1153 473 1 654 1157
def AbZ:Obj:=fM (dM 62 11) "PlainStore.new_map" md5 659
def Ab0:Obj:=Fv "map_of" "PlainStore.map_of" 1160 477 2 661 1165
def Ab1:Obj:=fM (dM 62 12) "PlainStore.map_of" md5 666
def Ab2:Obj:=Fv "looked_up" "PlainStore.looked_up" 1168 480 3 668 1177
def Ab3:Obj:=fM (dM 62 13) "PlainStore.looked_up" md5 673
def Ab4:Obj:=Fv "put_key" "PlainStore.put_key" 1180 485 4 675 1187
def Ab5:Obj:=fM (dM 62 14) "PlainStore.put_key" md5 680
def Ab6(w:ArV):Obj:={cls:=(.type "dict"),data:=.dict #[en w "__module__" 1035 md5,en w "__firstlineno__" 1039 (.int 404 1038),er w "__init__" 1047 585,er w "new_cell" 1055 592,er w "new_row" 1063 599,er w "load" 1074 606,er w "store" 1087 613,er w "whole_slice" 1095 620,er w "element_place" 1104 627,er w "slice_listed" 1110 632,er w "put_listed" 1122 639,er w "part_of_slice" 1138 646,er w "joined_slice" 1152 653,er w "new_map" 1159 660,er w "map_of" 1167 667,er w "looked_up" 1179 674,er w "put_key" 1189 681,er w "drop_key" 1200 688,er w "__static_attributes__" 1205 689,er w "__dict__" 1207 692,er w "__weakref__" 1209 693,en w "__doc__" 1210 .none] 4}
noncomputable def Ab7:Obj:=UN "PlainStore" 691 690 1028 1036
def Ab8:Obj:=CB (dT 65) 1252 510 2 722 1257
def Ab9:Obj:=fT (dT 65) md6 727
def X3(w:ArV):KM:=[(523,Abu),(524,Abv),(530,Abw),(531,Abx),(544,Aby),(545,Abz),(551,AbA),(552,AbB),(558,AbC),(559,AbD),(566,AbE w),(567,AbF),(584,AbG),(585,AbH),(591,AbI),(592,AbJ),(598,AbK),(599,AbL),(605,AbM),(606,AbN),(612,AbO),(613,AbP),(619,AbQ),(620,AbR),(626,AbS),(627,AbT),(631,AbU),(632,AbV),(645,AbW),(646,AbX),(659,AbY),(660,AbZ),(666,Ab0),(667,Ab1),(673,Ab2),(674,Ab3),(680,Ab4),(681,Ab5),(690,Ab6 w),(691,Ab7),(727,Ab8),(728,Ab9)]
def l3(w:ArV):=ob (T7++(X3 w).map (·.1)) (Je w 1431 59 8 (KTop (g3 w) (tO eY) (CM w) w) 518 958 ⟨374,0,377,47⟩)
def r3(w:ArV):=XJ (g4 w) (tO eZ) (CM w) (X3 w) 734 1266 ⟨512,0,526,15⟩ w
def zU(w:ArV):List Ass:=(Cy w).take 116
def e6:List ArR:=HG (Jo.take 186)
def g5(w:ArV):Obj:=dO (en w "__name__" 165 Kg::zU w) 117
noncomputable def Aca:Obj:=ZO (dT 67) 1266 527 2 734 1269
def Acb:Obj:=fT (dT 67) md6 737
def Acd:Obj:=CB (dT 82) 1405 656 2 813 1411
def Ace:Obj:=fT (dT 82) md7 818
def Acf:Obj:=CB (dT 83) 1414 665 2 820 1422
def Acg:Obj:=fT (dT 83) md7 825
def Ach:Obj:=CB (dT 84) 1425 676 4 827 1432
def Aci:Obj:=fT (dT 84) md7 832
def Acj:Obj:=CB (dT 85) 1435 684 4 834 1448
def Ack:Obj:=fT (dT 85) md7 839
def Acl:Obj:=CB (dT 99) 1537 746 3 890 1543
def Acm:Obj:=fT (dT 99) md8 895
noncomputable def Acn:Obj:={cls:=(.type "tuple"),data:=.seq #[.str "==" 1548,.str "!=" 1549,.str "<" 1550,.str "<=" 1551,.str ">" 1552,.str ">=" 1553] 0}
noncomputable def Aco:Obj:=ZO (dT 104) 1562 754 1 899 1565
def Acp:Obj:=fT (dT 104) Kg 902
def Acq:Obj:=CB (dT 105) 1568 756 4 904 1577
def Acr:Obj:=fT (dT 105) Kg 909
noncomputable def Acs:Obj:=ZO (dT 106) 1580 772 3 911 1583
def Acu:Obj:=fT (dT 106) Kg 914
noncomputable def Acv:Obj:=ZO (dT 107) 1586 783 2 916 1589
def Acw:Obj:=fT (dT 107) Kg 919
noncomputable def Acx:Obj:=ZO (dT 108) 1592 800 1 921 1595
def Acy:Obj:=fT (dT 108) Kg 924
def Acz:Obj:=CB (dT 109) 1598 817 4 926 1606
def AcA:Obj:=fT (dT 109) Kg 931
def AcB:Obj:=CB (dT 110) 1609 820 4 933 1617
def AcC:Obj:=fT (dT 110) Kg 938
def AcD:Obj:=CB (dT 111) 1620 823 4 940 1628
def AcE:Obj:=fT (dT 111) Kg 945
def AcF:Obj:=CB (dT 112) 1631 828 4 947 1640
def AcG:Obj:=fT (dT 112) Kg 952
noncomputable def AcH:Obj:=ZO (dT 113) 1643 832 1 954 1646
def AcI:Obj:=fT (dT 113) Kg 957
def AcJ:Obj:=CB (dT 114) 1649 836 3 959 1658
def AcK:Obj:=fT (dT 114) Kg 964
def AcL:Obj:=CB (dT 115) 1661 857 2 966 1667
def AcM:Obj:=fT (dT 115) Kg 971
def AcN:Obj:=CB (dT 117) 1678 868 5 980 1686
def AcO:Obj:=fT (dT 117) Kg 985
def AcP:Obj:=CB (dT 118) 1689 876 4 987 1698
def AcQ:Obj:=fT (dT 118) Kg 992
def AcR:Obj:=CB (dT 119) 1701 888 4 994 1710
def jE:Obj:=fT (dT 119) Kg 999
def jF:Obj:=CB (dT 120) 1713 896 3 1001 1722
def jG:Obj:=fT (dT 120) Kg 1006
def X4(w:ArV):KM:=[(737,Aca),(738,Acb),(818,Acd),(819,Ace),(825,Acf),(826,Acg),(832,Ach),(833,Aci),(839,Acj),(840,Ack),(895,Acl),(896,Acm),(897,Acn),(902,Aco),(903,Acp),(909,Acq),(910,Acr),(914,Acs),(915,Acu),(919,Acv),(920,Acw),(924,Acx),(925,Acy),(931,Acz),(932,AcA),(938,AcB),(939,AcC),(945,AcD),(946,AcE),(952,AcF),(953,AcG),(957,AcH),(958,AcI),(964,AcJ),(965,AcK),(971,AcL),(972,AcM),(985,AcN),(986,AcO),(992,AcP),(993,AcQ),(999,AcR),(1000,jE),(1006,jF),(1007,jG)]
def l4(w:ArV):=ob (T7++(X4 w).map (·.1)) (Je w 1451 67 54 (KTop (g4 w) (tO eZ) (CM w) w) 734 1266 ⟨512,0,526,15⟩)
def r4(w:ArV):=XJ (g5 w) (tO e6) (CM w) (X4 w) 1008 1725 ⟨896,0,900,59⟩ w
def zV(w:ArV):List Ass:=(Cy w).take 126
def e7:List ArR:=HG (Jo.take 200)
def g6(w:ArV):Obj:=dO (en w "__name__" 165 pB::zV w) 127
def jH:Obj:=CB (dT 121) 1725 901 3 1008 1740
def jI:Obj:=fT (dT 121) Kg 1013
noncomputable def jJ:Obj:=ZO (dT 122) 1743 916 3 1015 1746
def jK:Obj:=fT (dT 122) Kg 1018
def jL:Obj:=CB (dT 123) 1749 936 3 1020 1755
def jM:Obj:=fT (dT 123) Kg 1025
def jN:Obj:=Fv "__init__" "TypedFn.__init__" 1787 951 8 1041 1798
def jO:Obj:=fM (dM 126 0) "TypedFn.__init__" yD 1046
def jP(w:ArV):Obj:={cls:=(.type "dict"),data:=.dict #[en w "__module__" 1782 yD,en w "__firstlineno__" 1786 (.int 949 1785),er w "__init__" 1800 1047,er w "__static_attributes__" 1808 1048,er w "__dict__" 1810 1051,er w "__weakref__" 1812 1052,en w "__doc__" 1813 .none] 4}
noncomputable def jQ:Obj:=UN "TypedFn" 1050 1049 1775 1783
def jR:Obj:=Fv "__init__" "Choices.__init__" 1830 962 2 1062 1835
def jS:Obj:=fM (dM 128 0) "Choices.__init__" yE 1067
def jT(w:ArV):Obj:={cls:=(.type "dict"),data:=.dict #[en w "__module__" 1825 yE,en w "__firstlineno__" 1829 (.int 960 1828),er w "__init__" 1837 1068,er w "pick" 1846 1075,er w "__static_attributes__" 1849 1076,er w "__dict__" 1851 1079,er w "__weakref__" 1853 1080,en w "__doc__" 1854 .none] 4}
noncomputable def jU:Obj:=UN "Choices" 1078 1077 1818 1826
def X5(w:ArV):KM:=[(1013,jH),(1014,jI),(1018,jJ),(1019,jK),(1025,jL),(1026,jM),(1046,jN),(1047,jO),(1049,jP w),(1050,jQ),(1067,jR),(1068,jS),(1077,jT w),(1078,jU)]
def l5(w:ArV):=ob (T7++(X5 w).map (·.1)) (Je w 903 121 13 (KTop (g5 w) (tO e6) (CM w) w) 1008 1725 ⟨896,0,900,59⟩)
def r5(w:ArV):=XJ (g6 w) (tO e7) (CM w) (X5 w) 1104 1896 ⟨976,0,981,30⟩ w
def zW(w:ArV):List Ass:=(Cy w).take 129
def fA:List ArR:=HG (Jo.take 206)
def g7(w:ArV):Obj:=dO (en w "__name__" 165 (.str "chancore.plain_rounds" 2123)::zW w) 130
def jV:Obj:=Fv "__init__" "PlainChannels.__init__" 1908 984 1 1111 1912
def jW:Obj:=fM (dM 134 0) "PlainChannels.__init__" pB 1116
def jX(w:ArV):Obj:={cls:=(.type "dict"),data:=.dict #[en w "__module__" 1903 pB,en w "__firstlineno__" 1907 (.int 982 1906),er w "__init__" 1914 1117,er w "make_one" 1922 1124,er w "size_of" 1930 1131,er w "room_of" 1938 1138,er w "first_waiting" 1948 1145,er w "let_go" 1954 1150,er w "may_send" 1963 1157,er w "may_take" 1972 1164,er w "may_do" 1981 1171,er w "send_now" 1992 1178,er w "take_now" 2003 1185,er w "do_now" 2013 1192,er w "close_now" 2022 1199,er w "ended" 2034 1206,er w "wait_for" 2047 1213,er w "__static_attributes__" 2050 1214,er w "__dict__" 2052 1217,er w "__weakref__" 2054 1218,en w "__doc__" 2055 .none] 4}
noncomputable def jY:Obj:=UN "PlainChannels" 1216 1215 1896 1904
def jZ:Obj:=Fv "__init__" "PlainGates.__init__" 2072 1070 1 1228 2076
def j0:Obj:=fM (dM 136 0) "PlainGates.__init__" yF 1233
def j1(w:ArV):Obj:={cls:=(.type "dict"),data:=.dict #[en w "__module__" 2067 yF,en w "__firstlineno__" 2071 (.int 1068 2070),er w "__init__" 2078 1234,er w "lock_now" 2087 1241,er w "unlock_now" 2096 1248,er w "add_now" 2102 1253,er w "wait_now" 2111 1260,er w "__static_attributes__" 2115 1261,er w "__dict__" 2117 1264,er w "__weakref__" 2119 1265,en w "__doc__" 2120 .none] 4}
noncomputable def j3:Obj:=UN "PlainGates" 1263 1262 2060 2068
def X6(w:ArV):KM:=[(1116,jV),(1117,jW),(1215,jX w),(1216,jY),(1233,jZ),(1234,j0),(1262,j1 w),(1263,j3)]
def l6(w:ArV):=ob (T7++(X6 w).map (·.1)) (Je w 1350 134 5 (KTop (g6 w) (tO e7) (CM w) w) 1104 1896 ⟨976,0,981,30⟩)
def r6(w:ArV):=XJ (g7 w) (tO fA) (CM w) (X6 w) 1303 2176 ⟨1109,0,1126,76⟩ w
def zX(w:ArV):List Ass:=(Cy w).take 166
def fB:List ArR:=HG (Jo.take 274)
def g8(w:ArV):Obj:=dO (en w "__name__" 165 (.str "chancore.reader_statements" 2411)::zX w) 167
noncomputable def X7(w:ArV):KM:=[]
def l7(w:ArV):=ob (T7++(X7 w).map (·.1)) (Je w 1414 139 39 (KTop (g7 w) (tO fA) (CM w) w) 1303 2176 ⟨1109,0,1126,76⟩)
def r7(w:ArV):=XJ (g8 w) (tO fB) (CM w) (X7 w) 1566 2583 ⟨1369,0,1374,53⟩ w
def zY(w:ArV):List Ass:=(Cy w).take 193
def Zt:List ArR:=HG (Jo.take 328)
def g9(w:ArV):Obj:=dO (en w "__name__" 165 WI::zY w) 194
noncomputable def X8(w:ArV):KM:=[]
def l8(w:ArV):=ob (T7++(X8 w).map (·.1)) (Je w 933 178 28 (KTop (g8 w) (tO fB) (CM w) w) 1566 2583 ⟨1369,0,1374,53⟩)
def r8(w:ArV):=XJ (g9 w) (tO Zt) (CM w) (X8 w) 1753 2916 ⟨1533,0,1534,34⟩ w
def qA(w:ArV):List Ass:=(Cy w).take 196
def RH:List ArR:=HG (Jo.take 332)
def g10(w:ArV):Obj:=dO (en w "__name__" 165 Ph::qA w) 197
def Fm(w:ArV):Obj:={cls:=(.type "dict"),data:=.dict #[er w "value" 2916 910,er w "load" 2918 932,er w "pointer" 2920 939,er w "second" 2922 946,er w "made" 2924 953,er w "call" 2926 1033,er w "builtin" 2928 1354,er w "send" 2930 1415,er w "sent" 2932 1436,er w "receive" 2934 1422,er w "got" 2936 1443,er w "rows" 2938 1464,er w "run" 2940 1471,er w "drop" 2942 1499,er w "either" 2944 1506,er w "behind" 2946 1513,er w "assign" 2948 1551,er w "before" 2950 1558,er w "update" 2952 1565,er w "let" 2954 1572,er w "give" 2956 1579,er w "given" 2958 1586,er w "return" 2960 1593,er w "go" 2962 1607,er w "defer" 2964 1614,er w "turn" 2966 1621,er w "turned" 2968 1628,er w "again" 2970 1642,er w "walk" 2972 1649,er w "item" 2974 1670,er w "take" 2976 1677,er w "taken" 2978 1684,er w "ask" 2980 1691,er w "asked" 2982 1698,er w "typed" 2984 1712,er w "select" 2985 1731,er w "selected" 2986 1738,er w "point" 2987 1745,er w "defers" 2988 1752] 39}
noncomputable def j4:Obj:=ZO (dT 207) 2995 1536 1 1756 2998
def j5:Obj:=fT (dT 207) WI 1759
def j6:Obj:=Fv "__init__" "PlainRun.__init__" 3013 1545 5 1768 3022
def j7:Obj:=fM (dM 208 0) "PlainRun.__init__" WI 1773
def j8:Obj:=fM (dM 208 1) "PlainRun.may_compare" WI 1780
def j9(w:ArV):Obj:={cls:=(.type "dict"),data:=.dict #[en w "__module__" 3008 WI,en w "__firstlineno__" 3012 (.int 1543 3011),er w "__init__" 3024 1774,er w "may_compare" 3032 1781,er w "run" 3040 1788,er w "step" 3052 1795,er w "caught" 3061 1802,er w "wait_here" 3069 1809,er w "next_one" 3076 1816,er w "routine_is_over" 3084 1823,er w "wake_rows" 3095 1830,er w "answer_of" 3103 1837,er w "walk_of" 3112 1844,er w "is_of_type" 3121 1851,er w "held_as" 3130 1858,er w "__static_attributes__" 3142 1859,er w "__dict__" 3144 1862,er w "__weakref__" 3146 1863,en w "__doc__" 3147 .none] 4}
noncomputable def kA:Obj:=UN "PlainRun" 1861 1860 3001 3009
def X9(w:ArV):KM:=[(1753,Fm w),(1759,j4),(1760,j5),(1773,j6),(1774,j7),(1781,j8),(1860,j9 w),(1861,kA)]
def l9(w:ArV):=ob (T7++(X9 w).map (·.1)) (Je w 1446 206 4 (KTop (g9 w) (tO Zt) (CM w) w) 1753 2916 ⟨1533,0,1534,34⟩)
def r9(w:ArV):=XJ (g10 w) (tO RH) (CM w) (X9 w) 1866 3152 ⟨1623,0,1623,8⟩ w
def rI(w:ArV):Obj:=dO (en w "__name__" 165 EB::Cy w) 226
def kB:Obj:=Fv "__init__" "NamedRow.__init__" 3166 1627 5 1876 3174
def kC:Obj:=fM (dM 211 0) "NamedRow.__init__" Ph 1881
def kD(w:ArV):Obj:={cls:=(.type "dict"),data:=.dict #[en w "__module__" 3161 Ph,en w "__firstlineno__" 3165 (.int 1625 3164),er w "__init__" 3176 1882,er w "__static_attributes__" 3181 1883,er w "__dict__" 3183 1886,er w "__weakref__" 3185 1887,en w "__doc__" 3186 .none] 4}
noncomputable def kE:Obj:=UN "NamedRow" 1885 1884 3154 3162
def kF:Obj:=CB (dT 212) 3189 1632 0 1890 3199
def kG:Obj:=fT (dT 212) Ph 1895
noncomputable def kH:Obj:={cls:=(.type "tuple"),data:=.seq #[.none] 0}
def kI:Obj:=Fv "__init__" "World.__init__" 3214 1643 2 1905 3219
def kJ:Obj:=uT (dM 213 0) "World.__init__" (.ref 1904) .none Ph 1910 #[]
def kK:Obj:=Fv "base_of" "World.base_of" 3222 1665 2 1912 3228
def kL:Obj:=fM (dM 213 1) "World.base_of" Ph 1917
def kM(w:ArV):Obj:={cls:=(.type "dict"),data:=.dict #[en w "__module__" 3209 Ph,en w "__firstlineno__" 3213 (.int 1641 3212),er w "__init__" 3221 1911,er w "base_of" 3230 1918,er w "settled" 3238 1925,er w "__static_attributes__" 3259 1926,er w "__dict__" 3261 1929,er w "__weakref__" 3263 1930,en w "__doc__" 3264 .none] 4}
noncomputable def kN:Obj:=UN "World" 1928 1927 3202 3210
noncomputable def kO:Obj:={cls:=(.type "tuple"),data:=.seq #[.str "int" 3269,.str "int" 3270] 0}
noncomputable def kP:Obj:={cls:=(.type "tuple"),data:=.seq #[.str "string" 3272] 0}
noncomputable def kQ:Obj:={cls:=(.type "tuple"),data:=.seq #[.str "int" 3280,.str "int" 3281] 0}
noncomputable def kR:Obj:={cls:=(.type "tuple"),data:=.seq #[.str "array" 3278,.int 3 3279,.ref 1938] 0}
noncomputable def kS:Obj:={cls:=(.type "tuple"),data:=.seq #[.str "int" 3284,.str "int" 3285] 0}
noncomputable def kT:Obj:={cls:=(.type "tuple"),data:=.seq #[.str "slice" 3283,.ref 1940] 0}
noncomputable def kV:Obj:={cls:=(.type "tuple"),data:=.seq #[.str "int" 3295,.str "int" 3296] 0}
noncomputable def kW:Obj:={cls:=(.type "tuple"),data:=.seq #[.str "p" 3294,.ref 1945,.bool false] 0}
noncomputable def kX:Obj:={cls:=(.type "tuple"),data:=.seq #[.str "int" 3298,.str "int" 3299] 0}
noncomputable def kY:Obj:={cls:=(.type "tuple"),data:=.seq #[.str "q" 3297,.ref 1947,.bool false] 0}
noncomputable def kZ:Obj:={cls:=(.type "tuple"),data:=.seq #[.ref 1946,.ref 1948] 0}
noncomputable def k4:Obj:={cls:=(.type "tuple"),data:=.seq #[.str "struct" 3293,.ref 1949] 0}
def k6:Obj:=CB (dT 224) 3303 1689 1 1954 3309
def k7:Obj:=fT (dT 224) EB 1959
def k8:Obj:=CB (dT 225) 3312 1693 2 1961 3318
def k9:Obj:=fT (dT 225) EB 1966
def lA:Obj:=CB (dT 226) 3321 1700 2 1968 3326
def lB:Obj:=fT (dT 226) EB 1973
def lC:Obj:=CB (dT 227) 3329 1702 1 1975 3336
def lD:Obj:=fT (dT 227) EB 1980
def lE:Obj:=CB (dT 228) 3339 1707 1 1982 3359
def lF:Obj:=fT (dT 228) EB 1987
def lH:Obj:=CB (dT 229) 3362 1722 3 1989 3370
def lI:Obj:=fT (dT 229) EB 1994
noncomputable def lJ:Obj:=ZO (dT 230) 3373 1731 2 1996 3376
def lK:Obj:=fT (dT 230) EB 1999
def lL:Obj:=CB (dT 231) 3379 1738 0 2001 3387
def lM:Obj:=fT (dT 231) EB 2006
def lN:Obj:=CB (dT 232) 3390 1757 2 2008 3397
def lO:Obj:=fT (dT 232) EB 2013
def lQ:Obj:=CB (dT 233) 3400 1761 2 2015 3405
def lR:Obj:=fT (dT 233) EB 2020
def lS:Obj:=CB (dT 234) 3408 1763 2 2022 3424
def lT:Obj:=fT (dT 234) EB 2027
def lU:Obj:=CB (dT 235) 3427 1773 5 2029 3435
def lV:Obj:=fT (dT 235) EB 2034
def lW:Obj:=CB (dT 236) 3438 1777 4 2036 3454
def lX:Obj:=fT (dT 236) EB 2041
def lY:Obj:=CB (dT 237) 3457 1784 4 2043 3484
def lZ:Obj:=fT (dT 237) EB 2048
noncomputable def mA:Obj:=ZO (dT 238) 3487 1794 1 2050 3490
def mB:Obj:=fT (dT 238) EB 2053
def mC:Obj:=CB (dT 239) 3493 1804 1 2055 3498
def ZJ:Obj:=fT (dT 239) EB 2060
def mL(w:ArV):KM:=[(1881,kB),(1882,kC),(1884,kD w),(1885,kE),(1895,kF),(1896,kG),(1904,kH),(1910,kI),(1911,kJ),(1917,kK),(1918,kL),(1927,kM w),(1928,kN),(1933,kO),(1934,kP),(1938,kQ),(1939,kR),(1940,kS),(1941,kT),(1945,kV),(1946,kW),(1947,kX),(1948,kY),(1949,kZ),(1950,k4),(1959,k6),(1960,k7),(1966,k8),(1967,k9),(1973,lA),(1974,lB),(1980,lC),(1981,lD),(1987,lE),(1988,lF),(1994,lH),(1995,lI),(1999,lJ),(2000,lK),(2006,lL),(2007,lM),(2013,lN),(2014,lO),(2020,lQ),(2021,lR),(2027,lS),(2028,lT),(2034,lU),(2035,lV),(2041,lW),(2042,lX),(2048,lY),(2049,lZ),(2053,mA),(2054,mB),(2060,mC),(2061,ZJ)]
def l10(w:ArV):=ob (T7++(mL w).map (·.1)) (Je w 1280 210 30 (KTop (g10 w) (tO RH) (CM w) w) 1866 3152 ⟨1623,0,1623,8⟩)
def r10(w:ArV):=XJ (rI w) (tO Zs) (CM w) (mL w) 2062 3501 ⟨1804,0,1808,60⟩ w
noncomputable def KB(w:ArV):KM:=[(0,Atv w.params),(1,AtT w.params),(2,boot_o_2 w.params),(3,boot_o_3 w.params),(4,AtD w.params),(5,boot_o_5 w.params),(6,boot_o_6 w.params),(7,boot_o_7 w.params),(8,boot_o_8 w.params),(9,boot_o_9 w.params),(10,boot_o_10 w.params)]
def yA(w:ArV):=obG [3,12,13,4,0,2,1] (goK Atz PR w 11 (some (.ref 6)) 12 (KB w) 11 181 (AzD PR))
def z8(w:ArV):Option (List (Option Obj)×Nat×Nat×Auk):=some ([some (g0 w),some (tO JL),some rS,some (AtD w.params),some (Atv w.params),some (ZZ w),some (AtT w.params)],15,187,⟨AyT Atz AL,AL,⟨0,0,0,0⟩,[AzB ⟨0,0,0,0⟩]⟩)
def Afi(w:ArV):=ob [3,12,13,4,0,2,1] (segK Atz PR w 11 (some (.ref 6)) 1 1 (KTop (g0 w) (tO JL) (ZZ w) w) 15 187 (blockOf PR.main.body Dt AL ⟨0,0,0,0⟩ [AzB ⟨0,0,0,0⟩]))
def zC(w:ArV):Option (Flow×List (Option Obj)×Nat×Nat×Code×Pos):=some (.next,[some (g0 w),some (tO JL),some rS,some (AtD w.params),some (Atv w.params),some (ZZ w),some (AtT w.params)],15,187,AL,⟨0,0,0,0⟩)
def lG(p:AsR)(K:KM)(w:ArV)(as:List Nat)(N n tk:Nat)(t:Auk):Option (Flow×List (Option Obj)×Nat×Nat×Code×Pos):=ob as (segK Atz p w 11 (some (.ref 6)) 1 N K n tk t)
theorem lG_self:lG=lG:=rfl
name_quick lGF for Mine.Internal.lG by Mine.Internal.lG_self
theorem Ec{p:AsR}{K:KM}{w:ArV}{as:List Nat}{N n tk:Nat}{t:Auk}{r:Option (Flow×List (Option Obj)×Nat×Nat×Code×Pos)}(h:lGF p K w as N n tk t=r):ob as (segK Atz p w 11 (some<|.ref 6) 1 N K n tk t)=r:=by show lG p K w as N n tk t=r;rw[lGF_eq];exact h
def lP(p:AsR)(K:KM)(w:ArV)(as:List Nat)(N n tk:Nat)(t:Auk):Option (List (Option Obj)×Nat×Nat×Auk):=obG as (goK Atz p w 11 (some (.ref 6)) N K n tk t)
theorem lP_self:lP=lP:=rfl
name_quick lPF for Mine.Internal.lP by Mine.Internal.lP_self
theorem wW{p:AsR}{K:KM}{w:ArV}{as:List Nat}{N n tk:Nat}{t:Auk}{r:Option (List (Option Obj)×Nat×Nat×Auk)}(h:lPF p K w as N n tk t=r):obG as (goK Atz p w 11 (some<|.ref 6) N K n tk t)=r:=by show lP p K w as N n tk t=r;rw[lPF_eq];exact h
noncomputable def rQ(c:Code)(os:List (Option Obj))(n tk:Nat)(p:Pos)(f:List Frame):Option (List (Option Obj)×Nat×Nat×Auk):=some (os,n,tk,⟨AyT Atz c,c,p,f⟩)
theorem rQ_self:rQ=rQ:=rfl
name_quick rQF for Mine.Internal.rQ by Mine.Internal.rQ_self
theorem zB(c:Code)(os:List (Option Obj))(n tk:Nat)(p:Pos)(f:List Frame):rQF c os n tk p f=some (os,n,tk,⟨AyT Atz c,c,p,f⟩):=by rw[←rQF_eq];rfl
theorem AfI(w:ArV):yA w=z8 w:=(wW (show lPF PR (KB w) w [3,12,13,4,0,2,1] 12 11 181 (AzD PR)=rQF AL [some (g0 w),some<|tO JL,some rS,some<|AtD w.params,some<|Atv w.params,some<|ZZ w,some<|AtT w.params] 15 187 ⟨0,0,0,0⟩ [AzB ⟨0,0,0,0⟩] by kernel_rfl)).trans (zB AL [some (g0 w),some<|tO JL,some rS,some<|AtD w.params,some<|Atv w.params,some<|ZZ w,some<|AtT w.params] 15 187 ⟨0,0,0,0⟩ [AzB ⟨0,0,0,0⟩])
theorem AfG(w:ArV):Afi w=zC w:=Ec (show lGF PR (KTop (g0 w) (tO JL) (ZZ w) w) w [3,12,13,4,0,2,1] 1 15 187 (blockOf PR.main.body Dt AL ⟨0,0,0,0⟩ [AzB ⟨0,0,0,0⟩])=zC w by kernel_rfl)
theorem p0(w:ArV):l0 w=r0 w:=Ec (show lGF PR (KTop (g0 w) (tO JL) (ZZ w) w) w [3,12,13,4,0,2,1,29,35,36,38,39,110,111,113,114,123,124] 1451 15 187 (Azi ((PR.main.body.drop 0).take 11) Dt AL ⟨0,0,0,0⟩ [AzB ⟨0,0,0,0⟩])=r0 w by kernel_rfl)
theorem pf1:∀w:ArV,lGF PR (KTop (g1 w) (tO Zr) (CM w) w) w [3,12,13,4,0,2,1,260,261,262,263,269,270,276,277,283,284,304,305,311,312,318,319,325,326] 1388 125 339 (Azi ((PR.main.body.drop 11).take 30) Dt AL ⟨30,0,30,8⟩ [AzB ⟨0,0,0,0⟩])=r1 w:=byRow2 "special-get-raises" (P:=λw=>lGF PR (KTop (g1 w) (tO Zr) (CM w) w) w [3,12,13,4,0,2,1,260,261,262,263,269,270,276,277,283,284,304,305,311,312,318,319,325,326] 1388 125 339 (Azi ((PR.main.body.drop 11).take 30) Dt AL ⟨30,0,30,8⟩ [AzB ⟨0,0,0,0⟩])=r1 w) (by intro w;kernel_rfl) (by intro w;kernel_rfl)
theorem p1(w:ArV):l1 w=r1 w:=Ec (pf1 w)
theorem p2(w:ArV):l2 w=r2 w:=Ec (show lGF PR (KTop (g2 w) (tO eX) (CM w) w) w [3,12,13,4,0,2,1,360,361,367,368,374,375,384,385,423,424,445,446,451,457,458,464,465,474,480,481,502,503,509,510,516,517] 1450 327 669 (Azi ((PR.main.body.drop 41).take 18) Dt AL ⟨212,0,212,8⟩ [AzB ⟨0,0,0,0⟩])=r2 w by kernel_rfl)
theorem p3(w:ArV):l3 w=r3 w:=Ec (show lGF PR (KTop (g3 w) (tO eY) (CM w) w) w [3,12,13,4,0,2,1,523,524,530,531,544,545,551,552,558,559,566,567,584,585,591,592,598,599,605,606,612,613,619,620,626,627,631,632,645,646,659,660,666,667,673,674,680,681,690,691,727,728] 1431 518 958 (Azi ((PR.main.body.drop 59).take 8) Dt AL ⟨374,0,377,47⟩ [AzB ⟨0,0,0,0⟩])=r3 w by kernel_rfl)
theorem p4(w:ArV):l4 w=r4 w:=Ec (show lGF PR (KTop (g4 w) (tO eZ) (CM w) w) w [3,12,13,4,0,2,1,737,738,818,819,825,826,832,833,839,840,895,896,897,902,903,909,910,914,915,919,920,924,925,931,932,938,939,945,946,952,953,957,958,964,965,971,972,985,986,992,993,999,1000,1006,1007] 1451 734 1266 (Azi ((PR.main.body.drop 67).take 54) Dt AL ⟨512,0,526,15⟩ [AzB ⟨0,0,0,0⟩])=r4 w by kernel_rfl)
theorem p5(w:ArV):l5 w=r5 w:=Ec (show lGF PR (KTop (g5 w) (tO e6) (CM w) w) w [3,12,13,4,0,2,1,1013,1014,1018,1019,1025,1026,1046,1047,1049,1050,1067,1068,1077,1078] 903 1008 1725 (Azi ((PR.main.body.drop 121).take 13) Dt AL ⟨896,0,900,59⟩ [AzB ⟨0,0,0,0⟩])=r5 w by kernel_rfl)
theorem p6(w:ArV):l6 w=r6 w:=Ec (show lGF PR (KTop (g6 w) (tO e7) (CM w) w) w [3,12,13,4,0,2,1,1116,1117,1215,1216,1233,1234,1262,1263] 1350 1104 1896 (Azi ((PR.main.body.drop 134).take 5) Dt AL ⟨976,0,981,30⟩ [AzB ⟨0,0,0,0⟩])=r6 w by kernel_rfl)
theorem p7(w:ArV):l7 w=r7 w:=Ec (show lGF PR (KTop (g7 w) (tO fA) (CM w) w) w [3,12,13,4,0,2,1] 1414 1303 2176 (Azi ((PR.main.body.drop 139).take 39) Dt AL ⟨1109,0,1126,76⟩ [AzB ⟨0,0,0,0⟩])=r7 w by kernel_rfl)
theorem p8(w:ArV):l8 w=r8 w:=Ec (show lGF PR (KTop (g8 w) (tO fB) (CM w) w) w [3,12,13,4,0,2,1] 933 1566 2583 (Azi ((PR.main.body.drop 178).take 28) Dt AL ⟨1369,0,1374,53⟩ [AzB ⟨0,0,0,0⟩])=r8 w by kernel_rfl)
theorem pf9:∀w:ArV,lGF PR (KTop (g9 w) (tO Zt) (CM w) w) w [3,12,13,4,0,2,1,1753,1759,1760,1773,1774,1781,1860,1861] 1446 1753 2916 (Azi ((PR.main.body.drop 206).take 4) Dt AL ⟨1533,0,1534,34⟩ [AzB ⟨0,0,0,0⟩])=r9 w:=byRow2 "special-get-raises" (P:=λw=>lGF PR (KTop (g9 w) (tO Zt) (CM w) w) w [3,12,13,4,0,2,1,1753,1759,1760,1773,1774,1781,1860,1861] 1446 1753 2916 (Azi ((PR.main.body.drop 206).take 4) Dt AL ⟨1533,0,1534,34⟩ [AzB ⟨0,0,0,0⟩])=r9 w) (by intro w;kernel_rfl) (by intro w;kernel_rfl)
theorem p9(w:ArV):l9 w=r9 w:=Ec (pf9 w)
theorem p10(w:ArV):l10 w=r10 w:=Ec (show lGF PR (KTop (g10 w) (tO RH) (CM w) w) w [3,12,13,4,0,2,1,1881,1882,1884,1885,1895,1896,1904,1910,1911,1917,1918,1927,1928,1933,1934,1938,1939,1940,1941,1945,1946,1947,1948,1949,1950,1959,1960,1966,1967,1973,1974,1980,1981,1987,1988,1994,1995,1999,2000,2006,2007,2013,2014,2020,2021,2027,2028,2034,2035,2041,2042,2048,2049,2053,2054,2060,2061] 1280 1866 3152 (Azi ((PR.main.body.drop 210).take 30) Dt AL ⟨1623,0,1623,8⟩ [AzB ⟨0,0,0,0⟩])=r10 w by kernel_rfl)
def RR(w:ArV):KM:=mL w++(X9 w++(X8 w++(X7 w++(X6 w++(X5 w++(X4 w++(X3 w++(X2 w++(X1 w++(X0 w++([])))))))))))
def K1(w:ArV):KM:=KTop (rI w) (tO Zs) (CM w) w++RR w
theorem Q0{K:KM}{a:Nat}(h:Av K a=some o):∃p∈K,p.1=a∧p.2=o:=by
 induction K with
 |nil=>cases h
 |cons p K ih=>
  rw[AE] at h;by_cases z:p.1=a
  ·rw[if_pos z] at h;exact⟨p,.head _,z,Ase h⟩
  ·rw[if_neg z] at h;obtain⟨q,m,e⟩:=ih h;exact⟨q,.tail _ m,e⟩
theorem Wf{K:KM}{n tk:Nat}(D:JN K R n tk s):B2 (K++R) n tk s:=by
 refine⟨D.k.size,D.k.toks,λa o e=>?_⟩;rw[Kb] at e;cases q:Av K a with
 |some x=>rw[q] at e;cases e;exact D.k.here a _ q
 |none=>rw[q] at e;obtain⟨p,m,rfl,rfl⟩:=Q0 (show Av R a=some o from e);exact D.r p m
theorem aM(w:ArV)(s:ArT)(E1:s.heap=AuP w.params)(E3:s.toks=boot_toks):B2 (KB w) 11 181 s:=by refine⟨by rw[E1];kernel_rfl,by rw[E3];kernel_rfl,λa o e=>?_⟩;rw[E1];have all:∀p∈KB w,(AuP w.params).get? p.1=some p.2:=List.map_inj_left.mp (by kernel_rfl);obtain⟨p,m,rfl,rfl⟩:=Q0 e;exact all p m
theorem apart{R K:KM}{L W:List Nat}(e1:R.map (·.1)=L)(e2:K.map (·.1)=W)(h:∀b∈L,b∉W):∀b∈R.map (·.1),b∉K.map (·.1):=by rw[e1,e2];exact h
theorem len:PR.main.body.drop 240= []:=by kernel_rfl
noncomputable abbrev RL0:List Nat:=[]
noncomputable abbrev AA0:List Nat:=[29,35,36,38,39,110,111,113,114,123,124]
noncomputable abbrev AD0:List Nat:=T7++AA0
noncomputable abbrev RL1:List Nat:=AA0++RL0
noncomputable abbrev AA1:List Nat:=[260,261,262,263,269,270,276,277,283,284,304,305,311,312,318,319,325,326]
noncomputable abbrev AD1:List Nat:=T7++AA1
noncomputable abbrev RL2:List Nat:=AA1++RL1
noncomputable abbrev AA2:List Nat:=[360,361,367,368,374,375,384,385,423,424,445,446,451,457,458,464,465,474,480,481,502,503,509,510,516,517]
noncomputable abbrev AD2:List Nat:=T7++AA2
noncomputable abbrev RL3:List Nat:=AA2++RL2
noncomputable abbrev AA3:List Nat:=[523,524,530,531,544,545,551,552,558,559,566,567,584,585,591,592,598,599,605,606,612,613,619,620,626,627,631,632,645,646,659,660,666,667,673,674,680,681,690,691,727,728]
noncomputable abbrev AD3:List Nat:=T7++AA3
noncomputable abbrev RL4:List Nat:=AA3++RL3
noncomputable abbrev AA4:List Nat:=[737,738,818,819,825,826,832,833,839,840,895,896,897,902,903,909,910,914,915,919,920,924,925,931,932,938,939,945,946,952,953,957,958,964,965,971,972,985,986,992,993,999,1000,1006,1007]
noncomputable abbrev AD4:List Nat:=T7++AA4
noncomputable abbrev RL5:List Nat:=AA4++RL4
noncomputable abbrev AA5:List Nat:=[1013,1014,1018,1019,1025,1026,1046,1047,1049,1050,1067,1068,1077,1078]
noncomputable abbrev AD5:List Nat:=T7++AA5
noncomputable abbrev RL6:List Nat:=AA5++RL5
noncomputable abbrev AA6:List Nat:=[1116,1117,1215,1216,1233,1234,1262,1263]
noncomputable abbrev AD6:List Nat:=T7++AA6
noncomputable abbrev RL7:List Nat:=AA6++RL6
noncomputable abbrev AA7:List Nat:=[]
noncomputable abbrev AD7:List Nat:=T7++AA7
noncomputable abbrev RL8:List Nat:=AA7++RL7
noncomputable abbrev AA8:List Nat:=[]
noncomputable abbrev AD8:List Nat:=T7++AA8
noncomputable abbrev RL9:List Nat:=AA8++RL8
noncomputable abbrev AA9:List Nat:=[1753,1759,1760,1773,1774,1781,1860,1861]
noncomputable abbrev AD9:List Nat:=T7++AA9
noncomputable abbrev AdN:List Nat:=AA9++RL9
noncomputable abbrev AdJ:List Nat:=[1881,1882,1884,1885,1895,1896,1904,1910,1911,1917,1918,1927,1928,1933,1934,1938,1939,1940,1941,1945,1946,1947,1948,1949,1950,1959,1960,1966,1967,1973,1974,1980,1981,1987,1988,1994,1995,1999,2000,2006,2007,2013,2014,2020,2021,2027,2028,2034,2035,2041,2042,2048,2049,2053,2054,2060,2061]
noncomputable abbrev AdK:List Nat:=T7++AdJ
theorem C3(i j:Nat){w:ArV}{n N n0 tk n' Jp:Nat}{K K2 X R:KM}{as L:List Nat}{os:List (Option Obj)}{pos p':Pos}{s:ArT}{G:ArT->Prop}
  (h:ob as (segK Atz PR w 11 (some<|.ref 6) 1 n K n0 tk<|Azi ((PR.main.body.drop i).take j) Dt AL pos [AzB ⟨0,0,0,0⟩])=some (.next,os,n',Jp,AL,p'))(hz:kz as os=K2++X)(hX:((K2++X).map (·.1)).Nodup)(e1:R.map (·.1)=L)(e2:K.map (·.1)= [3,12,13,4,0,2,1])(hR:∀b∈L,b∉[3,12,13,4,0,2,1])
  (D:JN K R n0 tk s)(k:∀s',JN K2 (X++R) n' Jp s'->∃r,AzC Atz PR w 11 (some<|.ref 6) N s' (restOf (PR.main.body.drop<|i+j) Dt AL p' [AzB ⟨0,0,0,0⟩])=some r∧G r):
  ∃r,AzC Atz PR w 11 (some<|.ref 6) (n+N) s (restOf (PR.main.body.drop i) Dt AL pos [AzB ⟨0,0,0,0⟩])=some r∧G r:=by
 obtain⟨s',e,D'⟩:=i7 h hz hX (apart e1 e2 hR) D;exact(k s' D').imp λr q=>⟨Xk i j e q.1,q.2⟩
theorem AfM(w:ArV){s₀:ArT}(E2:s₀.gens= #[])(D0:B2 (KB w) 11 181 s₀):∃sa,topGo Atz PR w 11 (some<|.ref 6) 12 s₀ (AzD PR)=some (sa,⟨AyT Atz AL,AL,⟨0,0,0,0⟩,[AzB ⟨0,0,0,0⟩]⟩)∧JN (KTop (g0 w) (tO JL) (ZZ w) w) [] 15 187 sa:=by
 have hp:=AfI w;unfold yA z8 at hp;cases hs:goK Atz PR w 11 (some<|.ref 6) 12 (KB w) 11 181 (AzD PR) with
 |none=>rw[hs] at hp;cases hp
 |some r=>obtain⟨K',n₁,tk₁,t₁⟩:=r;rw[hs] at hp;simp only[obG,AxW,Prod.mk.injEq] at hp;obtain⟨l,rfl,rfl,rfl⟩:=hp;obtain⟨s',e,D',g⟩:=J4 hs D0;refine⟨s',e,⟨D'.size,D'.toks,λa o q=>D'.here a o (HT K' [3,12,13,4,0,2,1] a o (by rw[l];exact q))⟩,λp hp=>(nomatch hp),g.trans E2⟩
theorem run(w:ArV)(s₀:ArT)(E1:s₀.heap=AuP w.params)(E2:s₀.gens= #[])(E3:s₀.toks=boot_toks):
  ∃s₁,AzC Atz PR w 11 (some<|.ref 6) (12+(1+(1451+(1388+(1450+(1431+(1451+(903+(1350+(1414+(933+(1446+(1280+2))))))))))))) s₀ (AzD PR)=some s₁∧s₁.gens= #[]∧B2 (K1 w) 2062 3501 s₁:=by
 obtain⟨sa,ea,Da⟩:=AfM w E2 (aM w s₀ E1 E3);obtain⟨sb,eb,Db⟩:=i7 (K2:=KTop (g0 w) (tO JL) (ZZ w) w) (X:=[]) (AfG w) rfl (show([3,12,13,4,0,2,1]:List Nat).Nodup by decide) (λb hb=>absurd hb AwY) Da;refine(?_:∃r,_∧_).imp λr q=>⟨go_top ea<|piece_block eb q.1,q.2⟩
 refine C3 0 11 (K2:=KTop (g1 w) (tO Zr) (CM w) w) (X:=X0 w) (p0 w) rfl (show AD0.Nodup by decide) (L:=RL0) rfl rfl (by decide) Db λs0 D0=>?_
 refine C3 11 30 (K2:=KTop (g2 w) (tO eX) (CM w) w) (X:=X1 w) (p1 w) rfl (show AD1.Nodup by decide) (L:=RL1) rfl rfl (by decide) D0 λs1 D1=>?_
 refine C3 41 18 (K2:=KTop (g3 w) (tO eY) (CM w) w) (X:=X2 w) (p2 w) rfl (show AD2.Nodup by decide) (L:=RL2) rfl rfl (by decide) D1 λs2 D2=>?_
 refine C3 59 8 (K2:=KTop (g4 w) (tO eZ) (CM w) w) (X:=X3 w) (p3 w) rfl (show AD3.Nodup by decide) (L:=RL3) rfl rfl (by decide) D2 λs3 D3=>?_
 refine C3 67 54 (K2:=KTop (g5 w) (tO e6) (CM w) w) (X:=X4 w) (p4 w) rfl (show AD4.Nodup by decide) (L:=RL4) rfl rfl (by decide) D3 λs4 D4=>?_
 refine C3 121 13 (K2:=KTop (g6 w) (tO e7) (CM w) w) (X:=X5 w) (p5 w) rfl (show AD5.Nodup by decide) (L:=RL5) rfl rfl (by decide) D4 λs5 D5=>?_
 refine C3 134 5 (K2:=KTop (g7 w) (tO fA) (CM w) w) (X:=X6 w) (p6 w) rfl (show AD6.Nodup by decide) (L:=RL6) rfl rfl (by decide) D5 λs6 D6=>?_
 refine C3 139 39 (K2:=KTop (g8 w) (tO fB) (CM w) w) (X:=X7 w) (p7 w) rfl (show AD7.Nodup by decide) (L:=RL7) rfl rfl (by decide) D6 λs7 D7=>?_
 refine C3 178 28 (K2:=KTop (g9 w) (tO Zt) (CM w) w) (X:=X8 w) (p8 w) rfl (show AD8.Nodup by decide) (L:=RL8) rfl rfl (by decide) D7 λs8 D8=>?_
 refine C3 206 4 (K2:=KTop (g10 w) (tO RH) (CM w) w) (X:=X9 w) (p9 w) rfl (show AD9.Nodup by decide) (L:=RL9) rfl rfl (by decide) D8 λs9 D9=>?_
 refine C3 210 30 (K2:=KTop (rI w) (tO Zs) (CM w) w) (X:=mL w) (p10 w) rfl (show AdK.Nodup by decide) (L:=AdN) rfl rfl (by decide) D9 λs10 D10=>?_
 show∃r,AzC Atz PR w 11 (some<|.ref 6) 2 s10 (restOf (PR.main.body.drop 240) Dt AL _ [AzB _])=some r∧_;rw[len];exact⟨s10,nK,D10.g,Wf D10⟩
noncomputable def SN(w:ArV):Asb:=⟨#[Atv w.params,default,boot_o_2 w.params,boot_o_3 w.params,AtD w.params],{}⟩
def hV(w:ArV):Asb:=⟨#[Atv w.params,default,CM w,rI w,AtD w.params],{}⟩
def llk(p:AsR)(a:Ar0)(h h':Asb):Bool:=Pc p (ArP "law") a h h'
theorem llk_self:llk=llk:=rfl
name_quick lFlk for Mine.Internal.llk by Mine.Internal.llk_self
theorem o5(w:ArV):llk PR 2061 (SN w) (hV w)=true:=by
 have h:lFlk PR 2061 (SN w) (hV w)=true:=by kernel_rfl
 rw[lFlk_eq];exact h
theorem AdT(w:ArV):(hV w).bltView=AyI:=by kernel_rfl
theorem mN(w:ArV):Agree (AuP w.params) (SN w):=⟨by kernel_rfl,by kernel_rfl,by kernel_rfl,by kernel_rfl⟩
theorem cN(w:ArV):(hV w).get? 0=some (Atv w.params)∧(hV w).get? 2=some (CM w)∧(hV w).get? 3=some (rI w)∧(hV w).get? 4=some (AtD w.params):=⟨by kernel_rfl,by kernel_rfl,by kernel_rfl,by kernel_rfl⟩
theorem mO(w:ArV)(s:ArT)(D:B2 (K1 w) 2062 3501 s):Agree s.heap (hV w):=by obtain⟨e0,e2,e3,e4⟩:=cN w;exact⟨(D.here 0 _ rfl).trans e0.symm,(D.here 2 _ rfl).trans e2.symm,(D.here 3 _ rfl).trans e3.symm,(D.here 4 _ rfl).trans e4.symm⟩
noncomputable def twB(p:AsR)(l:List Auj):Bool:=Ayv AuE p.main.scope ⟨p.main.scope,[],[],[],none⟩ p.main.scope l
theorem twB_self:twB=twB:=rfl
name_quick lFtw for Mine.Internal.twB by Mine.Internal.twB_self
noncomputable def twg(p:AsR):List Str:=Ayv Ays p.main.scope ⟨p.main.scope,[],[],[],none⟩ p.main.scope p.main.body
theorem twg_self:twg=twg:=rfl
name_quick lFtwg for Mine.Internal.twg by Mine.Internal.twg_self
theorem AaB:twg PR= []:=(congrFun lFtwg_eq PR).trans (by kernel_rfl)
noncomputable def twn(p:AsR):Bool:=Ayt p.main.scope
theorem twn_self:twn=twn:=rfl
name_quick lFtwn for Mine.Internal.twn by Mine.Internal.twn_self
theorem AaC:twn PR=true:=(congrFun lFtwn_eq PR).trans (by kernel_rfl)
theorem fH(p:AsR)(a b:List Auj):twB p (a++b)=(twB p a&&twB p b):=by
 induction a with
 |nil=>rfl |cons s a ih=>exact(congrArg (TablesWhole.wS AuE p.main.scope ⟨p.main.scope,[],[],[],none⟩ p.main.scope s&& ·) ih).trans (Bool.and_assoc _ _ _).symm
theorem Dm(i n j:Nat)(e:i+n=j)(h:lFtw PR ((PR.main.body.drop i).take n)=true)(r:twB PR (PR.main.body.drop j)=true):twB PR (PR.main.body.drop i)=true:=by subst e;rw[←lFtw_eq] at h;rw[←As5 n (PR.main.body.drop i),fH,h,AwC,r];rfl
theorem qX(m:Module)(t:List Str)(hg:Ayv Ays m.scope ⟨m.scope,[],[],[],none⟩ m.scope m.body=t)(hn:Ayt m.scope=true)(hs:Ayv AuE m.scope ⟨m.scope,[],t,[],none⟩ m.scope m.body=true):Ayu AuE m=true:=by subst hg;show(true&&(Ayt m.scope&&(Ayv AuE m.scope ⟨m.scope,[],_,[],none⟩ m.scope m.body&&true)))=true;rw[hn,hs];rfl
theorem fJ(p:AsR)(h:Ayu AuE p.main=true)(h1:p.modules= [])(h2:p.parses= [])(h3:p.harvested= []):p.tablesWhole=true:=by unfold Program.tablesWhole TablesWhole.wProgram;rw[h1,h2,h3,h];rfl
theorem tq0:lFtw PR ((PR.main.body.drop 0).take 30)=true:=by kernel_rfl
theorem tq1:lFtw PR ((PR.main.body.drop 30).take 30)=true:=by kernel_rfl
theorem tq2:lFtw PR ((PR.main.body.drop 60).take 30)=true:=by kernel_rfl
theorem tq3:lFtw PR ((PR.main.body.drop 90).take 30)=true:=by kernel_rfl
theorem tq4:lFtw PR ((PR.main.body.drop 120).take 30)=true:=by kernel_rfl
theorem tq5:lFtw PR ((PR.main.body.drop 150).take 30)=true:=by kernel_rfl
theorem tq6:lFtw PR ((PR.main.body.drop 180).take 30)=true:=by kernel_rfl
theorem tq7:lFtw PR ((PR.main.body.drop 210).take 30)=true:=by kernel_rfl
theorem qW:twB PR (PR.main.body.drop 240)=true:=by
 have h:PR.main.body.drop 240= []:=by kernel_rfl
 rw[h];rfl
theorem qV:twB PR (PR.main.body.drop 0)=true:=(Dm 0 30 30 rfl tq0 (Dm 30 30 60 rfl tq1 (Dm 60 30 90 rfl tq2 (Dm 90 30 120 rfl tq3 (Dm 120 30 150 rfl tq4 (Dm 150 30 180 rfl tq5 (Dm 180 30 210 rfl tq6 (Dm 210 30 240 rfl tq7 qW))))))))
theorem tw1:PR.tablesWhole=true:=fJ PR (qX PR.main [] AaB AaC qV) rfl rfl rfl
theorem tF:OL.prog.bare:=⟨rfl,rfl,rfl,rfl,rfl,tw1⟩
theorem op1:opensWell PR=true:=by kernel_rfl
theorem u0:(frees OL.row.toRowW&&OL.row.within.isEmpty)=true:=by kernel_rfl
theorem y9:OL.row.toRowW.promised:=⟨[.list []],by decide +kernel,by decide +kernel⟩
theorem yX:opening OL.prog=plainProg OL.prog.main.scope.names:=by kernel_rfl
theorem nJ(s:ArT):fenceModules? OL.prog s=some s:=by kernel_rfl
theorem AfH(w:ArV):sF OL.prog OL.name (K1 w) 2061:=by
 have h1:Av (K1 w) 2061=some ZJ:=by kernel_rfl
 have h2:OL.prog.theDef OL.name=some ((dT 239).params,(dT 239).body,(dT 239).scope):=by kernel_rfl
 have h3:(dT 239).name=OL.name:=by kernel_rfl
 have h4:(dT 239).params.defaults= []:=by kernel_rfl
 have h5:kwWritten? (dT 239).params.kwonlyargs (dT 239).params.kw_defaults=some []:=by kernel_rfl
 exact⟨_,_,_,_,_,h1,rfl,h2,h3,rfl,rfl,rfl,rfl,rfl,rfl,rfl,h4,rfl,h5,rfl⟩
theorem head(PX:OL.wellSaid=true)
  (call:∀(w:ArV) (s s₁:ArT) (args:List WData) (vs:List ArR) (as:List Ar0),B2 (K1 w) 2062 3501 s->s.gens= #[]->OL.row.toRowW.claim.pre args=true->AyA args=true->Laid [] w s s₁ args vs as->
   Ar5 (model OL.prog w) AyK (Ayh (.ref 2061) vs) (λv s'=>AvL OL.row.toRowW.claim (AyN s.heap) (AuV s.heap) args s₁ (.ok<|.ret v) s')
    (λe s'=>AvL OL.row.toRowW.claim (AyN s.heap) (AuV s.heap) args s₁ (.error e) s') s₁):OL.Holds:=by
 refine Lb (N:=100000) (slots:= #[]) PX tF op1 y9 u0 rfl yX rfl nJ (λw s₀ a b c=>run w s₀ a b c) mN mO o5 AdT (λw=>?_) AfH call;kernel_rfl
theorem eK:OL.row.toRowW.pre= .and (.not<|.lt (.lit<|.int (63:Nat))<|.len<|.arg 0) (.lit<|.bool true):=by kernel_rfl
theorem Ru:OL.row.toRowW.records= []:=rfl
theorem XG:OL.row.toRowW.args= [.list .int]:=rfl
def RdK(R:WRecords)(cl:Str->Option Ar0)(h:Asb)(v:ArR)(d:WData)(as:List Ar0):Prop:=match d with
 | .int i=>∃t,v= .int i t | .list xs=>∃a o vs n bs,v= .ref a∧h.get? a=some o∧o.cls= .type "list"∧o.data= .seq vs n∧ReadsAllW R cl h vs.toList xs bs∧as=a::bs |_=>True
theorem zJ{R:WRecords}{cl:Str->Option Ar0}{h:Asb}{v:ArR}{d:WData}{as:List Ar0}(r:ReadsW R cl h v d as):RdK R cl h v d as:=by
 cases r with
 |int i t=>exact⟨t,rfl⟩
 |list a b c e=>exact⟨_,_,_,_,_,rfl,a,b,c,e,rfl⟩
 |_=>trivial
def RaK(R:WRecords)(cl:Str->Option Ar0)(h:Asb)(vs:List ArR)(ds:List WData)(as:List Ar0):Prop:=match ds with
 | []=>vs= []∧as= [] |d::ds=>∃v Z2 a1 a2,vs=v::Z2∧ReadsW R cl h v d a1∧ReadsAllW R cl h Z2 ds a2∧as=a1++a2
theorem d9{R:WRecords}{cl:Str->Option Ar0}{h:Asb}{vs:List ArR}{ds:List WData}{as:List Ar0}(r:ReadsAllW R cl h vs ds as):RaK R cl h vs ds as:=by
 cases r with
 |nil=>exact⟨rfl,rfl⟩
 |cons a b=>exact⟨_,_,_,_,rfl,a,b,rfl⟩
theorem cZ{cl:Str->Option Ar0}{h:Asb}{ns:List Int}:∀{vs:List ArR} {as:List Ar0},ReadsAllW [] cl h vs (ns.map .int) as->vs.length=ns.length∧∀v∈vs,∃i t,v= .int i t:=by
 induction ns with
 |nil=>exact λr=>(d9 r).1▸⟨rfl,λv h=>absurd h AwY⟩
 |cons n ns ih=>
  intro vs as r;refine hide λAx Aa=>?_
  obtain⟨v,Z2,a1,a2,rfl,b,c,_⟩:=d9 r;obtain⟨t,rfl⟩:=zJ b;refine Aa ?_;exact⟨congrArg Auv (ih c).1,AwJ.mpr ⟨⟨n,t,rfl⟩,(ih c).2⟩⟩
structure mI(s s₁:ArT)(vs:List ArR)(a:Ar0)(items:List ArR):Prop where
 vs:vs= [.ref a]
 len:items.length≤63
 at_:a=s.heap.objs.size
 new:s.heap.get? a=none
 obj:s₁.heap.get? a=some {cls:=.type "list",data:=.seq items.toArray}
 nums:∀v∈items,∃i t,v= .int i t
theorem ofPys_ints(ns:List Int):ofPys (ns.map PyData.int)=ns.map WData.int:=by
 induction ns with
 |nil=>rfl |cons n ns ih=>exact congrArg (WData.int n:: ·) ih
theorem oZ{ns:List Int}(h:(WTm.and (.not<|.lt (.lit<|.int (63:Nat))<|.len<|.arg 0)<|.lit<|.bool true).holds [] {args:=[.list (ns.map .int)]}=true):ns.length≤63:=by
 rcases Nat.lt_or_ge 63 ns.length with q |q
 ·have h2:(WTm.and (.not<|.lit<|.bool<|decide (((63:Nat):Int)<((ns.map WData.int).length:Int)))<|.lit<|.bool true).holds [] {args:=[.list (ns.map .int)]}=true:=h;rw[AsQ,decide_eq_true<|Awj.mpr q] at h2;exact ff h2
 ·exact q
theorem TB{w:ArV}{s s₁:ArT}{args:List WData}{vs:List ArR}{as:List Ar0}(SQ:OL.row.toRowW.claim.pre args=true)(L:Laid [] w s s₁ args vs as):∃a items,mI s s₁ vs a items:=by
 obtain⟨h1,h2⟩:=pre_splitW SQ;rw[XG,Ru] at h1;rw[eK,Ru] at h2;obtain⟨d,r,rfl,hd,hr⟩:=hasAllW_cons h1;obtain rfl:=hasAllW_nil hr;obtain⟨xs,rfl,hx⟩:=hasW_list hd;obtain⟨ns,rfl⟩:=items_int hx;obtain⟨v,Z2,a1,a2,rfl,b,c,rfl⟩:=d9 L.reads;obtain⟨rfl,rfl⟩:=d9 c;obtain⟨a,o,its,n,bs,rfl,ho,hc,hdt,ra,rfl⟩:=zJ b;have nw:=L.new (AtL _<|.head _);have l:=cZ ra;have e:ofPy (PyData.list<|ns.map PyData.int)= .list (ns.map .int):=by rw[ofPy,ofPys_ints]
 exact⟨a,its.toList,rfl,l.1▸oZ h2,(X.script_at<|e▸L).1,nw,ho.trans<|congrArg some<|L.list nw ho hc hdt,l.2⟩
theorem XI(args:List WData):OL.row.toRowW.claim.post args (.bool true) args=true:=by kernel_rfl
theorem b6{cl:Str->Option Ar0}{Afr:Avu->Option ArR}{args:List WData}{s₁ s':ArT}(hk:∀b o,s₁.heap.get? b=some o->s'.heap.get? b=some o)(os:s'.os=s₁.os)(g:s'.gens= #[]):AvL OL.row.toRowW.claim cl Afr args s₁ (.ok<|.ret<|.bool true) s':=
 ⟨.inl ⟨_,_,[],rfl,λz=>rfl,ReadsW.bool true,XI args,λz=>⟨AtM,λz hm=>(nomatch hm)⟩⟩,.of_keep hk,os,g▸AllBare.empty⟩
noncomputable abbrev Nm:=Nat
def enL(l:List Nat):Nm:=LR 0 (λc z ih=>Nat.add c (Nat.mul 2097152 ih)) l
def deL(n:Nat)(x:Nm):List Nat:=NR (λz=>[]) (λz ih x=>NC [] (λz=>AsV x 2097152::ih (Atm x 2097152)) x) n x
def HN(s:Str):Nm:=enL s.cps.toList
def A9(x:Nm):Option Str:=bt (ArX (enL (deL 99 x)) x) (some ⟨(deL 99 x).toArray⟩) none
structure Ad where
 c:Int
 t:List (Nat×Int)
 deriving Inhabited
noncomputable def Ad.k(i:Int):Ad:=⟨i,[]⟩
noncomputable def Ad.at(a:Nat):Ad:=⟨0,[(a,1)]⟩
def EN(a b:Int):Bool:=IR (λx=>IR (λy=>AsO x y) (λz=>false) b) (λx=>IR (λz=>true) (λy=>AsO y x) b) a
def C7(a b:Int):Bool:=IR (λx=>IR (λy=>AsO (Auv x) y) (λz=>false) b) (λx=>IR (λz=>true) (λy=>AsO (Auv y) x) b) a
def Eb(a b:Int):Bool:=IR (λx=>IR (λy=>ArX x y) (λz=>false) b) (λx=>IR (λz=>false) (λy=>ArX x y) b) a
def Ud:List (Nat×Int)->Nat->Int->List (Nat×Int)
 | [],a,f=>[(a,f)] |(b,g)::r,a,f=>bt (ArX a b) (bt (Eb (g+f) 0) r ((b,g+f)::r)) ((b,g)::Ud r a f)
def Qg:List (Nat×Int)->List (Nat×Int)->List (Nat×Int)
 | [],t=>t |(a,f)::r,t=>Qg r (Ud t a f)
def Ad.add(x y:Ad):Ad:=⟨Int.add x.c y.c,Qg y.t x.t⟩
noncomputable def Nj(m:Int):List (Nat×Int)->List (Nat×Int)
 | []=>[] |(a,f)::r=>(a,m*f)::Nj m r
def Ad.mul(m:Int)(x:Ad):Ad:=bt (Eb m 0) ⟨0,[]⟩ ⟨Awb m x.c,Nj m x.t⟩
def Ad.neg(x:Ad):Ad:=⟨Int.neg x.c,Nj (-1) x.t⟩
def Ad.sub(x y:Ad):Ad:=⟨Awl x.c y.c,Qg (Nj (-1) y.t) x.t⟩
def Aaz(l:List (Nat×Int)):List (Nat×Int)->Bool:=LR (λm=>LC true (λz z=>false) m) (λp z ih m=>LC false (λq s=>both (ArX p.1 q.1) (both (Eb p.2 q.2) (ih s))) m) l
def Ad.eq(x y:Ad):Bool:=both (Eb x.c y.c) (Aaz x.t y.t)
inductive AV where
 |AR
 |bool(b:Bool)
 |int(l:Ad)
 |str(s:Nm)
 |BG(b:List UInt8)
 |Af(l:List AV)
 |obj(i:Nat)
 |Bd(v:ArR)
 |sel(k:Nat)(l:List AV)
 |Ee(k:Nat)
 |any
 deriving Inhabited
inductive It where
 |seq(l:List AV)
 |lst(src:Nat)(k:Nat)
 |rng(cur stop step:Int)
 |Vc(j:Nat)(cnt:Int)
 |zip(a b:Nat)
 deriving Inhabited
inductive AO where
 |list(pre:Option Nat)(l:List AV)(Zn:Option Nat)
 |mid(l:List AV)(p:Nat)(m:List AV)
 |dict(l:List (AV×AV))
 |inst(C:Nat)(l:List (Nm×AV))
 |exc(C:Nat)(d:Option Nat)
 |old(C:Nat)(d:Option Nat)
 |ed(l:List (Nm×AV))
 |frame(l:List (Nm×AV))
 |cell(v:Option AV)
 |iter(it:It)
 |Gr(a b s:Int)
 |Ao(f:List (Int×Nat))
 |dead
 deriving Inhabited
inductive PA where
 |nil
 |Ai(v:Option AO)(l r:PA)
 deriving Inhabited
noncomputable def PA.fold{β:Type}(n:β)(f:Option AO->PA->PA->β->β->β)(t:PA):β:= @PA.rec (λz=>β) n f t
def PA.get(t:PA):Nat->Option AO:=PA.fold (λz=>none) (λv z z gl gr i=>NC v (λj=>bt (ArX (AsV j 2) 0) (gl (Atm j 2)) (gr (Atm j 2))) i) t
def PA.set(t:PA)(x:AO):Nat->PA:=PA.fold (λi=>NC (.Ai (some x) .nil .nil) (λz=>.nil) i)
 (λv l r sl sr i=>NC (.Ai (some x) l r) (λj=>bt (ArX (AsV j 2) 0) (.Ai v (sl<|Atm j 2) r) (.Ai v l<|sr<|Atm j 2)) i) t
def AV.cInt(v:AV)(f:Ad->Bool)(d:Bool):Bool:= @AV.casesOn (λz=>Bool) v d (λz=>d) f (λz=>d) (λz=>d) (λz=>d) (λz=>d) (λz=>d) (λz z=>d) (λz=>d) d
def AV.AU(v:AV)(f:List AV->Bool)(d:Bool):Bool:= @AV.casesOn (λz=>Bool) v d (λz=>d) (λz=>d) (λz=>d) (λz=>d) f (λz=>d) (λz=>d) (λz z=>d) (λz=>d) d
def AV.Ay(v:AV)(f:Nat->Bool)(d:Bool):Bool:= @AV.casesOn (λz=>Bool) v d (λz=>d) (λz=>d) (λz=>d) (λz=>d) (λz=>d) f (λz=>d) (λz z=>d) (λz=>d) d
def AV.CS(v:AV)(f:List UInt8->Bool)(d:Bool):Bool:= @AV.casesOn (λz=>Bool) v d (λz=>d) (λz=>d) (λz=>d) f (λz=>d) (λz=>d) (λz=>d) (λz z=>d) (λz=>d) d
def AV.cStr(v:AV)(f:Nm->Bool)(d:Bool):Bool:= @AV.casesOn (λz=>Bool) v d (λz=>d) (λz=>d) f (λz=>d) (λz=>d) (λz=>d) (λz=>d) (λz z=>d) (λz=>d) d
def AV.AL(v:AV)(f:ArR->Bool)(d:Bool):Bool:= @AV.casesOn (λz=>Bool) v d (λz=>d) (λz=>d) (λz=>d) (λz=>d) (λz=>d) (λz=>d) f (λz z=>d) (λz=>d) d
def AV.KO(v:AV)(f:Nat->Bool)(d:Bool):Bool:= @AV.casesOn (λz=>Bool) v d (λz=>d) (λz=>d) (λz=>d) (λz=>d) (λz=>d) (λz=>d) (λz=>d) (λz z=>d) f d
def AV.cBool(v:AV)(f:Bool->Bool)(d:Bool):Bool:= @AV.casesOn (λz=>Bool) v d f (λz=>d) (λz=>d) (λz=>d) (λz=>d) (λz=>d) (λz=>d) (λz z=>d) (λz=>d) d
def AV.Oo(v:AV)(f:Nat->List AV->Bool)(d:Bool):Bool:= @AV.casesOn (λz=>Bool) v d (λz=>d) (λz=>d) (λz=>d) (λz=>d) (λz=>d) (λz=>d) (λz=>d) f (λz=>d) d
def AV.Bo(v:AV)(f d:Bool):Bool:= @AV.casesOn (λz=>Bool) v f (λz=>d) (λz=>d) (λz=>d) (λz=>d) (λz=>d) (λz=>d) (λz=>d) (λz z=>d) (λz=>d) d
def AO.Ed(o:AO)(f:Option Nat->List AV->Option Nat->Bool)(d:Bool):Bool:= @AO.casesOn (λz=>Bool) o f (λz z z=>d) (λz=>d) (λz z=>d) (λz z=>d) (λz z=>d) (λz=>d) (λz=>d) (λz=>d) (λz=>d) (λz z z=>d) (λz=>d) d
def AO.pE(o:AO)(f:List AV->Nat->List AV->Bool)(d:Bool):Bool:= @AO.casesOn (λz=>Bool) o (λz z z=>d) f (λz=>d) (λz z=>d) (λz z=>d) (λz z=>d) (λz=>d) (λz=>d) (λz=>d) (λz=>d) (λz z z=>d) (λz=>d) d
def AO.Hk(o:AO)(f:List (AV×AV)->Bool)(d:Bool):Bool:= @AO.casesOn (λz=>Bool) o (λz z z=>d) (λz z z=>d) f (λz z=>d) (λz z=>d) (λz z=>d) (λz=>d) (λz=>d) (λz=>d) (λz=>d) (λz z z=>d) (λz=>d) d
def AO.M3(o:AO)(f:Nat->List (Nm×AV)->Bool)(d:Bool):Bool:= @AO.casesOn (λz=>Bool) o (λz z z=>d) (λz z z=>d) (λz=>d) f (λz z=>d) (λz z=>d) (λz=>d) (λz=>d) (λz=>d) (λz=>d) (λz z z=>d) (λz=>d) d
def AO.nI(o:AO)(f:Nat->Option Nat->Bool)(d:Bool):Bool:= @AO.casesOn (λz=>Bool) o (λz z z=>d) (λz z z=>d) (λz=>d) (λz z=>d) f (λz z=>d) (λz=>d) (λz=>d) (λz=>d) (λz=>d) (λz z z=>d) (λz=>d) d
def AO.pO(o:AO)(f:Nat->Option Nat->Bool)(d:Bool):Bool:= @AO.casesOn (λz=>Bool) o (λz z z=>d) (λz z z=>d) (λz=>d) (λz z=>d) (λz z=>d) f (λz=>d) (λz=>d) (λz=>d) (λz=>d) (λz z z=>d) (λz=>d) d
def AO.edC(o:AO)(f:List (Nm×AV)->Bool)(d:Bool):Bool:= @AO.casesOn (λz=>Bool) o (λz z z=>d) (λz z z=>d) (λz=>d) (λz z=>d) (λz z=>d) (λz z=>d) f (λz=>d) (λz=>d) (λz=>d) (λz z z=>d) (λz=>d) d
def AO.Iy(o:AO)(f:List (Nm×AV)->Bool)(d:Bool):Bool:= @AO.casesOn (λz=>Bool) o (λz z z=>d) (λz z z=>d) (λz=>d) (λz z=>d) (λz z=>d) (λz z=>d) (λz=>d) f (λz=>d) (λz=>d) (λz z z=>d) (λz=>d) d
def AO.UK(o:AO)(f:Option AV->Bool)(d:Bool):Bool:= @AO.casesOn (λz=>Bool) o (λz z z=>d) (λz z z=>d) (λz=>d) (λz z=>d) (λz z=>d) (λz z=>d) (λz=>d) (λz=>d) f (λz=>d) (λz z z=>d) (λz=>d) d
def AO.V5(o:AO)(f:It->Bool)(d:Bool):Bool:= @AO.casesOn (λz=>Bool) o (λz z z=>d) (λz z z=>d) (λz=>d) (λz z=>d) (λz z=>d) (λz z=>d) (λz=>d) (λz=>d) (λz=>d) f (λz z z=>d) (λz=>d) d
def AO.XD(o:AO)(f:Int->Int->Int->Bool)(d:Bool):Bool:= @AO.casesOn (λz=>Bool) o (λz z z=>d) (λz z z=>d) (λz=>d) (λz z=>d) (λz z=>d) (λz z=>d) (λz=>d) (λz=>d) (λz=>d) (λz=>d) f (λz=>d) d
def AO.LO(o:AO)(f:List (Int×Nat)->Bool)(d:Bool):Bool:= @AO.casesOn (λz=>Bool) o (λz z z=>d) (λz z z=>d) (λz=>d) (λz z=>d) (λz z=>d) (λz z=>d) (λz=>d) (λz=>d) (λz=>d) (λz=>d) (λz z z=>d) f d
def oC{α:Type}(o:Option α)(f:α->Bool)(d:Bool):Bool:=OR d f o
def nC{α:Type}(o:Option α)(x d:Bool):Bool:=OR x (λz=>d) o
def A7(o:Option AO)(f:List AV->Bool)(d:Bool):Bool:=oC o (λo=>o.Ed (λa l b=>nC a (nC b (f l) d) d) d) d
def UB(o:Option AO)(f:List AV->Nat->Bool)(d:Bool):Bool:=oC o (λo=>o.Ed (λa l b=>nC a (oC b (f l) d) d) d) d
def Fc(o:Option AO)(f:Nat->List AV->Bool)(d:Bool):Bool:=oC o (λo=>o.Ed (λa l b=>oC a (λa=>nC b (f a l) d) d) d) d
def KN(o:Option AO)(f:Option Nat->List AV->Bool)(d:Bool):Bool:=oC o (λo=>o.Ed (λa l b=>nC b (f a l) d) d) d
def GH(o:Option AO)(f:List AV->Nat->List AV->Bool)(d:Bool):Bool:=oC o (λo=>o.pE f d) d
def DC(o:Option AO)(f:List (AV×AV)->Bool)(d:Bool):Bool:=oC o (λo=>o.Hk f d) d
def Fh(o:Option AO)(f:Nat->List (Nm×AV)->Bool)(d:Bool):Bool:=oC o (λo=>o.M3 f d) d
def Jz(o:Option AO)(f:Nat->Option Nat->Bool)(d:Bool):Bool:=oC o (λo=>o.pO f d) d
def KL(o:Option AO)(f:Nat->Option Nat->Bool)(d:Bool):Bool:=oC o (λo=>o.nI f d) d
def fZ(o:Option AO)(f:List (Nm×AV)->Bool)(d:Bool):Bool:=oC o (λo=>o.edC f d) d
def Mr(o:Option AO)(f:Int->Int->Int->Bool)(d:Bool):Bool:=oC o (λo=>o.XD f d) d
def BU(o:Option AO)(f:List (Int×Nat)->Bool)(d:Bool):Bool:=oC o (λo=>o.LO f d) d
def Cu(o:Option AO)(f:List (Nm×AV)->Bool)(d:Bool):Bool:=oC o (λo=>o.Iy f d) d
def Ii(o:Option AO)(f:Option AV->Bool)(d:Bool):Bool:=oC o (λo=>o.UK f d) d
def FT(o:Option AO)(f:It->Bool)(d:Bool):Bool:=oC o (λo=>o.V5 f d) d
def Dw{α:Type}(l:List α)(x d:Bool):Bool:=LC x (λz z=>d) l
def Xe(t:List (Nat×Int))(f:Nat->Int->Bool)(d:Bool):Bool:=LC d (λp r=>Dw r (f p.1 p.2) d) t
def ZY(r:Option Int×Option Int)(f:Int->Int->Bool)(d:Bool):Bool:=oC r.1 (λa=>oC r.2 (f a) d) d
noncomputable abbrev BN:=Option Int×Option Int
structure St where
 n:Nat
 objs:PA
 k:Nat
 rng:List BN
 neg:List (Ad×Bool)
 BM:List (Ad×Bool)
 A8:Nat
 low:Nat
 deriving Inhabited
noncomputable abbrev K(α:Type):=α->St->Bool
abbrev M(α:Type):=K α->K AV->Bool
noncomputable def bad(Ah2:String):Bool:=false
def BI{α:Type}(l:List α):Nat->Option α:=LR (λz=>none) (λa z ih i=>NC (some a) (λj=>ih j) i) l
def LK{α:Type}(l:List α)(v:α):Nat->List α:=LR (λz=>[]) (λa r ih i=>NC (v::r) (λj=>a::ih j) i) l
def St.obj(σ:St)(i:Nat):Option AO:=σ.objs.get i
def St.put(σ:St)(i:Nat)(o:AO):St:=
 match σ with
 |⟨n,objs,k,rng,neg,BM,A8,low⟩=>⟨n,objs.set o i,k,rng,neg,BM,(bt (AtP i low) (A8+1) A8),low⟩
def St.new(σ:St)(o:AO):St:=match σ with
 |⟨n,objs,k,rng,neg,BM,A8,low⟩=>⟨n+1,objs.set o n,k,rng,neg,BM,A8,low⟩
def Bx(l:List BN)(i:Nat):BN:=match BI l i with |some r=>r |none=>(none,none)
def St.rg(σ:St)(a:Nat):BN:=Bx σ.rng (σ.k-1-a)
def St.C5(σ:St)(a:Nat)(r:BN):St:=match σ with
 |⟨n,objs,k,rng,neg,BM,A8,low⟩=>⟨n,objs,k,LK rng r (k-1-a),neg,BM,A8,low⟩
def St.atom(σ:St)(r:BN):St:=match σ with
 |⟨n,objs,k,rng,neg,BM,A8,low⟩=>⟨n,objs,k+1,r::rng,neg,BM,A8,low⟩
def St.atoms(σ:St)(er:List BN):St:=match σ with
 |⟨n,objs,k,rng,neg,BM,A8,low⟩=>⟨n,objs,k+er.length,er++rng,neg,BM,A8,low⟩
def Cn(o:AO):AO:=match o with
 | .exc .. =>.dead | .old .. =>.dead | .iter _=>.dead | .Gr .. =>.dead |o=>o
def PA.kill(t:PA):PA:=PA.fold .nil (λv z z l r=>.Ai (OR none (λo=>some (Cn o)) v) l r) t
def St.after(σ:St)(j C:Nat)(a:Option Nat):St:=match σ with
 |⟨n,objs,k,rng,neg,BM,A8,low⟩=>⟨n,objs.kill.set (.old C a) j,k,rng,neg,BM,A8+1,low⟩
def St.E4(σ:St)(l:Ad)(b:Bool):St:=match σ with
 |⟨n,objs,k,rng,neg,BM,A8,low⟩=>⟨n,objs,k,rng,(l,b)::neg,BM,A8,low⟩
def St.E5(σ:St)(l:Ad)(b:Bool):St:=match σ with
 |⟨n,objs,k,rng,neg,BM,A8,low⟩=>⟨n,objs,k,rng,neg,(l,b)::BM,A8,low⟩
def pM(a b:Option Int):Option Int:=OR none (λx=>OR none (λy=>some (x+y)) b) a
def Lu(m:Int)(a:Option Int):Option Int:=OR none (λx=>some (m*x)) a
def mM(a b:BN):BN:=(pM a.1 b.1,pM a.2 b.2)
def LA(σ:St):List (Nat×Int)->BN
 | []=>(some 0,some 0) |(a,f)::r=>mM (bt (C7 f 0) (Lu f (σ.rg a).2,Lu f (σ.rg a).1) (Lu f (σ.rg a).1,Lu f (σ.rg a).2)) (LA σ r)
def Ad.range(l:Ad)(σ:St):BN:=LC (some l.c,some l.c) (λz z=>mM (some l.c,some l.c) (LA σ l.t)) l.t
def pT(r:BN):Option Bool:=bt (oS r.2 λh=>C7 h 0) (some true) (bt (oS r.1 λh=>EN 0 h) (some false) none)
def pU(r:BN):Option Bool:=bt (oS r.2 λh=>C7 h 0) (some false) (bt (oS r.1 λh=>C7 0 h) (some false) (rgG r (λa b=>bt (both (Eb a 0) (Eb b 0)) (some true) none) none))
def known(f:List (Ad×Bool))(l:Ad):Option Bool:=LR none (λp z ih=>bt (p.1.eq l) (some p.2) ih) f
def W8(g:BN->Option Bool)(σ:St)(f:List (Ad×Bool)):Bool:=LR true (λp z ih=>OR ih (λc=>bt (Bool.xor p.2 c) false ih) (g (p.1.range σ))) f
def room(r:BN):Bool:=rgG r EN true
def narrow(σ:St)(a:Nat)(r:BN)(f:St->Bool):Bool:=bt (room r) (bt (W8 pT (σ.C5 a r) σ.neg) (bt (W8 pU (σ.C5 a r) σ.BM) (f (σ.C5 a r)) true) true) true
def Qw(p:Nat×Int)(q:Int×List (Nat×Int)):Int×List (Nat×Int):=sG (λd t=>(d,p::t)) q
def AP(σ:St):List (Nat×Int)->Int->Int×List (Nat×Int)
 | [],c=>(c,[]) |p::r,c=>rgG (σ.rg p.1) (λx y=>bt (Eb x y) (AP σ r (c+p.2*x)) (Qw p (AP σ r c))) (Qw p (AP σ r c))
def Mb(l:Ad)(σ:St)(k:K Bool):Bool:=both (k true (σ.E4 l true)) (k false (σ.E4 l false))
def Jh(l:Ad)(σ:St)(k:K Bool):Bool:=sG (λc t=>Xe t (λa f=>
  bt (Eb f 1) (both (narrow σ a ((σ.rg a).1,some<|-c-1)<|k true)<|narrow σ a (some<|-c,(σ.rg a).2)<|k false)
  (bt (Eb f<|-1) (both (narrow σ a (some<|c+1,(σ.rg a).2)<|k true)<|narrow σ a ((σ.rg a).1,some c)<|k false)
  (Mb l σ k))) (Mb l σ k)) (AP σ l.t l.c)
def isNeg(l:Ad)(σ:St)(k:K Bool):Bool:=Dw l.t (k (C7 l.c 0) σ) (oC (pT (l.range σ)) (λb=>k b σ) (oC (known σ.neg l) (λb=>k b σ) (Jh l σ k)))
def Mc(l:Ad)(σ:St)(k:K Bool):Bool:=both (k true (σ.E5 l true)) (k false (σ.E5 l false))
def Uo(a:Nat)(z:Int)(σ:St)(k:K Bool):Bool:=both (narrow σ a (some z,some z) (k true))
  (both (bt (OR true (λx=>C7 x z) (σ.rg a).1) (narrow σ a ((σ.rg a).1,some<|z-1)<|k false) true)
   (bt (OR true (λy=>C7 z y) (σ.rg a).2) (narrow σ a (some<|z+1,(σ.rg a).2)<|k false) true))
def Ji(l:Ad)(σ:St)(k:K Bool):Bool:=sG (λc t=>Xe t (λa f=>bt (Eb f 1) (Uo a (-c) σ k) (bt (Eb f (-1)) (Uo a c σ k) (Mc l σ k))) (Mc l σ k)) (AP σ l.t l.c)
def isZero(l:Ad)(σ:St)(k:K Bool):Bool:=Dw l.t (k (Eb l.c 0) σ) (oC (pU (l.range σ)) (λb=>k b σ) (oC (known σ.BM l) (λb=>k b σ) (oC (known σ.BM l.neg) (λb=>k b σ) (Ji l σ k))))
def Ir(σ:St)(a:Nat)(f:St->Bool)(n:Nat):Int->Bool:=NR (λz=>true) (λz ih x=>both (narrow σ a (some x,some x) f) (ih (x+1))) n
def OQ(n:Nat):Ad->St->K Int->Bool:=NR (λz z z=>false) (λz ih l σ k=>sG (λc t=>LC (k c σ) (λp z=>
  ZY (σ.rg p.1) (λx y=>both (C7 (y-x) 200) (Ir σ p.1 (λσ=>ih l σ k) (y-x+1).toNat x)) false) t) (AP σ l.t l.c)) n
def F1(l:Ad)(σ:St)(k:K Int):Bool:=Dw l.t (k l.c σ) (OQ 6 l σ k)
theorem Ti{α:Type}{o:Option α}{f:α->Bool}{d:Bool}{P:Prop}(h:oC o f d=true)(k:∀a,o=some a->f a=true->P)(k0:d=true->P):P:=match o,h with
 |some a,h=>k a rfl h |none,h=>k0 h
theorem BZ{α:Type}{l:List α}{x d:Bool}{P:Prop}(h:Dw l x d=true)(k:l= []->x=true->P)(k0:d=true->P):P:=match l,h with
 | [],h=>k rfl h |_::_,h=>k0 h
theorem dX{d:Bool}{P:Prop}(h:Xe t f d=true)(k:∀a g,t= [(a,g)]->f a g=true->P)(k0:d=true->P):P:=match t,h with
 | [],h=>k0 h |(a,g)::_,h=>BZ h (λe=>k a g (e▸rfl)) k0
theorem iZ{d:Bool}{P:Prop}(h:ZY r f d=true)(k:∀a b,r.1=some a->r.2=some b->f a b=true->P)(k0:d=true->P):P:=
 Ti h (λa ha h=>Ti h (λb hb h=>k a b ha hb h) k0) k0
theorem AV.FC{v:AV}{d:Bool}{Q:AV->Prop}(e:v.cInt f d=true)(k:∀l,f l=true->Q (.int l))(k0:∀v,d=true->Q v):Q v:= @AV.casesOn (λv=>v.cInt f d=true->Q v) v (λe=>k0 _ e) (λz e=>k0 _ e) (λl e=>k l e) (λz e=>k0 _ e) (λz e=>k0 _ e) (λz e=>k0 _ e) (λz e=>k0 _ e) (λz e=>k0 _ e) (λz z e=>k0 _ e) (λz e=>k0 _ e) (λe=>k0 _ e) e
theorem AV.tupI{v:AV}{d:Bool}{Q:AV->Prop}(e:v.AU f d=true)(k:∀l,f l=true->Q (.Af l))(k0:∀v,d=true->Q v):Q v:= @AV.casesOn (λv=>v.AU f d=true->Q v) v (λe=>k0 _ e) (λz e=>k0 _ e) (λz e=>k0 _ e) (λz e=>k0 _ e) (λz e=>k0 _ e) (λl e=>k l e) (λz e=>k0 _ e) (λz e=>k0 _ e) (λz z e=>k0 _ e) (λz e=>k0 _ e) (λe=>k0 _ e) e
theorem AV.Pw{v:AV}{d:Bool}{Q:AV->Prop}(e:v.Ay f d=true)(k:∀l,f l=true->Q (.obj l))(k0:∀v,d=true->Q v):Q v:= @AV.casesOn (λv=>v.Ay f d=true->Q v) v (λe=>k0 _ e) (λz e=>k0 _ e) (λz e=>k0 _ e) (λz e=>k0 _ e) (λz e=>k0 _ e) (λz e=>k0 _ e) (λl e=>k l e) (λz e=>k0 _ e) (λz z e=>k0 _ e) (λz e=>k0 _ e) (λe=>k0 _ e) e
theorem AV.Sh{v:AV}{d:Bool}{Q:AV->Prop}(e:v.CS f d=true)(k:∀l,f l=true->Q (.BG l))(k0:∀v,d=true->Q v):Q v:= @AV.casesOn (λv=>v.CS f d=true->Q v) v (λe=>k0 _ e) (λz e=>k0 _ e) (λz e=>k0 _ e) (λz e=>k0 _ e) (λl e=>k l e) (λz e=>k0 _ e) (λz e=>k0 _ e) (λz e=>k0 _ e) (λz z e=>k0 _ e) (λz e=>k0 _ e) (λe=>k0 _ e) e
theorem AV.Hb{v:AV}{d:Bool}{Q:AV->Prop}(e:v.cStr f d=true)(k:∀l,f l=true->Q (.str l))(k0:∀v,d=true->Q v):Q v:= @AV.casesOn (λv=>v.cStr f d=true->Q v) v (λe=>k0 _ e) (λz e=>k0 _ e) (λz e=>k0 _ e) (λl e=>k l e) (λz e=>k0 _ e) (λz e=>k0 _ e) (λz e=>k0 _ e) (λz e=>k0 _ e) (λz z e=>k0 _ e) (λz e=>k0 _ e) (λe=>k0 _ e) e
theorem AV.TM{v:AV}{d:Bool}{Q:AV->Prop}(e:v.AL f d=true)(k:∀l,f l=true->Q (.Bd l))(k0:∀v,d=true->Q v):Q v:= @AV.casesOn (λv=>v.AL f d=true->Q v) v (λe=>k0 _ e) (λz e=>k0 _ e) (λz e=>k0 _ e) (λz e=>k0 _ e) (λz e=>k0 _ e) (λz e=>k0 _ e) (λz e=>k0 _ e) (λl e=>k l e) (λz z e=>k0 _ e) (λz e=>k0 _ e) (λe=>k0 _ e) e
theorem AV.yY{v:AV}{d:Bool}{Q:AV->Prop}(e:v.KO f d=true)(k:∀l,f l=true->Q (.Ee l))(k0:∀v,d=true->Q v):Q v:= @AV.casesOn (λv=>v.KO f d=true->Q v) v (λe=>k0 _ e) (λz e=>k0 _ e) (λz e=>k0 _ e) (λz e=>k0 _ e) (λz e=>k0 _ e) (λz e=>k0 _ e) (λz e=>k0 _ e) (λz e=>k0 _ e) (λz z e=>k0 _ e) (λl e=>k l e) (λe=>k0 _ e) e
theorem AV.He{v:AV}{d:Bool}{Q:AV->Prop}(e:v.cBool f d=true)(k:∀l,f l=true->Q (.bool l))(k0:∀v,d=true->Q v):Q v:= @AV.casesOn (λv=>v.cBool f d=true->Q v) v (λe=>k0 _ e) (λl e=>k l e) (λz e=>k0 _ e) (λz e=>k0 _ e) (λz e=>k0 _ e) (λz e=>k0 _ e) (λz e=>k0 _ e) (λz e=>k0 _ e) (λz z e=>k0 _ e) (λz e=>k0 _ e) (λe=>k0 _ e) e
theorem AV.YZ{v:AV}{d:Bool}{Q:AV->Prop}(e:v.Oo f d=true)(k:∀a l,f a l=true->Q (.sel a l))(k0:∀v,d=true->Q v):Q v:= @AV.casesOn (λv=>v.Oo f d=true->Q v) v (λe=>k0 _ e) (λz e=>k0 _ e) (λz e=>k0 _ e) (λz e=>k0 _ e) (λz e=>k0 _ e) (λz e=>k0 _ e) (λz e=>k0 _ e) (λz e=>k0 _ e) k (λz e=>k0 _ e) (λe=>k0 _ e) e
theorem AV.dR{v:AV}{f d:Bool}{Q:AV->Prop}(e:v.Bo f d=true)(k:f=true->Q .AR)(k0:∀v,d=true->Q v):Q v:= @AV.casesOn (λv=>v.Bo f d=true->Q v) v (λe=>k e) (λz e=>k0 _ e) (λz e=>k0 _ e) (λz e=>k0 _ e) (λz e=>k0 _ e) (λz e=>k0 _ e) (λz e=>k0 _ e) (λz e=>k0 _ e) (λz z e=>k0 _ e) (λz e=>k0 _ e) (λe=>k0 _ e) e
theorem AO.listI{o:AO}{d:Bool}{Q:AO->Prop}(e:o.Ed f d=true)(k:∀x y z,f x y z=true->Q (.list x y z))(k0:∀o,d=true->Q o):Q o:= @AO.casesOn (λo=>o.Ed f d=true->Q o) o k (λzz zz zz e=>k0 _ e) (λzz e=>k0 _ e) (λzz zz e=>k0 _ e) (λzz zz e=>k0 _ e) (λzz zz e=>k0 _ e) (λzz e=>k0 _ e) (λzz e=>k0 _ e) (λzz e=>k0 _ e) (λzz e=>k0 _ e) (λzz zz zz e=>k0 _ e) (λzz e=>k0 _ e) (λe=>k0 _ e) e
theorem AO.Afs{o:AO}{d:Bool}{Q:AO->Prop}(e:o.pE f d=true)(k:∀x y z,f x y z=true->Q (.mid x y z))(k0:∀o,d=true->Q o):Q o:= @AO.casesOn (λo=>o.pE f d=true->Q o) o (λzz zz zz e=>k0 _ e) k (λzz e=>k0 _ e) (λzz zz e=>k0 _ e) (λzz zz e=>k0 _ e) (λzz zz e=>k0 _ e) (λzz e=>k0 _ e) (λzz e=>k0 _ e) (λzz e=>k0 _ e) (λzz e=>k0 _ e) (λzz zz zz e=>k0 _ e) (λzz e=>k0 _ e) (λe=>k0 _ e) e
theorem AO.UZ{o:AO}{d:Bool}{Q:AO->Prop}(e:o.Hk f d=true)(k:∀x,f x=true->Q (.dict x))(k0:∀o,d=true->Q o):Q o:= @AO.casesOn (λo=>o.Hk f d=true->Q o) o (λz z z e=>k0 _ e) (λz z z e=>k0 _ e) k (λz z e=>k0 _ e) (λz z e=>k0 _ e) (λz z e=>k0 _ e) (λz e=>k0 _ e) (λz e=>k0 _ e) (λz e=>k0 _ e) (λz e=>k0 _ e) (λz z z e=>k0 _ e) (λz e=>k0 _ e) (λe=>k0 _ e) e
theorem AO.VW{o:AO}{d:Bool}{Q:AO->Prop}(e:o.M3 f d=true)(k:∀x y,f x y=true->Q (.inst x y))(k0:∀o,d=true->Q o):Q o:= @AO.casesOn (λo=>o.M3 f d=true->Q o) o (λz z z e=>k0 _ e) (λz z z e=>k0 _ e) (λz e=>k0 _ e) k (λz z e=>k0 _ e) (λz z e=>k0 _ e) (λz e=>k0 _ e) (λz e=>k0 _ e) (λz e=>k0 _ e) (λz e=>k0 _ e) (λz z z e=>k0 _ e) (λz e=>k0 _ e) (λe=>k0 _ e) e
theorem AO.Aep{o:AO}{d:Bool}{Q:AO->Prop}(e:o.nI f d=true)(k:∀x y,f x y=true->Q (.exc x y))(k0:∀o,d=true->Q o):Q o:= @AO.casesOn (λo=>o.nI f d=true->Q o) o (λz z z e=>k0 _ e) (λz z z e=>k0 _ e) (λz e=>k0 _ e) (λz z e=>k0 _ e) k (λz z e=>k0 _ e) (λz e=>k0 _ e) (λz e=>k0 _ e) (λz e=>k0 _ e) (λz e=>k0 _ e) (λz z z e=>k0 _ e) (λz e=>k0 _ e) (λe=>k0 _ e) e
theorem AO.AfB{o:AO}{d:Bool}{Q:AO->Prop}(e:o.pO f d=true)(k:∀x y,f x y=true->Q (.old x y))(k0:∀o,d=true->Q o):Q o:= @AO.casesOn (λo=>o.pO f d=true->Q o) o (λz z z e=>k0 _ e) (λz z z e=>k0 _ e) (λz e=>k0 _ e) (λz z e=>k0 _ e) (λz z e=>k0 _ e) k (λz e=>k0 _ e) (λz e=>k0 _ e) (λz e=>k0 _ e) (λz e=>k0 _ e) (λz z z e=>k0 _ e) (λz e=>k0 _ e) (λe=>k0 _ e) e
theorem AO.edI{o:AO}{d:Bool}{Q:AO->Prop}(e:o.edC f d=true)(k:∀x,f x=true->Q (.ed x))(k0:∀o,d=true->Q o):Q o:= @AO.casesOn (λo=>o.edC f d=true->Q o) o (λz z z e=>k0 _ e) (λz z z e=>k0 _ e) (λz e=>k0 _ e) (λz z e=>k0 _ e) (λz z e=>k0 _ e) (λz z e=>k0 _ e) k (λz e=>k0 _ e) (λz e=>k0 _ e) (λz e=>k0 _ e) (λz z z e=>k0 _ e) (λz e=>k0 _ e) (λe=>k0 _ e) e
theorem AO.OS{o:AO}{d:Bool}{Q:AO->Prop}(e:o.Iy f d=true)(k:∀x,f x=true->Q (.frame x))(k0:∀o,d=true->Q o):Q o:= @AO.casesOn (λo=>o.Iy f d=true->Q o) o (λz z z e=>k0 _ e) (λz z z e=>k0 _ e) (λz e=>k0 _ e) (λz z e=>k0 _ e) (λz z e=>k0 _ e) (λz z e=>k0 _ e) (λz e=>k0 _ e) k (λz e=>k0 _ e) (λz e=>k0 _ e) (λz z z e=>k0 _ e) (λz e=>k0 _ e) (λe=>k0 _ e) e
theorem AO.tU{o:AO}{d:Bool}{Q:AO->Prop}(e:o.UK f d=true)(k:∀x,f x=true->Q (.cell x))(k0:∀o,d=true->Q o):Q o:= @AO.casesOn (λo=>o.UK f d=true->Q o) o (λz z z e=>k0 _ e) (λz z z e=>k0 _ e) (λz e=>k0 _ e) (λz z e=>k0 _ e) (λz z e=>k0 _ e) (λz z e=>k0 _ e) (λz e=>k0 _ e) (λz e=>k0 _ e) k (λz e=>k0 _ e) (λz z z e=>k0 _ e) (λz e=>k0 _ e) (λe=>k0 _ e) e
theorem AO.wI{o:AO}{d:Bool}{Q:AO->Prop}(e:o.V5 f d=true)(k:∀x,f x=true->Q (.iter x))(k0:∀o,d=true->Q o):Q o:= @AO.casesOn (λo=>o.V5 f d=true->Q o) o (λz z z e=>k0 _ e) (λz z z e=>k0 _ e) (λz e=>k0 _ e) (λz z e=>k0 _ e) (λz z e=>k0 _ e) (λz z e=>k0 _ e) (λz e=>k0 _ e) (λz e=>k0 _ e) (λz e=>k0 _ e) k (λz z z e=>k0 _ e) (λz e=>k0 _ e) (λe=>k0 _ e) e
theorem AO.z7{o:AO}{d:Bool}{Q:AO->Prop}(e:o.XD f d=true)(k:∀x y z,f x y z=true->Q (.Gr x y z))(k0:∀o,d=true->Q o):Q o:= @AO.casesOn (λo=>o.XD f d=true->Q o) o (λzz zz zz e=>k0 _ e) (λzz zz zz e=>k0 _ e) (λzz e=>k0 _ e) (λzz zz e=>k0 _ e) (λzz zz e=>k0 _ e) (λzz zz e=>k0 _ e) (λzz e=>k0 _ e) (λzz e=>k0 _ e) (λzz e=>k0 _ e) (λzz e=>k0 _ e) k (λzz e=>k0 _ e) (λe=>k0 _ e) e
theorem AO.Zg{o:AO}{d:Bool}{Q:AO->Prop}(e:o.LO f d=true)(k:∀x,f x=true->Q (.Ao x))(k0:∀o,d=true->Q o):Q o:= @AO.casesOn (λo=>o.LO f d=true->Q o) o (λz z z e=>k0 _ e) (λz z z e=>k0 _ e) (λz e=>k0 _ e) (λz z e=>k0 _ e) (λz z e=>k0 _ e) (λz z e=>k0 _ e) (λz e=>k0 _ e) (λz e=>k0 _ e) (λz e=>k0 _ e) (λz e=>k0 _ e) (λz z z e=>k0 _ e) k (λe=>k0 _ e) e
theorem Pk{α:Type}{o:Option α}{x d:Bool}{P:Option α->Prop}(h:nC o x d=true)(k:x=true->P none)(k0:d=true->P o):P o:=match o,h,k0 with
 |some a,h,k0=>k0 h |none,h,_=>k h
theorem Nv{α:Type}{o:Option α}{f:α->Bool}{d:Bool}{P:Option α->Prop}(h:oC o f d=true)(k:∀a,f a=true->P (some a))(k0:d=true->P o):P o:=match o,h,k0 with
 |some a,h,_=>k a h |none,h,k0=>k0 h
section
variable{o:Option AO}{d:Bool}{P:Option AO->Prop}
theorem Qq{f}(e:A7 o f d=true)(k:∀l,f l=true->P (some<|.list none l none))(k0:d=true->P o):P o:=
 Nv (P:=λo=>(d=true->P o)->P o) e (λa e=>AO.listI (Q:=λa=>(d=true->P (some a))->P (some a)) e
  (λx l z e k0=>Pk (P:=λx=>(d=true->P (some<|.list x l z))->P (some<|.list x l z)) e (λe k0=>Pk (P:=λz=>(d=true->P (some<|.list none l z))->P (some<|.list none l z)) e (λe zz=>k l e) (λe k0=>k0 e) k0) (λe k0=>k0 e) k0) (λzz e k0=>k0 e)) (λe k0=>k0 e) k0
theorem tN{f}(e:UB o f d=true)(k:∀l a,f l a=true->P (some<|.list none l<|some a))(k0:d=true->P o):P o:=
 Nv (P:=λo=>(d=true->P o)->P o) e (λa e=>AO.listI (Q:=λa=>(d=true->P (some a))->P (some a)) e
  (λx l z e k0=>Pk (P:=λx=>(d=true->P (some<|.list x l z))->P (some<|.list x l z)) e (λe k0=>Nv (P:=λz=>(d=true->P (some<|.list none l z))->P (some<|.list none l z)) e (λa e zz=>k l a e) (λe k0=>k0 e) k0) (λe k0=>k0 e) k0) (λzz e k0=>k0 e)) (λe k0=>k0 e) k0
theorem f7{f}(e:Fc o f d=true)(k:∀a l,f a l=true->P (some<|.list (some a) l none))(k0:d=true->P o):P o:=
 Nv (P:=λo=>(d=true->P o)->P o) e (λa e=>AO.listI (Q:=λa=>(d=true->P (some a))->P (some a)) e
  (λx l z e k0=>Nv (P:=λx=>(d=true->P (some<|.list x l z))->P (some<|.list x l z)) e (λa e k0=>Pk (P:=λz=>(d=true->P (some<|.list (some a) l z))->P (some<|.list (some a) l z)) e (λe zz=>k a l e) (λe k0=>k0 e) k0) (λe k0=>k0 e) k0) (λzz e k0=>k0 e)) (λe k0=>k0 e) k0
theorem tM{f}(e:KN o f d=true)(k:∀a l,f a l=true->P (some<|.list a l none))(k0:d=true->P o):P o:=
 Nv (P:=λo=>(d=true->P o)->P o) e (λa e=>AO.listI (Q:=λa=>(d=true->P (some a))->P (some a)) e
  (λx l z e k0=>Pk (P:=λz=>(d=true->P (some<|.list x l z))->P (some<|.list x l z)) e (λe zz=>k x l e) (λe k0=>k0 e) k0) (λzz e k0=>k0 e)) (λe k0=>k0 e) k0
theorem f6{f}(e:GH o f d=true)(k:∀l a m,f l a m=true->P (some<|.mid l a m))(k0:d=true->P o):P o:=
 Nv (P:=λo=>(d=true->P o)->P o) e (λa e=>AO.Afs (Q:=λa=>(d=true->P (some a))->P (some a)) e (λx y z e zz=>k x y z e) (λzz e k0=>k0 e)) (λe k0=>k0 e) k0
theorem mY{f}(e:DC o f d=true)(k:∀l,f l=true->P (some<|.dict l))(k0:d=true->P o):P o:=
 Nv (P:=λo=>(d=true->P o)->P o) e (λa e=>AO.UZ (Q:=λa=>(d=true->P (some a))->P (some a)) e (λx e z=>k x e) (λz e k0=>k0 e)) (λe k0=>k0 e) k0
theorem Uy{f}(e:Fh o f d=true)(k:∀c l,f c l=true->P (some<|.inst c l))(k0:d=true->P o):P o:=
 Nv (P:=λo=>(d=true->P o)->P o) e (λa e=>AO.VW (Q:=λa=>(d=true->P (some a))->P (some a)) e (λx y e z=>k x y e) (λz e k0=>k0 e)) (λe k0=>k0 e) k0
theorem UA{f}(e:Jz o f d=true)(k:∀x y,f x y=true->P (some<|.old x y))(k0:d=true->P o):P o:=
 Nv (P:=λo=>(d=true->P o)->P o) e (λa e=>AO.AfB (Q:=λa=>(d=true->P (some a))->P (some a)) e (λx y e z=>k x y e) (λz e k0=>k0 e)) (λe k0=>k0 e) k0
theorem tL{f}(e:KL o f d=true)(k:∀x y,f x y=true->P (some<|.exc x y))(k0:d=true->P o):P o:=
 Nv (P:=λo=>(d=true->P o)->P o) e (λa e=>AO.Aep (Q:=λa=>(d=true->P (some a))->P (some a)) e (λx y e z=>k x y e) (λz e k0=>k0 e)) (λe k0=>k0 e) k0
theorem tK{f}(e:fZ o f d=true)(k:∀x,f x=true->P (some<|.ed x))(k0:d=true->P o):P o:=
 Nv (P:=λo=>(d=true->P o)->P o) e (λa e=>AO.edI (Q:=λa=>(d=true->P (some a))->P (some a)) e (λx e z=>k x e) (λz e k0=>k0 e)) (λe k0=>k0 e) k0
theorem mZ{f}(e:Mr o f d=true)(k:∀x y z,f x y z=true->P (some<|.Gr x y z))(k0:d=true->P o):P o:=
 Nv (P:=λo=>(d=true->P o)->P o) e (λa e=>AO.z7 (Q:=λa=>(d=true->P (some a))->P (some a)) e (λx y z e zz=>k x y z e) (λzz e k0=>k0 e)) (λe k0=>k0 e) k0
theorem HJ{f}(e:BU o f d=true)(k:∀x,f x=true->P (some<|.Ao x))(k0:d=true->P o):P o:=
 Nv (P:=λo=>(d=true->P o)->P o) e (λa e=>AO.Zg (Q:=λa=>(d=true->P (some a))->P (some a)) e (λx e z=>k x e) (λz e k0=>k0 e)) (λe k0=>k0 e) k0
theorem FR{f}(e:Cu o f d=true)(k:∀l,f l=true->P (some<|.frame l))(k0:d=true->P o):P o:=
 Nv (P:=λo=>(d=true->P o)->P o) e (λa e=>AO.OS (Q:=λa=>(d=true->P (some a))->P (some a)) e (λx e z=>k x e) (λz e k0=>k0 e)) (λe k0=>k0 e) k0
theorem mX{f}(e:Ii o f d=true)(k:∀v,f v=true->P (some<|.cell v))(k0:d=true->P o):P o:=
 Nv (P:=λo=>(d=true->P o)->P o) e (λa e=>AO.tU (Q:=λa=>(d=true->P (some a))->P (some a)) e (λx e z=>k x e) (λz e k0=>k0 e)) (λe k0=>k0 e) k0
theorem Uz{f}(e:FT o f d=true)(k:∀v,f v=true->P (some<|.iter v))(k0:d=true->P o):P o:=
 Nv (P:=λo=>(d=true->P o)->P o) e (λa e=>AO.wI (Q:=λa=>(d=true->P (some a))->P (some a)) e (λx e z=>k x e) (λz e k0=>k0 e)) (λe k0=>k0 e) k0
theorem WW(h:A9 x=some s):x=HN s:=by
 unfold A9 at h;cases q:ArX (enL<|deL 99 x) x with
 |true=>rw[q] at h;refine(Ase h)▸?_;exact(ArU q).symm
 |false=>rw[q] at h;exact ns h
theorem HW(hx:A9 x=some s)(hy:A9 y=some s):x=y:=(WW hx).trans (WW hy).symm
end
inductive Fl where
 |next |brk |cont
 |ret(v:AV)
 deriving Inhabited
structure AZ where
 fr:Nat
 cells:List (Nm×Nat)
 deriving Inhabited
inductive Fe where
 |data
 |Ea
 |FF(f:Nat)
abbrev CL:=AV->List AV->St->M AV
def AW{α:Type}(l:List (Nm×α))(x:Nm):Option α:=LR none (λp z ih=>bt (ArX x p.1) (some p.2) ih) l
def AM{α:Type}(l:List (Nm×α))(x:Nm)(v:α):List (Nm×α):=LR [(x,v)] (λp r ih=>bt (ArX x p.1) ((p.1,v)::r) (p::ih)) l
def Rj(σ:St)(a:Nat)(k:K AV)(l:List AV):Nat->Bool:=LR (λz=>true) (λv z ih j=>both (narrow σ a (some (Ar6 j),some (Ar6 j)) (k v)) (ih (j+1))) l
def Xv(a:Nat)(l:List AV)(σ:St)(k:K AV):Bool:=ZY (σ.rg a) (λx y=>bt (Eb x y) (both (EN 0 x) (oS (BI l x.toNat) λv=>k v σ)) (both (both (EN 0 x) (C7 y l.length)) (Rj σ a k l 0))) false
def zO(n:Nat):AV->St->K AV->Bool:=NR (λv σ k=>v.Oo (λz z=>false) (k v σ)) (λz ih v σ k=>v.Oo (λa l=>Xv a l σ λv σ=>ih v σ k) (k v σ)) n
def res:AV->St->K AV->Bool:=zO 3
def QZ(E:AZ)(x:Nm)(σ:St)(k:K AV):Bool:=Cu (σ.obj E.fr) (λm=>oS (AW m x) λv=>k v σ) false
def QY(E:AZ)(x:Nm)(σ:St)(k:K AV):Bool:=oS (AW E.cells x) λc=>Ii (σ.obj c) (λv=>oS v λv=>k v σ) false
def DW(E:AZ)(x:Nm)(v:AV)(σ:St)(k:K Unit):Bool:=Cu (σ.obj E.fr) (λm=>k () (σ.put E.fr (.frame (AM m x v)))) false
def Ha(E:AZ)(x:Nm)(v:AV)(σ:St)(k:K Unit):Bool:=oS (AW E.cells x) λc=>Ii (σ.obj c) (λz=>k () (σ.put c (.cell (some v)))) false
def i8:AV->Nat
 | .AR=>0 | .bool _=>1 | .int _=>2 | .str _=>3 | .BG _=>4 | .Af _=>5 | .obj _=>6 | .Bd _=>7 | .sel .. =>8 | .Ee _=>9 | .any=>10
def Hg(l:List UInt8):List UInt8->Bool:=LR (λm=>LC true (λz z=>false) m) (λa z ih m=>LC false (λb s=>bt (ArX a.toNat b.toNat) (ih s) false) m) l
def eqL(f:AV->AV->St->K Bool->Bool)(l:List AV):List AV->St->K Bool->Bool:=LR
 (λm σ k=>LC (k true σ) (λz z=>k false σ) m)
 (λa z ih m σ k=>LC (k false σ) (λb s=>f a b σ λc σ=>bt c (ih s σ k) (k false σ)) m) l
def Kd(v:AV)(f:Nat->Bool):Bool:=v.Bo (f 0) (v.cInt (λz=>f 2) (v.cStr (λz=>f 3) (v.AU (λz=>f 5) false)))
def FW(a b:AV)(σ:St)(k:K Bool):Bool:=Kd a λi=>Kd b λj=>bt (ArX i j) false (k false σ)
def uI(f:AV->AV->St->K Bool->Bool)(x y:List AV)(σ:St)(k:K Bool):Bool:=bt (ArX x.length y.length) (eqL f x y σ k) (k false σ)
def gN(f:AV->AV->St->K Bool->Bool)(x y:Nat)(σ:St)(k:K Bool):Bool:=
 A7 (σ.obj x) (λl=>A7 (σ.obj y) (λm=>uI f l m σ k) (Fc (σ.obj y) (λz m=>LC (LC false (λz z=>k false σ) m) (λz z=>false) l) false))
 (Fc (σ.obj x) (λz l=>A7 (σ.obj y) (λm=>LC (LC false (λz z=>k false σ) l) (λz z=>false) m) false) false)
def eqA(f:AV->AV->St->K Bool->Bool)(a b:AV)(σ:St)(k:K Bool):Bool:=
 a.Bo (b.Bo (k true σ)<|FW a b σ k)<|
 a.cBool (λx=>b.cBool (λy=>k (x==y) σ) false)<|
 a.cInt (λx=>b.cInt (λy=>isZero (x.sub y) σ k) (FW a b σ k))<|
 a.cStr (λx=>b.cStr (λy=>k (ArX x y) σ) (FW a b σ k))<|
 a.CS (λx=>b.CS (λy=>k (Hg x y) σ) false)<|
 a.AU (λx=>b.AU (λy=>eqL f x y σ k) (FW a b σ k))<|
 a.Ay (λx=>b.Ay (λy=>gN f x y σ k) false) false
def eqZ(_ _:AV)(_:St)(_:K Bool):Bool:=bad "eq fuel"
def eqS(f:AV->AV->St->K Bool->Bool)(a b:AV)(σ:St)(k:K Bool):Bool:=res a σ λa σ=>res b σ λb σ=>eqA f a b σ k
def uJ(n:Nat):AV->AV->St->K Bool->Bool:=NR eqZ (λz f=>eqS f) n
def isNone(a:AV)(σ:St)(k:K Bool):Bool:=res a σ λa σ=>a.Bo (k true σ)<|a.cBool (λz=>k false σ)<|a.cInt (λz=>k false σ)<|a.cStr (λz=>k false σ)<|a.CS (λz=>k false σ)<|a.AU (λz=>k false σ)<|a.Ay (λz=>k false σ)<|a.KO (λz=>k false σ) false
def wB(a b:AV)(σ:St)(k:K Bool):Bool:=b.Bo (isNone a σ k) false
def inL(a:AV)(l:List AV):St->K Bool->Bool:=LR (λσ k=>k false σ) (λb z ih σ k=>uJ 40 b a σ λc σ=>bt c (k true σ) (ih σ k)) l
def Na(a b:AV)(σ:St)(k:K Bool):Bool:=b.cStr (λy=>a.cStr (λx=>k (ArX x y) σ) (a.cInt (λz=>k false σ) false)) (b.cInt (λy=>a.cInt (λx=>isZero (x.sub y) σ k) (a.cStr (λz=>k false σ) false)) false)
def keyOk(i:AV):Bool:=i.cStr (λz=>true) (i.cInt (λz=>true) false)
def nV(i:AV)(l:List (AV×AV)):St->K Bool->Bool:=LR (λσ k=>k false σ) (λp z ih σ k=>Na p.1 i σ λc σ=>bt c (k true σ) (ih σ k)) l
def OW(l:List (AV×AV))(i:AV)(σ:St)(k:K Bool):Bool:=both (keyOk i) (nV i l σ k)
noncomputable def keysOf:List (AV×AV)->List AV
 | []=>[] |(a,_)::r=>a::keysOf r
structure Tab where
 init:Nat->Option Nat
 isExc:Nat->Bool
 attr:Nat->Nm->Option Fe
 UJ:Nat->Nm->Option Nat
 FP:Nat->Option (List<|AV×AV)
 sum:Nat->List AV->St->K AV->Option Bool
 P5:Nat->Nat->Bool
 loop:Nat->AZ->St->Option (M Unit)
 dc:Nat->Bool
 enc:Nm->Option (List UInt8)
 ch:Nm->Nat->Option Nm
 whole:AV
 Di:Nm
 S9:Nm
 EV:Nm
 GZ:Nm
 EU:Nm
 Kh:Nm
 GY:Nm
noncomputable def eD(f:Ar0->Bool)(v:ArR):Bool:=match v with | .ref a=>f a |_=>false
def iD(T:Tab)(a b:AV)(σ:St)(k:K Bool):Bool:=
 b.AU (λl=>inL a l σ k)<|
 b.Ay (λi=>A7 (σ.obj i) (λl=>inL a l σ k) (DC (σ.obj i) (λl=>OW l a σ k) false))<|
 b.AL (eD λd=>oS (T.FP d) λl=>OW l a σ k) false
def M1(T:Tab)(a b:AV)(σ:St)(k:K Bool):Bool:=res a σ λa σ=>res b σ λb σ=>iD T a b σ k
def two(a b:AV)(σ:St)(f:Ad->Ad->St->Bool):Bool:=res a σ λa σ=>res b σ λb σ=>a.cInt (λx=>b.cInt (λy=>f x y σ) false) false
def neg(k:K Bool):K Bool:=λc σ=>k (!c) σ
def CV(T:Tab)(op:CmpOp)(a b:AV)(σ:St)(k:K Bool):Bool:=match op with
 | .Eq=>uJ 40 a b σ k | .NotEq=>uJ 40 a b σ (neg k) | .Lt=>two a b σ λx y σ=>isNeg (x.sub y) σ k | .Gt=>two a b σ λx y σ=>isNeg (y.sub x) σ k | .LtE=>two a b σ λx y σ=>isNeg (y.sub x) σ (neg k) | .GtE=>two a b σ λx y σ=>isNeg (x.sub y) σ (neg k) | .Is=>wB a b σ k | .IsNot=>wB a b σ (neg k) | .In=>M1 T a b σ k | .NotIn=>M1 T a b σ (neg k)
noncomputable def d5(a:Int):Nat->Int
 |0=>1 |n+1=>a*d5 a n
noncomputable def rep{α:Type}(l:List α):Nat->List α
 |0=>[] |n+1=>l++rep l n
def small(n:Int):Bool:=both (EN 0 n) (C7 n 1000)
def newObj(o:AO)(σ:St)(k:K AV):Bool:=k (.obj σ.n) (σ.new o)
def B5{α:Type}(l:List α):Nat:=LR 0 (λz z n=>Auv n) l
def fits{α:Type}(l:List α):Bool:=AsO (B5 l) 4000
def newList(l:List AV)(σ:St)(k:K AV):Bool:=both (fits l) (newObj (.list none l none) σ k)
def B6(l:List AV)(σ:St)(k:K AV):Bool:=both (fits l) (k (.Af l) σ)
def word(c:Int):Bool:=both (C7 (-4611686018427387904) c) (C7 c 4611686018427387904)
def yO(x y:Ad)(σ:St)(k:K AV):Bool:=Dw y.t (both (word y.c) (Dw x.t (k (.int (.k (Awb x.c y.c))) σ) (k (.int (x.mul y.c)) σ))) (Dw x.t (both (word x.c) (k (.int (y.mul x.c)) σ)) false)
def uE(x y:Ad)(σ:St)(k:K AV):Bool:=Dw x.t (Dw y.t (both (both (C7 0 y.c) (C7 y.c 1073741824)) (k (.int (.k (AvZ x.c y.c))) σ)) false) false
def yM(x y:Ad)(σ:St)(k:K AV):Bool:=Dw y.t (both (C7 0 y.c) (Dw x.t (k (.int (.k (Av1 x.c y.c))) σ) (ZY (x.range σ) (λlo hi=>both (both (EN 0 lo) (C7 hi y.c)) (k (.int x) σ)) false))) false
def y8(x y:Ad)(σ:St)(k:K AV):Bool:=Dw x.t (Dw y.t (both (both (C7 0 x.c) (both (C7 x.c 100) (small y.c))) (k (.int (.k (d5 x.c y.c.toNat))) σ)) false) false
def binI(op:AxR)(x y:Ad)(σ:St)(k:K AV):Bool:=match op with
 | .Add=>k (.int (x.add y)) σ | .Sub=>k (.int (x.sub y)) σ | .Mult=>yO x y σ k | .FloorDiv=>uE x y σ k | .Mod=>yM x y σ k | .Pow=>y8 x y σ k |_=>bad "int op"
def sR(x y:Nat)(σ:St)(k:K AV):Bool:=A7 (σ.obj x) (λl=>A7 (σ.obj y) (λm=>newList (l++m) σ k) false) false
def dP(x:Nat)(y:Ad)(σ:St)(k:K AV):Bool:=A7 (σ.obj x) (λl=>F1 y σ λn σ=>both (small n) (newList (rep l n.toNat) σ k)) false
def tI(op:AxR)(a b:AV)(σ:St)(k:K AV):Bool:=
 a.cInt (λx=>b.cInt (λy=>binI op x y σ k) false)<|
 a.AU (λx=>match op with | .Add=>b.AU (λy=>B6 (x++y) σ k) false |_=>false)<|
 a.Ay (λx=>match op with | .Add=>b.Ay (λy=>sR x y σ k) false | .Mult=>b.cInt (λy=>dP x y σ k) false |_=>false) false
def binOp(op:AxR)(a b:AV)(σ:St)(k:K AV):Bool:=res a σ λa σ=>res b σ λb σ=>tI op a b σ k
def truth(v:AV)(σ:St)(k:K Bool):Bool:=res v σ λv σ=>v.cBool (λb=>k b σ) (v.Bo (k false σ) false)
def place(n:Nat)(i:Int):Option Nat:=bt (both (EN (-4000) i) (EN i 4000)) (bt (C7 i 0) (bt (C7 (i+n) 0) none (some (i+n).toNat)) (bt (C7 i n) (some i.toNat) none)) none
def clip(n d:Nat)(v:Option Int):Nat:=OR d (λi=>bt (C7 i 0) (i+n).toNat (bt (C7 i n) i.toNat n)) v
def cut{α:Type}(l:List α)(a b:Option Int):List α:=
 (l.drop<|clip l.length 0 a).take (clip l.length l.length b-clip l.length 0 a)
def My(l:List (AV×AV))(i:AV):St->K AV->Bool:=LR (λz z=>bad "key") (λp z ih σ k=>Na p.1 i σ λc σ=>bt c (k p.2 σ) (ih σ k)) l
def I7(l:List AV)(x:Ad)(σ:St)(k:K AV):Bool:=F1 x σ λx σ=>oS (place l.length x) λj=>oS (BI l j) λv=>k v σ
def xU(l:List AV)(x:Ad)(a:Nat)(f:Int)(σ:St)(k:K AV):Bool:=ZY (σ.rg a) (λlo hi=>bt (both (Eb f 1) (both (EN 0 lo) (both (C7 hi l.length) (both (EN hi 4000) (!(Eb lo hi)))))) (k (.sel a l) σ) (I7 l x σ k)) (I7 l x σ k)
def IL(l:List AV)(x:Ad)(σ:St)(k:K AV):Bool:=Xe x.t (λa f=>bt (Eb x.c 0) (xU l x a f σ k) (I7 l x σ k)) (I7 l x σ k)
def u6(l:List UInt8)(x:Ad)(σ:St)(k:K AV):Bool:=F1 x σ λx σ=>oS (place l.length x) λj=>oS (BI l j) λv=>k (.int (.k (Ar6 v.toNat))) σ
def OU(l:List AV)(x:Ad)(σ:St)(k:K AV):Bool:=F1 x σ λx σ=>both (both (EN 0 x) (EN x 4000)) (oS (BI l x.toNat) λv=>k v σ)
def VB(l:List AV)(x:Ad)(σ:St)(k:K AV):Bool:=F1 x σ λx σ=>both (both (C7 x 0) (both (EN (-x) l.length) (EN (-4000) x))) (oS (BI l (x+l.length).toNat) λv=>k v σ)
def QN(p:Nat)(x:Ad)(f:Nat->Bool)(d:Bool):Bool:=Xe x.t (λq g=>bt (both (ArX q p) (both (Eb g 1) (EN 0 x.c))) (f x.c.toNat) d) d
def BY(σ:St)(p:Option Nat):Bool:=oC p (λa=>oS (σ.rg a).2 λy=>EN y 1000000) true
def getM(l:List AV)(p:Nat)(m:List AV)(x:Ad)(σ:St)(k:K AV):Bool:=QN p x (λn=>both (both (both (fits l) (fits m)) (BY σ (some p))) (both (EN l.length (Ar6 n)) (oS (BI m (n-l.length)) λv=>k v σ))) (OU l x σ k)
def u7(j:Nat)(i:AV)(σ:St)(k:K AV):Bool:=
 A7 (σ.obj j) (λl=>i.cInt (λx=>IL l x σ k) false)<|
 UB (σ.obj j) (λl z=>i.cInt (λx=>OU l x σ k) false)<|
 Fc (σ.obj j) (λz l=>i.cInt (λx=>VB l x σ k) false)<|
 GH (σ.obj j) (λl p m=>i.cInt (λx=>getM l p m x σ k) false)<|
 DC (σ.obj j) (λl=>My l i σ k) false
def vA(T:Tab)(s:Nm)(x:Ad)(σ:St)(k:K AV):Bool:=Dw x.t (both (EN 0 x.c) (oS (T.ch s x.c.toNat) λy=>k (.str y) σ)) false
def u9(T:Tab)(x:Ad)(σ:St)(k:K AV):Bool:=Dw x.t (both (Eb x.c 1) (k T.whole σ)) false
def vB(T:Tab)(o i:AV)(σ:St)(k:K AV):Bool:=
 o.AU (λl=>i.cInt (λx=>IL l x σ k) false)<|
 o.CS (λl=>i.cInt (λx=>u6 l x σ k) false)<|
 o.Ay (λj=>u7 j i σ k)<|
 o.AL (eD λd=>oS (T.FP d) λl=>My l i σ k)<|
 o.cStr (λs=>i.cInt (λx=>vA T s x σ k) false)<|
 o.KO (λz=>i.cInt (λx=>u9 T x σ k) false) false
def Sz(T:Tab)(o i:AV)(σ:St)(k:K AV):Bool:=res o σ λo σ=>res i σ λi σ=>vB T o i σ k
def I6(v:AV)(σ:St)(k:K (Option Int)):Bool:=res v σ λv σ=>v.Bo (k none σ) (v.cInt (λx=>F1 x σ λx σ=>k (some x) σ) false)
def nA(p:Nat)(l:List AV)(lo hi:AV)(σ:St)(k:K AV):Bool:=
 lo.cInt (λx=>hi.Bo (QN p x (λn=>newList (l.drop n) σ k) false) false)<|
 lo.Bo (hi.cInt (λx=>QN p x (λn=>newObj (.list (some p) (l.take n) none) σ k) false) false) false
def uA(j:Nat)(lo hi:AV)(σ:St)(k:K AV):Bool:=
 A7 (σ.obj j) (λl=>I6 lo σ λa σ=>I6 hi σ λb σ=>both (fits l) (newList (cut l a b) σ k))<|
 Fc (σ.obj j) (λp l=>both (both (fits l)<|BY σ<|some p) (res lo σ λlo σ=>res hi σ λhi σ=>nA p l lo hi σ k)) false
def uB(o lo hi:AV)(σ:St)(k:K AV):Bool:=
 o.AU (λl=>I6 lo σ λa σ=>I6 hi σ λb σ=>both (fits l) (B6 (cut l a b) σ k))<|
 o.CS (λl=>I6 lo σ λa σ=>I6 hi σ λb σ=>both (fits l) (k (.BG<|cut l a b) σ))<|
 o.Ay (λj=>uA j lo hi σ k) false
def z6(o:AV)(σ:St)(k:K AV):Bool:=o.Ay (λj=>A7 (σ.obj j) (λl=>newList l.reverse σ k) false) false
def wA(v:AV):Bool:=v.cInt (λx=>Dw x.t (Eb x.c (-1)) false) false
def QD(o lo hi st:AV)(σ:St)(k:K AV):Bool:=res o σ λo σ=>st.Bo (uB o lo hi σ k) (both (wA st) (lo.Bo (hi.Bo (z6 o σ k) false) false))
def Su(i v:AV)(done:List (AV×AV))(j:Nat):List (AV×AV)->St->K Unit->Bool
 | [],σ,k=>k () (σ.put j (.dict (done++ [(i,v)]))) |p::r,σ,k=>Na p.1 i σ λc σ=>bt c (k () (σ.put j (.dict (done++(p.1,v)::r)))) (Su i v (done++ [p]) j r σ k)
def G7(j:Nat)(i v:AV)(σ:St)(k:K Unit):Bool:=
 A7 (σ.obj j) (λl=>i.cInt (λx=>F1 x σ λx σ=>both (EN 0 x) (oS (place l.length x) λn=>k () (σ.put j<|.list none (LK l v n) none))) false)<|
 DC (σ.obj j) (λl=>both (both (keyOk i)<|AsO l.length 1000) (Su i v [] j l σ k)) false
def TC(o i v:AV)(σ:St)(k:K Unit):Bool:=res o σ λo σ=>res i σ λi σ=>o.Ay (λj=>G7 j i v σ k) false
noncomputable def yU(v:ArR):Bool:=match v with | .builtin _=>false |_=>true
def gZ(v:AV):Bool:= @AV.casesOn (λz=>Bool) v true (λz=>true) (λz=>true) (λz=>true) (λz=>true) (λz=>true) (λz=>true) yU (λz z=>false) (λz=>true) false
def QG(n:Nat):AV->Bool:=NR (λz=>false) (λz ih v=>v.Oo (λz l=>LR true (λv z VS=>both (ih v) VS) l) (gZ v)) n
def isData(a:Option Fe)(f:Bool):Bool:=oS a λa=> @Fe.casesOn (λz=>Bool) a f false (λz=>false)
def Lf(a:Option Fe)(f:Bool):Bool:=oS a λa=> @Fe.casesOn (λz=>Bool) a false f (λz=>false)
def O4(a:Option Fe)(f:Nat->Bool):Bool:=oS a λa=> @Fe.casesOn (λz=>Bool) a false false f
def MN(l:List (Nm×AV))(x:Nm)(σ:St)(k:K AV):Bool:=oS (AW l x) λv=>both (QG 4 v) (k v σ)
def VA(T:Tab)(o:AV)(x:Nm)(σ:St)(k:K AV):Bool:=res o σ λo σ=>o.Ay (λj=>
 Fh (σ.obj j) (λC l=>bt (isData (T.attr C x) true) (MN l x σ k) (O4 (T.attr C x) λz=>nC (AW l x) (newObj .dead σ k) false))<|
 Jz (σ.obj j) (λC d=>Lf (T.attr C x) (oS d λd=>fZ (σ.obj d) (λl=>MN l x σ k) false)) false) false
def Y7(T:Tab)(o:AV)(x:Nm)(v:AV)(σ:St)(k:K Unit):Bool:=res o σ λo σ=>o.Ay (λj=>
 Fh (σ.obj j) (λC l=>isData (T.attr C x) (both (AsO (B5 l) 900)<|k ()<|σ.put j<|.inst C<|AM l x v))<|
 KL (σ.obj j) (λC d=>Lf (T.attr C x) (oC d (λd=>fZ (σ.obj d) (λl=>both (AsO (B5 l) 900) (k ()<|σ.put d<|.ed<|AM l x v)) false)<|k ()<|(σ.new<|.ed [(x,v)]).put j<|.exc C<|some σ.n)) false) false
def near(a:Int):Bool:=both (EN (-1000000) a) (EN a 1000000)
def XC(a b s:Int):Bool:=both (near a) (both (near b) (both (near s) (!(Eb s 0))))
noncomputable def itC{α:Type}(it:It)(s:List AV->α)(l:Nat->Nat->α)(r:Int->Int->Int->α)(e:Nat->Int->α)(z:Nat->Nat->α):α:= @It.casesOn (λzz=>α) it s l r e z
def A4(v:AV)(σ:St)(k:K Nat):Bool:=res v σ λv σ=>
 v.AU (λl=>k σ.n (σ.new<|.iter<|.seq l))<|
 v.Ay (λj=>A7 (σ.obj j) (λz=>k σ.n (σ.new<|.iter<|.lst j 0))<|
  Mr (σ.obj j) (λa b s=>both (XC a b s) (k σ.n<|σ.new<|.iter<|.rng a b s))<|
  FT (σ.obj j) (λit=>itC it (λz=>false) (λz z=>false) (λz z z=>false) (λz z=>k j σ) (λz z=>k j σ)) false) false
def WT(j:Nat)(l:List AV)(σ:St)(k:K (Option AV)):Bool:=LC (k none (σ.put j .dead)) (λv r=>k (some v) (σ.put j (.iter (.seq r)))) l
def WR(j s n:Nat)(σ:St)(k:K (Option AV)):Bool:=A7 (σ.obj s) (λl=>OR (k none (σ.put j .dead)) (λv=>k (some v) (σ.put j (.iter (.lst s (n+1))))) (BI l n)) false
def iS(j:Nat)(c e s:Int)(σ:St)(k:K (Option AV)):Bool:=bt (bt (C7 0 s) (C7 c e) (C7 e c)) (k (some (.int (.k c))) (σ.put j (.iter (.rng (c+s) e s)))) (k none σ)
def Q4(j:Nat)(σ:St)(k:K (Option AV)):Bool:=FT (σ.obj j) (λit=>itC it (λl=>WT j l σ k) (λs n=>WR j s n σ k) (λz z z=>false) (λz z=>false) (λz z=>false)) false
def iR(j i:Nat)(n:Int)(σ:St)(k:K (Option AV)):Bool:=Q4 i σ λr σ=>OR (k none (σ.put j .dead)) (λv=>k (some (.Af [.int (.k n),v])) (σ.put j (.iter (.Vc i (n+1))))) r
def iT(j a b:Nat)(σ:St)(k:K (Option AV)):Bool:=Q4 a (σ.put j .dead) λr σ=>OR (k none (σ.put j .dead)) (λv=>Q4 b (σ.put j .dead) λr σ=>OR (k none (σ.put j .dead)) (λu=>k (some (.Af [v,u])) (σ.put j (.iter (.zip a b)))) r) r
def nextOf(own:Bool)(j:Nat)(σ:St)(k:K (Option AV)):Bool:=FT (σ.obj j) (λit=>itC it (λl=>WT j l σ k) (λs n=>WR j s n σ k) (λc e s=>iS j c e s σ k)
 (λi n=>both own (iR j i n σ k)) (λa b=>both (both own<|both (!(ArX a j))<|!(ArX b j)) (iT j a b σ k))) false
noncomputable def ON:Nat:=64
def turned(f:Fl)(k:K Fl)(go:St->Bool)(σ:St):Bool:=match f with
 | .brk=>k .next σ
 | .ret v=>k (.ret v) σ |_=>go σ
def BB(own:Bool)(turn:AV->St->M Fl)(j:Nat)(n:Nat):St->M Fl:=NR (λz z z=>bad "loop lim")
 (λz ih σ k ke=>nextOf own j σ λr σ=>OR (k .next σ) (λv=>turn v σ (λf σ=>turned f k (λσ=>ih σ k ke) σ) ke) r) n
def BJ(i:Nat)(v:AV)(σ:St)(k:K Unit):Bool:=
 KN (σ.obj i) (λp l=>both (both (fits l)<|BY σ p) (k ()<|σ.put i<|.list p (l++ [v]) none))<|
 GH (σ.obj i) (λl p m=>both (both (both (fits l)<|fits m)<|BY σ<|some p) (k ()<|σ.put i<|.mid l p<|m++ [v])) false
def putD(j:Nat)(i v:AV)(σ:St)(k:K Unit):Bool:=res i σ λi σ=>DC (σ.obj j) (λl=>both (both (keyOk i) (AsO l.length 1000)) (Su i v [] j l σ k)) false
def EF(i:Nat):List (AV×AV)->St->K Unit->Bool
 | [],σ,k=>k () σ |(a,v)::r,σ,k=>putD i a v σ λz σ=>EF i r σ k
def qT(v:AV):Option (List AV):= @AV.casesOn (λz=>Option (List AV)) v none (λz=>none) (λz=>none) (λz=>none) (λz=>none) some (λz=>none) (λz=>none) (λz z=>none) (λz=>none) none
def K9(l:List AV):Option (List AV×List AV):=LR (some ([],[])) (λv z ih=>OR none (LC none λa r=>OR none (λp=>some (a::p.1,.Af r::p.2)) ih) (qT v)) l
def Uh(l:List AV):Bool:=LR true (λv z ih=>oS (qT v) λt=>Dw t ih false) l
def Jf(a n:Nat):List AV->Option (List AV):=NR (λl=>bt (Uh l) (some []) none) (λz ih l=>OR none (λp=>OR none (λr=>some (.sel a p.1::r)) (ih p.2)) (K9 l)) n
def unp(v:AV)(σ:St)(f:List AV->St->Bool):Bool:=v.AU (λl=>f l σ) (v.Ay (λj=>A7 (σ.obj j) (λl=>f l σ) false) false)
def L9(n:Nat)(v:AV)(σ:St)(f:List AV->St->Bool):Bool:=v.Oo (λa l=>oC (Jf a n l) (λvs=>f vs σ) (res v σ λv σ=>unp v σ f)) (unp v σ f)
def idx(l:List AV)(y:Ad):Nat->St->K AV->Bool:=LR (λz z z=>false) (λa z ih n σ k=>a.cInt (λx=>isZero (x.sub y) σ λc σ=>bt c (k (.int (.k (Ar6 n))) σ) (ih (n+1) σ k)) false) l
def Ug(l:List AV):Bool:=LR true (λa z ih=>a.cInt (λz=>ih) false) l
def cT(l:List AV)(v:AV)(σ:St)(k:K AV):Bool:=both (both (fits l) (Ug l)) (res v σ λv σ=>v.cInt (λy=>idx l y 0 σ k) false)
def d3(j:Nat)(σ:St)(k:K AV):Bool:=KN (σ.obj j) (λp l=>both (both (fits l) (BY σ p)) (LC false (λv r=>k v (σ.put j (.list p r.reverse none))) l.reverse)) false
def bN(j i:Nat)(σ:St)(k:K AV):Bool:=KN (σ.obj j) (λp l=>A7 (σ.obj i) (λm=>both (both (fits (l++m)) (BY σ p)) (k .AR (σ.put j (.list p (l++m) none)))) false) false
inductive MK where
 |fn(f:Nat)(self:Bool)
 |pop |app |ext |exc |enc |idx
def gP(T:Tab)(j:Nat)(x:Nm)(σ:St)(f:MK->Bool):Bool:=
 Fh (σ.obj j) (λC l=>O4 (T.attr C x) λg=>nC (AW l x) (f<|.fn g true) false)<|
 GH (σ.obj j) (λz z z=>both (ArX x T.Di) (f .app))<|
 oC (σ.obj j) (λo=>o.Ed (λz z z=>bt (ArX x T.S9) (f .pop) (bt (ArX x T.Di) (f .app)<|both (ArX x T.EV)<|f .ext)) false) false
noncomputable def AaE(f:String->Bool)(v:ArR):Bool:=match v with | .type t=>f t |_=>false
def gQ(T:Tab)(x:Nm)(f:MK->Bool)(v:ArR):Bool:=bt (eD (λC=>oS (T.UJ C x) λg=>f (.fn g false)) v) true (AaE (λt=>both (both (ArX x T.Kh) (t=="Exception")) (f .exc)) v)
def Vt(T:Tab)(o:AV)(x:Nm)(σ:St)(f:MK->Bool):Bool:=
 o.Ay (λj=>gP T j x σ f)<|
 o.AL (gQ T x f)<|
 o.cStr (λz=>both (ArX x T.EU) (f .enc))<|
 o.AU (λz=>both (ArX x T.GZ) (f .idx)) false
def HP(j:Nat)(σ:St)(k:K AV):Bool:=KL (σ.obj j) (λC l=>k .AR (σ.put j (.exc C l))) false
def FG{α:Type}(l:List α)(f:α->Bool):Bool:=LC false (λa r=>Dw r (f a) false) l
def AaD{α:Type}(l:List α)(f:α->Bool):Bool:=LC false (λa r=>FG r λz=>f a) l
def JT(T:Tab)(cl:CL)(m:MK)(o:AV)(vs:List AV)(σ:St):M AV:=λk ke=>match m with
 | .fn g self=>cl (.Bd (.ref g)) (bt self (o::vs) vs) σ k ke | .pop=>o.Ay (λj=>Dw vs (d3 j σ k) false) false | .app=>o.Ay (λj=>FG vs λv=>BJ j v σ λz σ=>k .AR σ) false | .ext=>o.Ay (λj=>FG vs λv=>v.Ay (λi=>bN j i σ k) false) false
 | .exc=>AaD vs λa=>a.Ay (λj=>HP j σ k) false | .enc=>o.cStr (λs=>FG vs λe=>e.cStr (λe=>both (ArX e T.GY) (oS (T.enc s) λb=>k (.BG b) σ)) false) false | .idx=>o.AU (λl=>FG vs λv=>cT l v σ k) false
def St.lower(σ:St):St:=match σ with
 |⟨n,objs,k,rng,neg,BM,A8,_⟩=>⟨n,objs,k,rng,neg,BM,A8,n⟩
def forget(f:St->M AV)(σ:St)(k:K AV):Bool:=both (f σ.lower (λz σ'=>ArX σ'.A8 σ.A8) (λz z=>bad "forget: raises")) (k .any σ)
def bP(f:St->M AV)(σ:St)(k:K AV):Bool:=both (f σ.lower (λv σ'=>v.cBool (λz=>ArX σ'.A8 σ.A8) false) (λz z=>bad "forget: raises")) (k (.sel σ.k [.bool false,.bool true]) (σ.atom (some 0,some 1)))
theorem QM{f:Bool}(h:isData a f=true):a=some .data∧f=true:=Cp h λa e h=>by
 induction a with
 |data=>exact⟨e,h⟩
 |_=>exact ff h
theorem M4{f:Bool}(h:Lf a f=true):a=some .Ea∧f=true:=Cp h λa e h=>by
 induction a with
 |Ea=>exact⟨e,h⟩
 |_=>exact ff h
theorem QP{P:Prop}(h:O4 a f=true)(k:∀g,a=some (.FF g)->f g=true->P):P:=Cp h λa e h=>by
 induction a with
 |FF g=>exact k g e h
 |_=>exact ff h
structure CX where
 T:Tab
 cl:CL
abbrev Cd:=CX->AZ->St->M AV
abbrev Cb:=CX->AZ->St->M Bool
abbrev Ct:=CX->AZ->AV->St->M Unit
abbrev Cs:=CX->AZ->St->M Fl
def R4:Cd:=λz z z z z=>bad "code"
def R5:Ct:=λz z z z z z=>bad "target"
def CA(v:AV):Cd:=λz z σ k z=>k v σ
def x8(x:Nm):Cd:=λz E σ k z=>QZ E x σ k
def tS(x:Nm):Cd:=λz E σ k z=>QY E x σ k
def tH(op:AxR)(a b:Cd):Cd:=λX E σ k ke=>a X E σ (λx σ=>b X E σ (λy σ=>binOp op x y σ k) ke) ke
def yV(a:Cd):Cd:=λX E σ k ke=>a X E σ (λv σ=>truth v σ λc σ=>k (.bool (!c)) σ) ke
def WN(v:AV)(σ:St)(k:K AV):Bool:=res v σ λv σ=>v.cInt (λl=>k (.int l.neg) σ) false
def yQ(a:Cd):Cd:=λX E σ k ke=>a X E σ (λv σ=>WN v σ k) ke
def wG(t:Cb)(a b:Cd):Cd:=λX E σ k ke=>t X E σ (λc σ=>bt c (a X E σ k ke) (b X E σ k ke)) ke
def Md(X:CX)(E:AZ)(l:List Cd):St->M (List AV):=LR (λσ k z=>k [] σ)
 (λa z ih σ k ke=>a X E σ (λv σ=>ih σ (λvs σ=>k (v::vs) σ) ke) ke) l
def KZ(X:CX)(E:AZ):List Cd->List Cd->St->M (List (AV×AV))
 | [],[],σ,k,_=>k [] σ |a::ks,b::vs,σ,k,ke=>a X E σ (λa σ=>b X E σ (λb σ=>KZ X E ks vs σ (λr σ=>k ((a,b)::r) σ) ke) ke) ke |_,_,_,_,_=>bad "dict display"
def Hk(ks vs:List Cd):Cd:=λX E σ k ke=>both (AsO (B5 vs) 15)<|KZ X E ks vs (σ.new (.dict [])) (λps σ'=>EF σ.n ps σ' λz σ'=>k (.obj σ.n) σ') ke
def Ed(l:List Cd):Cd:=λX E σ k ke=>Md X E l σ (λl σ=>newList l σ k) ke
def AaA(l:List Cd):Cd:=λX E σ k ke=>Md X E l σ (λl σ=>B6 l σ k) ke
def NS(op:BoolOp)(c:Bool):Bool:=match op with | .And=>bt c false true | .Or=>c
def JQ(op:BoolOp):List Cd->Cd
 | []=>R4
 |a::r=>match r with
  | []=>a |_=>λX E σ k ke=>a X E σ (λv σ=>truth v σ λc σ=>bt (NS op c) (k v σ) (JQ op r X E σ k ke)) ke
def B3(X:CX)(E:AZ)(a:AV):List CmpOp->List Cd->St->M Bool
 | [],_,_,_,_=>bad "chain"
 |op::ops,bs,σ,k,ke=>match bs with
  | []=>bad "chain"
  |b::bs=>b X E σ (λb σ=>match ops with
   | []=>(match bs with | []=>CV X.T op a b σ k |_=>bad "chain")
   |_=>CV X.T op a b σ λc σ=>bt c (B3 X E b ops bs σ k ke) (k false σ)) ke
def t7(a:Cd)(ops:List CmpOp)(bs:List Cd):Cd:=λX E σ k ke=>a X E σ (λa σ=>B3 X E a ops bs σ (λc σ=>k (.bool c) σ) ke) ke
def callC(f:Cd)(args:List Cd):Cd:=λX E σ k ke=>f X E σ (λf σ=>Md X E args σ (λvs σ=>X.cl f vs σ k ke) ke) ke
def iP(o:Cd)(x:Nm)(args:List Cd):Cd:=λX E σ k ke=>o X E σ (λo σ=>res o σ λo σ=>Vt X.T o x σ λm=>Md X E args σ (λvs σ=>JT X.T X.cl m o vs σ k ke) ke) ke
def fV(o:Cd)(x:Nm):Cd:=λX E σ k ke=>o X E σ (λo σ=>VA X.T o x σ k) ke
def Aaj(o i:Cd):Cd:=λX E σ k ke=>o X E σ (λo σ=>i X E σ (λi σ=>Sz X.T o i σ k) ke) ke
def Aag(o a b c:Cd):Cd:=λX E σ k ke=>o X E σ (λo σ=>a X E σ (λa σ=>b X E σ (λb σ=>c X E σ (λc σ=>QD o a b c σ k) ke) ke) ke) ke
def iN(n:Nat)(e:Cd):Cd:=λX E σ k ke=>bt (X.T.dc n) (bt (AsO 2000 n) (bP (e X E) σ k) (forget (e X E) σ k)) (e X E σ k ke)
def yT(a:Cb):Cb:=λX E σ k ke=>a X E σ (neg k) ke
def wF(t a b:Cb):Cb:=λX E σ k ke=>t X E σ (λc σ=>bt c (a X E σ k ke) (b X E σ k ke)) ke
def allB(op:BoolOp):List Cb->Cb
 | []=>λz z σ k z=>k (match op with | .And=>true | .Or=>false) σ |a::r=>λX E σ k ke=>a X E σ (λc σ=>bt (NS op c) (k c σ) (allB op r X E σ k ke)) ke
def t6(a:Cd)(ops:List CmpOp)(bs:List Cd):Cb:=λX E σ k ke=>a X E σ (λa σ=>B3 X E a ops bs σ k ke) ke
def AaG(a:Cd):Cb:=λX E σ k ke=>a X E σ (λv σ=>truth v σ k) ke
def S7(x:Nm):Ct:=λz E v σ k z=>DW E x v σ k
def tT(x:Nm):Ct:=λz E v σ k z=>Ha E x v σ k
def fW(o:Cd)(x:Nm):Ct:=λX E v σ k ke=>o X E σ (λo σ=>Y7 X.T o x v σ k) ke
def Aal(o i:Cd):Ct:=λX E v σ k ke=>o X E σ (λo σ=>i X E σ (λi σ=>TC o i v σ k) ke) ke
def R1(X:CX)(E:AZ):List Ct->List AV->St->M Unit
 | [],[],σ,k,_=>k () σ |t::ts,v::vs,σ,k,ke=>t X E v σ (λz σ=>R1 X E ts vs σ k ke) ke |_,_,_,_,_=>bad "unpack number"
def ZA(ts:List Ct):Ct:=λX E v σ k ke=>L9 ts.length v σ λl σ=>both (ArX ts.length l.length) (R1 X E ts l σ k ke)
def Gx(X:CX)(E:AZ)(t:Ct)(ifs:List Cb)(emit:St->M Unit)(v:AV)(σ:St):M Fl:=λk ke=>
 t X E v σ (λz σ=>allB .And ifs X E σ (λc σ=>bt c (emit σ (λz σ=>k .next σ) ke) (k .next σ)) ke) ke
def MD(f:Nat)(σ:St)(k:St->Bool):Bool:=Cu (σ.obj f) (λz=>k (σ.put f .dead)) false
def gF(own:Bool)(elt:Cd)(t:Ct)(it:Cd)(ifs:List Cb):Cd:=λX E σ k ke=>it X E σ (λx σ=>A4 x σ λj σ=>
 BB own (Gx X ⟨σ.n+1,E.cells⟩ t ifs (λσ' k' ZW=>elt X ⟨σ.n+1,E.cells⟩ σ' (λv σ'=>BJ σ.n v σ' k') ZW)) j ON
  ((σ.new<|.list none [] none).new<|.frame []) (λz σ'=>MD (σ.n+1) σ' λσ'=>k (.obj σ.n) σ') (λe σ'=>MD (σ.n+1) σ' λσ'=>ke e σ')) ke
def UP(own Pz:Bool)(elt:Cd)(t:Ct)(it:Cd)(t2:Ct)(it2:Cd):Cd:=λX E σ k ke=>it X E σ (λx σ=>A4 x σ λj σ=>
 BB own (Gx X ⟨σ.n+1,E.cells⟩ t [] (λσ' k' ZW=>it2 X ⟨σ.n+1,E.cells⟩ σ' (λx σ'=>A4 x σ' λi σ'=>
   BB Pz (Gx X ⟨σ.n+1,E.cells⟩ t2 [] (λσ' k' ZW=>elt X ⟨σ.n+1,E.cells⟩ σ' (λv σ'=>BJ σ.n v σ' k') ZW)) i ON σ' (λz σ'=>k' () σ') ZW) ZW)) j ON
  ((σ.new<|.list none [] none).new<|.frame []) (λz σ'=>MD (σ.n+1) σ' λσ'=>k (.obj σ.n) σ') (λe σ'=>MD (σ.n+1) σ' λσ'=>ke e σ')) ke
def gO(e:Cd):Cs:=λX E σ k ke=>e X E σ (λz σ=>k .next σ) ke
def Cj(f:Fl):Cs:=λz z σ k z=>k f σ
def retS(e:Cd):Cs:=λX E σ k ke=>e X E σ (λv σ=>k (.ret v) σ) ke
def sX(t:Ct)(e:Cd):Cs:=λX E σ k ke=>e X E σ (λv σ=>t X E v σ (λz σ=>k .next σ) ke) ke
def wH(t:Cb)(a b:Cs):Cs:=λX E σ k ke=>t X E σ (λc σ=>bt c (a X E σ k ke) (b X E σ k ke)) ke
def ZH(X:CX)(E:AZ)(t:Cb)(body:Cs)(ih:St->M Fl)(σ:St):M Fl:=λk ke=>
 t X E σ (λc σ=>bt c (body X E σ (λf σ=>turned f k (λσ=>ih σ k ke) σ) ke) (k .next σ)) ke
def Dn(X:CX)(E:AZ)(tag:Nat)(t:Cb)(body:Cs)(n:Nat):St->M Fl:=NR (λz z z=>bad "while lim")
 (λz ih σ k ke=>OR (ZH X E t body ih σ k ke) (λr=>r (λz σ=>ih σ k ke) ke) (X.T.loop tag E σ)) n
def q6(tag:Nat)(t:Cb)(b:Cs):Cs:=λX E σ k ke=>Dn X E tag t b ON σ k ke
def uU(own:Bool)(t:Ct)(it:Cd)(b:Cs):Cs:=λX E σ k ke=>it X E σ (λx σ=>A4 x σ λj σ=>
 BB own (λv σ k ke=>t X E v σ (λz σ=>b X E σ k ke) ke) j ON σ k ke) ke
def Aap(n:Nat)(ts:List Ct)(e:Cd):Cs:=λX E σ k ke=>e X E σ (λv σ=>L9 n v σ λl σ=>both (ArX n (B5 l)) (R1 X E ts l.reverse σ (λz σ=>k .next σ) ke)) ke
def sV(own:Bool)(tg:Ct)(elt:Cd)(t:Ct)(it:Cd)(ifs:List Cb):Cs:=λX E σ k ke=>it X E σ (λx σ=>A4 x σ λj σ=>
 BB own (Gx X ⟨σ.n+1,E.cells⟩ t ifs (λσ' k' ZW=>elt X ⟨σ.n+1,E.cells⟩ σ' (λv σ'=>BJ σ.n v σ' k') ZW)) j ON
  ((σ.new<|.list none [] none).new<|.frame []) (λz σ'=>tg X E (.obj σ.n) σ' (λz σ'=>MD (σ.n+1) σ' λσ'=>k .next σ') ke) (λe σ'=>MD (σ.n+1) σ' λσ'=>ke e σ')) ke
noncomputable def vC(v:ArR)(fr:Ar0->Bool)(fb ft:String->Bool):Bool:=match v with
 | .ref a=>fr a | .builtin s=>fb s | .type s=>ft s |_=>false
noncomputable def eH(fl:Fl)(fr:AV->Bool)(fn:Bool):Bool:=match fl with
 | .ret v=>fr v | .next=>fn
 |_=>false
def AfL(v:AV)(σ:St)(ke:K AV):Bool:=v.Ay (λj=>KL (σ.obj j) (λC l=>ke (.obj j) (σ.put j (.old C l))) false) false
def Aab(e:Cd):Cs:=λX E σ z ke=>e X E σ (λv σ=>AfL v σ ke) ke
def uG(E:AZ)(f:Fl)(σ:St)(k:K Fl):Bool:=eH f (λv=>Cu (σ.obj E.fr) (λz=>k (.ret v) (σ.put E.fr .dead)) false) false
def AeQ(T:Tab)(D:Nat)(c:AV):Bool:=c.AL (λv=>vC v (λC=>T.P5 D C) (λz=>false) (λz=>false)) false
def nY(X:CX)(E:AZ)(c:Cd)(x:Nm)(h:Cs)(j D:Nat)(σ:St):M Fl:=λk ke=>c X E σ (λc σ=>bt (AeQ X.T D c)
 (DW E x (.obj j) σ λz σ=>h X E σ (λf σ=>uG E f σ k) (λz z=>bad "handler raises")) (bad "no clause")) ke
def Aay(b:Cs)(c:Cd)(x:Nm)(h:Cs):Cs:=λX E σ k ke=>b X E σ k (λe σ=>e.Ay (λj=>Jz (σ.obj j) (λD l=>nY X E c x h j D (σ.after j D l) k ke) false) false)
def NI(a b:Cs):Cs:=λX E σ k ke=>a X E σ (λf σ=>match f with
 | .next=>b X E σ k ke
 |f=>k f σ) ke
def o9{α β:Type}(f:α->β)(l:List α):List β:=LR [] (λa z ih=>f a::ih) l
def LJ(l:List Cs):Cs:=LR (Cj .next) (λa z ih=>NI a ih) l
structure CF where
 params:List (Nm×Bool)
 defs:List AV
 cells:List Nm
 body:Cs
def Mo(ps:List (Nm×Bool))(ds vs:List AV):Option (List ((Nm×Bool)×AV)):=bt (both (AsO vs.length ps.length) (AsO (ps.length-vs.length) ds.length))
 (some<|ps.zip<|vs++ds.drop (ds.length-(ps.length-vs.length))) none
def storeAll(E:AZ)(l:List ((Nm×Bool)×AV)):St->K Unit->Bool:=LR (λσ k=>k () σ)
 (λp z ih σ k=>bt p.1.2 (Ha E p.1.1 p.2 σ λz σ=>ih σ k) (DW E p.1.1 p.2 σ λz σ=>ih σ k)) l
def IS:List Nm->St->List (Nm×Nat)->(St->List (Nm×Nat)->Bool)->Bool
 | [],σ,c,f=>f σ c |x::r,σ,c,f=>IS r (σ.new (.cell none)) ((x,σ.n)::c) f
def items(v:AV)(σ:St)(k:K (List AV)):Bool:=res v σ λv σ=>v.AU (λl=>k l σ) (v.Ay (λj=>A7 (σ.obj j) (λl=>k l σ) false) false)
def rint(v:AV)(σ:St)(k:K Int):Bool:=res v σ λv σ=>v.cInt (λl=>F1 l σ k) false
def isIn(t:Nat)(l:List Nat):Bool:=LR false (λa z ih=>bt (ArX a t) true ih) l
def Lh(t:Nat)(l:List Nat)(σ:St)(k:K AV):Bool:=bt (AsO 6 t) false (bt (isIn t l) (k (.bool true) σ) (k (.bool false) σ))
def EG:List AV->Option (List AV)
 | []=>some [] | [.str a]=>some [.str a] |_=>none
def Afl(j:Nat)(σ:St)(k:K AV):Bool:=A7 (σ.obj j) (λl=>both (fits l) (k (.int (.k l.length)) σ))<|
 Fc (σ.obj j) (λp l=>both (both (fits l)<|BY σ<|some p) (k (.int<|(Ad.at p).add<|.k<|Ar6 l.length) σ))<|
 GH (σ.obj j) (λl p m=>both (both (both (fits l)<|fits m)<|BY σ<|some p) (k (.int<|(Ad.at p).add<|.k<|Ar6<|l.length+m.length) σ)) false
def xZ(v:AV)(σ:St)(k:K AV):Bool:=res v σ λv σ=>v.AU (λl=>both (fits l) (k (.int (.k l.length)) σ))<|
 v.CS (λl=>both (fits l) (k (.int<|.k l.length) σ))<|v.Ay (λj=>Afl j σ k) false
def iI(t:String)(f:List Nat->Bool):Bool:=bt (decide (t="bool")) (f [1])<|bt (decide (t="int")) (f [1,2])<|bt (decide (t="bytes")) (f [4])<|bt (decide (t="tuple")) (f [5]) false
def isI(v:AV)(t:String)(σ:St)(k:K AV):Bool:=res v σ λv σ=>iI t λL=>Lh (i8 v) L σ k
def i6(v:AV)(σ:St)(k:K AV):Bool:=v.Ay (λj=>DC (σ.obj j) (λl=>oS (EG (keysOf l)) λm=>newList m σ k) false) false
def ZC{α:Type}(l:List α)(f:α->α->Bool):Bool:=LC false (λa r=>FG r (f a)) l
def UC(f:String)(vs:List AV)(σ:St)(k:K AV):Bool:=bt (decide (f="len")) (FG vs λv=>xZ v σ k)<|
 bt (decide (f="isinstance")) (ZC vs λv w=>w.AL (λx=>vC x (λz=>false) (λz=>false) λt=>isI v t σ k) false)<|
 bt (decide (f="sorted")) (FG vs λv=>i6 v σ k)<|
 bt (decide (f="max")) (ZC vs λu v=>two u v σ λx y σ=>isNeg (x.sub y) σ λc σ=>bt c (k (.int y) σ) (k (.int x) σ)) false
def Xq(vs:List AV)(σ:St)(k:K AV):Bool:=LC false (λa r=>
 LC (rint a σ λb σ=>newObj (.Gr 0 b 1) σ k) (λb r=>
 LC (rint a σ λa σ=>rint b σ λb σ=>newObj (.Gr a b 1) σ k) (λc r=>
 Dw r (rint a σ λa σ=>rint b σ λb σ=>rint c σ λs σ=>both (XC a b s) (newObj (.Gr a b s) σ k)) false) r) r) vs
def M5(v:AV)(σ:St)(b:Bool):Bool:=v.Ay (λj=>A7 (σ.obj j) (λz=>b) false) false
def wC(v:AV)(b:Bool):Bool:=v.AU (λz=>b) false
def UE(f:String)(vs:List AV)(σ:St)(k:K AV):Bool:=bt (decide (f="tuple")) (FG vs λv=>items v σ λl σ=>B6 l σ k)<|
 bt (decide (f="list")) (FG vs λv=>items v σ λl σ=>newList l σ k)<|
 bt (decide (f="range")) (Xq vs σ k)<|
 bt (decide (f="enumerate")) (FG vs λv=>M5 v σ (A4 v σ λi σ=>newObj (.iter (.Vc i 0)) σ k))<|
 bt (decide (f="zip")) (ZC vs λu v=>wC u<|M5 v σ (A4 u σ λi σ=>A4 v σ λj σ=>newObj (.iter (.zip i j)) σ k)) false
def qD(T:Tab)(cl:CL)(fd:CF)(bs:List ((Nm×Bool)×AV))(σ:St):M AV:=λk ke=>
 IS fd.cells (σ.new<|.frame []) [] λσ' cs=>storeAll ⟨σ.n,cs⟩ bs σ' λz σ'=>fd.body ⟨T,cl⟩ ⟨σ.n,cs⟩ σ' (λfl σ'=>eH fl (λv=>k v σ') (k .AR σ')) ke
def yB(T:Tab)(cl:CL)(a:Nat)(vs:List AV)(σ:St):M AV:=λk ke=>oS (T.init a) λi=>
 both (fits vs)<|cl (.Bd<|.ref i) (.obj σ.n::vs) (σ.new<|bt (T.isExc a) (.exc a none)<|.inst a []) (λr σ'=>r.Bo (k (.obj σ.n) σ') false) ke
def gA(T:Tab)(fn:Nat->Option CF)(cl:CL)(a:Nat)(vs:List AV)(σ:St):M AV:=λk ke=>oC (T.sum a vs σ k) (λr=>r)<|
 oC (fn a) (λfd=>oS (Mo fd.params fd.defs vs) λbs=>qD T cl fd bs σ k ke) (yB T cl a vs σ k ke)
def f9(T:Tab)(fn:Nat->Option CF)(cl:CL):CL:=λf vs σ k ke=>f.AL (λv=>vC v (λa=>gA T fn cl a vs σ k ke) (λs=>UC s vs σ k) λs=>UE s vs σ k) false
def Qs(T:Tab)(fn:Nat->Option CF)(n:Nat):CL:=NR (λz z z z z=>bad "fuel") (λz ih=>f9 T fn ih) n
section
structure Cx where
 prog:AsR
 w:ArV
 h1:Asb
 os:Atn
 whole:AV
 way:List Int->AV->AV->Prop
 ZG:∀{ρ ρ' t o},ρ<+:ρ'->way ρ t o->way ρ' t o
structure Wd where
 ρ:List Int
 τ:List (Ar0×Ar0)
 q:Nat->AV×AV
 ls:Nat->List ArR
 fs:List Ar0
 fo:List Ar0
noncomputable def EK(ρ:List Int):List (Nat×Int)->Option Int
 | []=>some 0
 |(a,f)::r=>match ρ[a]?,EK ρ r with
  |some x,some y=>some (f*x+y) |_,_=>none
def Ad.ev(ρ:List Int)(l:Ad):Option Int:=(EK ρ l.t).map (l.c+ ·)
def RT(ρ:List Int)(k:Nat):AV->Prop
 | .int l=>∃x,l.ev ρ=some x∧ρ[k+1]?=some 0∧ρ[k+2]?=some x | .str n=>ρ[k+1]?=some 1∧ρ[k+3]?=some (Ar6 n) |_=>False
def own(τ:List (Ar0×Ar0))(a:Ar0):Prop:=∃p∈τ,a=p.1∨a=p.2
structure IsT(W:Wd)(h:Asb)(a:Ar0)(items:Array ArR):Prop where
 un:¬own W.τ a
 fo:a∉W.fo
 Af:h.IsTuple a items
 nd:∃o,h.get? a=some o∧o.dict=none
variable(C:Cx)
def Mh(ρ:List Int)(k:Nat)(t:AV×AV):Prop:=C.way ρ t.1 t.2∧RT ρ k t.2∧∃a r,t.1= .Af (a::C.whole::r)
mutual
inductive VR(W:Wd)(h:Asb):AV->ArR->Prop
 |AR:VR W h .AR .none
 |bool {b}:VR W h (.bool b) (.bool b)
 |int {l:Ad} {i t}:l.ev W.ρ=some i->VR W h (.int l) (.int i t)
 |str {s x t}:A9 s=some x->VR W h (.str s) (.str x t)
 |BG {b:List UInt8} {t}:VR W h (.BG b) (.bytes b.toArray t)
 |Af {l vs a}:IsT W h a (Aw4 vs)->Ae W h l vs->VR W h (.Af l) (.ref a)
 |obj {i p}:W.τ[i]?=some p->VR W h (.obj i) (.ref p.1)
 |Bd {v}:VR W h (.Bd v) v
 |sel {k l j v cv}:W.ρ[k]?=some (Ar6 j)->l[j]?=some v->VR W h v cv->VR W h (.sel k l) cv
 |Ee {k t cv}:k<W.ρ.length->W.q k=t->Mh C W.ρ k t->VR W h t.1 cv->VR W h (.Ee k) cv
 |any {cv}:VR W h .any cv
inductive Ae(W:Wd)(h:Asb):List AV->List ArR->Prop
 |nil:Ae W h [] []
 |cons {v l cv cl}:VR W h v cv->Ae W h l cl->Ae W h (v::l) (cv::cl)
end
def Be(_:Obj):Prop:=True
def CZ(o:Obj):Prop:=o.cls= .type "frame"∧∃es n,o.data= .dict es n
theorem Be.Rb{o:Obj}{es n}(h:o.data= .dict es n):Be o:=trivial
theorem Be.HY{o:Obj}(h:o.cls= .type "list"):Be o:=trivial
def AG(o:Obj):Prop:=∀vs,o.data≠ .fields vs
structure Ext(σ:St)(W:Wd)(s:ArT)(σ':St)(W':Wd)(s':ArT):Prop where
 τ:W.τ<+:W'.τ
 ρ:W.ρ<+:W'.ρ
 q:∀a,a<W.ρ.length->W'.q a=W.q a
 ls:∀a,a<W.ρ.length->W'.ls a=W.ls a
 low:σ'.low=σ.low
 A8:σ.A8≤σ'.A8
 keep:∀a o,s.heap.get? a=some o->AG o->¬own W.τ a->∃sl,s'.heap.get? a=some {o with slots:=sl}∧(o.cls≠ .type "frame"->sl=o.slots)
 exact:σ'.A8=σ.A8->∀a o,s.heap.get? a=some o->(¬own W.τ a∨own (W.τ.take σ.low) a)->s'.heap.get? a=some o
 fresh:∀p∈W'.τ,p∈W.τ∨(s.heap.get? p.1=none∧s.heap.get? p.2=none)
 alive:∀a o,s.heap.get? a=some o->∃o',s'.heap.get? a=some o'
 fr:∀a o,s.heap.get? a=some o->CZ o->∃o',s'.heap.get? a=some o'∧CZ o'
 fs:W.fs<+:W'.fs
 fo:W'.fo=W.fo
theorem Xg{τ τ':List (Ar0×Ar0)}(h:∀p,p∈τ->p∈τ'):own τ a->own τ' a:=λ⟨p,hp,e⟩=>⟨p,h p hp,e⟩
theorem Zv{α:Type}{l l':List α}(h:l<+:l')(n:Nat)(p:α)(hp:p∈l.take n):p∈l'.take n:=by obtain⟨r,rfl⟩:=h;rw[List.take_append];exact AtL _ hp
theorem Ext.refl(σ:St)(W:Wd)(s:ArT):Ext σ W s σ W s:=
 ⟨ArZ _,ArZ _,λz z=>rfl,λz z=>rfl,rfl,As0 _,λa o e z z=>⟨o.slots,e,λz=>rfl⟩,λz a o e z=>e,λp h=>.inl h,λa o e=>⟨o,e⟩,λa o e d=>⟨o,e,d⟩,ArZ _,rfl⟩
theorem Ext.trans(x:Ext σ W s σ1 W1 s1)(y:Ext σ1 W1 s1 σ2 W2 s2):Ext σ W s σ2 W2 s2:=by
 have un:∀{a o},s.heap.get? a=some o->¬own W.τ a->¬own W1.τ a:=by
  rintro a o e n ⟨p,hp,hq⟩;rcases x.fresh p hp with h |⟨h1,h2⟩
  ·exact n ⟨p,h,hq⟩
  ·rcases hq with rfl |rfl
   ·rw[h1] at e;cases e
   ·rw[h2] at e;cases e
 refine⟨x.τ.trans y.τ,x.ρ.trans y.ρ,λa h=>?_,λa h=>?_,y.low.trans x.low,AtH x.A8 y.A8,λa o e nf n=>?_,λv a o e h=>?_,λp hp=>?_,λa o e=>?_,λa o e d=>?_,x.fs.trans y.fs,y.fo.trans x.fo⟩
 ·rw[y.q a (Axu h x.ρ.length_le),x.q a h]
 ·rw[y.ls a (Axu h x.ρ.length_le),x.ls a h]
 ·obtain⟨sl,e1,g1⟩:=x.keep a o e nf n;obtain⟨sl',e2,g2⟩:=y.keep a _ e1 nf (un e n);exact⟨sl',e2,λq=>(g2 q).trans (g1 q)⟩
 ·have v1:=Nat.le_antisymm (v▸y.A8) x.A8;have v2:=v.trans v1.symm;refine y.exact v2 a o (x.exact v1 a o e h) ?_;rcases h with h |h
  ·exact .inl (un e h)
  ·exact .inr (Xg (λp hp=>by rw[x.low];exact Zv x.τ _ _ hp) h)
 ·rcases y.fresh p hp with h |⟨h1,h2⟩
  ·exact x.fresh p h
  ·refine(Avq<|p∈W.τ).imp id λhn=>?_
   have no:∀a,s1.heap.get? a=none->s.heap.get? a=none:=by
    intro a h;cases q:s.heap.get? a with
    |none=>rfl |some o=>obtain⟨o',e⟩:=x.alive a o q;rw[h] at e;cases e
   exact⟨no _ h1,no _ h2⟩
 ·obtain⟨o1,e1⟩:=x.alive a o e;exact y.alive a o1 e1
 ·obtain⟨o1,e1,d1⟩:=x.fr a o e d;exact y.fr a o1 e1 d1
theorem K3{a:Nat}{f:Int}{r:List (Nat×Int)}{x:Int}{P:Prop}(e:EK ρ ((a,f)::r)=some x)(k:∀u v,ρ[a]?=some u->EK ρ r=some v->x=f*u+v->P):P:=by
 unfold EK at e;generalize q1:ρ[a]?=o1 at e;generalize q2:EK ρ r=o2 at e
 induction o1 with
 |none=>cases e
 |some u=>induction o2 with
  |none=>cases e
  |some v=>exact k u v q1 q2 (Ase e).symm
theorem BH{ρ:List Int}{a:Nat}{f:Int}{u v:Int}(h1:ρ[a]?=some u)(h2:EK ρ r=some v):EK ρ ((a,f)::r)=some (f*u+v):=by unfold EK;rw[h1,h2]
theorem Ab{α:Type}{l l':List α}(h:l<+:l'){i:Nat}{a:α}(e:l[i]?=some a):l'[i]?=some a:=by obtain⟨r,rfl⟩:=h;rw[Asn (Ar2.mp e).1];exact e
theorem Qz{ρ ρ':List Int}(h:ρ<+:ρ'):∀{t:List (Nat×Int)} {x:Int},EK ρ t=some x->EK ρ' t=some x
 | [],_,e=>e |(a,f)::r,x,e=>K3 e λu v hu hv ex=>(BH (Ab h hu) (Qz h hv)).trans (ex▸rfl)
theorem Ad.Cv{ρ ρ':List Int}(h:ρ<+:ρ'){l:Ad}{x:Int}(e:l.ev ρ=some x):l.ev ρ'=some x:=
 (AtW.mp e).elim λy q=>AtW.mpr ⟨y,Qz h q.1,q.2⟩
theorem RT.pre{ρ ρ':List Int}(h:ρ<+:ρ'){k:Nat}(e:RT ρ k o):RT ρ' k o:=by
 cases o with
 |int l=>exact e.elim λx q=>⟨x,Ad.Cv h q.1,Ab h q.2.1,Ab h q.2.2⟩
 |str n=>exact⟨Ab h e.1,Ab h e.2⟩
 |_=>exact e.elim
theorem Mh.pre{C:Cx}{ρ ρ':List Int}(h:ρ<+:ρ'){k:Nat}:Mh C ρ k t->Mh C ρ' k t:=λ⟨a,b,c⟩=>⟨C.ZG h a,b.pre h,c⟩
def AJ(W W':Wd)(h h':Asb):Prop:=∀a items,IsT W h a items->IsT W' h' a items
section
variable{C:Cx}{W W':Wd}{h h':Asb}
theorem VR.keep(hρ:W.ρ<+:W'.ρ)(hτ:W.τ<+:W'.τ)(hq:∀a,a<W.ρ.length->W'.q a=W.q a)(ht:AJ W W' h h'){v cv}(r:VR C W h v cv):VR C W' h' v cv:=
 VR.rec (motive_1:=λv cv z=>VR C W' h' v cv) (motive_2:=λl vs z=>Ae C W' h' l vs) .AR .bool (λe=>.int (Ad.Cv hρ e)) .str .BG (λa z r=>.Af (ht _ _ a) r) (λe=>.obj (Ab hτ e)) .Bd
  (λa b z r=>.sel (Ab hρ a) b r) (λa b c z r=>.Ee (Axu a hρ.length_le) ((hq _ a).trans b) (c.pre hρ) r) .any .nil (λz z a b=>.cons a b) r
theorem Ae.keep(hρ:W.ρ<+:W'.ρ)(hτ:W.τ<+:W'.τ)(hq:∀a,a<W.ρ.length->W'.q a=W.q a)(ht:AJ W W' h h'){l vs}(r:Ae C W h l vs):Ae C W' h' l vs:=
 Ae.rec (motive_1:=λz z z=>True) (motive_2:=λl vs z=>Ae C W' h' l vs) trivial trivial (λz=>trivial) (λz=>trivial) trivial (λz z z=>trivial) (λz=>trivial) trivial
  (λz z z z=>trivial) (λz z z z z=>trivial) trivial .nil (λa z z b=>.cons (a.keep hρ hτ hq ht) b) r
end
section
variable{C:Cx}{W:Wd}{h:Asb}
def VR.K(C:Cx)(W:Wd)(h:Asb)(P:ArR->Prop):AV->Prop
 | .AR=>P .none | .bool b=>P (.bool b) | .int l=>∀i t,l.ev W.ρ=some i->P (.int i t) | .str s=>∀x t,A9 s=some x->P (.str x t) | .BG b=>∀t,P (.bytes b.toArray t) | .Af l=>∀vs a,IsT W h a (Aw4 vs)->Ae C W h l vs->P (.ref a) | .obj i=>∀p,W.τ[i]?=some p->P (.ref p.1) | .Bd v=>P v | .sel k l=>∀j v cv,W.ρ[k]?=some (Ar6 j)->l[j]?=some v->VR C W h v cv->P cv | .Ee k=>∀cv,k<W.ρ.length->Mh C W.ρ k (W.q k)->VR C W h (W.q k).1 cv->P cv | .any=>∀cv,P cv
@[elab_as_elim] theorem VR.inv{v cv}{P:ArR->Prop}(r:VR C W h v cv):VR.K C W h P v->P cv:=by
 cases r with
 |AR |bool |Bd=>exact id
 |int e=>exact λk=>k _ _ e
 |str e=>exact λk=>k _ _ e
 |BG=>exact λk=>k _
 |Af a b=>exact λk=>k _ _ a b
 |obj e=>exact λk=>k _ e
 |sel a b c=>exact λk=>k _ _ _ a b c
 |Ee a b c d=>exact λk=>k _ a (b▸c) (b▸d)
 |any=>exact λk=>k _
noncomputable def Ae.K(C:Cx)(W:Wd)(h:Asb)(P:List ArR->Prop):List AV->Prop
 | []=>P [] |v::l=>∀cv cl,VR C W h v cv->Ae C W h l cl->P (cv::cl)
@[elab_as_elim] theorem Ae.inv{l vs}{P:List ArR->Prop}(r:Ae C W h l vs):Ae.K C W h P l->P vs:=by
 cases r with
 |nil=>exact id
 |cons a b=>exact λk=>k _ _ a b
theorem Ae.length{l vs}(r:Ae C W h l vs):vs.length=l.length:=by
 induction l generalizing vs with
 |nil=>exact r.inv (P:=λvs=>vs.length=0) rfl
 |cons v l ih=>exact r.inv (P:=λvs=>vs.length=l.length+1) λcv cl z r=>congrArg Auv (ih r)
theorem Ae.get{l vs}{i:Nat}{v}(r:Ae C W h l vs)(e:l[i]?=some v):∃cv,vs[i]?=some cv∧VR C W h v cv:=by
 induction l generalizing vs i with
 |nil=>cases e
 |cons u l ih=>
  refine r.inv (P:=λvs=>∃cv,vs[i]?=some cv∧VR C W h v cv) λcv cl a r=>?_
  induction i with
  |zero=>exact⟨cv,rfl,Ase e▸a⟩
  |succ i=>have q:=ih (i:=i) r e;exact q
theorem Ae.app{l vs l' Z2}(r:Ae C W h l vs)(b:Ae C W h l' Z2):Ae C W h (l++l') (vs++Z2):=by
 induction l generalizing vs with
 |nil=>exact r.inv (P:=λvs=>Ae C W h l' (vs++Z2)) b
 |cons u l ih=>exact r.inv (P:=λvs=>Ae C W h (u::(l++l')) (vs++Z2)) λcv cl a r=>Ae.cons (cl:=cl++Z2) a (ih r)
variable{v:AV}{cv:ArR}{P:ArR->Prop}{d:Bool}
@[elab_as_elim] theorem VR.AU(r:VR C W h v cv){f}(e:v.AU f d=true)(k:∀l vs a,f l=true->IsT W h a (Aw4 vs)->Ae C W h l vs->P (.ref a))(k0:d=true->P cv):P cv:=
 AV.tupI (Q:=λv=>VR C W h v cv->P cv) e (λl e r=>r.inv λvs a=>k l vs a e) (λz e z=>k0 e) r
@[elab_as_elim] theorem VR.cInt(r:VR C W h v cv){f}(e:v.cInt f d=true)(k:∀l i t,f l=true->l.ev W.ρ=some i->P (.int i t))(k0:d=true->P cv):P cv:=
 AV.FC (Q:=λv=>VR C W h v cv->P cv) e (λl e r=>r.inv λi t=>k l i t e) (λz e z=>k0 e) r
@[elab_as_elim] theorem VR.Ay(r:VR C W h v cv){f}(e:v.Ay f d=true)(k:∀j p,f j=true->W.τ[j]?=some p->P (.ref p.1))(k0:d=true->P cv):P cv:=
 AV.Pw (Q:=λv=>VR C W h v cv->P cv) e (λl e r=>r.inv λp=>k l p e) (λz e z=>k0 e) r
@[elab_as_elim] theorem VR.CS(r:VR C W h v cv){f}(e:v.CS f d=true)(k:∀l t,f l=true->P (.bytes (Aw4 l) t))(k0:d=true->P cv):P cv:=
 AV.Sh (Q:=λv=>VR C W h v cv->P cv) e (λl e r=>r.inv λt=>k l t e) (λz e z=>k0 e) r
@[elab_as_elim] theorem VR.cStr(r:VR C W h v cv){f}(e:v.cStr f d=true)(k:∀z x t,f z=true->A9 z=some x->P (.str x t))(k0:d=true->P cv):P cv:=
 AV.Hb (Q:=λv=>VR C W h v cv->P cv) e (λl e r=>r.inv λx t=>k l x t e) (λzz e zz=>k0 e) r
@[elab_as_elim] theorem VR.AL(r:VR C W h v cv){f}(e:v.AL f d=true)(k:f cv=true->P cv)(k0:d=true->P cv):P cv:=
 AV.TM (Q:=λv=>VR C W h v cv->P cv) e (λl e r=>k (r.inv (P:=λx=>f x=true) e)) (λz e z=>k0 e) r
@[elab_as_elim] theorem VR.Bo(r:VR C W h v cv){f}(e:v.Bo f d=true)(k:f=true->P .none)(k0:d=true->P cv):P cv:=
 AV.dR (Q:=λv=>VR C W h v cv->P cv) e (λe r=>r.inv (k e)) (λz e z=>k0 e) r
@[elab_as_elim] theorem VR.cBool(r:VR C W h v cv){f}(e:v.cBool f d=true)(k:∀b,f b=true->P (.bool b))(k0:d=true->P cv):P cv:=
 AV.He (Q:=λv=>VR C W h v cv->P cv) e (λl e r=>r.inv (k l e)) (λz e z=>k0 e) r
@[elab_as_elim] theorem VR.KO(r:VR C W h v cv){f}(e:v.KO f d=true)(k:∀k cv,f k=true->Mh C W.ρ k (W.q k)->VR C W h (W.q k).1 cv->P cv)(k0:d=true->P cv):P cv:=
 AV.yY (Q:=λv=>VR C W h v cv->P cv) e (λl e r=>r.inv λcv z=>k l cv e) (λz e z=>k0 e) r
end
end
variable{C:Cx}
noncomputable abbrev KK:=Sum Str Int
def JH:KK->ArR->Bool
 | .inl x,v=>Ayx x v | .inr i,v=>Ayw i v
theorem Bu{k:KK}(h:JH k v=true):(∃x t,k= .inl x∧v= .str x t)∨(∃i t,k= .inr i∧v= .int i t):=by
 induction k with
 |inl x=>obtain⟨t,rfl⟩:=Value.isStrOf_shape (show Ayx x v=true from h);exact .inl ⟨x,t,rfl,rfl⟩
 |inr i=>obtain⟨t,rfl⟩:=Value.isInt_shape (show Ayw i v=true from h);exact .inr ⟨i,t,rfl,rfl⟩
theorem IH(x:Str)(t:Tok):JH (.inl x) (.str x t)=true:=by simp[JH,Ayx]
theorem VY(i:Int)(t:Tok):JH (.inr i) (.int i t)=true:=by simp[JH,Ayw]
def AF(prog:AsR)(w:ArV):KeyKind prog w KK where
 is:=JH
 hash:=λk=>match k with | .inl x=>hashStr w x | .inr i=>hashInt i
 inj:=λv a b ha hb=>by rcases Bu ha with⟨x,t,rfl,rfl⟩|⟨i,t,rfl,rfl⟩<;>rcases Bu hb with⟨y,u,rfl,e⟩|⟨j,u,rfl,e⟩<;>cases e<;>rfl
 byValue:=λk v h=>by rcases Bu h with⟨x,t,rfl,rfl⟩|⟨i,t,rfl,rfl⟩<;>rfl
 pyHash:=λhv h=>by
  rcases Bu hv with⟨x,t,rfl,rfl⟩|⟨i,t,rfl,rfl⟩
  ·exact wpAny_pyHash_str h
  ·exact wpAny_pyHash_int h
 eqBool:=λhu hv h=>by
  rcases Bu hu with⟨x,t,rfl,rfl⟩|⟨i,t,rfl,rfl⟩<;>rcases Bu hv with⟨y,u,rfl,rfl⟩|⟨j,u,rfl,rfl⟩
  ·exact wpAny_eqBool_str (by simpa using h)
  ·exact SeqAt.EqAt.str_int _ _ _ _ _ _ _ _ (by simpa using h)
  ·exact SeqAt.EqAt.int_str _ _ _ _ _ _ _ _ (by simpa using h)
  ·have e:decide ((Sum.inr i:KK)= .inr j)=decide (i=j):=by simp
   rw[e] at h;exact wpAny_eqBool_int h
 «strs» :=λk x t v h=>by
  rcases Bu h with⟨y,u,rfl,e⟩|⟨i,u,rfl,e⟩
  ·cases e;show Ayx x v=v.isStr x
   induction v<;>rfl
  ·cases e
section
variable(C:Cx)
def Ej(W:Wd)(h:Asb)(l:List (Nm×AV))(m:Str->Option ArR):Prop:=
 (∀x v,AW l x=some v->∃nm cv,A9 x=some nm∧m nm=some cv∧VR C W h v cv)∧
 (∀nm cv,m nm=some cv->∃x v,A9 x=some nm∧AW l x=some v)
def rB(W:Wd)(h:Asb)(a:Ar0)(l:List (Nm×AV)):Prop:=∃m,h.Ns a m∧Ej C W h l m
def TX(W:Wd)(h:Asb)(a:Ar0)(l:List (Nm×AV)):Prop:=∃es n sl,h.get? a=some ⟨.type "dict",none,.dict es n,sl⟩∧StrKeys es∧es.size≤l.length∧Ej C W h l (Auc es)
noncomputable def part(W:Wd):Option Nat->List ArR
 |none=>[] |some a=>W.ls a
noncomputable def Fj(W:Wd):Option Nat->Prop
 |none=>True |some a=>W.ρ[a]?=some (Ar6 (W.ls a).length)
inductive Bh(W:Wd):AV->KK->Prop
 |str {s x}:A9 s=some x->Bh W (.str s) (.inl x)
 |int {l:Ad} {i}:l.ev W.ρ=some i->Bh W (.int l) (.inr i)
inductive Co(W:Wd)(h:Asb):List (AV×AV)->List (KK×ArR)->Prop
 |nil:Co W h [] []
 |cons {k v K V l m}:Bh W k K->VR C W h v V->Co W h l m->Co W h ((k,v)::l) ((K,V)::m)
noncomputable def rD(W:Wd)(h:Asb)(p:Ar0)(to:Ar0):It->Prop
 | .seq l=>∃T i items,h.IsTupleIter p T i∧IsT W h T items∧Ae C W h l (items.toList.drop i) | .lst s k=>∃q,W.τ[s]?=some q∧h.IsListIter p q.1 k | .rng c e st=>IsRangeIter h p c (Asz c e st) st∧st≠0 | .Vc j n=>∃q old,W.τ[j]?=some q∧Awp h p q.1 n old | .zip a b=>∃TI qa qb x y,IsZip h p TI to .none∧IsT W h TI #[.ref qa.1,.ref qb.1]∧W.τ[a]?=some qa∧W.τ[b]?=some qb∧AuT h to x y
def Ff(Cl:Ar0):Prop:=∃K:Atw,K.In C.h1∧subIn K (.ref Cl) (.type "Exception")=some true∧subIn K (.ref Cl) (.type "BaseException")=some true∧∃o,C.h1.get? Cl=some o∧o.cls= .type "type"∧∃cd,o.data= .cls cd
noncomputable def OB(W:Wd):Option Nat->Option Ar0->Prop
 |none,dd=>dd=none |some j,dd=>∃q,W.τ[j]?=some q∧dd=some q.1
def GB(h:Asb)(a:Ar0):Prop:=∃o,h.get? a=some o∧o.dict=none∧o.slots= #[]
def El(x y:Int):Prop:=0≤x∧0≤y∧y<2147483647
noncomputable def Au(x y m:Int):Int×Int×Int:=if x>0 then(x % m,x/m,y) else((((y*39373+7) % 2147483647)*((y*39373+7) % 2147483647)) % 2147483629/32 % m,x,(y*39373+7) % 2147483647)
def BO(ρ:List Int):Int->Int->List (Int×Nat)->Prop
 |_,_,[]=>True |x,y,(m,a)::r=>if m= -7 then ρ[a]?=some x∧ρ[a+1]?=some y else ρ[a]?=some (Au x y m).1∧BO ρ (Au x y m).2.1 (Au x y m).2.2 r
theorem BO.pre{ρ ρ':List Int}(h:ρ<+:ρ'){x y:Int}(q:BO ρ x y f):BO ρ' x y f:=by
 induction f generalizing x y with
 |nil=>trivial
 |cons p r ih=>
  by_cases e:p.1= -7
  ·exact(if_pos e).mpr (Au0 (Ab h) (Ab h)<|(if_pos e).mp q)
  ·exact(if_neg e).mpr (Au0 (Ab h) ih<|(if_neg e).mp q)
theorem BO.cons{ρ:List Int}{x y m:Int}{a:Nat}{r:List (Int×Nat)}(hm:0<m):BO ρ x y ((m,a)::r)↔ρ[a]?=some (Au x y m).1∧BO ρ (Au x y m).2.1 (Au x y m).2.2 r:=
 iff_of_eq (if_neg λe=>absurd (e▸hm) (by decide))
theorem BO.mark{x y:Int}{a:Nat}{r:List (Int×Nat)}:BO ρ x y ((-7,a)::r)↔ρ[a]?=some x∧ρ[a+1]?=some y:=iff_of_eq (if_pos rfl)
structure Eo(W:Wd)(h:Asb)(p:Ar0×Ar0)(pre:Option Nat)(l:List AV)(Zn:Option Nat)(vs:List ArR):Prop where
 ep:p.2=p.1
 v:Ae C W h l vs
 il:h.IsList p.1 (part W pre++vs++part W Zn).toArray
 k1:Fj W pre
 k2:Fj W Zn
 nd:GB h p.1
structure RS(W:Wd)(h:Asb)(p:Ar0×Ar0)(l:List AV)(a:Nat)(m:List AV)(vs ws:List ArR):Prop where
 ep:p.2=p.1
 v:Ae C W h l vs
 w:Ae C W h m ws
 il:h.IsList p.1 (vs++W.ls a++ws).toArray
 k1:Fj W (some a)
 nd:GB h p.1
def Ob(W:Wd)(h:Asb)(p:Ar0×Ar0):AO->Prop
 | .list pre l Zn=>∃vs,Eo C W h p pre l Zn vs | .mid l a m=>∃vs ws,RS C W h p l a m vs ws | .dict l=>p.2=p.1∧∃Bk,h.DictOf (AF C.prog C.w) p.1 Bk∧Co C W h l Bk | .inst Cl l=>(∃sl,h.get? p.1=some ⟨.ref Cl,some p.2,.plain,sl⟩)∧TX C W h p.2 l | .exc Cl d=>p.2=p.1∧Ff C Cl∧∃dd fs sl,OB W d dd∧h.get? p.1=some ⟨.ref Cl,dd,.fields fs,sl⟩∧fs[1]?=some .none | .old Cl d=>p.2=p.1∧Ff C Cl∧∃dd fs sl,OB W d dd∧h.get? p.1=some ⟨.ref Cl,dd,.fields fs,sl⟩ | .ed l=>p.2=p.1∧TX C W h p.1 l | .frame l=>p.2=p.1∧rB C W h p.1 l | .cell none=>p.2=p.1∧h.IsCell p.1 none | .cell (some v)=>p.2=p.1∧∃cv,h.IsCell p.1 (some cv)∧VR C W h v cv | .iter it=>(p.2=p.1∨∃a b,it= .zip a b)∧rD C W h p.1 p.2 it | .Gr a b st=>p.2=p.1∧∃t u v,IsRange h p.1 a b st t u v | .Ao f=>p.2=p.1∧∃x y t u,h.IsList p.1 #[.int x t,.int y u]∧El x y∧BO W.ρ x y f∧GB h p.1 | .dead=>True
def Based(W:Wd)(h:Asb):Prop:=(∀a o,C.h1.get? a=some o->h.get? a=some o)∧(∀p∈W.τ,C.h1.get? p.1=none∧C.h1.get? p.2=none)∧∀a∈W.fo,C.h1.get? a=none
def inR(r:BN)(x:Int):Prop:=(∀a,r.1=some a->a≤x)∧(∀b,r.2=some b->x≤b)
structure Inv(W:Wd)(σ:St)(s:ArT):Prop where
 nτ:W.τ.length=σ.n
 kρ:W.ρ.length=σ.k
 rl:σ.rng.length=σ.k
 rng:∀a x,W.ρ[a]?=some x->inR (σ.rg a) x
 neg:∀p∈σ.neg,∃x,p.1.ev W.ρ=some x∧(decide (x<0))=p.2
 BM:∀p∈σ.BM,∃x,p.1.ev W.ρ=some x∧(decide (x=0))=p.2
 obj:∀i o,σ.obj i=some o->∃p,W.τ[i]?=some p∧Ob C W s.heap p o
 apart:∀(i j:Nat) (p q:Ar0×Ar0),W.τ[i]?=some p->W.τ[j]?=some q->i≠j->p.1≠q.1∧p.1≠q.2∧p.2≠q.1∧p.2≠q.2
 new:∀p∈W.τ,C.h1.get? p.1=none∧C.h1.get? p.2=none
 live:∀p∈W.τ,(∃o,s.heap.get? p.1=some o∧Be o)∧∃o,s.heap.get? p.2=some o∧Be o
 HQ:∀a∈W.fs,C.h1.get? a=none∧∃o,s.heap.get? a=some o∧CZ o
 base:∀a o,C.h1.get? a=some o->s.heap.get? a=some o
 gens:s.gens= #[]
 os:s.os=C.os
 fo:∀a∈W.fo,C.h1.get? a=none∧∃o,s.heap.get? a=some o
variable{C}
theorem Inv.based(I:Inv C W σ s):Based C W s.heap:=⟨I.base,I.new,λa h=>(I.fo a h).1⟩
theorem Based.Af(B:Based C W h){a:Ar0}{items:Array ArR}(ht:C.h1.IsTuple a items)(nd:∃o,C.h1.get? a=some o∧o.dict=none):IsT W h a items:=by
 obtain⟨o,ho,r⟩:=ht;refine⟨λ⟨p,hp,q⟩=>?_,λq=>?_,⟨o,B.1 _ _ ho,r⟩,let⟨o,a,b⟩:=nd;⟨o,B.1 _ _ a,b⟩⟩
 rotate_left
 ·rw[B.2.2 a q] at ho;cases ho
 obtain⟨n1,n2⟩:=B.2.1 p hp;rcases q with rfl |rfl
 ·rw[n1] at ho;cases ho
 ·rw[n2] at ho;cases ho
theorem HZ{τ τ':List (Ar0×Ar0)}{a:Ar0}(hf:∀p∈τ',p∈τ∨(p.1≠a∧p.2≠a))(h:¬own τ a):¬own τ' a:=by
 rintro⟨p,hp,hq⟩;rcases hf p hp with q |⟨q1,q2⟩
 ·exact h ⟨p,q,hq⟩
 ·rcases hq with rfl |rfl
  ·exact q1 rfl
  ·exact q2 rfl
theorem Inv.qU(I:Inv C W σ s)(x:Ext σ W s σ' W' s'):AJ W W' s.heap s'.heap:=by
 intro a items ⟨hn,vM,ht,nd⟩;obtain⟨o,ho,hc,n,hd⟩:=ht;obtain⟨o',Ho,TR⟩:=nd;rw[ho] at Ho;cases Ho;obtain⟨sl,e,_⟩:=x.keep a o ho (λvs q=>by rw[hd] at q;cases q) hn;refine⟨HZ (λp hp=>(x.fresh p hp).imp id λ⟨q1,q2⟩=>⟨λe=>?_,λe=>?_⟩) hn,by rw[x.fo];exact vM,⟨_,e,hc,n,hd⟩,_,e,TR⟩
 ·rw[e,ho] at q1;cases q1
 ·rw[e,ho] at q2;cases q2
theorem Inv.vr(I:Inv C W σ s)(x:Ext σ W s σ' W' s'){v cv}(h:VR C W s.heap v cv):VR C W' s'.heap v cv:=h.keep x.ρ x.τ x.q (I.qU x)
theorem Inv.qZ(I:Inv C W σ s)(x:Ext σ W s σ' W' s'){v cv}(h:Ae C W s.heap v cv):Ae C W' s'.heap v cv:=h.keep x.ρ x.τ x.q (I.qU x)
section
variable{W W':Wd}{h h':Asb}
structure Cr(W W':Wd)(h h':Asb):Prop where
 ρ:W.ρ<+:W'.ρ
 τ:W.τ<+:W'.τ
 q:∀a,a<W.ρ.length->W'.q a=W.q a
 ls:∀a,a<W.ρ.length->W'.ls a=W.ls a
 Af:AJ W W' h h'
theorem Ej.AS(S:Cr W W' h h'){l m}(x:Ej C W h l m):Ej C W' h' l m:=
 ⟨λy v hv=>(x.1 y v hv).imp λz=>Avw λz=>Au2 (Au2 λa=>a.keep S.ρ S.τ S.q S.Af),x.2⟩
theorem rB.AS(S:Cr W W' h h'){a l}(e:h'.get? a=h.get? a):rB C W h a l->rB C W' h' a l:=by unfold rB Heap.Ns;refine e.symm▸?_;exact Avw λz=>Au2 (Ej.AS S)
theorem TX.AS(S:Cr W W' h h'){a l}(e:h'.get? a=h.get? a):TX C W h a l->TX C W' h' a l:=by unfold TX;refine e.symm▸?_;exact Avw λz=>Avw λz=>Avw λz=>Au2 (Au2<|Au2<|Ej.AS S)
theorem Bh.AS(S:Cr W W' h h'){k K}(r:Bh W k K):Bh W' k K:=by
 induction r with
 |str e=>exact .str e
 |int e=>exact .int (Ad.Cv S.ρ e)
theorem Co.AS(S:Cr W W' h h'){l m}(r:Co C W h l m):Co C W' h' l m:=
 Co.rec (motive:=λl m z=>Co C W' h' l m) .nil (λb c z r=>.cons (b.AS S) (c.keep S.ρ S.τ S.q S.Af) r) r
theorem DictOf.of_eq{a:Ar0}{Bk}(e:h'.get? a=h.get? a):h.DictOf (AF C.prog C.w) a Bk->h'.DictOf (AF C.prog C.w) a Bk:=by unfold Heap.DictOf;refine e.symm▸?_;exact id
theorem IsList.of_eq{a b:Ar0}{items}(e:h'.get? a=h.get? a):h.IsList a items->h'.IsList a items:=by unfold AvM;rw[e];exact id
theorem GB.of_eq{a:Ar0}(e:h'.get? a=h.get? a):GB h a->GB h' a:=by unfold GB;refine e.symm▸?_;exact id
theorem B7(S:Cr W W' h h')(hx:Fj W x):part W' x=part W x∧Fj W' x:=by
 induction x with
 |none=>exact⟨rfl,trivial⟩
 |some a=>have hl:a<W.ρ.length:=(Ar2.mp hx).1;refine⟨S.ls a hl,?_⟩;show W'.ρ[a]?=_;rw[S.ls a hl];exact Ab S.ρ hx
theorem rD.AS(S:Cr W W' h h'){a to:Ar0}(e:h'.get? a=h.get? a)(e2:h'.get? to=h.get? to){it}:rD C W h a to it->rD C W' h' a to it:=by
 induction it with
 |seq l=>exact Avw λz=>Avw λz=>Avw λz=>Au0 (Avw λz=>Au1 e.trans) (Au0 (S.Af _ _) λc=>c.keep S.ρ S.τ S.q S.Af)
 |lst s k=>exact Avw λz=>Au0 (Ab S.τ) (Avw λz=>Au1 e.trans)
 |rng c x st=>exact Au1 e.trans
 |Vc j n=>exact Avw λz=>Avw λz=>Au0 (Ab S.τ) e.trans
 |zip a b=>exact Avw λz=>Avw λz=>Avw λz=>Avw λz=>Avw λz=>Au0 e.trans (Au0 (S.Af _ _) (Au0 (Ab S.τ) (Au0 (Ab S.τ) e2.trans)))
theorem OB.AS(S:Cr W W' h h'){d dd}:OB W d dd->OB W' d dd:=by
 induction d with
 |none=>exact id
 |some j=>exact Avw λz=>Au1 (Ab S.τ)
theorem Eo.AS(S:Cr W W' h h'){p:Ar0×Ar0}(e1:h'.get? p.1=h.get? p.1){pre l Zn vs}(b:Eo C W h p pre l Zn vs):Eo C W' h' p pre l Zn vs:=
 ⟨b.ep,b.v.keep S.ρ S.τ S.q S.Af,by rw[(B7 S b.k1).1,(B7 S b.k2).1];exact IsList.of_eq (b:=p.1) e1 b.il,(B7 S b.k1).2,(B7 S b.k2).2,b.nd.of_eq e1⟩
theorem RS.AS(S:Cr W W' h h'){p:Ar0×Ar0}(e1:h'.get? p.1=h.get? p.1){l a m vs ws}(b:RS C W h p l a m vs ws):RS C W' h' p l a m vs ws:=
 ⟨b.ep,b.v.keep S.ρ S.τ S.q S.Af,b.w.keep S.ρ S.τ S.q S.Af,by refine(show W'.ls a=W.ls a from(B7 S b.k1).1).symm▸?_;exact IsList.of_eq (b:=p.1) e1 b.il,(B7 S b.k1).2,b.nd.of_eq e1⟩
theorem Ob.AS(S:Cr W W' h h'){p:Ar0×Ar0}(e1:h'.get? p.1=h.get? p.1)(e2:h'.get? p.2=h.get? p.2){o}:Ob C W h p o->Ob C W' h' p o:=by
 induction o with
 |list pre l Zn=>exact Avw λz=>Eo.AS S e1
 |mid l q m=>exact Avw λz=>Avw λz=>RS.AS S e1
 |dict l=>exact Au2 (Avw λz=>Au0 (DictOf.of_eq e1) (Co.AS S))
 |inst Cl l=>exact Au0 (Avw λz=>e1.trans) (TX.AS S e2)
 |exc Cl d=>exact Au2 (Au2 (Avw λz=>Avw λz=>Avw λz=>Au0 (OB.AS S) (Au1 e1.trans)))
 |old Cl d=>exact Au2 (Au2 (Avw λz=>Avw λz=>Avw λz=>Au0 (OB.AS S) e1.trans))
 |ed l=>exact Au2 (TX.AS S e1)
 |frame l=>exact Au2 (rB.AS S e1)
 |cell v=>induction v with
  |none=>exact Au2 (Avw λz=>Au1 e1.trans)
  |some v=>exact Au2 (Avw λz=>Au0 (Avw λz=>Au1 e1.trans) λb=>b.keep S.ρ S.τ S.q S.Af)
 |iter it=>exact Au2 (rD.AS S e1 e2)
 |Gr a b st=>exact Au2 (Avw λz=>Avw λz=>Avw λz=>e1.trans)
 |Ao f=>exact Au2 (Avw λz=>Avw λz=>Avw λz=>Avw λz=>Au0 (IsList.of_eq (b:=p.1) e1) (Au2 (Au0 (BO.pre S.ρ) (GB.of_eq e1))))
 |dead=>exact id
structure sD(C:Cx)(W:Wd)(h:Asb)(p:Ar0×Ar0)(l:List AV)(vs:List ArR):Prop where
 ep:p.2=p.1
 v:Ae C W h l vs
 il:h.IsList p.1 (Aw4 vs)
 nd:GB h p.1
theorem Eo.one{l:List AV}(b:Eo C W h p none l none vs):sD C W h p l vs:=⟨b.ep,b.v,Ar7 vs▸b.il,b.nd⟩
theorem Eo.pre{a:Nat}{l:List AV}(b:Eo C W h p (some a) l none vs):h.IsList p.1 (Aw4<|W.ls a++vs):=Ar7 (W.ls a++vs)▸b.il
variable{σ:St}{s:ArT}{i:Nat}{p:Ar0×Ar0}{d:Bool}{P:Prop}
theorem Inv.at(I:Inv C W σ s)(hp:W.τ[i]?=some p)(e:σ.obj i=some o):Ob C W s.heap p o:=match I.obj i o e with
 |⟨_,hq,b⟩=>uniq hq hp▸b
theorem Inv.A7(I:Inv C W σ s)(hp:W.τ[i]?=some p){f}(e:Mine.Internal.A7 (σ.obj i) f d=true)(k:∀l vs,f l=true->σ.obj i=some (.list none l none)->sD C W s.heap p l vs->P)(k0:d=true->P):P:=
 Qq (P:=λo=>σ.obj i=o->P) e (λl e q=>(I.at hp q).elim λvs b=>k l vs e q b.one) (λe z=>k0 e) rfl
theorem Inv.UB(I:Inv C W σ s)(hp:W.τ[i]?=some p){f}(e:Mine.Internal.UB (σ.obj i) f d=true)(k:∀l a vs,f l a=true->σ.obj i=some (.list none l<|some a)->Eo C W s.heap p none l (some a) vs->P)(k0:d=true->P):P:=
 tN (P:=λo=>σ.obj i=o->P) e (λl a e q=>(I.at hp q).elim λvs b=>k l a vs e q b) (λe z=>k0 e) rfl
theorem Inv.Fc(I:Inv C W σ s)(hp:W.τ[i]?=some p){f}(e:Mine.Internal.Fc (σ.obj i) f d=true)(k:∀a l vs,f a l=true->σ.obj i=some (.list (some a) l none)->Eo C W s.heap p (some a) l none vs->P)(k0:d=true->P):P:=
 f7 (P:=λo=>σ.obj i=o->P) e (λa l e q=>(I.at hp q).elim λvs b=>k a l vs e q b) (λe z=>k0 e) rfl
theorem Eo.pQ{l:List AV}(b:Eo C W s.heap p a l none vs):s.heap.IsList p.1 (Aw4<|part W a++vs):=Ar7 (part W a++vs)▸b.il
theorem Inv.KN(I:Inv C W σ s)(hp:W.τ[i]?=some p){f}(e:Mine.Internal.KN (σ.obj i) f d=true)(k:∀a l vs,f a l=true->σ.obj i=some (.list a l none)->Eo C W s.heap p a l none vs->P)(k0:d=true->P):P:=
 tM (P:=λo=>σ.obj i=o->P) e (λa l e q=>(I.at hp q).elim λvs b=>k a l vs e q b) (λe z=>k0 e) rfl
theorem Inv.GH(I:Inv C W σ s)(hp:W.τ[i]?=some p){f}(e:Mine.Internal.GH (σ.obj i) f d=true)(k:∀l a m vs ws,f l a m=true->σ.obj i=some (.mid l a m)->RS C W s.heap p l a m vs ws->P)(k0:d=true->P):P:=
 f6 (P:=λo=>σ.obj i=o->P) e (λl a m e q=>(I.at hp q).elim λvs b=>b.elim λws b=>k l a m vs ws e q b) (λe z=>k0 e) rfl
theorem Inv.DC(I:Inv C W σ s)(hp:W.τ[i]?=some p){f}(e:Mine.Internal.DC (σ.obj i) f d=true)(k:∀l Bk,f l=true->σ.obj i=some (.dict l)->p.2=p.1->s.heap.DictOf (AF C.prog C.w) p.1 Bk->Co C W s.heap l Bk->P)(k0:d=true->P):P:=
 mY (P:=λo=>σ.obj i=o->P) e (λl e q=>(I.at hp q).elim λep b=>b.elim λBk b=>k l Bk e q ep b.1 b.2) (λe z=>k0 e) rfl
theorem Inv.Fh(I:Inv C W σ s)(hp:W.τ[i]?=some p){f}(e:Mine.Internal.Fh (σ.obj i) f d=true)(k:∀c l,f c l=true->σ.obj i=some (.inst c l)->Ob C W s.heap p (.inst c l)->P)(k0:d=true->P):P:=
 Uy (P:=λo=>σ.obj i=o->P) e (λc l e q=>k c l e q (I.at hp q)) (λe z=>k0 e) rfl
theorem Inv.Jz(I:Inv C W σ s)(hp:W.τ[i]?=some p){f}(e:Mine.Internal.Jz (σ.obj i) f d=true)(k:∀x y,f x y=true->σ.obj i=some (.old x y)->Ob C W s.heap p (.old x y)->P)(k0:d=true->P):P:=
 UA (P:=λo=>σ.obj i=o->P) e (λx y e q=>k x y e q (I.at hp q)) (λe z=>k0 e) rfl
theorem Inv.KL(I:Inv C W σ s)(hp:W.τ[i]?=some p){f}(e:Mine.Internal.KL (σ.obj i) f d=true)(k:∀x y,f x y=true->σ.obj i=some (.exc x y)->Ob C W s.heap p (.exc x y)->P)(k0:d=true->P):P:=
 tL (P:=λo=>σ.obj i=o->P) e (λx y e q=>k x y e q (I.at hp q)) (λe z=>k0 e) rfl
theorem Inv.fZ(I:Inv C W σ s)(hp:W.τ[i]?=some p){f}(e:Mine.Internal.fZ (σ.obj i) f d=true)(k:∀x,f x=true->σ.obj i=some (.ed x)->Ob C W s.heap p (.ed x)->P)(k0:d=true->P):P:=
 tK (P:=λo=>σ.obj i=o->P) e (λx e q=>k x e q (I.at hp q)) (λe z=>k0 e) rfl
theorem Inv.Mr(I:Inv C W σ s)(hp:W.τ[i]?=some p){f}(e:Mine.Internal.Mr (σ.obj i) f d=true)(k:∀x y z,f x y z=true->σ.obj i=some (.Gr x y z)->Ob C W s.heap p (.Gr x y z)->P)(k0:d=true->P):P:=
 mZ (P:=λo=>σ.obj i=o->P) e (λx y z e q=>k x y z e q (I.at hp q)) (λe zz=>k0 e) rfl
theorem Inv.BU(I:Inv C W σ s)(hp:W.τ[i]?=some p){f}(e:Mine.Internal.BU (σ.obj i) f d=true)(k:∀x,f x=true->σ.obj i=some (.Ao x)->Ob C W s.heap p (.Ao x)->P)(k0:d=true->P):P:=
 HJ (P:=λo=>σ.obj i=o->P) e (λx e q=>k x e q (I.at hp q)) (λe z=>k0 e) rfl
theorem Inv.Cu(I:Inv C W σ s)(hp:W.τ[i]?=some p){f}(e:Mine.Internal.Cu (σ.obj i) f d=true)(k:∀l,f l=true->σ.obj i=some (.frame l)->Ob C W s.heap p (.frame l)->P)(k0:d=true->P):P:=
 FR (P:=λo=>σ.obj i=o->P) e (λl e q=>k l e q (I.at hp q)) (λe z=>k0 e) rfl
theorem Inv.Ii(I:Inv C W σ s)(hp:W.τ[i]?=some p){f}(e:Mine.Internal.Ii (σ.obj i) f d=true)(k:∀v,f v=true->σ.obj i=some (.cell v)->Ob C W s.heap p (.cell v)->P)(k0:d=true->P):P:=
 mX (P:=λo=>σ.obj i=o->P) e (λv e q=>k v e q (I.at hp q)) (λe z=>k0 e) rfl
theorem Inv.FT(I:Inv C W σ s)(hp:W.τ[i]?=some p){f}(e:Mine.Internal.FT (σ.obj i) f d=true)(k:∀v,f v=true->σ.obj i=some (.iter v)->Ob C W s.heap p (.iter v)->P)(k0:d=true->P):P:=
 Uz (P:=λo=>σ.obj i=o->P) e (λv e q=>k v e q (I.at hp q)) (λe z=>k0 e) rfl
end
end
theorem MS{i j:Nat}(hp:ArX (AsV i 2) 0=ArX (AsV j 2) 0)(hd:Atm i 2=Atm j 2):i=j:=by
 have e:i % 2=j % 2:=by
  have hp:ArX (i % 2) 0=ArX (j % 2) 0:=hp;rcases Axz i with a |a
  ·rcases Axz j with b |b
   ·exact a.trans b.symm
   ·rw[a,b] at hp;exact ff hp.symm
  ·rcases Axz j with b |b
   ·rw[a,b] at hp;exact ff hp
   ·exact a.trans b.symm
 have hd:i/2=j/2:=hd;rw[←Nat.div_add_mod i 2,←Nat.div_add_mod j 2,hd,e]
theorem PA.Zb{t:PA}:∀{i j:Nat},j≠i->(t.set x i).get j=t.get j:=by
 induction t with
 |nil=>
  intro i j n
  induction i with
  |zero=>induction j with
   |zero=>exact absurd rfl n
   |succ j=>exact Df (P:=λo=>o=none) (b:=ArX (AsV j 2) 0) (λz=>rfl) λz=>rfl
  |succ i=>rfl
 |Ai v l r VS cV=>
  intro i j n
  induction i with
  |zero=>induction j with
   |zero=>exact absurd rfl n
   |succ j=>rfl
  |succ i=>induction j with
   |zero=>exact Df (P:=λt=>PA.get t 0=v) (b:=ArX (AsV i 2) 0) (λz=>rfl) λz=>rfl
   |succ j=>
    refine Df (P:=λt=>PA.get t (j+1)=bt (ArX (AsV j 2) 0) (l.get<|Atm j 2) (r.get<|Atm j 2)) (b:=ArX (AsV i 2) 0) (λq=>?_) λq=>?_
    ·show bt (ArX (AsV j 2) 0) ((l.set x<|Atm i 2).get<|Atm j 2) (r.get<|Atm j 2)=_;cases q':ArX (AsV j 2) 0 with
     |true=>exact VS λe=>n (congrArg Auv (MS (q'.trans q.symm) e))
     |false=>rfl
    ·show bt (ArX (AsV j 2) 0) (l.get<|Atm j 2) ((r.set x<|Atm i 2).get<|Atm j 2)=_;cases q':ArX (AsV j 2) 0 with
     |true=>rfl |false=>exact cV λe=>n (congrArg Auv (MS (q'.trans q.symm) e))
theorem PA.qH{t:PA}:∀{i:Nat},(t.set x i).get i=some y->y=x:=by
 induction t with
 |nil=>
  intro i h
  induction i with
  |zero=>exact(Ase h).symm
  |succ i=>exact ns h
 |Ai v l r VS cV=>
  intro i h
  induction i with
  |zero=>exact(Ase h).symm
  |succ i=>
   have h:PA.get (bt (ArX (AsV i 2) 0) (.Ai v (l.set x<|Atm i 2) r)<|.Ai v l<|r.set x<|Atm i 2) (i+1)=some y:=h;cases q:ArX (AsV i 2) 0 with
   |true=>rw[q] at h;have h:bt (ArX (AsV i 2) 0) ((l.set x (Atm i 2)).get (Atm i 2)) (r.get (Atm i 2))=some y:=h;rw[q] at h;exact VS h
   |false=>rw[q] at h;have h:bt (ArX (AsV i 2) 0) (l.get (Atm i 2)) ((r.set x (Atm i 2)).get (Atm i 2))=some y:=h;rw[q] at h;exact cV h
theorem PA.get_set(t:PA)(x:AO)(i j:Nat)(y:AO)(h:(t.set x i).get j=some y):(j=i∧y=x)∨(j≠i∧t.get j=some y):=
 (Nat.decEq j i).casesOn (λn=>.inr ⟨n,(PA.Zb n).symm.trans h⟩) λe=>.inl ⟨e,PA.qH<|e▸h⟩
theorem PA.Iz:∀(t:PA) (j:Nat) (y:AO),t.kill.get j=some y->∃o,t.get j=some o∧y=Cn o:=by
 intro t
 induction t with
 |nil=>intro j y h;cases h
 |Ai v l r VS cV=>
  intro j y h
  induction j with
  |zero=>
   change OR none (λo=>some (Cn o)) v=some y at h
   induction v with
   |none=>cases h
   |some o=>exact⟨o,rfl,(Ase h).symm⟩
  |succ j=>
   change bt (ArX (AsV j 2) 0) (l.kill.get<|Atm j 2) (r.kill.get<|Atm j 2)=some y at h;change∃o,bt (ArX (AsV j 2) 0) (l.get<|Atm j 2) (r.get<|Atm j 2)=some o∧y=Cn o;cases q:ArX (AsV j 2) 0 with
   |true=>rw[q] at h;exact VS _ _ h
   |false=>rw[q] at h;exact cV _ _ h
theorem St.Q9{σ:St}{i j:Nat}(h:(σ.put i o).obj j=some y):(j=i∧y=o)∨(j≠i∧σ.obj j=some y):=PA.get_set _ _ _ _ _ h
theorem St.dU{σ:St}{j:Nat}(h:(σ.new o).obj j=some y):(j=σ.n∧y=o)∨(j≠σ.n∧σ.obj j=some y):=PA.get_set _ _ _ _ _ h
theorem St.Ly(σ:St)(i o):(σ.put i o).A8=bt (AtP i σ.low) (σ.A8+1) σ.A8:=rfl
theorem Dh{α:Type}{l:List α}{a:α}(h:a∈l):∃i:Nat,l[i]?=some a:=List.getElem?_of_mem h
theorem get_mem{α:Type}{l:List α}{i:Nat}{a:α}(h:l[i]?=some a):a∈l:=Atq h
theorem Inv.grow{s':ArT}(I:Inv C W σ s)(hk:∀b x,s.heap.get? b=some x->s'.heap.get? b=some x)(hg:s'.gens=s.gens)(ho:s'.os=s.os):
  Inv C W σ s'∧Ext σ W s σ W s':=by
 have T:AJ W W s.heap s'.heap:=λa items ⟨w,w2,⟨o,h,r⟩,o',h',r'⟩=>⟨w,w2,⟨o,hk _ _ h,r⟩,o',hk _ _ h',r'⟩
 have S:Cr W W s.heap s'.heap:=⟨ArZ _,ArZ _,λz z=>rfl,λz z=>rfl,T⟩;have E:∀a,own W.τ a->s'.heap.get? a=s.heap.get? a:=by
  rintro a ⟨p,hp,rfl |rfl⟩
  ·obtain⟨⟨o,h,_⟩,_⟩:=I.live p hp;rw[h,hk _ _ h]
  ·obtain⟨_,o,h,_⟩:=I.live p hp;rw[h,hk _ _ h]
 refine⟨⟨I.nτ,I.kρ,I.rl,I.rng,I.neg,I.BM,λi o h=>?_,I.apart,I.new,λp hp=>?_,λa ha=>⟨(I.HQ a ha).1,let⟨o,h,q⟩:=(I.HQ a ha).2;⟨o,hk _ _ h,q⟩⟩,λa o h=>hk _ _ (I.base a o h),hg.trans I.gens,ho.trans I.os,λa ha=>⟨(I.fo a ha).1,let⟨o,h⟩:=(I.fo a ha).2;⟨o,hk _ _ h⟩⟩⟩,?_⟩
 ·refine hide λAx Aa=>?_
  obtain⟨p,hp,hb⟩:=I.obj i o h;refine Aa ?_;exact⟨p,hp,hb.AS S (E _ ⟨p,get_mem hp,.inl rfl⟩)<|E _ ⟨p,get_mem hp,.inr rfl⟩⟩
 ·refine hide λAx Aa=>?_
  obtain⟨⟨o,h,n⟩,o',h',n'⟩:=I.live p hp;refine Aa ?_;exact⟨⟨o,hk _ _ h,n⟩,o',hk _ _ h',n'⟩
 ·exact⟨ArZ _,ArZ _,λz z=>rfl,λz z=>rfl,rfl,As0 _,λa o e z z=>⟨o.slots,hk _ _ e,λz=>rfl⟩,λz a o e z=>hk _ _ e,λp h=>.inl h,
   λa o e=>⟨o,hk _ _ e⟩,λa o e d=>⟨o,hk _ _ e,d⟩,ArZ _,rfl⟩
theorem Inv.put{W:Wd}{σ:St}{s s':ArT}(I:Inv C W σ s){i:Nat}{o:AO}{p:Ar0×Ar0}(hp:W.τ[i]?=some p)
  (hk:∀b x,b≠p.1->b≠p.2->s.heap.get? b=some x->s'.heap.get? b=some x)
  (hb:AJ W W s.heap s'.heap->Ob C W s'.heap p o)
  (h1:∃x,s'.heap.get? p.1=some x∧Be x)(h2:∃x,s'.heap.get? p.2=some x∧Be x)
  (hd:∀a,a=p.1∨a=p.2->∀x,s.heap.get? a=some x->CZ x->∃x',s'.heap.get? a=some x'∧CZ x')
  (hg:s'.gens=s.gens)(ho:s'.os=s.os):Inv C W (σ.put i o) s'∧Ext σ W s (σ.put i o) W s':=by
 have T:AJ W W s.heap s'.heap:=by
  intro a items ⟨hn,hf,ht,y,hy,r'⟩;obtain⟨x,hx,r⟩:=ht;have k:=λx=>hk a x (λe=>hn ⟨p,get_mem hp,.inl e⟩) (λe=>hn ⟨p,get_mem hp,.inr e⟩)
  exact⟨hn,hf,⟨x,k _ hx,r⟩,y,k _ hy,r'⟩
 have S:Cr W W s.heap s'.heap:=⟨ArZ _,ArZ _,λz z=>rfl,λz z=>rfl,T⟩;have E:∀(j:Nat) (q:Ar0×Ar0),W.τ[j]?=some q->j≠i->s'.heap.get? q.1=s.heap.get? q.1∧s'.heap.get? q.2=s.heap.get? q.2:=by intro j q hq cK;obtain⟨a1,a2,a3,a4⟩:=I.apart j i q p hq hp cK;obtain⟨⟨x,hx,_⟩,y,hy,_⟩:=I.live q (get_mem hq);exact⟨by rw[hx,hk _ _ a1 a2 hx],by rw[hy,hk _ _ a3 a4 hy]⟩
 refine⟨⟨I.nτ,I.kρ,I.rl,I.rng,I.neg,I.BM,λj y h=>?_,I.apart,I.new,λq hq=>?_,λa ha=>⟨(I.HQ a ha).1,?_⟩,λa x h=>?_,hg.trans I.gens,ho.trans I.os,λa ha=>⟨(I.fo a ha).1,?_⟩⟩,?_⟩
 ·rcases St.Q9 h with⟨rfl,rfl⟩|⟨cK,h⟩
  ·exact⟨p,hp,hb T⟩
  ·obtain⟨q,hq,hob⟩:=I.obj j y h;obtain⟨e1,e2⟩:=E j q hq cK;exact⟨q,hq,hob.AS S e1 e2⟩
 ·obtain⟨j,hj⟩:=Dh hq;by_cases cK:j=i
  ·subst cK;rw[hp] at hj;cases hj;exact⟨h1,h2⟩
  ·obtain⟨e1,e2⟩:=E j q hj cK;obtain⟨⟨x,hx,n⟩,y,hy,n'⟩:=I.live q hq;exact⟨⟨x,e1.trans hx,n⟩,y,e2.trans hy,n'⟩
 ·obtain⟨x,hx,fx⟩:=(I.HQ a ha).2;by_cases q:a=p.1∨a=p.2
  ·exact hd a q x hx fx
  ·exact⟨x,hk _ _ (λr=>q (.inl r)) (λr=>q (.inr r)) hx,fx⟩
 ·obtain⟨n1,n2⟩:=I.new p (get_mem hp);exact hk _ _ (λe=>by rw[e,n1] at h;cases h) (λe=>by rw[e,n2] at h;cases h) (I.base a x h)
 ·obtain⟨x,hx⟩:=(I.fo a ha).2;by_cases q1:a=p.1
  ·subst q1;exact⟨_,h1.choose_spec.1⟩
  ·by_cases q2:a=p.2
   ·subst q2;exact⟨_,h2.choose_spec.1⟩
   ·exact⟨x,hk _ _ q1 q2 hx⟩
 ·refine⟨ArZ _,ArZ _,λz z=>rfl,λz z=>rfl,rfl,?_,λa x e z n=>⟨x.slots,hk _ _ (λq=>n ⟨p,get_mem hp,.inl q⟩) (λq=>n ⟨p,get_mem hp,.inr q⟩) e,λz=>rfl⟩,λv a x e h=>?_,λp h=>.inl h,λa x e=>?_,λa x e d=>?_,ArZ _,rfl⟩
  ·rw[St.Ly];cases AtP i σ.low<;>simp[bt]
  ·rw[St.Ly] at v;have Ai4:¬i<σ.low:=by
    intro hl;rw[show AtP i σ.low=true from by simpa using hl] at v;exact absurd v (by simp[bt])
   refine hk _ _ ?_ ?_ e
   all_goals
    rintro rfl;rcases h with h |⟨q,hq,hh⟩
    ·exact h ⟨p,get_mem hp,by simp⟩
    ·obtain⟨j,hj⟩:=Dh hq;have hjl:j<σ.low:=by
      have:=(Ar2.mp hj).1;rw[Atr] at this;omega
     rw[List.getElem?_take_of_lt hjl] at hj;have cK:j≠i:=by omega
     obtain⟨a1,a2,a3,a4⟩:=I.apart j i q p hj hp cK;rcases hh with hh |hh
     ·first |exact a1 hh.symm |exact a2 hh.symm
     ·first |exact a3 hh.symm |exact a4 hh.symm
  ·by_cases q1:a=p.1
   ·subst q1;obtain⟨x,hx,_⟩:=h1;exact⟨x,hx⟩
   ·by_cases q2:a=p.2
    ·subst q2;obtain⟨x,hx,_⟩:=h2;exact⟨x,hx⟩
    ·exact⟨x,hk _ _ q1 q2 e⟩
  ·by_cases q:a=p.1∨a=p.2
   ·exact hd a q x e d
   ·exact⟨x,hk _ _ (λr=>q (.inl r)) (λr=>q (.inr r)) e,d⟩
noncomputable def Wd.more(W:Wd)(p:Ar0×Ar0)(fl:List Ar0:=[]):Wd:={W with τ:=W.τ++ [p],fs:=W.fs++fl}
theorem Inv.iM{W:Wd}{σ:St}{s s':ArT}(I:Inv C W σ s){o:AO}{p:Ar0×Ar0}{fl:List Ar0}
  (hk:∀b x,s.heap.get? b=some x->s'.heap.get? b=some x)(n1:s.heap.get? p.1=none)(n2:s.heap.get? p.2=none)
  (hb:Cr W (W.more p fl) s.heap s'.heap->Ob C (W.more p fl) s'.heap p o)
  (h1:∃x,s'.heap.get? p.1=some x∧Be x)(h2:∃x,s'.heap.get? p.2=some x∧Be x)
  (hg:s'.gens=s.gens)(ho:s'.os=s.os)(hfl:∀a∈fl,C.h1.get? a=none∧∃o,s'.heap.get? a=some o∧CZ o):Inv C (W.more p fl) (σ.new o) s'∧Ext σ W s (σ.new o) (W.more p fl) s':=by
 have T:AJ W (W.more p fl) s.heap s'.heap:=λa items ⟨w,w2,⟨o,h,r⟩,o',h',r'⟩=>by
  refine⟨HZ (λq hq=>?_) w,w2,⟨o,hk _ _ h,r⟩,o',hk _ _ h',r'⟩;rcases AsA.mp hq with hq |hq
  ·exact .inl hq
  ·refine(Ash.mp hq).symm▸?_;exact .inr ⟨λe=>(by rw[e,h] at n1;cases n1),λe=>(by rw[e,h] at n2;cases n2)⟩
 have S:Cr W (W.more p fl) s.heap s'.heap:=⟨ArZ _,Asf _ _,λzz zz=>rfl,λzz zz=>rfl,T⟩;have old:∀q∈W.τ,q.1≠p.1∧q.1≠p.2∧q.2≠p.1∧q.2≠p.2:=by
  intro q hq;refine hide λAx Aa=>?_
  obtain⟨⟨x,hx,_⟩,y,hy,_⟩:=I.live q hq;refine Aa ?_;refine⟨λe=>?_,λe=>?_,λe=>?_,λe=>?_⟩
  ·rw[e,n1] at hx;cases hx
  ·rw[e,n2] at hx;cases hx
  ·rw[e,n1] at hy;cases hy
  ·rw[e,n2] at hy;cases hy
 have gx:∀(i:Nat) (q:Ar0×Ar0),(W.more p fl).τ[i]?=some q->(i<W.τ.length∧W.τ[i]?=some q)∨(i=W.τ.length∧q=p):=by
  intro i q h;by_cases hl:i<W.τ.length
  ·exact .inl ⟨hl,by rwa [show(W.more p fl).τ=W.τ++ [p] from rfl,Asn hl] at h⟩
  ·refine .inr ?_;rw[show(W.more p fl).τ=W.τ++ [p] from rfl,Asc<|AtE hl] at h;have:i-W.τ.length=0:=by
    have:=(Ar2.mp h).1;simp only[Asr,AtA] at this;omega
   rw[this] at h;exact⟨by omega,by cases h;rfl⟩
 refine⟨⟨?_,I.kρ,I.rl,I.rng,I.neg,I.BM,λj y h=>?_,λi j q r hq hr cJ=>?_,λq hq=>?_,λq hq=>?_,λa ha=>?_,λa x h=>hk _ _ (I.base a x h),hg.trans I.gens,ho.trans I.os,λa ha=>⟨(I.fo a ha).1,let⟨o,h⟩:=(I.fo a ha).2;⟨o,hk _ _ h⟩⟩⟩,?_⟩
 ·show(W.τ++ [p]).length=σ.n+1;refine Ar1.symm▸?_;refine I.nτ.symm▸?_;rfl
 ·rcases St.dU h with⟨rfl,rfl⟩|⟨cK,h⟩
  ·refine⟨p,?_,hb S⟩;show(W.τ++ [p])[σ.n]?=some p;refine I.nτ▸?_;simp
  ·refine hide λAx Aa=>?_
   obtain⟨q,hq,hob⟩:=I.obj j y h;obtain⟨⟨x,hx,_⟩,z,hz,_⟩:=I.live q (get_mem hq);refine Aa ?_;exact⟨q,Ab S.τ hq,hob.AS S (by rw[hx,hk _ _ hx]) (by rw[hz,hk _ _ hz])⟩
 ·rcases gx i q hq with⟨li,hq'⟩|⟨rfl,rfl⟩
  ·rcases gx j r hr with⟨lj,TS⟩|⟨rfl,rfl⟩
   ·exact I.apart i j q r hq' TS cJ
   ·exact old q (get_mem hq')
  ·rcases gx j r hr with⟨lj,hr⟩|⟨rfl,rfl⟩
   ·refine hide λAx Aa=>?_
    obtain⟨a1,a2,a3,a4⟩:=old r (get_mem hr);refine Aa ?_;exact⟨a1.symm,a3.symm,a2.symm,a4.symm⟩
   ·exact absurd rfl cJ
 ·rcases AsA.mp hq with hq |hq
  ·exact I.new q hq
  ·refine(Ash.mp hq).symm▸?_;refine⟨?_,?_⟩
   ·cases e:C.h1.get? p.1 with
    |none=>rfl |some x=>have:=I.base _ _ e;rw[n1] at this;cases this
   ·cases e:C.h1.get? p.2 with
    |none=>rfl |some x=>have:=I.base _ _ e;rw[n2] at this;cases this
 ·rcases AsA.mp hq with hq |hq
  ·refine hide λAx Aa=>?_
   obtain⟨⟨x,hx,n⟩,y,hy,n'⟩:=I.live q hq;refine Aa ?_;exact⟨⟨x,hk _ _ hx,n⟩,y,hk _ _ hy,n'⟩
  ·refine(Ash.mp hq).symm▸?_;exact⟨h1,h2⟩
 ·rcases AsA.mp ha with ha |ha
  ·exact⟨(I.HQ a ha).1,let⟨o,h,q⟩:=(I.HQ a ha).2;⟨o,hk _ _ h,q⟩⟩
  ·exact hfl a ha
 ·refine⟨Asf _ _,ArZ _,λzz zz=>rfl,λzz zz=>rfl,rfl,As0 _,λa o e zz zz=>⟨o.slots,hk _ _ e,λzz=>rfl⟩,λzz a o e zz=>hk _ _ e,λq hq=>?_,λa o e=>⟨o,hk _ _ e⟩,λa o e d=>⟨o,hk _ _ e,d⟩,Asf _ _,rfl⟩;rcases AsA.mp hq with hq |hq
  ·exact .inl hq
  ·refine(Ash.mp hq).symm▸?_;exact .inr ⟨n1,n2⟩
theorem Inv.make{W:Wd}{σ:St}{s s':ArT}(I:Inv C W σ s){o:AO}{p:Ar0×Ar0}
  (hk:∀b x,s.heap.get? b=some x->s'.heap.get? b=some x)(n1:s.heap.get? p.1=none)(n2:s.heap.get? p.2=none)
  (hb:Cr W (W.more p) s.heap s'.heap->Ob C (W.more p) s'.heap p o)
  (h1:∃x,s'.heap.get? p.1=some x∧Be x)(h2:∃x,s'.heap.get? p.2=some x∧Be x)
  (hg:s'.gens=s.gens)(ho:s'.os=s.os):Inv C (W.more p) (σ.new o) s'∧Ext σ W s (σ.new o) (W.more p) s':=I.iM hk n1 n2 hb h1 h2 hg ho (λa h=>nomatch h)
def Traced(C:Cx)(h:Asb)(x:Ar0):Prop:=∃o fs T oT ts m,h.get? x=some o∧o.data= .fields fs∧fs[1]?=some (.ref T)∧C.h1.get? T=none∧T≠x∧h.get? T=some oT∧oT.data= .fields ts∧ts[3]?=some m
def Kz(C:Cx)(h:Asb)(x:Ar0):Prop:=(∃o fs,h.get? x=some o∧o.data= .fields fs∧fs[1]?=some .none)∨Traced C h x
inductive Ah{α β:Type}(C:Cx)(k:K α)(σ:St)(W:Wd)(s:ArT)(R:Wd->Asb->α->β->Prop)(b:β)(s':ArT):Prop
 |mk (a:α) (σ':St) (W':Wd) (h:k a σ'=true) (x:Ext σ W s σ' W' s') (I:Inv C W' σ' s') (r:R W' s'.heap a b)
inductive Ac(C:Cx)(ke:K AV)(σ:St)(W:Wd)(s:ArT)(e:ArR)(s':ArT):Prop
 |mk (j:Nat) (D:Nat) (l:Option Nat) (σ':St) (W':Wd) (p:Ar0×Ar0) (h:ke (.obj j) σ'=true) (v:σ.A8≤σ'.A8) (o:σ'.obj j=some (.old D l)) (hp:W'.τ[j]?=some p) (ee:e= .ref p.1) (fl:Kz C s'.heap p.1) (x:Ext σ W s (σ'.after j D l) W' s') (I:Inv C W' (σ'.after j D l) s')
def Sp{α β:Type}(C:Cx)(A:Ar4)(σ:St)(W:Wd)(s:ArT)(t:Sem β)(m:M α)(R:Wd->Asb->α->β->Prop):Prop:=
 ∀k ke,m k ke=true->Ar5 (model C.prog C.w) A t (Ah C k σ W s R) (Ac C ke σ W s) s
section
variable{α β γ δ:Type}{A:Ar4}{σ σ':St}{W W':Wd}{s s':ArT}{R:Wd->Asb->α->β->Prop}{R':Wd->Asb->γ->δ->Prop}
theorem Ah.base{k:K α}{b:β}(x:Ext σ W s σ' W' s')(h:Ah C k σ' W' s' R b s2):Ah C k σ W s R b s2:=by
 induction h with
 |mk a σ2 W2 h y I r=>exact⟨a,σ2,W2,h,x.trans y,I,r⟩
theorem Ac.base(x:Ext σ W s σ' W' s')(h:Ac C ke σ' W' s' e s2):Ac C ke σ W s e s2:=by
 induction h with
 |mk j D l σ2 W2 p h v o hp ee fl y I=>exact⟨j,D,l,σ2,W2,p,h,AtH x.A8 v,o,hp,ee,fl,x.trans y,I⟩
theorem Sp.pure(I:Inv C W σ s){a:α}{b:β}{m:M α}(hm:∀k ke,m k ke=true->k a σ=true)(h:R W s.heap a b):Sp C A σ W s (Asl b) m R:=
 λk ke e=>ArS ⟨a,σ,W,hm k ke e,.refl _ _ _,I,h⟩
theorem Sp.here(x:Ext σ W s σ' W' s){t:Sem β}{m:M α}(h:Sp C A σ' W' s t m R):Sp C A σ W s t m R:=
 λk ke e=>ArY (h k ke e) (λz z q=>q.base x) (λz z q=>q.base x)
theorem Sp.bind{t:Sem β}{f:β->Sem δ}{m:M α}{g:α->St->M γ}(ht:Sp C A σ W s t m R)
  (hf:∀a b σ1 W1 s1,Ext σ W s σ1 W1 s1->Inv C W1 σ1 s1->R W1 s1.heap a b->Sp C A σ1 W1 s1 (f b) (g a σ1) R'):
  Sp C A σ W s (t>>=f) (λk ke=>m (λa σ=>g a σ k ke) ke) R':=λk ke e=>
 ArQ (ArY (ht _ ke e) (λb s1 hp=>by
  induction hp with
  |mk a σ1 W1 h1 x I r=>exact(ArY (hf a b σ1 W1 s1 x I r k ke h1) (λz z=>Ah.base x) (λz z=>Ac.base x))) (λz z=>id))
theorem Sp.holding{t:Sem β}{m:M α}(h:Sp C A σ W s t m R):Sp C A σ W s (Auz vs t) m R:=λk ke e=>Aso (h k ke e)
theorem Sp.standAt{f:Unit->Sem β}{m:M α}(h:Sp C A σ W s (f ()) m R):Sp C A σ W s (PySem.standAt pos>>=f) m R:=λk ke e=>ArQ (AsH<|h k ke e)
end
def RV(C:Cx)(W:Wd)(h:Asb)(a:AV)(b:ArR):Prop:=VR C W h a b
def RVs(C:Cx)(W:Wd)(h:Asb)(a:List AV)(b:List ArR):Prop:=Ae C W h a b
def RU(W:Wd)(h:Asb)(_:Unit)(_:Unit):Prop:=True
def RB(W:Wd)(h:Asb)(a b:Bool):Prop:=a=b
theorem Bw(name:Str)(MZ:Int)(key v:ArR)(c:ArR)(d:Option Ar0)(es:List Ass)(n:Nat)(sl:Array (Option ArR)):
  AsL name MZ key v ⟨c,d,.dict es.toArray n,sl⟩=⟨c,d,.dict (putL name MZ key v es).toArray<|putN name es n,sl⟩:=by
 refine Obj.putName_eq.symm▸?_;unfold Obj.putNameByArray putN;have h1:=putL_find name MZ key v es;have h2:=any_of_findIdx name es;simp only[List.findIdx?_toArray];cases h:List.findIdx? (λx=>x.key.isStr name) es with
 |none=>rw[h] at h1 h2;refine h2▸?_;refine h1▸?_;simp
 |some i=>rw[h] at h1 h2;refine h2▸?_;refine h1▸?_;simp
theorem EY(e:Ass)(r:List Ass)(y:Str):Auc (e::r).toArray y=if e.key.isStr y then some e.val else Auc r.toArray y:=by unfold Auc AyY;simp only[AwG,AwF];cases e.key.isStr y<;>simp
theorem SW{v:ArR}{x y:Str}(h:v.isStr x=true):v.isStr y=(x==y):=by
 induction v<;>simp[Value.isStr] at h ⊢
 rw[h]
theorem Pm(nm:Str)(MZ:Int)(t:Tok)(v:ArR)(y:Str):∀es:List Ass,Auc (putL nm MZ (.str nm t) v es).toArray y=if y=nm then some v else Auc es.toArray y
 | []=>by
  rw[putL,EY];have e:Value.isStr (.str nm t) y=(nm==y):=rfl;refine(show(DictEntry.mk MZ (.str nm t) v).key= .str nm t from rfl).symm▸?_;refine e.symm▸?_;by_cases h:y=nm
  ·subst h;simp
  ·have h':¬nm=y:=λe=>h e.symm
   simp[h,h',Auc,AyY]
 |e::r=>by
  rw[putL];cases q:e.key.isStr nm with
  |true=>
   rw[if_pos rfl,EY,EY];refine(show(DictEntry.mk e.hash e.key v).key=e.key from rfl).symm▸?_;refine(SW (y:=y) q).symm▸?_;by_cases h:y=nm
   ·subst h;simp
   ·have h':¬nm=y:=λe=>h e.symm
    simp[h,h']
  |false=>
   rw[if_neg (by simp),EY,EY,Pm nm MZ t v y r];by_cases h:y=nm
   ·subst h;simp[q]
   ·simp[h]
theorem G6{nm:Str}{MZ:Int}{t:Tok}{v:ArR}:∀{es:List Ass},(∀e∈es,∃n t,e.key= .str n t)->∀e∈putL nm MZ (.str nm t) v es,∃n t,e.key= .str n t
 | [],_,e,he=>by rw[putL,Ash] at he;subst he;exact⟨nm,t,rfl⟩
 |a::r,h,e,he=>by
  rw[putL] at he;split at he
  ·rcases Ar3.mp he with rfl |he
   ·exact h a (.head _)
   ·exact h e (.tail _ he)
  ·rcases Ar3.mp he with rfl |he
   ·exact h _ (.head _)
   ·exact G6 (λe he=>h e (.tail _ he)) e he
theorem Dj(nm:Str)(MZ:Int)(t:Tok)(v:ArR):∀es:List Ass,(putL nm MZ (.str nm t) v es).length=if(Auc es.toArray nm).isSome then es.length else es.length+1
 | []=>by simp[putL,Auc,AyY]
 |e::r=>by
  rw[putL,EY];cases q:e.key.isStr nm with
  |true=>simp
  |false=>rw[if_neg (by simp),Asr,Dj nm MZ t v r];simp only[AsM,if_false];split<;>simp
section
variable{prog:AsR}{w:ArV}{A:Ar4}{E:ArR->ArT->Prop}{s:ArT}
theorem IZ{a:Ar0}{c:ArR}{d:Option Ar0}{es:List Ass}{n:Nat}{sl:Array (Option ArR)}{nm:Str}{v:ArR}{Q:Unit->ArT->Prop}(ho:s.heap.get? a=some ⟨c,d,.dict es.toArray n,sl⟩)(hk:∀e∈es,∃n t,e.key= .str n t)
  (h:Q () {s with heap:=s.heap.update a (AsL nm (Asi w.params nm) (.str nm s.toks) v),toks:=s.toks+1}):Ar5 (model prog w) A (nsSet a nm v) Q E s:=by
 unfold nsSet;refine ArQ<|ArQ<|AzJ<|ArS<|Ql<|ArQ<|AuI ho ?_;have cc:(!es.toArray.any (·.key.isStr nm)&&es.toArray.any (·.refKey))=false:=by
  have:es.toArray.any (·.refKey)=false:=by rw[Au4];intro e he;obtain⟨m,t,hm⟩:=hk e (by simpa using he);simp[Avs,hm]
  rw[this,Bool.and_false]
 dsimp only;rw[AyB,cc];exact Az1 ho h
theorem Ns.put{h:Asb}{a:Ar0}{c:ArR}{d:Option Ar0}{es:List Ass}{n:Nat}{sl:Array (Option ArR)}{m:Str->Option ArR}(ho:h.get? a=some ⟨c,d,.dict es.toArray n,sl⟩)(hk:∀e∈es,∃n t,e.key= .str n t)(hm:∀y,Auc es.toArray y=m y)(nm:Str)(MZ:Int)(t:Tok)(v:ArR):
  (h.update a<|AsL nm MZ (.str nm t) v).Ns a (λx=>if x=nm then some v else m x)∧∃ZP n',(h.update a<|AsL nm MZ (.str nm t) v).get? a=some ⟨c,d,.dict ZP n',sl⟩:=by
 have hf:(AsL nm MZ (.str nm t) v ⟨c,d,.dict es.toArray n,sl⟩).isFreed=false:=by rw[Bw];rfl
 have g:=Asa (AsL nm MZ (.str nm t) v) ho hf;rw[Bw] at g;refine⟨⟨_,_,_,g,rfl,λe he=>?_,λy=>?_⟩,_,_,g⟩
 ·exact G6 hk e (by simpa using he)
 ·rw[Pm,hm]
theorem Gv{env:Env}{nm:Str}{m:Str->Option ArR}{v:ArR}{Q:Unit->ArT->Prop}(hl:env.kindOf nm=some .local)(hn:s.heap.Ns env.locals m)
  (h:∀h',h'.Ns env.locals (λx=>if x=nm then some v else m x)->AsD env.locals s.heap h'->(∀o,s.heap.get? env.locals=some o->CZ o->∃o',h'.get? env.locals=some o'∧CZ o')->Q () {s with heap:=h',toks:=s.toks+1})
  (hp:(env.scope.kind== .class||(env.scope.kind== .module&&env.locals != env.globals))=false):Ar5 (model prog w) A (Azv env nm v) Q E s:=by
 rw[storeName_local hl hp];refine hide λAx Aa=>?_
 obtain⟨⟨c,d,dt,sl⟩,⟨es⟩,n,ho,hd,hk,hm⟩:=hn;refine Aa ?_;cases(show dt= .dict ⟨es⟩ n from hd);have VL:∀e∈es,∃n t,e.key= .str n t:=λe he=>hk e (by simpa using he)
 refine IZ ho VL ?_;refine hide λAx Aa=>?_
 obtain⟨a1,ZP,n',a2⟩:=Ns.put ho VL hm nm (Asi w.params nm) s.toks v;refine Aa ?_;refine h _ a1 (AsK ..) λo h1 h2=>⟨_,a2,?_⟩
 rw[ho] at h1;cases h1;exact⟨h2.1,_,_,rfl⟩
end
theorem CJ{α:Type}(p:Nm×α)(l:List (Nm×α))(x:Nm):AW (p::l) x=bt (ArX x p.1) (some p.2) (AW l x):=rfl
theorem Kt{α:Type}(p:Nm×α)(l:List (Nm×α))(x:Nm)(v:α):AM (p::l) x v=bt (ArX x p.1) ((p.1,v)::l) (p::AM l x v):=rfl
theorem Sg{α:Type}(x y:α):bt true x y=x:=rfl
theorem Om{α:Type}(x y:α):bt false x y=y:=rfl
theorem DB(x:Nat):ArX x x=true:=Auq x
theorem GG{x y:Nat}(h:x≠y):ArX x y=false:=by
 cases q:ArX x y with
 |false=>rfl |true=>exact absurd (ArU q) h
theorem F5{α:Type}(x:Nm)(v:α)(y:Nm):∀l:List (Nm×α),AW (AM l x v) y=if y=x then some v else AW l y
 | []=>by
  show AW [(x,v)] y=_;rw[CJ];by_cases h:y=x
  ·subst h;rw[DB,if_pos rfl,Sg]
  ·rw[GG h,if_neg h,Om]
 |p::l=>by
  rw[Kt,CJ];by_cases h:x=p.1
  ·rw[h,DB,Sg,CJ];by_cases q:y=p.1
   ·rw[q,DB,if_pos rfl,Sg]
   ·rw[GG q,if_neg q,Om,Om]
  ·rw[GG h,Om,CJ,F5 x v y l];by_cases q:y=p.1
   ·rw[q,DB,Sg,if_neg<|AuD h,Sg]
   ·rw[GG q,Om,Om]
theorem Ej.set{l m}(N:Ej C W h l m){nm:Str}(hx:A9 x=some nm)(hv:VR C W h v cv):
  Ej C W h (AM l x v) (λy=>if y=nm then some cv else m y):=by
 refine⟨λy u hu=>?_,λn u hu=>?_⟩
 ·rw[F5] at hu;by_cases q:y=x
  ·rw[if_pos q] at hu;cases hu;exact⟨nm,cv,q▸hx,if_pos rfl,hv⟩
  ·rw[if_neg q] at hu;refine hide λAx Aa=>?_
   obtain⟨n,w,a1,a2,a3⟩:=N.1 y u hu;refine Aa ?_;exact⟨n,w,a1,(if_neg (λe:n=nm=>q (HW a1<|e▸hx))).trans a2,a3⟩
 ·dsimp only at hu;by_cases q:n=nm
  ·exact⟨x,v,q▸hx,by rw[F5,if_pos rfl]⟩
  ·rw[if_neg q] at hu;refine hide λAx Aa=>?_
   obtain⟨y,w,a1,a2⟩:=N.2 n u hu;refine Aa ?_;refine⟨y,w,a1,?_⟩;rw[F5,if_neg (λe=>q ?_)]
   ·exact a2
   ·rw[e] at a1;rw[a1] at hx;exact Ase hx
theorem Ej.congr{l m m'}(N:Ej C W h l m)(e:∀y,m' y=m y):Ej C W h l m':=by rw[show m'=m from funext e];exact N
structure AD(C:Cx)(A:Ar4)(W:Wd)(sc:Asv)(E:AZ)(env:Env):Prop where
 scope:env.scope=sc
 kind:sc.kind= .function
 glob:env.globals=AuS
 bi:env.builtins=Atu
 fr:∃p,W.τ[E.fr]?=some p∧env.locals=p.1
 cells:∀x j nm,AW E.cells x=some j->A9 x=some nm->(sc.names.lookup nm=some .cell∨sc.names.lookup nm=some .free)->∃p,W.τ[j]?=some p∧env.cells.lookup nm=some p.1
 full:∀nm,(sc.names.lookup nm=some .cell∨sc.names.lookup nm=some .free)->∃a,env.cells.lookup nm=some a
 around:∃l,A.frames=some l∧(∀e∈l,e.scope.kind≠ .module∧∃L∈W.fs,e.frame=some L)∧∃e∈l,e.frame=env.frame
theorem Ext.up(x:Ext σ W s σ' W' s'):W.τ<+:W'.τ∧W.fs<+:W'.fs:=⟨x.τ,x.fs⟩
theorem AD.up{W':Wd}{sc E env}(h:AD C A W sc E env)(t:W.τ<+:W'.τ∧W.fs<+:W'.fs):AD C A W' sc E env:=
 ⟨h.scope,h.kind,h.glob,h.bi,h.fr.imp λz q=>⟨Ab t.1 q.1,q.2⟩,λx j nm q a k=>(h.cells x j nm q a k).imp λz q=>⟨Ab t.1 q.1,q.2⟩,h.full,
  h.around.imp λz q=>⟨q.1,λe he=>(q.2.1 e he).imp id λq=>q.imp λz q=>⟨t.2.subset q.1,q.2⟩,q.2.2⟩⟩
structure Jw(C:Cx)(W:Wd)(sc:Asv)(E:AZ)(env:Env):Prop where
 scope:env.scope=sc
 kind:sc.kind= .function
 fr:∃p,W.τ[E.fr]?=some p∧env.locals=p.1
 cells:∀x j nm,AW E.cells x=some j->A9 x=some nm->(sc.names.lookup nm=some .cell∨sc.names.lookup nm=some .free)->∃p,W.τ[j]?=some p∧env.cells.lookup nm=some p.1
theorem Jw.up{W':Wd}{sc E env}(h:Jw C W sc E env)(t:W.τ<+:W'.τ):Jw C W' sc E env:=
 ⟨h.scope,h.kind,h.fr.imp λz q=>⟨Ab t q.1,q.2⟩,λx j nm q a k=>(h.cells x j nm q a k).imp λz q=>⟨Ab t q.1,q.2⟩⟩
theorem AD.low{sc E env}(h:AD C A W sc E env):Jw C W sc E env:=⟨h.scope,h.kind,h.fr,h.cells⟩
theorem Jw.kindOf{sc E env}(e:Jw C W sc E env){nm:Str}{k:Atk}(hk:sc.names.lookup nm=some k):env.kindOf nm=some k:=by unfold Atx;rw[e.scope];exact hk
section
variable{A:Ar4}{σ:St}{W:Wd}{s:ArT}{sc:Asv}{E:AZ}{env:Env}{x:Nm}{nm:Str}
theorem Ns.cls{h:Asb}{a:Ar0}{m}(x:h.Ns a m):∃o es n,h.get? a=some o∧o.data= .dict es n:=x.imp λz q=>q.imp λz q=>q.imp λz q=>⟨q.1,q.2.1⟩
theorem Sp.QZ(I:Inv C W σ s)(e:AD C A W sc E env)(hx:A9 x=some nm)(hk:sc.names.lookup nm=some .local):Sp C A σ W s (loadName env nm) (λk z=>QZ E x σ k) (RV C):=λk ke q=>by obtain⟨p,hp,hl⟩:=e.fr;refine I.Cu hp q (λm q z b=>Cp q λv hv q=>?_) ff;obtain⟨_,mm,HB,hM⟩:=b;obtain⟨nm',cv,a1,a2,a3⟩:=hM.1 x v hv;obtain rfl:=uniq hx a1;exact wpAny_loadName_local (by refine e.scope.symm▸?_;exact e.kind) (e.low.kindOf hk) (by refine hl.symm▸?_;exact HB) a2 ⟨v,σ,W,q,.refl _ _ _,I,a3⟩
theorem Sp.Ry(I:Inv C W σ s)(e:Jw C W sc E env)(hx:A9 x=some nm)(hk:sc.names.lookup nm=some .local)(hv:VR C W s.heap v cv):
  Sp C A σ W s (Azv env nm cv) (λk z=>Mine.Internal.DW E x v σ k) RU:=λk ke q=>by
 obtain⟨p,hp,hl⟩:=e.fr;refine I.Cu hp q (λm q z b=>?_) ff;obtain⟨ep,mm,HB,hM⟩:=b;refine Gv (m:=mm) (e.kindOf hk) (by refine hl.symm▸?_;exact HB) (λh' hn hs hc=>?_) (by refine e.scope.symm▸?_;refine e.kind.symm▸?_;rfl);rw[hl] at hn hs hc;have nt:∃o,h'.get? p.1=some o∧Be o:=(Ns.cls hn).elim λo q=>q.elim λz q=>q.elim λz q=>⟨o,q.1,.Rb q.2⟩
 obtain⟨J,X⟩:=I.put (s':={s with heap:=h',toks:=s.toks+1}) (o:=.frame (AM m x v)) hp (λb o h1 z hb=>(hs.2 b h1).trans hb)
  (λT=>⟨ep,_,hn,(hM.AS ⟨ArZ _,ArZ _,λz z=>rfl,λz z=>rfl,T⟩).set hx<|hv.keep (ArZ _) (ArZ _) (λz z=>rfl) T⟩)
  nt (by refine ep.symm▸?_;exact nt) (λa ha o h1 h2=>by
   obtain rfl:=ha.elim id λe=>e.trans ep
   exact hc o h1 h2) rfl rfl
 exact⟨(),_,W,q,X,J,trivial⟩
theorem Sp.DW(I:Inv C W σ s)(e:AD C A W sc E env)(hx:A9 x=some nm)(hk:sc.names.lookup nm=some .local)(hv:VR C W s.heap v cv):
  Sp C A σ W s (Azv env nm cv) (λk z=>Mine.Internal.DW E x v σ k) RU:=Sp.Ry I e.low hx hk hv
theorem Sp.QY(I:Inv C W σ s)(e:AD C A W sc E env)(hx:A9 x=some nm)(hk:sc.names.lookup nm=some .cell∨sc.names.lookup nm=some .free)(hd:(nm==("__classdict__":Str))=false):
  Sp C A σ W s (loadName env nm) (λk z=>QY E x σ k) (RV C):=λk ke q=>by
 refine Cp q λc hc q=>?_
 refine hide λAx Aa=>?_
 obtain⟨p,hp,a3⟩:=e.cells x c nm hc hx hk;refine Aa ?_;refine I.Ii hp q (λv q z b=>?_) ff
 induction v with
 |none=>exact ff q
 |some v=>
  refine hide λAx Aa=>?_
  obtain⟨_,cv,MT,hvr⟩:=b;refine Aa ?_;have fin:Ah C k σ W s (RV C) cv s:=⟨v,σ,W,q,.refl _ _ _,I,hvr⟩;exact hk.elim (λhk=>wpAny_loadName_cell (by rw[e.scope];exact e.kind) (e.low.kindOf hk) a3 MT fin) λhk=>wpAny_loadName_free (by rw[e.scope];exact e.kind) (e.low.kindOf hk) a3 MT fin hd
theorem Sl{h:Asb}{a:Ar0}{w0:Option ArR}(b:h.IsCell a w0)(ho:h.get? a=some o){n:Nat}(hd:o.data= .dict es n){P:Prop}:P:=by obtain⟨o',h1,h2⟩:=b;obtain rfl:=uniq h1 ho;exact Data.noConfusion (h2.symm.trans hd)
theorem Sp.Rx(I:Inv C W σ s)(e:Jw C W sc E env)(hx:A9 x=some nm)(hk:sc.names.lookup nm=some .cell)(hv:VR C W s.heap v cv):
  Sp C A σ W s (Azv env nm cv) (λk z=>Mine.Internal.Ha E x v σ k) RU:=λk ke q=>by
 refine Cp q λc hc q=>?_
 obtain⟨p,hp,a3⟩:=e.cells x c nm hc hx (.inl hk);refine I.Ii hp q (λv0 q z hb=>?_) ff;obtain⟨ep,w0,MT⟩:p.2=p.1∧∃w0,s.heap.IsCell p.1 w0:=by
  induction v0 with
  |none=>exact⟨hb.1,_,hb.2⟩
  |some u=>exact⟨hb.1,_,hb.2.choose_spec.1⟩
 refine wpAny_storeName_cell (by refine e.scope.symm▸?_;exact e.kind) (e.kindOf hk) a3 MT (λh' hn hs=>?_);have nt:∃o,h'.get? p.1=some o∧Be o:=hn.imp λz q=>⟨q.1,trivial⟩
 obtain⟨J,X⟩:=I.put (s':={s with heap:=h'}) (o:=.cell (some v)) hp (λb o h1 z hb=>(hs.2 b h1).trans hb)
  (λT=>⟨ep,_,hn,hv.keep (ArZ _) (ArZ _) (λz z=>rfl) T⟩) nt (by refine ep.symm▸?_;exact nt)
  (λa ha o ho hd=>by
   obtain rfl:=ha.elim id λe=>e.trans ep
   exact hd.elim λz q=>q.elim λes q=>q.elim λn q=>Sl MT ho q) rfl rfl
 exact⟨(),_,W,q,X,J,trivial⟩
theorem Sp.Ha(I:Inv C W σ s)(e:AD C A W sc E env)(hx:A9 x=some nm)(hk:sc.names.lookup nm=some .cell)(hv:VR C W s.heap v cv):
  Sp C A σ W s (Azv env nm cv) (λk z=>Mine.Internal.Ha E x v σ k) RU:=Sp.Rx I e.low hx hk hv
end
theorem ble_iff{x y:Nat}:AsO x y=true↔x≤y:=⟨Asp,Axh⟩
theorem beq_iff{x y:Nat}:ArX x y=true↔x=y:=⟨ArU,λh=>by rw[h];exact Auq y⟩
theorem DU(a b:Int):EN a b=true↔a≤b:=by
 induction a with
 |ofNat x=>induction b with
  |ofNat y=>show AsO x y=true↔_;rw[ble_iff];constructor<;>intro h<;>(simp only[AsI] at *; lia)
  |negSucc y=>
   show false=true↔_;constructor
   ·intro h;cases h
   ·intro h;exfalso;simp only[AsI] at h;lia
 |negSucc x=>induction b with
  |ofNat y=>
   show true=true↔_;constructor
   ·intro _;simp only[AsI];lia
   ·intro _;rfl
  |negSucc y=>show AsO y x=true↔_;rw[ble_iff];lia
theorem CD(a b:Int):C7 a b=true↔a<b:=by
 induction a with
 |ofNat x=>induction b with
  |ofNat y=>show AsO (Auv x) y=true↔_;rw[ble_iff];constructor<;>intro h<;>(simp only[AsI] at *; lia)
  |negSucc y=>
   show false=true↔_;constructor
   ·intro h;cases h
   ·intro h;exfalso;simp only[AsI] at h;lia
 |negSucc x=>induction b with
  |ofNat y=>
   show true=true↔_;constructor
   ·intro _;simp only[AsI];lia
   ·intro _;rfl
  |negSucc y=>show AsO (Auv y) x=true↔_;rw[ble_iff];lia
theorem HR(a b:Int):Eb a b=true↔a=b:=by
 induction a with
 |ofNat x=>induction b with
  |ofNat y=>show ArX x y=true↔_;rw[beq_iff];constructor<;>intro h<;>(simp only[AsI] at *; lia)
  |negSucc y=>
   show false=true↔_;constructor
   ·intro h;cases h
   ·intro h;cases h
 |negSucc x=>induction b with
  |ofNat y=>
   show false=true↔_;constructor
   ·intro h;cases h
   ·intro h;cases h
  |negSucc y=>show ArX x y=true↔_;rw[beq_iff];constructor<;>intro h<;>lia
theorem Ld(a b:Int):C7 a b=decide (a<b):=Ato.mpr ((CD a b).trans decide_eq_true_iff.symm)
theorem cU(a b:Int):Eb a b=decide (a=b):=Ato.mpr ((HR a b).trans decide_eq_true_iff.symm)
theorem Bs{a b:Int}(h:EN a b=true):a≤b:=(DU _ _).mp h
theorem Bt{a b:Int}(h:C7 a b=true):a<b:=(CD _ _).mp h
theorem Bj{a b:Int}(h:Eb a b=true):a=b:=(HR _ _).mp h
theorem Bz{a b:Int}(h:C7 a b=false):b≤a:=Awg.mp λq=>AsJ (h.symm.trans<|(CD a b).mpr q)
theorem Cf{a b:Bool}:both a b=true↔a=true∧b=true:=⟨λh=>⟨bl h,br h⟩,λh=>by rw[h.1,h.2];rfl⟩
section
variable{ρ:List Int}
theorem Vh{a:Nat}{f x y:Int}(hx:ρ[a]?=some x):EK ρ t=some y->EK ρ (Ud t a f)=some (y+f*x):=by
 induction t generalizing y with
 |nil=>exact λh=>(BH hx rfl).trans (congrArg some (by rw[←Ase h,AvU,Awo]))
 |cons p r ih=>
  refine λh=>K3 (a:=p.1) (f:=p.2) h λu v hu hv e=>?_
  refine Df (P:=λl=>EK ρ l=some (y+f*x)) (λhb=>?_) (λz=>(BH hu<|ih hv).trans (congrArg some (by rw[e,AvP])));have ux:u=x:=uniq (beq_iff.mp hb▸hx) hu;have e2:y+f*x=(p.2+f)*x+v:=by rw[e,ux,Int.add_mul,AvT]
  exact Df (P:=λl=>EK ρ l=some (y+f*x)) (λhz=>hv.trans (congrArg some (by rw[e2,Bj hz,Int.zero_mul,Awo]))) (λz=>(BH hu hv).trans (congrArg some (by rw[e2,ux])))
theorem JZ{x y:Int}:EK ρ u=some x->EK ρ t=some y->EK ρ (Qg u t)=some (x+y):=by
 induction u generalizing x y t with
 |nil=>exact λh1 h2=>h2.trans (congrArg some (by rw[←Ase h1,Awo]))
 |cons p r ih=>exact λh1 h2=>K3 (a:=p.1) (f:=p.2) h1 λv w hv hw e=>(ih hw (Vh hv h2)).trans (congrArg some (by rw[e,←AvP,AvT,Int.add_comm (p.2*v),AvT]))
theorem GJ{m x:Int}:EK ρ t=some x->EK ρ (Nj m t)=some (m*x):=by
 induction t generalizing x with
 |nil=>exact λh=>congrArg some (by rw[←Ase h,Int.mul_zero])
 |cons p r ih=>exact λh=>K3 (a:=p.1) (f:=p.2) h λv w hv hw e=>(BH hv (ih hw)).trans (congrArg some (by rw[e,Int.mul_add,Int.mul_assoc]))
theorem Ad.A2{l:Ad}{x:Int}:l.ev ρ=some x↔∃y,EK ρ l.t=some y∧x=l.c+y:=by unfold Ad.ev;rw[AtW];exact⟨Avw λz=>Au2 Eq.symm,Avw λz=>Au2 Eq.symm⟩
theorem Ad.Ci(i:Int):(Ad.k i).ev ρ=some i:=Ad.A2.mpr ⟨0,rfl,(AvU i).symm⟩
theorem Ad.Du{l:Ad}{x:Int}(h:l.t= [])(e:l.ev ρ=some x):x=l.c:=by obtain⟨y,a,b⟩:=Ad.A2.mp e;rw[h] at a;cases a;rw[b,AvU]
theorem Ad.OI{l m:Ad}{x y:Int}(h1:l.ev ρ=some x)(h2:m.ev ρ=some y):(l.add m).ev ρ=some (x+y):=by obtain⟨u,a,rfl⟩:=Ad.A2.mp h1;obtain⟨v,b,rfl⟩:=Ad.A2.mp h2;exact Ad.A2.mpr ⟨v+u,JZ b a,show l.c+u+(m.c+v)=(l.c+m.c)+(v+u) from by lia⟩
theorem Ad.OJ{l:Ad}{m x:Int}(h:l.ev ρ=some x):(l.mul m).ev ρ=some (m*x):=by
 obtain⟨u,a,rfl⟩:=Ad.A2.mp h;unfold Ad.mul;cases q:Eb m 0 with
 |true=>rw[Bj q,Int.zero_mul];rfl
 |false=>exact Ad.A2.mpr ⟨m*u,GJ a,Int.mul_add _ _ _⟩
theorem Ad.Vl{l:Ad}{x:Int}(h:l.ev ρ=some x):l.neg.ev ρ=some (-x):=by obtain⟨u,a,rfl⟩:=Ad.A2.mp h;exact Ad.A2.mpr ⟨-1*u,GJ a,show -(l.c+u)= -l.c+ -1*u from by lia⟩
theorem Ad.Dv{l m:Ad}{x y:Int}(h1:l.ev ρ=some x)(h2:m.ev ρ=some y):(l.sub m).ev ρ=some (x-y):=by obtain⟨u,a,rfl⟩:=Ad.A2.mp h1;obtain⟨v,b,rfl⟩:=Ad.A2.mp h2;exact Ad.A2.mpr ⟨-1*v+u,JZ (GJ b) a,show l.c+u-(m.c+v)=(l.c-m.c)+(-1*v+u) from by lia⟩
theorem Zz:Aaz t u=true->t=u:=by
 induction t generalizing u with
 |nil=>induction u with
  |nil=>exact λz=>rfl
  |cons _ _=>exact ff
 |cons p r ih=>induction u with
  |nil=>exact ff
  |cons q s=>exact λh=>congr (congrArg Awy (AxY (beq_iff.mp (bl h)) (Bj (bl (br h))))) (ih (br (br h)))
theorem Ad.eq_iff{x:Ad}(h:x.eq y=true):x=y:=by cases x;cases y;exact congr (congrArg Ad.mk<|Bj<|bl h) (Zz<|br h)
end
section
variable{W:Wd}{σ:St}{s:ArT}
theorem iV{c:Int}{P:Prop}(h:pM a b=some c)(k:∀x y,a=some x->b=some y->x+y=c->P):P:=by
 induction a with
 |none=>exact nomatch h
 |some x=>induction b with
  |none=>exact nomatch h
  |some y=>exact k x y rfl rfl (Ase h)
theorem Rf{m:Int}{c:Int}{P:Prop}(h:Lu m a=some c)(k:∀x,a=some x->m*x=c->P):P:=by
 induction a with
 |none=>exact nomatch h
 |some x=>exact k x rfl (Ase h)
theorem inR.add{x y:Int}(h1:inR a x)(h2:inR b y):inR (mM a b) (x+y):=
 ⟨λz hc=>iV hc λu v hu hv e=>e▸Int.add_le_add (h1.1 u hu) (h2.1 v hv),λz hc=>iV hc λu v hu hv e=>e▸Int.add_le_add (h1.2 u hu) (h2.2 v hv)⟩
theorem inR.mul_pos{f x:Int}(h:inR a x)(hf:0≤f):inR (Lu f a.1,Lu f a.2) (f*x):=
 ⟨λz hc=>Rf hc λu hu e=>e▸Awc (h.1 u hu) hf,λz hc=>Rf hc λu hu e=>e▸Awc (h.2 u hu) hf⟩
theorem inR.mul_neg{f x:Int}(h:inR a x)(hf:f<0):inR (Lu f a.2,Lu f a.1) (f*x):=
 ⟨λz hc=>Rf hc λu hu e=>e▸Awd (Av4 hf) (h.2 u hu),λz hc=>Rf hc λu hu e=>e▸Awd (Av4 hf) (h.1 u hu)⟩
theorem inR.at(u:Int):inR (some u,some u) u:=⟨λz hb=>Av3 (Ase hb).symm,λz hb=>Av3 (Ase hb)⟩
theorem inR.fix{x a b:Int}(h:inR r x)(e:r=(some a,some b)):a≤x∧x≤b:=⟨h.1 a<|e▸rfl,h.2 b<|e▸rfl⟩
theorem inR.eq{r:BN}{x a b:Int}(h:inR r x)(e:r=(some a,some b))(q:Eb a b=true):x=a:=(h.fix e).elim λu v=>Av2 (Bj q▸v) u
theorem PJ(hr:∀a x,W.ρ[a]?=some x->inR (σ.rg a) x){x:Int}:EK W.ρ t=some x->inR (LA σ t) x:=by
 induction t generalizing x with
 |nil=>exact λh=>Ase h▸inR.at 0
 |cons p r ih=>exact λh=>K3 (a:=p.1) (f:=p.2) h λu v hu hv e=>e▸inR.add (Df (P:=λr=>inR r (p.2*u)) (λq=>(hr _ u hu).mul_neg (Bt q)) (λq=>(hr _ u hu).mul_pos (Bz q))) (ih hv)
theorem DI(hr:∀a x,W.ρ[a]?=some x->inR (σ.rg a) x){l:Ad}{x:Int}(h:l.ev W.ρ=some x):inR (l.range σ) x:=by
 obtain⟨y,hy,rfl⟩:=Ad.A2.mp h;unfold Ad.range;have i2:=PJ hr hy;generalize l.t=t at hy i2
 induction t with
 |nil=>rw[←Ase hy,AvU];exact inR.at l.c
 |cons p r=>exact(inR.at l.c).add i2
theorem Rm{x:Int}{b:Bool}(h:inR r x)(e:pT r=some b):decide (x<0)=b:=
 Df (P:=λv=>v=some b->decide (x<0)=b) (λq e=>Cp q λy hy q=>(decide_eq_true<|Av7 (h.2 y hy)<|Bt q).trans (Ase e))
  (λz=>Df (P:=λv=>v=some b->decide (x<0)=b) (λq e=>Cp q λy hy q=>(decide_eq_false<|Awg.mpr<|Av6 (Bs q)<|h.1 y hy).trans (Ase e)) (λz=>ns)) e
theorem Rn{x:Int}{b:Bool}(h:inR r x)(e:pU r=some b):decide (x=0)=b:=
 Df (P:=λv=>v=some b->decide (x=0)=b) (λq e=>Cp q λy hy q=>(decide_eq_false<|Awf<|Av7 (h.2 y hy)<|Bt q).trans (Ase e))
  (λz=>Df (P:=λv=>v=some b->decide (x=0)=b) (λq e=>Cp q λy hy q=>(decide_eq_false (Awf<|Av8 (Bt q)<|h.1 y hy).symm).trans (Ase e))
   (λz=>qC (P:=λv=>v=some b->decide (x=0)=b) (λu v hr=>Df (P:=λv=>v=some b->decide (x=0)=b) (λq e=>(decide_eq_true<|(h.eq hr<|(HR _ _).mpr<|(Bj<|bl q).trans (Bj<|br q).symm).trans<|Bj<|bl q).trans (Ase e)) (λz=>ns)) ns)) e
theorem GU{l:Ad}{b:Bool}:known f l=some b->(l,b)∈f:=by
 induction f with
 |nil=>exact λh=>nomatch h
 |cons p r ih=>exact Df (P:=λv=>v=some b->(l,b)∈p::r) (λq e=>Ar3.mpr (.inl (AxY (Ad.eq_iff q).symm (Ase e).symm))) (λz e=>.tail _ (ih e))
theorem Ext.same(W:Wd)(s:ArT){σ σ':St}(h1:σ'.low=σ.low)(h2:σ'.A8=σ.A8):Ext σ W s σ' W s:=
 ⟨ArZ _,ArZ _,λz z=>rfl,λz z=>rfl,h1,Axm h2.symm,λa o e z z=>⟨o.slots,e,λz=>rfl⟩,λz a o e z=>e,λp h=>.inl h,λa o e=>⟨o,e⟩,λa o e d=>⟨o,e,d⟩,ArZ _,rfl⟩
theorem AI{α:Type}(l:List α)(i:Nat):BI l i=l[i]? :=by
 induction l generalizing i with
 |nil=>induction i<;>rfl
 |cons a l ih=>induction i with
  |zero=>rfl |succ i=>exact ih i
theorem FI{α:Type}(x:α)(l:List α)(i:Nat):LK l x i=l.set i x:=by
 induction l generalizing i with
 |nil=>induction i<;>rfl
 |cons a l ih=>induction i with
  |zero=>rfl |succ i=>exact congrArg (Awy a) (ih i)
theorem AfQ{a k:Nat}(ha:a<k):k-1-a<k:=Axs (AxF _ _) (Nat.sub_lt (AxM ha) Nat.one_pos)
theorem Aai{a k:Nat}(ha:a<k):k-1-(k-1-a)=a:=AxH (Nat.le_sub_one_of_lt ha)
theorem Za(σ:St)(hl:σ.rng.length=σ.k){a b:Nat}(ha:a<σ.k)(hb:b<σ.k)(r:BN):(σ.C5 a r).rg b=if b=a then r else σ.rg b:=by
 show Bx (LK σ.rng r<|σ.k-1-a) (σ.k-1-b)=if b=a then r else Bx σ.rng (σ.k-1-b)
 unfold Bx;rw[AI,AI,FI,List.getElem?_set];by_cases h:b=a
 ·rw[h,if_pos rfl,if_pos rfl,if_pos<|hl.symm▸AfQ ha]
 ·rw[if_neg h,if_neg λe=>h ((Aai hb).symm.trans ((congrArg (σ.k-1- ·) e.symm).trans<|Aai ha))]
theorem Inv.C5(I:Inv C W σ s){a:Nat}{x:Int}(hx:W.ρ[a]?=some x)(hr:inR r x):Inv C W (σ.C5 a r) s:=by
 have lt:∀{b y},W.ρ[b]?=some y->b<σ.k:=λh=>I.kρ▸(Ar2.mp h).1
 refine⟨I.nτ,I.kρ,((congrArg List.length<|FI _ _ _).trans<|List.length_set ..).trans I.rl,λb y hy=>?_,I.neg,I.BM,I.obj,I.apart,I.new,I.live,I.HQ,I.base,I.gens,I.os,I.fo⟩;rw[Za σ I.rl (lt hx) (lt hy)];by_cases q:b=a
 ·rw[if_pos q,uniq hx ((congrArg (W.ρ[·]?) q).symm.trans hy)];exact hr
 ·rw[if_neg q];exact I.rng b y hy
theorem Rc(I:Inv C W σ s){g:BN->Option Bool}{t:Int->Bool}(hg:∀{r x b},inR r x->g r=some b->t x=b){f:List (Ad×Bool)}(h:∀p∈f,∃x,p.1.ev W.ρ=some x∧t x=p.2):W8 g σ f=true:=by
 induction f with
 |nil=>rfl
 |cons p r ih=>
  have ih:=ih λp hp=>h p (.tail _ hp)
  show OR (W8 g σ r) (λc=>bt (Bool.xor p.2 c) false (W8 g σ r)) (g<|p.1.range σ)=true;refine ih.symm▸?_;cases e:g (p.1.range σ) with
  |none=>rfl |some c=>obtain⟨x,q1,q2⟩:=h p (.head _);show bt (Bool.xor p.2 c) false true=true;rw[←q2,hg (DI I.rng q1) e,Bool.xor_self];rfl
theorem eJ{x:Int}(h:inR r x):room r=true:=qC (P:=λv=>v=true) (λa b e=>(DU _ _).mpr ((h.fix e).elim Av6)) rfl
theorem EW(I:Inv C W σ s){a:Nat}{x:Int}(hx:W.ρ[a]?=some x)(hr:inR r x)(h:narrow σ a r f=true):f (σ.C5 a r)=true:=by have J:=I.C5 hx hr;unfold narrow at h;rw[eJ hr,Rc J (f:=σ.neg) (t:=λx=>decide (x<0)) Rm I.neg,Rc J (f:=σ.BM) (t:=λx=>decide (x=0)) Rn I.BM] at h;exact h
theorem FA(I:Inv C W σ s){c y:Int}:EK W.ρ t=some y->∃z,EK W.ρ (AP σ t c).2=some z∧(AP σ t c).1+z=c+y:=by
 induction t generalizing c y with
 |nil=>exact λh=>⟨y,h,rfl⟩
 |cons p r ih=>
  refine λh=>K3 (a:=p.1) (f:=p.2) h λu v hu hv e=>?_
  have kp:∃z,EK W.ρ (Qw p<|AP σ r c).2=some z∧(Qw p<|AP σ r c).1+z=c+y:=
   (ih (c:=c) hv).elim λz q=>⟨p.2*u+z,BH hu q.1,(Int.add_left_comm _ _ _).trans ((congrArg (p.2*u+ ·) q.2).trans ((Int.add_left_comm _ _ _).trans (congrArg (c+ ·) e.symm)))⟩
  exact qC (P:=λq:Int×List (Nat×Int)=>∃z,EK W.ρ q.2=some z∧q.1+z=c+y) (λa b hr=>Df (P:=λq:Int×List (Nat×Int)=>∃z,EK W.ρ q.2=some z∧q.1+z=c+y)
   (λq=>(ih (c:=c+p.2*a) hv).imp λz=>Au2 λw=>w.trans ((AvP _ _ _).trans (congrArg (c+ ·)<|((I.rng _ u hu).eq hr q)▸e.symm))) (λzz=>kp)) kp
def Bg(C:Cx)(W:Wd)(s:ArT)(σ σ':St):Prop:=Inv C W σ' s∧σ'.low=σ.low∧σ'.A8=σ.A8∧σ'.n=σ.n∧σ'.objs=σ.objs
theorem Bg.refl(I:Inv C W σ s):Bg C W s σ σ:=⟨I,rfl,rfl,rfl,rfl⟩
theorem Bg.trans(a:Bg C W s σ σ1)(b:Bg C W s σ1 σ2):Bg C W s σ σ2:=⟨b.1,b.2.1.trans a.2.1,b.2.2.1.trans a.2.2.1,b.2.2.2.1.trans a.2.2.2.1,b.2.2.2.2.trans a.2.2.2.2⟩
theorem Bg.ext(a:Bg C W s σ σ'):Ext σ W s σ' W s:=Ext.same W s a.2.1 a.2.2.1
theorem Bg.C5(I:Inv C W σ s){a:Nat}{x:Int}(hx:W.ρ[a]?=some x)(hr:inR r x):Bg C W s σ (σ.C5 a r):=⟨I.C5 hx hr,rfl,rfl,rfl,rfl⟩
theorem Bg.obj(a:Bg C W s σ σ')(i:Nat):σ'.obj i=σ.obj i:=by unfold St.obj;rw[a.2.2.2.2]
theorem Bg.E4(I:Inv C W σ s){l:Ad}{x:Int}{b:Bool}(hx:l.ev W.ρ=some x)(hb:decide (x<0)=b):Bg C W s σ (σ.E4 l b):=
 ⟨⟨I.nτ,I.kρ,I.rl,I.rng,λp hp=>(Ar3.mp hp).elim (λe=>⟨x,e▸⟨hx,hb⟩⟩) (I.neg p),I.BM,I.obj,I.apart,I.new,I.live,I.HQ,I.base,I.gens,I.os,I.fo⟩,rfl,rfl,rfl,rfl⟩
theorem Bg.E5(I:Inv C W σ s){l:Ad}{x:Int}{b:Bool}(hx:l.ev W.ρ=some x)(hb:decide (x=0)=b):Bg C W s σ (σ.E5 l b):=
 ⟨⟨I.nτ,I.kρ,I.rl,I.rng,I.neg,λp hp=>(Ar3.mp hp).elim (λe=>⟨x,e▸⟨hx,hb⟩⟩) (I.BM p),I.obj,I.apart,I.new,I.live,I.HQ,I.base,I.gens,I.os,I.fo⟩,rfl,rfl,rfl,rfl⟩
end
section
variable{C:Cx}{W:Wd}{σ:St}{s:ArT}
theorem HO{a:Nat}{f z:Int}(h:EK ρ [(a,f)]=some z):∃u,ρ[a]?=some u∧z=f*u:=
 K3 h λu v hu hv e=>⟨u,hu,by rw[e,←Ase hv,AvU]⟩
theorem inR.lo{u z:Int}(h:inR r u)(q:z≤u):inR (some z,r.2) u:=⟨λzz hb=>Ase hb▸q,h.2⟩
theorem inR.hi{u z:Int}(h:inR r u)(q:u≤z):inR (r.1,some z) u:=⟨h.1,λzz hb=>Ase hb▸q⟩
def Dec(C:Cx)(W:Wd)(s:ArT)(σ:St)(k:K Bool)(b:Bool):Prop:=∃σ',Bg C W s σ σ'∧k b σ'=true
theorem Dec.now(I:Inv C W σ s){k:K Bool}{b c:Bool}(e:b=c)(h:k c σ=true):Dec C W s σ k b:=⟨σ,.refl I,e▸h⟩
theorem Dec.Gz(I:Inv C W σ s){a:Nat}{u:Int}(hu:W.ρ[a]?=some u){k:K Bool}{b c:Bool}(e:b=c)(hr:inR r u)(h:narrow σ a r (k c)=true):Dec C W s σ k b:=⟨_,.C5 I hu hr,e▸EW I hu hr h⟩
theorem Qa(I:Inv C W σ s){l:Ad}{x:Int}(hx:l.ev W.ρ=some x){k:K Bool}(h:Mb l σ k=true):Dec C W s σ k (decide (x<0)):=by
 cases q:decide (x<0) with
 |true=>exact⟨_,.E4 I hx q,bl h⟩
 |false=>exact⟨_,.E4 I hx q,br h⟩
theorem Qb(I:Inv C W σ s){l:Ad}{x:Int}(hx:l.ev W.ρ=some x){k:K Bool}(h:Mc l σ k=true):Dec C W s σ k (decide (x=0)):=by
 cases q:decide (x=0) with
 |true=>exact⟨_,.E5 I hx q,bl h⟩
 |false=>exact⟨_,.E5 I hx q,br h⟩
theorem NN(I:Inv C W σ s){l:Ad}{x:Int}(hx:l.ev W.ρ=some x){k:K Bool}(h:Jh l σ k=true):Dec C W s σ k (decide (x<0)):=by
 obtain⟨y,hy,e⟩:=Ad.A2.mp hx;obtain⟨z,hz,hq⟩:=FA I (c:=l.c) hy;rw[←e] at hq;unfold Jh at h;have w:=Qa I hx (k:=k);have h:=sH h;refine dX h (λa f e h=>?_) w;obtain⟨u,hu,e⟩:=HO (e▸hz);have ru:=I.rng a u hu;rw[e] at hq;refine hq▸?_;refine B9 h (λhf h=>?_) λzz h=>B9 h (λhf h=>?_) λzz h=>hq.symm▸w h
 ·rw[Bj hf,Awk];by_cases q:(AP σ l.t l.c).1+u<0
  ·exact .Gz I hu (decide_eq_true q) (ru.hi (by lia)) (bl h)
  ·exact .Gz I hu (decide_eq_false q) (ru.lo (by lia)) (br h)
 ·rw[Bj hf,Int.neg_one_mul];by_cases q:(AP σ l.t l.c).1+ -u<0
  ·exact .Gz I hu (decide_eq_true q) (ru.lo (by lia)) (bl h)
  ·exact .Gz I hu (decide_eq_false q) (ru.hi (by lia)) (br h)
theorem Ez(I:Inv C W σ s){l:Ad}{x:Int}(hx:l.ev W.ρ=some x){k:K Bool}(h:isNeg l σ k=true):Dec C W s σ k (decide (x<0)):=
 BZ h (λe h=>.now I (by rw[Ad.Du e hx,Ld]) h) λh=>Ti h (λb hb h=>.now I (Rm (DI I.rng hx) hb) h) λh=>
  Ti h (λb hb h=>(I.neg _<|GU hb).elim λy q=>.now I (uniq q.1 hx▸q.2) h) (NN I hx)
theorem Mn(I:Inv C W σ s){a:Nat}{u z:Int}(hu:W.ρ[a]?=some u){k:K Bool}(h:Uo a z σ k=true):Dec C W s σ k (decide (u=z)):=by
 have ru:=I.rng a u hu;rcases Int.lt_trichotomy u z with q |q |q
 ·refine B9 (bl<|br h) (λzz h=>.Gz I hu (decide_eq_false<|Awf q) (ru.hi<|Av5 q) h) λe zz=>?_
  generalize r:(σ.rg a).1=o at e
  induction o with
  |none=>exact nomatch e
  |some y=>exact absurd (Av7 (ru.1 _ r) q) (Awg.mpr (Bz e))
 ·exact .Gz I hu (decide_eq_true q) (q▸ .at u) (bl h)
 ·refine B9 (br<|br h) (λzz h=>.Gz I hu (decide_eq_false<|Awe q) (ru.lo q) h) λe zz=>?_
  generalize r:(σ.rg a).2=o at e
  induction o with
  |none=>exact nomatch e
  |some y=>exact absurd (Av8 q (ru.2 _ r)) (Awg.mpr (Bz e))
theorem NO(I:Inv C W σ s){l:Ad}{x:Int}(hx:l.ev W.ρ=some x){k:K Bool}(h:Ji l σ k=true):Dec C W s σ k (decide (x=0)):=by
 obtain⟨y,hy,e⟩:=Ad.A2.mp hx;obtain⟨z,hz,hq⟩:=FA I (c:=l.c) hy;rw[←e] at hq;unfold Ji at h;have w:=Qb I hx (k:=k);have h:=sH h;refine dX h (λa f e h=>?_) w;obtain⟨u,hu,e⟩:=HO (e▸hz);rw[e] at hq;refine hq▸?_;refine B9 h (λhf h=>?_) λzz h=>B9 h (λhf h=>?_) λzz h=>hq.symm▸w h
 ·refine(Bj hf).symm▸?_;refine(show decide ((AP σ l.t l.c).1+1*u=0)=decide (u= -(AP σ l.t l.c).1) from decide_eq_decide.mpr (by lia)).symm▸?_;exact Mn I hu h
 ·refine(Bj hf).symm▸?_;refine(show decide ((AP σ l.t l.c).1+ -1*u=0)=decide (u=(AP σ l.t l.c).1) from decide_eq_decide.mpr (by lia)).symm▸?_;exact Mn I hu h
theorem ER(I:Inv C W σ s){l:Ad}{x:Int}(hx:l.ev W.ρ=some x){k:K Bool}(h:isZero l σ k=true):Dec C W s σ k (decide (x=0)):=
 BZ h (λe h=>.now I (by rw[Ad.Du e hx,cU]) h) λh=>Ti h (λb hb h=>.now I (Rn (DI I.rng hx) hb) h) λh=>
  Ti h (λb hb h=>(I.BM _<|GU hb).elim λy q=>.now I (uniq q.1 hx▸q.2) h) λh=>
  Ti h (λb hb h=>(I.BM _<|GU hb).elim λy q=>.now I ((decide_eq_decide.mpr Int.neg_eq_zero.symm).trans<|uniq q.1 (Ad.Vl hx)▸q.2) h) (NO I hx)
theorem ME(I:Inv C W σ s){a:Nat}{u:Int}(hu:W.ρ[a]?=some u){n:Nat}{x:Int}(h:Ir σ a f n x=true)(h1:x≤u)(h2:u<x+n):∃σ',Bg C W s σ σ'∧f σ'=true:=by
 induction n generalizing x with
 |zero=>exact absurd (Av7 h1 h2) (Awg.mpr (Av3 (AvU x)))
 |succ n ih=>
  by_cases q:x=u
  ·exact⟨_,.C5 I hu<|q▸ .at x,EW I hu (q▸ .at x)<|bl h⟩
  ·exact ih (br h) (by lia) (by lia)
theorem Sy{n:Nat}(I:Inv C W σ s){l:Ad}{x:Int}(hx:l.ev W.ρ=some x){k:K Int}(h:OQ n l σ k=true):∃σ',Bg C W s σ σ'∧k x σ'=true:=by
 induction n generalizing σ with
 |zero=>exact ff h
 |succ n ih=>
  obtain⟨y,hy,e⟩:=Ad.A2.mp hx;obtain⟨z,hz,hq⟩:=FA I (c:=l.c) hy;rw[←e] at hq;have h:LC (k (AP σ l.t l.c).1 σ) (λp zz=>ZY (σ.rg p.1) (λx y=>both (C7 (y-x) 200) (Ir σ p.1 (λσ=>OQ n l σ k) (y-x+1).toNat x)) false) (AP σ l.t l.c).2=true:=h;generalize (AP σ l.t l.c).2=t at hz h
  induction t with
  |nil=>exact⟨σ,.refl I,by rw[←hq,←Ase hz,AvU];exact h⟩
  |cons p r=>
   refine K3 (a:=p.1) (f:=p.2) hz λu v hu zz zz=>iZ h (λlo hi e1 e2 h=>?_) ff
   have ru:=I.rng p.1 u hu;have r1:=ru.1 _ e1;have r2:=ru.2 _ e2;obtain⟨σ',n1,h'⟩:=ME I hu (br h) r1 (by rw[Awn (by lia)];lia);obtain⟨σ2,n2,h2⟩:=ih n1.1 h';exact⟨σ2,n1.trans n2,h2⟩
theorem Ck(I:Inv C W σ s){l:Ad}{x:Int}(hx:l.ev W.ρ=some x){k:K Int}(h:F1 l σ k=true):∃σ',Bg C W s σ σ'∧k x σ'=true:=
 BZ h (λe h=>⟨σ,.refl I,Ad.Du e hx▸h⟩) (Sy I hx)
theorem PD(I:Inv C W σ s){a j:Nat}(ha:W.ρ[a]?=some (Ar6 j)){k:K AV}{l:List AV}{i m:Nat}(h:Rj σ a k l i=true)(hi:i+m=j)(e:l[m]?=some v):∃σ',Bg C W s σ σ'∧k v σ'=true:=by
 induction l generalizing i m with
 |nil=>exact nomatch e
 |cons u l ih=>
  induction m with
  |zero=>have r:inR (some (Ar6 i),some (Ar6 i)) (Ar6 j):=hi▸ .at _;exact⟨_,.C5 I ha r,Ase e▸EW I ha r (bl h)⟩
  |succ m=>exact ih (br h) ((Nat.succ_add i m).trans hi) e
theorem Tt(I:Inv C W σ s){a j:Nat}{l:List AV}(ha:W.ρ[a]?=some (Ar6 j))(e:l[j]?=some v){k:K AV}(h:Xv a l σ k=true):∃σ',Bg C W s σ σ'∧k v σ'=true:=by
 refine iZ h (λx y e1 e2 h=>?_) ff;have r:=I.rng a _ ha;refine B9 h (λhx h=>Cp (br h) λw hw h=>?_) λz h=>PD I ha (br h) (AxL j) e
 have ex:=Av2 (Bj hx▸r.2 _ e2) (r.1 _ e1);rw[←ex,AI] at hw;exact⟨σ,.refl I,uniq e hw▸h⟩
def WY(_:AV):Prop:=True
inductive Oe(C:Cx)(W:Wd)(s:ArT)(σ:St)(cv:ArR)(k:K AV):Prop
 |mk (v:AV) (σ':St) (n:Bg C W s σ σ') (r:VR C W s.heap v cv) (ns:WY v) (h:k v σ'=true)
theorem Oe.elim{k:K AV}{P:Prop}(r:Oe C W s σ cv k)(q:∀v σ',Bg C W s σ σ'->VR C W s.heap v cv->WY v->k v σ'=true->P):P:=by
 induction r with
 |mk v σ' n r ns h=>exact q v σ' n r ns h
theorem eF{n:Nat}(I:Inv C W σ s)(hv:VR C W s.heap v cv){k:K AV}(h:zO n v σ k=true):Oe C W s σ cv k:=by
 induction n generalizing σ v cv with
 |zero=>exact AV.YZ (Q:=λzz=>Oe C W s σ cv k) h (λzz zz=>ff) λzz h=>⟨v,σ,.refl I,hv,trivial,h⟩
 |succ n ih=>
  refine AV.YZ (Q:=λv=>VR C W s.heap v cv->Oe C W s σ cv k) h (λa l h r=>r.inv (P:=λcv=>Oe C W s σ cv k) ?_) (λzz h zz=>⟨v,σ,.refl I,hv,trivial,h⟩) hv;intro j u cv a b c;obtain⟨σ1,n1,h1⟩:=Tt I a b h;cases ih n1.1 c h1 with
  |mk v' σ2 n2 x y z=>exact⟨v',σ2,n1.trans n2,x,y,z⟩
theorem Aw(I:Inv C W σ s)(hv:VR C W s.heap v cv){k:K AV}(h:res v σ k=true):Oe C W s σ cv k:=eF I hv h
end
section
open PySem.SeqAt PySem.AutoSeq1 PySem.MeetsSeq PySem.MeetsSeq2 PySem.MeetsSeq3
inductive Pre(A:Ar4)(s:ArT):List ArR->List ArR->Bool->Prop
 |nil:Pre A s [] [] true
 |nl {y m}:Pre A s [] (y::m) false
 |nr {x l}:Pre A s (x::l) [] false
 |ne {x l y m}:EqAt A s x y false->Pre A s (x::l) (y::m) false
 |eq {x l y m b}:EqAt A s x y true->Pre A s l m b->Pre A s (x::l) (y::m) b
section
variable{A:Ar4}{s:ArT}
theorem Pre.BZ{r:Bool}(h:Pre A s [] [] r):r=true:=by cases h;rfl
theorem Pre.Hj{x y:ArR}{l m:List ArR}{r:Bool}{P:Prop}(h:Pre A s (x::l) (y::m) r)(k1:r=false->EqAt A s x y false->P)(k2:EqAt A s x y true->Pre A s l m r->P):P:=by
 cases h with
 |ne e=>exact k1 rfl e
 |eq e q=>exact k2 e q
inductive HA(A:Ar4)(s:ArT)(r q:Bool):List (ArR×ArR)->Prop
 |nil (e:r=q):HA A s r q []
 |ne {p l} (e:r=false) (h:EqAt A s p.1 p.2 false):HA A s r q (p::l)
 |eq {p l} (h:EqAt A s p.1 p.2 true) (k:HA A s r q l):HA A s r q (p::l)
theorem Pre.z{l:List ArR}{r:Bool}(h:Pre A s l m r):HA A s r (l.length==m.length) (l.zip m):=by
 induction h with
 |nil=>exact .nil rfl
 |nl=>exact .nil rfl
 |nr=>exact .nil rfl
 |ne e=>exact .ne rfl e
 | @eq x l y m b e _ ih=>exact .eq e ((show((x::l).length==(y::m).length)=(l.length==m.length) by simp).symm▸ih)
theorem HA.BZ{r q:Bool}(h:HA A s r q []):r=q:=by cases h with |nil e=>exact e
theorem HA.Hj{p:ArR×ArR}{l:List (ArR×ArR)}{r q:Bool}{P:Prop}(h:HA A s r q (p::l))(k1:r=false->EqAt A s p.1 p.2 false->P)(k2:EqAt A s p.1 p.2 true->HA A s r q l->P):P:=by
 cases h with
 |ne e h=>exact k1 e h
 |eq h k=>exact k2 h k
end
theorem dropEnd{items:Array ArR}{i:Nat}(h:items.size-i=0):items.toList.drop i= []∧items[((i:Nat):Int).toNat]?=none:=
 have l:=Nat.sub_eq_zero_iff_le.mp h
 ⟨As9 l,Array.getElem?_eq_none l⟩
theorem Ip{items:Array ArR}{i k:Nat}(h:items.size-i=k+1):∃x,items.toList.drop i=x::items.toList.drop (i+1)∧items[((i:Nat):Int).toNat]?=some x:=
 have l:i<items.size:=Nat.lt_of_sub_eq_succ h
 ⟨items[i],Atc l,Au6 l⟩
theorem U6{n i k:Nat}(h:n-i=k+1):n-(i+1)=k:=by rw[←Nat.sub_sub,h,Axf]
theorem fF(l b:Ar0)(items Aj:Array ArR)(n n2:Nat)(dd Fy:Option Ar0)(sl CK:Array (Option ArR))(r:Bool):
  Meets (Builtin.«tuple.__eq__» ⟨[.ref l,.ref b],[]⟩)
   (λA R s=>s.heap.get? l=some {cls:=.type "tuple",dict:=dd,data:=.seq items n,slots:=sl}∧s.heap.get? b=some {cls:=.type "tuple",dict:=Fy,data:=.seq Aj n2,slots:=CK}∧
    Pre A.in1 s items.toList Aj.toList r∧R (.ok<|.ret<|.bool r) s):=
 .of_wp λprog w A R s h=>by
  obtain⟨hp,g,d,tk,os⟩:=s;obtain⟨hl,hb,hP,h⟩:=h;have f2:=Aud
  wp_walk using Asd hl,Asd hb,wpAny_forIn_list _ (λrest b s'=>b.1=none∧s'=⟨hp,g,d,tk,os⟩∧HA A.in1 ⟨hp,g,d,tk,os⟩ r (items.size==Aj.size) rest) _
  case turn=>
   rintro p rest b s' ⟨Hm,rfl,hq⟩;refine hq.Hj (λer e=>?_) λe hq=>?_
   ·subst er;refine ArQ (e prog w _ _ ?_)
    wp_walk
    exact⟨_,rfl,h⟩
   ·refine ArQ (e prog w _ _ ?_)
    wp_walk
    exact⟨rfl,rfl,hq⟩
  case fin=>
   rintro⟨b1,b2⟩ s' ⟨Hm,rfl,hq⟩;simp only at Hm;subst Hm;have:=hq.BZ;subst this
   wp_walk
   exact⟨_,rfl,by simpa [Avm] using h⟩
  case h=>exact⟨rfl,rfl,hP.z⟩
theorem fG(l b:Ar0)(items Aj:Array ArR)(n n2:Nat)(dd Fy:Option Ar0)(sl CK:Array (Option ArR))(r:Bool):
  Meets (Builtin.«tuple.__ne__» ⟨[.ref l,.ref b],[]⟩)
   (λA R s=>s.heap.get? l=some {cls:=.type "tuple",dict:=dd,data:=.seq items n,slots:=sl}∧s.heap.get? b=some {cls:=.type "tuple",dict:=Fy,data:=.seq Aj n2,slots:=CK}∧
    Pre A.in1 s items.toList Aj.toList r∧R (.ok<|.ret<|.bool<|!r) s):=
 .of_wp λprog w A R s h=>by
  obtain⟨hp,g,d,tk,os⟩:=s;obtain⟨hl,hb,hP,h⟩:=h;have f2:=Aud
  wp_walk using Asd hl,Asd hb,wpAny_forIn_list _ (λrest b s'=>b.1=none∧s'=⟨hp,g,d,tk,os⟩∧HA A.in1 ⟨hp,g,d,tk,os⟩ r (items.size==Aj.size) rest) _
  case turn=>
   rintro p rest b s' ⟨Hm,rfl,hq⟩;refine hq.Hj (λer e=>?_) λe hq=>?_
   ·subst er;refine ArQ (e prog w _ _ ?_)
    wp_walk
    exact⟨_,rfl,h⟩
   ·refine ArQ (e prog w _ _ ?_)
    wp_walk
    exact⟨rfl,rfl,hq⟩
  case fin=>
   rintro⟨b1,b2⟩ s' ⟨Hm,rfl,hq⟩;simp only at Hm;subst Hm;have:=hq.BZ;subst this
   wp_walk
   exact⟨_,rfl,by simpa [Avm,bne] using h⟩
  case h=>exact⟨rfl,rfl,hP.z⟩
theorem Wz(l b:Ar0)(items Aj:Array ArR)(n n2:Nat)(dd Fy:Option Ar0)(sl CK:Array (Option ArR))(En:items.size=Aj.size)(r:Bool)(k:Nat):
  ∀i:Nat,items.size-i=k->Meets (Builtin.«list.__eq__.loop» ⟨[.ref l,.ref b,AtQ i,AtQ 2],[]⟩)
   (λA R s=>s.heap.get? l=some {cls:=.type "list",dict:=dd,data:=.seq items n,slots:=sl}∧s.heap.get? b=some {cls:=.type "list",dict:=Fy,data:=.seq Aj n2,slots:=CK}∧
    Pre A.in1 s (items.toList.drop i) (Aj.toList.drop i) r∧R (.ok<|.ret<|.bool r) s):=by
 induction k with
 |zero=>
  intro i hk prog w A R s h;obtain⟨hp,g,d,tk,os⟩:=s;obtain⟨hl,hb,hP,h⟩:=h;obtain⟨e1,cI⟩:=dropEnd hk;obtain⟨e2,OX⟩:=dropEnd (En▸hk);rw[e1,e2] at hP;have er:=hP.BZ;subst er
  wp_walk using Asd hl,Asd hb
  refine cI.symm▸?_;refine OX.symm▸?_
  wp_walk using Asd hl,Asd hb
  show R (.ok<|.ret<|.bool (items.size==Aj.size)) _;refine En.symm▸?_;simpa using h
 |succ k ih=>
  intro i hk prog w A R s h;obtain⟨hp,g,d,tk,os⟩:=s;obtain⟨hl,hb,hP,h⟩:=h;obtain⟨x1,e1,cI⟩:=Ip hk;obtain⟨x2,e2,OX⟩:=Ip (En▸hk);have hc:((i:Int)+1)=((i+1:Nat):Int):=rfl;rw[e1,e2] at hP
  wp_walk using Asd hl,Asd hb
  refine cI.symm▸?_;refine OX.symm▸?_;refine hP.Hj (λer e=>?_) λe hP=>?_
  ·subst er;refine ArQ (e prog w _ _ ?_)
   wp_walk using Asd hl,Asd hb
   refine cI.symm▸?_;refine OX.symm▸?_
   wp_walk
   exact h
  ·refine ArQ (e prog w _ _ ?_)
   wp_walk
   refine hc.symm▸?_;exact⟨Aue plain_eq_loop _,AtR entry_eq_loop (by
    refine(As6 plain_eq_loop _).symm▸?_;exact ih (i+1) (U6 hk) prog w A R _ ⟨hl,hb,hP,h⟩)⟩
theorem dI(l b:Ar0)(items Aj:Array ArR)(n n2:Nat)(dd Fy:Option Ar0)(sl CK:Array (Option ArR))(En:items.size=Aj.size)(r:Bool):
  Meets (Builtin.«list.__eq__» ⟨[.ref l,.ref b],[]⟩)
   (λA R s=>s.heap.get? l=some {cls:=.type "list",dict:=dd,data:=.seq items n,slots:=sl}∧s.heap.get? b=some {cls:=.type "list",dict:=Fy,data:=.seq Aj n2,slots:=CK}∧
    Pre A.in1 s items.toList Aj.toList r∧R (.ok<|.ret<|.bool r) s):=by
 intro prog w A R s h;obtain⟨hp,g,d,tk,os⟩:=s;obtain⟨hl,hb,hP,h⟩:=h;have f3:=Au9;have cL:¬(items.size != Aj.size)=true:=by simp[En]
 wp_walk using Asd hl,Asd hb
 exact⟨Aue plain_eq_loop _,AtR entry_eq_loop (by
  refine(As6 plain_eq_loop _).symm▸?_;exact Wz l b items Aj n n2 dd Fy sl CK En r _ 0 rfl prog w A R _ ⟨hl,hb,hP,h⟩)⟩
theorem WB(l b:Ar0)(items Aj:Array ArR)(n n2:Nat)(dd Fy:Option Ar0)(sl CK:Array (Option ArR))(En:items.size=Aj.size)(r:Bool)(k:Nat):
  ∀i:Nat,items.size-i=k->Meets (Builtin.«list.__eq__.loop» ⟨[.ref l,.ref b,AtQ i,AtQ 3],[]⟩)
   (λA R s=>s.heap.get? l=some {cls:=.type "list",dict:=dd,data:=.seq items n,slots:=sl}∧s.heap.get? b=some {cls:=.type "list",dict:=Fy,data:=.seq Aj n2,slots:=CK}∧
    Pre A.in1 s (items.toList.drop i) (Aj.toList.drop i) r∧R (.ok<|.ret<|.bool<|!r) s):=by
 induction k with
 |zero=>
  intro i hk prog w A R s h;obtain⟨hp,g,d,tk,os⟩:=s;obtain⟨hl,hb,hP,h⟩:=h;obtain⟨e1,cI⟩:=dropEnd hk;obtain⟨e2,OX⟩:=dropEnd (En▸hk);rw[e1,e2] at hP;have er:=hP.BZ;subst er
  wp_walk using Asd hl,Asd hb
  refine cI.symm▸?_;refine OX.symm▸?_
  wp_walk using Asd hl,Asd hb
  show R (.ok<|.ret<|.bool (items.size != Aj.size)) _;refine En.symm▸?_;simpa using h
 |succ k ih=>
  intro i hk prog w A R s h;obtain⟨hp,g,d,tk,os⟩:=s;obtain⟨hl,hb,hP,h⟩:=h;obtain⟨x1,e1,cI⟩:=Ip hk;obtain⟨x2,e2,OX⟩:=Ip (En▸hk);have hc:((i:Int)+1)=((i+1:Nat):Int):=rfl;rw[e1,e2] at hP
  wp_walk using Asd hl,Asd hb
  refine cI.symm▸?_;refine OX.symm▸?_;refine hP.Hj (λer e=>?_) λe hP=>?_
  ·subst er;refine ArQ (e prog w _ _ ?_)
   wp_walk using Asd hl,Asd hb
   refine cI.symm▸?_;refine OX.symm▸?_
   wp_walk
   exact h
  ·refine ArQ (e prog w _ _ ?_)
   wp_walk
   refine hc.symm▸?_;exact⟨Aue plain_eq_loop _,AtR entry_eq_loop (by
    refine(As6 plain_eq_loop _).symm▸?_;exact ih (i+1) (U6 hk) prog w A R _ ⟨hl,hb,hP,h⟩)⟩
theorem dJ(l b:Ar0)(items Aj:Array ArR)(n n2:Nat)(dd Fy:Option Ar0)(sl CK:Array (Option ArR))(En:items.size=Aj.size)(r:Bool):
  Meets (Builtin.«list.__ne__» ⟨[.ref l,.ref b],[]⟩)
   (λA R s=>s.heap.get? l=some {cls:=.type "list",dict:=dd,data:=.seq items n,slots:=sl}∧s.heap.get? b=some {cls:=.type "list",dict:=Fy,data:=.seq Aj n2,slots:=CK}∧
    Pre A.in1 s items.toList Aj.toList r∧R (.ok<|.ret<|.bool<|!r) s):=by
 intro prog w A R s h;obtain⟨hp,g,d,tk,os⟩:=s;obtain⟨hl,hb,hP,h⟩:=h;have f3:=Au9;have cL:¬(items.size != Aj.size)=true:=by simp[En]
 wp_walk using Asd hl,Asd hb
 exact⟨Aue plain_eq_loop _,AtR entry_eq_loop (by
  refine(As6 plain_eq_loop _).symm▸?_;exact WB l b items Aj n n2 dd Fy sl CK En r _ 0 rfl prog w A R _ ⟨hl,hb,hP,h⟩)⟩
theorem Tq{A:Ar4}{s:ArT}{l b:Ar0}{items Aj:Array ArR}{r:Bool}(hl:s.heap.IsTuple l items)(hb:s.heap.IsTuple b Aj)(hu:A.units<AuR)
  (hP:Pre A.in1 s items.toList Aj.toList r):RcAt A s (.ref l) (.ref b) r:=λprog w E Q h=>by
 obtain⟨⟨cls,dd,data,sl⟩,ho,hc,n,hd⟩:=id hl;obtain⟨⟨m7,Fy,data2,CK⟩,La,VI,n2,hd2⟩:=id hb;simp only at hc hd VI hd2;subst hc hd VI hd2;exact Aur (op:=.Eq) ⟨_,ho,rfl⟩ ⟨_,La,rfl⟩ F.slot_tuple_eq F.entry_tuple_eq (F.args_tuple_eq_2 _ _) (fF l b items Aj n n2 dd Fy sl CK r)
  ⟨ho,La,hP,show AuX r≠AuJ∧Q (.bool r) s from⟨(λx=>nomatch x),h⟩⟩ hu
theorem NA{A:Ar4}{s:ArT}{l b:Ar0}{items Aj:Array ArR}{r:Bool}(hl:s.heap.IsTuple l items)(hb:s.heap.IsTuple b Aj)(hu:A.units<AuR)
  (hP:Pre A.in1 s items.toList Aj.toList r):RcNeAt A s (.ref l) (.ref b) (!r):=λprog w E Q h=>by
 obtain⟨⟨cls,dd,data,sl⟩,ho,hc,n,hd⟩:=id hl;obtain⟨⟨m7,Fy,data2,CK⟩,La,VI,n2,hd2⟩:=id hb;simp only at hc hd VI hd2;subst hc hd VI hd2;exact Aur (op:=.NotEq) ⟨_,ho,rfl⟩ ⟨_,La,rfl⟩ F.slot_tuple_ne F.entry_tuple_ne (F.args_tuple_ne_2 _ _) (fG l b items Aj n n2 dd Fy sl CK r)
  ⟨ho,La,hP,show AuX (!r)≠AuJ∧Q (.bool<|!r) s from⟨(λx=>nomatch x),h⟩⟩ hu
theorem Tp{A:Ar4}{s:ArT}{l b:Ar0}{items Aj:Array ArR}{r:Bool}(hl:s.heap.IsList l items)(hb:s.heap.IsList b Aj)(En:items.size=Aj.size)(hu:A.units<AuR)
  (hP:Pre A.in1 s items.toList Aj.toList r):RcAt A s (.ref l) (.ref b) r:=λprog w E Q h=>by
 obtain⟨⟨cls,dd,data,sl⟩,ho,hc,n,hd⟩:=id hl;obtain⟨⟨m7,Fy,data2,CK⟩,La,VI,n2,hd2⟩:=id hb;simp only at hc hd VI hd2;subst hc hd VI hd2;exact Aur (op:=.Eq) ⟨_,ho,rfl⟩ ⟨_,La,rfl⟩ F.slot_list_eq F.entry_list_eq (F.args_list_eq_2 _ _) (dI l b items Aj n n2 dd Fy sl CK En r)
  ⟨ho,La,hP,show AuX r≠AuJ∧Q (.bool r) s from⟨(λx=>nomatch x),h⟩⟩ hu
theorem Nz{A:Ar4}{s:ArT}{l b:Ar0}{items Aj:Array ArR}{r:Bool}(hl:s.heap.IsList l items)(hb:s.heap.IsList b Aj)(En:items.size=Aj.size)(hu:A.units<AuR)
  (hP:Pre A.in1 s items.toList Aj.toList r):RcNeAt A s (.ref l) (.ref b) (!r):=λprog w E Q h=>by
 obtain⟨⟨cls,dd,data,sl⟩,ho,hc,n,hd⟩:=id hl;obtain⟨⟨m7,Fy,data2,CK⟩,La,VI,n2,hd2⟩:=id hb;simp only at hc hd VI hd2;subst hc hd VI hd2;exact Aur (op:=.NotEq) ⟨_,ho,rfl⟩ ⟨_,La,rfl⟩ F.slot_list_ne F.entry_list_ne (F.args_list_ne_2 _ _) (dJ l b items Aj n n2 dd Fy sl CK En r)
  ⟨ho,La,hP,show AuX (!r)≠AuJ∧Q (.bool<|!r) s from⟨(λx=>nomatch x),h⟩⟩ hu
inductive BR(A:Ar4)(s:ArT)(x:ArR):List ArR->Bool->Prop
 |nil:BR A s x [] false
 |hit {y l}:EqAt A s y x true->BR A s x (y::l) true
 |miss {y l b}:EqAt A s y x false->BR A s x l b->BR A s x (y::l) b
theorem BR.BZ{r:Bool}(h:BR A s x [] r):r=false:=by cases h;rfl
theorem BR.Hj{y:ArR}{l:List ArR}{r:Bool}{P:Prop}(h:BR A s x (y::l) r)(k1:r=true->EqAt A s y x true->P)(k2:EqAt A s y x false->BR A s x l r->P):P:=by
 cases h with
 |hit e=>exact k1 rfl e
 |miss e q=>exact k2 e q
theorem WA(l:Ar0)(items:Array ArR)(n:Nat)(dd:Option Ar0)(sl:Array (Option ArR))(x:ArR)(r:Bool)(k:Nat):
  ∀i:Nat,items.size-i=k->Meets (Builtin.«list.__contains__.loop» ⟨[.ref l,x,AtQ i],[]⟩)
   (λA R s=>s.heap.get? l=some {cls:=.type "list",dict:=dd,data:=.seq items n,slots:=sl}∧BR A.in1 s x (items.toList.drop i) r∧R (.ok (.ret (.bool r))) s):=by
 induction k with
 |zero=>
  intro i hk prog w A R s h;obtain⟨hp,g,d,tk,os⟩:=s;obtain⟨hl,hP,h⟩:=h
  wp_walk using Asd hl
  obtain⟨hd,hi⟩:=dropEnd hk;rw[hd] at hP;have er:=hP.BZ;subst er;refine hi.symm▸?_
  wp_walk
  exact h
 |succ k ih=>
  intro i hk prog w A R s h;obtain⟨hp,g,d,tk,os⟩:=s;obtain⟨hl,hP,h⟩:=h
  wp_walk using Asd hl
  obtain⟨x1,hd,hi⟩:=Ip hk;rw[hd] at hP;refine hi.symm▸?_;refine hP.Hj (λer e=>?_) λe hP=>?_
  ·subst er;refine ArQ (e prog w _ _ ?_)
   wp_walk
   exact h
  ·refine ArQ<|e prog w _ _ ?_;have hc:((i:Int)+1)=((i+1:Nat):Int):=rfl
   wp_walk
   refine hc.symm▸?_;exact⟨Aue plain_contains_loop _,AtR entry_contains_loop (by
    refine(As6 plain_contains_loop _).symm▸?_;exact ih (i+1) (U6 hk) prog w A R _ ⟨hl,hP,h⟩)⟩
theorem Q3(l:Ar0)(items:Array ArR)(n:Nat)(dd:Option Ar0)(sl:Array (Option ArR))(x:ArR)(r:Bool):
  Meets (Builtin.«list.__contains__» ⟨[.ref l,x],[]⟩)
   (λA R s=>s.heap.get? l=some {cls:=.type "list",dict:=dd,data:=.seq items n,slots:=sl}∧BR A.in1 s x items.toList r∧R (.ok (.ret (.bool r))) s):=by
 intro prog w A R s h;obtain⟨hp,g,d,tk,os⟩:=s;obtain⟨hl,hP,h⟩:=h
 wp_walk using Asd hl
 exact⟨Aue plain_contains_loop _,AtR entry_contains_loop (by
  rw[As6 plain_contains_loop _];exact WA l items n dd sl x r _ 0 rfl prog w A R _ ⟨hl,hP,h⟩)⟩
theorem RK(l:Ar0)(items:Array ArR)(n:Nat)(dd:Option Ar0)(sl:Array (Option ArR))(x:ArR)(r:Bool):
  Meets (Builtin.«tuple.__contains__» ⟨[.ref l,x],[]⟩)
   (λA R s=>s.heap.get? l=some {cls:=.type "tuple",dict:=dd,data:=.seq items n,slots:=sl}∧BR A.in1 s x items.toList r∧R (.ok (.ret (.bool r))) s):=
 .of_wp λprog w A R s h=>by
  obtain⟨hp,g,d,tk,os⟩:=s;obtain⟨hl,hP,h⟩:=h
  wp_walk using Asd hl,wpAny_forIn_array _ (λrest b s'=>b.1=none∧s'=⟨hp,g,d,tk,os⟩∧BR A.in1 ⟨hp,g,d,tk,os⟩ x rest r) _
  case turn=>
   rintro y rest b s' ⟨hb,rfl,hP⟩;refine hP.Hj (λer e=>?_) λe hP=>?_
   ·subst er;refine ArQ (e prog w _ _ ?_)
    wp_walk
    exact⟨_,rfl,h⟩
   ·refine ArQ (e prog w _ _ ?_)
    wp_walk
    exact⟨rfl,rfl,hP⟩
  case fin=>
   rintro⟨b1,b2⟩ s' ⟨hb,rfl,hP⟩;simp only at hb;subst hb;have er:=hP.BZ;subst er
   wp_walk
   exact⟨_,rfl,h⟩
  case h=>
   exact⟨rfl,rfl,hP⟩
section
variable{prog:AsR}{w:ArV}{A:Ar4}{E:ArR->ArT->Prop}{s:ArT}{l:Ar0}{items:Array ArR}{x:ArR}{r:Bool}{Q:ArR->ArT->Prop}
theorem oH(hl:s.heap.IsList l items)(hP:BR A.in1 s x items.toList r)(h:Q (.bool r) s):Ar5 (model prog w) A (AuA .In x<|.ref l) Q E s:=by obtain⟨⟨cls,dd,data,sl⟩,ho,hc,n,hd⟩:=id hl;simp only at hc hd;subst hc hd;exact Aym ⟨_,ho,rfl⟩ AvC Avz (Avx _ _) (Q3 l items n dd sl x r) ⟨ho,hP,_,rfl,h⟩
theorem Tc(hl:s.heap.IsList l items)(hP:BR A.in1 s x items.toList r)(h:Q (.bool<|!r) s):Ar5 (model prog w) A (AuA .NotIn x<|.ref l) Q E s:=by obtain⟨⟨cls,dd,data,sl⟩,ho,hc,n,hd⟩:=id hl;simp only at hc hd;subst hc hd;exact Ayn ⟨_,ho,rfl⟩ AvC Avz (Avx _ _) (Q3 l items n dd sl x r) ⟨ho,hP,_,rfl,h⟩
theorem oI(hl:s.heap.IsTuple l items)(hP:BR A.in1 s x items.toList r)(h:Q (.bool r) s):Ar5 (model prog w) A (AuA .In x<|.ref l) Q E s:=by obtain⟨⟨cls,dd,data,sl⟩,ho,hc,n,hd⟩:=id hl;simp only at hc hd;subst hc hd;exact Aym ⟨_,ho,rfl⟩ AvE AvA (Avy _ _) (RK l items n dd sl x r) ⟨ho,hP,_,rfl,h⟩
theorem Te(hl:s.heap.IsTuple l items)(hP:BR A.in1 s x items.toList r)(h:Q (.bool<|!r) s):Ar5 (model prog w) A (AuA .NotIn x<|.ref l) Q E s:=by obtain⟨⟨cls,dd,data,sl⟩,ho,hc,n,hd⟩:=id hl;simp only at hc hd;subst hc hd;exact Ayn ⟨_,ho,rfl⟩ AvE AvA (Avy _ _) (RK l items n dd sl x r) ⟨ho,hP,_,rfl,h⟩
end
end
section
open PySem.SeqAt
structure DL(n:Nat)(s:ArT)(a b:ArR)(r:Bool):Prop where
 eq:∀A:Ar4,A.units+n<AuR->EqAt A s a b r
 rc:∀A:Ar4,A.units+n<AuR->RcAt A s a b r
 ne:∀A:Ar4,A.units+n<AuR->RcNeAt A s a b (!r)
 same:a=b->r=true
inductive Ek(n:Nat)(s:ArT):List ArR->List ArR->Bool->Prop
 |nil:Ek n s [] [] true
 |nl {y m}:Ek n s [] (y::m) false
 |nr {x l}:Ek n s (x::l) [] false
 |ne {x l y m}:DL n s x y false->Ek n s (x::l) (y::m) false
 |eq {x l y m b}:DL n s x y true->Ek n s l m b->Ek n s (x::l) (y::m) b
theorem Ek.at{n:Nat}{A:Ar4}(hu:A.units+n<AuR){l m b}(p:Ek n s l m b):Pre A s l m b:=
 Ek.rec (motive:=λl m b z=>Pre A s l m b) .nil .nl .nr (λc=>.ne (c.eq A hu)) (λc z r=>.eq (c.eq A hu) r) p
theorem Ek.same{n:Nat}{l m b}(p:Ek n s l m b):l=m->b=true:=
 Ek.rec (motive:=λl m b z=>l=m->b=true) (λz=>rfl) (λe=>nomatch e) (λe=>nomatch e) (λc e=>c.same (Awz e).1) (λz z r e=>r (Awz e).2) p
theorem DL.refs{n:Nat}{s:ArT}{a b:Ar0}{r:Bool}(rc:∀A:Ar4,A.units+n<AuR->RcAt A s (.ref a) (.ref b) r)(ne:∀A:Ar4,A.units+n<AuR->RcNeAt A s (.ref a) (.ref b) (!r))
  (same:a=b->r=true):DL n s (.ref a) (.ref b) r:=by
 refine⟨λA hA=>?_,rc,ne,λe=>same (by injection e)⟩;by_cases h:a=b
 ·rw[same h,h];exact .same _
 ·exact .of_refs h (rc A hA)
theorem un1{A:Ar4}{n:Nat}(h:A.units+(n+1)<AuR):A.in1.units+n<AuR:=(show A.units+1+n=A.units+(n+1) from Axd .. ▸rfl)▸h
theorem fL{A:Ar4}{n:Nat}(h:A.units+(n+1)<AuR):A.units<AuR:=Axs (Axl ..) h
theorem Y6{d:Data}{x y:Array ArR}(h1:∃n,d= .seq x n)(h2:∃n,d= .seq y n):x=y:=by obtain⟨n,rfl⟩:=h1;obtain⟨m,e⟩:=h2;exact(Data.seq.inj e).1
theorem qS{h:Asb}{a:Ar0}{x y:Array ArR}(hx:h.IsTuple a x)(hy:h.IsTuple a y):x=y:=by obtain⟨o,ho,_,h1⟩:=hx;obtain⟨o',Ho,_,h2⟩:=hy;exact Y6 h1 (uniq ho Ho▸h2)
theorem IsList.fun{h:Asb}{a:Ar0}{x y:Array ArR}(hx:h.IsList a x)(hy:h.IsList a y):x=y:=by obtain⟨o,ho,_,h1⟩:=hx;obtain⟨o',Ho,_,h2⟩:=hy;exact Y6 h1 (uniq ho Ho▸h2)
theorem DL.tuples{n:Nat}{s:ArT}{a b:Ar0}{l m:List ArR}{r:Bool}(hl:s.heap.IsTuple a l.toArray)(hm:s.heap.IsTuple b m.toArray)(hP:Ek n s l m r):DL (n+1) s (.ref a) (.ref b) r:=
 .refs (λA hA=>Tq hl hm (fL hA) (hP.at<|un1 hA)) (λA hA=>NA hl hm (fL hA) (hP.at<|un1 hA)) λe=>hP.same (congrArg Au8<|qS hl<|e▸hm)
theorem DL.lists{n:Nat}{s:ArT}{a b:Ar0}{l m:List ArR}{r:Bool}(hl:s.heap.IsList a l.toArray)(hm:s.heap.IsList b m.toArray)(hz:l.length=m.length)(hP:Ek n s l m r):DL (n+1) s (.ref a) (.ref b) r:=
 .refs (λA hA=>Tp hl hm hz (fL hA) (hP.at<|un1 hA)) (λA hA=>Nz hl hm hz (fL hA) (hP.at<|un1 hA)) λe=>hP.same (congrArg Au8<|IsList.fun hl<|e▸hm)
theorem DL.Lj{n:Nat}{s:ArT}{a b:Ar0}{l m:Array ArR}(hl:s.heap.IsList a l)(hm:s.heap.IsList b m)(hz:l.size≠m.size):DL (n+1) s (.ref a) (.ref b) false:=
 .refs (λA hA=>RcAt.lists_lengths hl hm (bne_iff_ne.mpr hz) (fL hA)) (λA hA=>RcNeAt.lists_lengths hl hm (bne_iff_ne.mpr hz) (fL hA)) λe=>absurd (congrArg Array.size<|IsList.fun hl<|e▸hm) hz
theorem Jc{A:Ar4}{s:ArT}(b c:Array UInt8)(t u:Tok):RcAt A s (.bytes b t) (.bytes c u) (b.toList==c.toList):=λprog w E Q h=>eq_bytes h
theorem LD{A:Ar4}{s:ArT}(b c:Array UInt8)(t u:Tok):RcNeAt A s (.bytes b t) (.bytes c u) (!(b.toList==c.toList)):=λprog w E Q h=>ne_bytes h
theorem OD{A:Ar4}{s:ArT}(b c:Array UInt8)(t u:Tok):EqAt A s (.bytes b t) (.bytes c u) (b.toList==c.toList):=λprog w E Q h=>by
 unfold eqBool;refine Aso ?_;refine wpAny_ite_split (λhab=>?_) (λz=>?_)
 ·have e:b=c:=by have:=AyV hab;injection this
  subst e;exact DA (ArS (by simpa using h))
 ·exact ArQ (Jc b c t u prog w E _<|Az0 h)
theorem JR(a b:List UInt8):Hg a b=(a==b):=by
 induction a generalizing b with
 |nil=>induction b<;>rfl
 |cons x r ih=>induction b with
  |nil=>rfl
  |cons y s=>
   have hq:ArX x.toNat y.toNat=(x==y):=by rw[Ato,beq_iff,beq_iff_eq];exact UInt8.toNat_inj
   show bt (ArX x.toNat y.toNat) (Hg r s) false=((x==y)&&(r==s));refine hq.symm▸?_;refine(ih s).symm▸?_;cases(x==y)<;>rfl
variable{C:Cx}
section
variable{W:Wd}{s:ArT}
inductive Eh(C:Cx)(W:Wd)(s:ArT)(σ:St)(R:Bool->Prop)(k:K Bool):Prop
 |mk (r:Bool) (σ':St) (n:Bg C W s σ σ') (c:R r) (h:k r σ'=true)
def rY(C:Cx)(W:Wd)(s:ArT)(n:Nat)(f:AV->AV->St->K Bool->Bool):Prop:=
 ∀(a b:AV) (ca cb:ArR) (σ:St) (k:K Bool),Inv C W σ s->VR C W s.heap a ca->VR C W s.heap b cb->f a b σ k=true->Eh C W s σ (DL n s ca cb) k
theorem Vd{n:Nat}(hf:rY C W s n f){l:List AV}{k:K Bool}(I:Inv C W σ s)(hl:Ae C W s.heap l cl)(hm:Ae C W s.heap m cm)(h:eqL f l m σ k=true):
  Eh C W s σ (Ek n s cl cm) k:=by
 induction l generalizing m cl cm σ with
 |nil=>
  refine Ae.inv (P:=λcl=>Eh C W s σ (Ek n s cl cm) k) hl ?_
  induction m with
  |nil=>exact Ae.inv hm ⟨true,σ,.refl I,.nil,h⟩
  |cons b m=>exact Ae.inv hm λz z z z=>⟨false,σ,.refl I,.nl,h⟩
 |cons a l ih=>
  refine Ae.inv (P:=λcl=>Eh C W s σ (Ek n s cl cm) k) hl λca cl ha hl=>?_
  induction m with
  |nil=>exact Ae.inv hm ⟨false,σ,.refl I,.nr,h⟩
  |cons b m=>
   refine Ae.inv (P:=λcm=>Eh C W s σ (Ek n s (ca::cl) cm) k) hm λcb cm hb hm=>?_
   cases hf _ _ _ _ _ (λc σ=>bt c (eqL f l m σ k) (k false σ)) I ha hb h with
   |mk r σ1 n1 c1 h1=>induction r with
    |false=>exact⟨false,σ1,n1,.ne c1,h1⟩
    |true=>cases ih n1.1 hl hm h1 with
     |mk r σ2 n2 c2 h2=>exact⟨r,σ2,n1.trans n2,.eq c1 c2,h2⟩
theorem G3(W:Wd):part W none= []:=rfl
theorem Ve{n:Nat}{f:AV->AV->St->K Bool->Bool}(hf:rY C W s n f){x y:Nat}{px py:Ar0×Ar0}{σ:St}{k:K Bool}(I:Inv C W σ s)(hx:W.τ[x]?=some px)(hy:W.τ[y]?=some py)
  (h:gN f x y σ k=true):Eh C W s σ (DL (n+1) s (.ref px.1)<|.ref py.1) k:=by
 refine I.A7 hx h (λl cl h z b=>I.A7 hy h (λm cm h z c=>B9 h (λe h=>?_) λe h=>?_) λh=>I.Fc hy h (λa m cm h z c=>?_) ff) λh=>I.Fc hx h (λa l cl h z b=>I.A7 hy h (λm cm h z c=>?_) ff) ff
 ·have e:cl.length=cm.length:=by rw[b.v.length,c.v.length,beq_iff.mp e]
  cases Vd hf I b.v c.v h with
  |mk r σ1 n1 c1 h1=>exact⟨r,σ1,n1,.lists b.il c.il e c1,h1⟩
 ·exact⟨false,σ,.refl I,.Lj b.il c.il (λq=>by
   have q:cl.length=cm.length:=q;rw[b.v.length,c.v.length] at q;exact AsJ<|e.symm.trans<|beq_iff.mpr q),h⟩
 ·induction l with
  |cons _ _=>exact ff h
  |nil=>induction m with
   |nil=>exact ff h
   |cons u m=>exact Ae.inv (P:=λcl=>s.heap.IsList px.1 cl.toArray->_) b.v (λbil=>Ae.inv (P:=λcm=>s.heap.IsList py.1 (W.ls a++cm++ []).toArray->_) c.v (λcu cm z z il=>⟨false,σ,.refl I,.Lj bil il (by simp),h⟩) c.il) b.il
 ·induction m with
  |cons _ _=>exact ff h
  |nil=>induction l with
   |nil=>exact ff h
   |cons u l=>exact Ae.inv (P:=λcm=>s.heap.IsList py.1 cm.toArray->_) c.v (λcil=>Ae.inv (P:=λcl=>s.heap.IsList px.1 (W.ls a++cl++ []).toArray->_) b.v (λcu cl z z il=>⟨false,σ,.refl I,.Lj il cil (by simp),h⟩) b.il) c.il
theorem Rz{Y:Str}(hx:A9 x=some X)(hy:A9 y=some Y):ArX x y=(X==Y):=by rw[Ato,beq_iff,beq_iff_eq];exact⟨λe=>(uniq hx<|e▸hy).symm,λe=>HW hx (e▸hy)⟩
inductive PK(s:ArT):Nat->ArR->Prop
 |AR:PK s 0 .none
 |int (i t):PK s 2 (.int i t)
 |str (x t):PK s 3 (.str x t)
 |Af (a items) (h:s.heap.IsTuple a items):PK s 5 (.ref a)
theorem VR.Kd{P:Prop}(r:VR C W s.heap v cv)(e:Kd v f=true)(k:∀i,PK s i cv->f i=true->P):P:=
 VR.Bo (P:=λcv=>(∀i,PK s i cv->f i=true->P)->P) r e (λh k=>k 0 .AR h) (λe k=>VR.cInt (P:=λcv=>(∀i,PK s i cv->f i=true->P)->P) r e (λl i t h zz k=>k 2 (.int i t) h)
  (λe k=>VR.cStr (P:=λcv=>(∀i,PK s i cv->f i=true->P)->P) r e (λz x t h zz k=>k 3 (.str x t) h) (λe k=>VR.AU (P:=λcv=>(∀i,PK s i cv->f i=true->P)->P) r e (λl vs a h ht zz k=>k 5 (.Af a _ ht.Af) h) ff k) k) k) k
theorem DL.diff{n:Nat}{a b:ArR}(e:∀A:Ar4,A.units<AuR->EqAt A s a b false)(r:∀A:Ar4,A.units<AuR->RcAt A s a b false)(q:∀A:Ar4,A.units<AuR->RcNeAt A s a b true)(d:a≠b):DL (n+1) s a b false:=
 ⟨λA hA=>e A (fL hA),λA hA=>r A (fL hA),λA hA=>q A (fL hA),λh=>absurd h d⟩
theorem PK.ne{n i j:Nat}(p:PK s i a)(q:PK s j b)(h:ArX i j=false):DL (n+1) s a b false:=by
 induction p with
 |AR=>induction q with
  |AR=>exact ff h.symm
  |int i t=>exact .diff (λA zz=>.none_int _ _) (λA zz=>.none_int _ _) (λA zz=>.none_int _ _) nofun
  |str x t=>exact .diff (λA zz=>.none_str _ _) (λA zz=>.none_str _ _) (λA zz=>.none_str _ _) nofun
  |Af a m y=>exact .diff (λA u=>.none_tuple y u) (λA u=>.none_tuple y u) (λA u=>.none_tuple y u) nofun
 |int i t=>induction q with
  |int i t=>exact ff h.symm
  |AR=>exact .diff (λA zz=>.int_none _ _) (λA zz=>.int_none _ _) (λA zz=>.int_none _ _) nofun
  |str x t=>exact .diff (λA zz=>.int_str _ _ _ _) (λA zz=>.int_str _ _ _ _) (λA zz=>.int_str _ _ _ _) nofun
  |Af a m y=>exact .diff (λA u=>.int_tuple _ _ y u) (λA u=>.int_tuple _ _ y u) (λA u=>.int_tuple _ _ y u) nofun
 |str x t=>induction q with
  |str i t=>exact ff h.symm
  |AR=>exact .diff (λA zz=>.str_none _ _) (λA zz=>.str_none _ _) (λA zz=>.str_none _ _) nofun
  |int x t=>exact .diff (λA zz=>.str_int _ _ _ _) (λA zz=>.str_int _ _ _ _) (λA zz=>.str_int _ _ _ _) nofun
  |Af a m y=>exact .diff (λA u=>.str_tuple _ _ y u) (λA u=>.str_tuple _ _ y u) (λA u=>.str_tuple _ _ y u) nofun
 |Af a l x=>induction q with
  |Af=>exact ff h.symm
  |AR=>exact .diff (λA u=>.tuple_none x u) (λA u=>.tuple_none x u) (λA u=>.tuple_none x u) nofun
  |int i t=>exact .diff (λA u=>.tuple_int _ _ x u) (λA u=>.tuple_int _ _ x u) (λA u=>.tuple_int _ _ x u) nofun
  |str z t=>exact .diff (λA u=>.tuple_str _ _ x u) (λA u=>.tuple_str _ _ x u) (λA u=>.tuple_str _ _ x u) nofun
theorem nG{n:Nat}(hf:rY C W s n f):rY C W s (n+1) (eqA f):=by
 intro a b ca cb σ k I ha hb h;have D:FW a b σ k=true->Eh C W s σ (DL (n+1) s ca cb) k:=λh=>ha.Kd h λi p h=>hb.Kd h λj q h=>B9 h (λzz=>ff) λe h=>⟨false,σ,.refl I,p.ne q e,h⟩
 refine VR.Bo (P:=λca=>(_->Eh C W s σ (DL (n+1) s ca cb) k)->Eh C W s σ (DL (n+1) s ca cb) k) ha h (λh D=>VR.Bo (P:=λcb=>(_->Eh C W s σ (DL (n+1) s .none cb) k)->Eh C W s σ (DL (n+1) s .none cb) k) hb h (λh zz=>?_) (λh D=>D h) D) (λh D=>?_) D
 ·exact⟨true,σ,.refl I,⟨λA zz=>.same _,λA zz=>.none_none,λA zz=>.none_none,λzz=>rfl⟩,h⟩
 refine VR.cBool (P:=λca=>Eh C W s σ (DL (n+1) s ca cb) k) ha h (λx h=>VR.cBool (P:=λcb=>Eh C W s σ (DL (n+1) s (.bool x) cb) k) hb h (λy h=>?_) ff) λh=>?_
 ·exact⟨_,σ,.refl I,⟨λA zz=>.bool_bool _ _,λA zz=>.bool_bool _ _,λA zz=>.bool_bool _ _,λe=>beq_iff_eq.mpr (AuX.inj e)⟩,h⟩
 refine VR.cInt (P:=λca=>(_->Eh C W s σ (DL (n+1) s ca cb) k)->Eh C W s σ (DL (n+1) s ca cb) k) ha h (λx i t h hx D=>VR.cInt (P:=λcb=>(_->Eh C W s σ (DL (n+1) s (.int i t) cb) k)->Eh C W s σ (DL (n+1) s (.int i t) cb) k) hb h (λy j u h hy zz=>?_) (λh D=>D h) D) (λh D=>?_) D
 ·obtain⟨σ1,n1,h1⟩:=ER I (Ad.Dv hx hy) h;have e:decide (i-j=0)=(i==j):=Ato.mpr (decide_eq_true_iff.trans<|Awm.trans beq_iff_eq.symm);exact⟨i==j,σ1,n1,⟨λA zz=>.int_int _ _ _ _,λA zz=>.int_int _ _ _ _,λA zz=>.int_int _ _ _ _,λe=>beq_iff_eq.mpr (Value.int.inj e).1⟩,e▸h1⟩
 refine VR.cStr (P:=λca=>(_->Eh C W s σ (DL (n+1) s ca cb) k)->Eh C W s σ (DL (n+1) s ca cb) k) ha h (λz x t h hx D=>VR.cStr (P:=λcb=>(_->Eh C W s σ (DL (n+1) s (.str x t) cb) k)->Eh C W s σ (DL (n+1) s (.str x t) cb) k) hb h (λy Y u h hy zz=>?_) (λh D=>D h) D) (λh D=>?_) D
 ·rw[Rz hx hy] at h;exact⟨_,σ,.refl I,⟨λA zz=>.str_str _ _ _ _,λA zz=>.str_str _ _ _ _,λA zz=>.str_str _ _ _ _,λe=>beq_iff_eq.mpr (Value.str.inj e).1⟩,h⟩
 refine VR.CS (P:=λca=>Eh C W s σ (DL (n+1) s ca cb) k) ha h (λx t h=>VR.CS (P:=λcb=>Eh C W s σ (DL (n+1) s (.bytes x.toArray t) cb) k) hb h (λy u h=>?_) ff) λh=>?_
 ·rw[JR] at h;exact⟨_,σ,.refl I,⟨λA zz=>OD _ _ _ _,λA zz=>Jc _ _ _ _,λA zz=>LD _ _ _ _,λe=>beq_iff_eq.mpr (congrArg Au8 (Value.bytes.inj e).1)⟩,h⟩
 refine VR.AU (P:=λca=>(_->Eh C W s σ (DL (n+1) s ca cb) k)->Eh C W s σ (DL (n+1) s ca cb) k) ha h (λx vx p h tx hx D=>VR.AU (P:=λcb=>(_->Eh C W s σ (DL (n+1) s (.ref p) cb) k)->Eh C W s σ (DL (n+1) s (.ref p) cb) k) hb h (λy vy q h ty hy zz=>?_) (λh D=>D h) D) (λh D=>?_) D
 ·cases Vd hf I hx hy h with
  |mk r σ1 n1 c1 h1=>exact⟨r,σ1,n1,.tuples tx.Af ty.Af c1,h1⟩
 exact VR.Ay (P:=λca=>Eh C W s σ (DL (n+1) s ca cb) k) ha h (λx p h hx=>VR.Ay (P:=λcb=>Eh C W s σ (DL (n+1) s (.ref p.1) cb) k) hb h (λy q h hy=>Ve hf I hx hy h) ff) ff
theorem OG(n:Nat):rY C W s n (uJ n):=by
 induction n with
 |zero=>exact λz z z z z z z z z=>ff
 |succ n ih=>intro a b ca cb σ k I ha hb h;obtain⟨a',σ1,n1,JD,_,h⟩:=Aw (k:=λa σ=>res b σ λb σ=>eqA (uJ n) a b σ k) I ha h;obtain⟨b',σ2,n2,Hm,_,h⟩:=Aw n1.1 hb h;obtain⟨r,σ3,n3,c,h⟩:=nG ih _ _ _ _ _ _ n2.1 JD Hm h;exact⟨r,σ3,(n1.trans n2).trans n3,c,h⟩
end
end
section
open PySem.SeqAt
variable{C:Cx}
theorem Co.app{l m l' m'}(a:Co C W h l m)(b:Co C W h l' m'):Co C W h (l++l') (m++m'):=
 Co.rec (motive:=λl m z=>Co C W h (l++l') (m++m')) b (λk v z r=>.cons k v r) a
theorem Co.length{l m}(r:Co C W h l m):m.length=l.length:=
 Co.rec (motive:=λl m z=>m.length=l.length) rfl (λz z z r=>congrArg Auv r) r
def Co.K(C:Cx)(W:Wd)(h:Asb)(P:List (KK×ArR)->Prop):List (AV×AV)->Prop
 | []=>P [] |p::l=>∀K V m,Bh W p.1 K->VR C W h p.2 V->Co C W h l m->P ((K,V)::m)
@[elab_as_elim] theorem Co.inv{W:Wd}{h:Asb}{l m}{P:List (KK×ArR)->Prop}(r:Co C W h l m):Co.K C W h P l->P m:=by
 induction r with
 |nil=>exact id
 |cons k v r=>exact λq=>q _ _ _ k v r
section
variable{W:Wd}{s:ArT}
theorem ES(hv:VR C W s.heap i cv)(h:keyOk i=true):∃K,Bh W i K∧JH K cv=true:=by
 cases i with
 |int l=>exact hv.inv (P:=λcv=>∃K,Bh W (.int l) K∧JH K cv=true) λi t e=>⟨_,.int e,VY _ _⟩
 |str z=>exact hv.inv (P:=λcv=>∃K,Bh W (.str z) K∧JH K cv=true) λx t e=>⟨_,.str e,IH _ _⟩
 |_=>exact ff h
def Bh.K(W:Wd)(P:KK->Prop):AV->Prop
 | .str z=>∀x,A9 z=some x->P (.inl x) | .int l=>∀i,l.ev W.ρ=some i->P (.inr i) |_=>True
theorem Bh.inv{k K}(r:Bh W k K):Bh.K W P k->P K:=by
 induction r with
 |str e=>exact λq=>q _ e
 |int e=>exact λq=>q _ e
theorem IJ{k:K Bool}(I:Inv C W σ s)(ha:Bh W a ka)(hb:Bh W b kb)(h:Na a b σ k=true):Dec C W s σ k (decide (ka=kb)):=by
 refine AV.Hb (Q:=λb=>Bh W b kb->Dec C W s σ k (decide (ka=kb))) h (λy h hb=>hb.inv (P:=λkb=>Dec C W s σ k (decide (ka=kb))) λY ey=>
   AV.Hb (Q:=λa=>Bh W a ka->Dec C W s σ k (decide (ka= .inl Y))) h (λx h ha=>ha.inv (P:=λka=>Dec C W s σ k (decide (ka= .inl Y))) λX ex=>.now I ?_ h)
    (λz h z=>AV.FC (Q:=λa=>Bh W a ka->Dec C W s σ k (decide (ka= .inl Y))) h (λx h ha=>ha.inv (P:=λka=>Dec C W s σ k (decide (ka= .inl Y))) λX ex=>.now I (decide_eq_false nofun) h) (λz=>ff) ha) ha)
  (λz h z=>AV.FC (Q:=λb=>Bh W b kb->Dec C W s σ k (decide (ka=kb))) h (λy h hb=>hb.inv (P:=λkb=>Dec C W s σ k (decide (ka=kb))) λY ey=>
   AV.FC (Q:=λa=>Bh W a ka->Dec C W s σ k (decide (ka= .inr Y))) h (λx h ha=>ha.inv (P:=λka=>Dec C W s σ k (decide (ka= .inr Y))) λX ex=>?_)
    (λz h z=>AV.Hb (Q:=λa=>Bh W a ka->Dec C W s σ k (decide (ka= .inr Y))) h (λx h ha=>ha.inv (P:=λka=>Dec C W s σ k (decide (ka= .inr Y))) λX ex=>.now I (decide_eq_false nofun) h) (λz=>ff) ha) ha) (λz=>ff) hb) hb
 ·rw[Rz ex ey,Ato,decide_eq_true_iff,beq_iff_eq];exact⟨Ayr,congrArg _⟩
 ·obtain⟨σ1,n1,h1⟩:=ER I (Ad.Dv ex ey) h;exact⟨σ1,n1,(decide_eq_decide.mpr (Awm.trans ⟨congrArg _,Sum.inr.inj⟩):decide (X-Y=0)=decide ((.inr X:KK)= .inr Y))▸h1⟩
theorem Gy(p:KK×ArR)(m:List (KK×ArR))(k:KK):AzH (p::m) k=if p.1=k then some p.2 else AzH m k:=by
 unfold AzH;rw[AwF];by_cases h:p.1=k
 ·rw[decide_eq_true h,if_pos h];rfl
 ·rw[decide_eq_false h,if_neg h]
theorem SD{k:K Bool}(hi:Bh W i K0){l:List (AV×AV)}(I:Inv C W σ s)(r:Co C W s.heap l m)(h:nV i l σ k=true):Dec C W s σ k (AzH m K0).isSome:=by
 induction l generalizing m σ with
 |nil=>exact r.inv (P:=λm=>Dec C W s σ k (AzH m K0).isSome) ⟨σ,.refl I,h⟩
 |cons p l ih=>
  refine r.inv (P:=λm=>Dec C W s σ k (AzH m K0).isSome) λka cu m e v r=>?_
  obtain⟨σ1,n1,h1⟩:=IJ (k:=λc σ=>bt c (k true σ) (nV i l σ k)) I e hi h;rw[Gy];by_cases q:ka=K0
  ·rw[decide_eq_true q] at h1;rw[if_pos q];exact⟨σ1,n1,h1⟩
  ·rw[decide_eq_false q] at h1;rw[if_neg q];obtain⟨σ2,n2,h2⟩:=ih n1.1 r h1;exact⟨σ2,n1.trans n2,h2⟩
inductive rZ(C:Cx)(W:Wd)(s:ArT)(σ:St)(o:Option ArR)(k:K AV):Prop
 |mk (v:AV) (cv:ArR) (σ':St) (n:Bg C W s σ σ') (e:o=some cv) (r:VR C W s.heap v cv) (h:k v σ'=true)
theorem bC{k:K AV}(hi:Bh W i K0){l:List (AV×AV)}(I:Inv C W σ s)(r:Co C W s.heap l m)(h:My l i σ k=true):rZ C W s σ (AzH m K0) k:=by
 induction l generalizing m σ with
 |nil=>exact ff h
 |cons p l ih=>
  refine r.inv (P:=λm=>rZ C W s σ (AzH m K0) k) λka cu m e v r=>?_
  obtain⟨σ1,n1,h1⟩:=IJ (k:=λc σ=>bt c (k p.2 σ) (My l i σ k)) I e hi h;rw[Gy];by_cases q:ka=K0
  ·rw[decide_eq_true q] at h1;exact⟨p.2,cu,σ1,n1,if_pos q,v,h1⟩
  ·rw[decide_eq_false q] at h1;cases ih n1.1 r h1 with
   |mk v' cv' σ2 n2 x y z=>exact⟨v',cv',σ2,n1.trans n2,(if_neg q).trans x,y,z⟩
theorem P2{d m:List (KK×ArR)}{K0:KK}{cu V:ArR}(hd:∀p∈d,p.1≠K0)(hn:((d++(K0,cu)::m).map (·.1)).Nodup):stored (d++(K0,cu)::m) K0 V=d++(K0,V)::m:=by
 have hm:∀p∈m,p.1≠K0:=by intro p hp e;rw[AwT,AsZ,AwX] at hn;exact(Atl.mp hn.2.1).1 (At8.mpr ⟨p,hp,e⟩)
 unfold stored;rw[if_pos (Aum.mpr ⟨(K0,cu),AtC _<|.head _,decide_eq_true rfl⟩)];have iC:∀l:List (KK×ArR),(∀p∈l,p.1≠K0)->l.map (λkv=>if kv.1=K0 then(kv.1,V) else kv)=l:=by
  intro l hl
  induction l with
  |nil=>rfl |cons p l ih=>rw[AsZ,if_neg (hl p (.head _)),ih λq hq=>hl q (.tail _ hq)]
 rw[AwT,AsZ,if_pos rfl,iC d hd,iC m hm]
theorem NU{d:List (KK×ArR)}{K0:KK}{V:ArR}(hd:∀p∈d,p.1≠K0):stored d K0 V=d++ [(K0,V)]:=
 if_neg λq=>(Aum.mp q).elim λp q=>hd p q.1 (of_decide_eq_true q.2)
inductive Z7(C:Cx)(W:Wd)(s:ArT)(σ:St)(j:Nat)(Bk:List (KK×ArR))(k:K Unit):Prop
 |mk (l:List (AV×AV)) (σ':St) (n:Bg C W s σ σ') (r:Co C W s.heap l Bk) (h:k () (σ'.put j (.dict l))=true)
theorem Qy{i v:AV}{K0:KK}{V:ArR}{j:Nat}{k:K Unit}(hi:Bh W i K0)(hv:VR C W s.heap v V){l done:List (AV×AV)}{m d:List (KK×ArR)}{σ:St}(I:Inv C W σ s)(hd:Co C W s.heap done d)(r:Co C W s.heap l m)
  (ne:∀p∈d,p.1≠K0)(nd:((d++m).map (·.1)).Nodup)(h:Su i v done j l σ k=true):Z7 C W s σ j (stored (d++m) K0 V) k:=by
 induction l generalizing done m d σ with
 |nil=>refine r.inv (P:=λm=>Z7 C W s σ j (stored (d++m) K0 V) k) ?_;show Z7 C W s σ j (stored (d++ []) K0 V) k;rw[Ar7,NU ne];exact⟨_,σ,.refl I,hd.app (.cons hi hv .nil),h⟩
 |cons p l ih=>
  refine r.inv (P:=λm=>((d++m).map (·.1)).Nodup->Z7 C W s σ j (stored (d++m) K0 V) k) (λka cu m e w r nd=>?_) nd;obtain⟨σ1,n1,h1⟩:=IJ (k:=λc σ=>bt c (k ()<|σ.put j<|.dict (done++(p.1,v)::l)) (Su i v (done++ [p]) j l σ k)) I e hi h;by_cases q:ka=K0
  ·rw[decide_eq_true q] at h1;subst q;rw[P2 ne nd];exact⟨_,σ1,n1,hd.app<|.cons e hv r,h1⟩
  ·rw[decide_eq_false q] at h1;rw[Aww] at nd ⊢;cases ih n1.1 (hd.app<|.cons e w .nil) r (λp hp=>(AsA.mp hp).elim (ne p) λhp=>Ash.mp hp▸q) nd h1 with
   |mk l' σ2 n2 x y=>exact⟨l',σ2,n1.trans n2,x,y⟩
inductive Z6(n:Nat)(s:ArT)(x:ArR):List ArR->Bool->Prop
 |nil:Z6 n s x [] false
 |hit {y l}:DL n s y x true->Z6 n s x (y::l) true
 |miss {y l b}:DL n s y x false->Z6 n s x l b->Z6 n s x (y::l) b
theorem Z6.at{n:Nat}{A:Ar4}(hu:A.units+n<AuR){l b}(p:Z6 n s x l b):BR A s x l b:=
 Z6.rec (motive:=λl b z=>BR A s x l b) .nil (λc=>.hit (c.eq A hu)) (λc z r=>.miss (c.eq A hu) r) p
theorem VT{k:K Bool}(ha:VR C W s.heap a ca){l:List AV}(I:Inv C W σ s)(r:Ae C W s.heap l cl)(h:inL a l σ k=true):Eh C W s σ (Z6 40 s ca cl) k:=by
 induction l generalizing cl σ with
 |nil=>exact r.inv ⟨false,σ,.refl I,.nil,h⟩
 |cons b l ih=>
  refine r.inv (P:=λcl=>Eh C W s σ (Z6 40 s ca cl) k) λcb cl hb r=>?_
  cases OG 40 _ _ _ _ _ (λc σ=>bt c (k true σ) (inL a l σ k)) I hb ha h with
  |mk r σ1 n1 c h1=>induction r with
   |true=>exact⟨true,σ1,n1,.hit c,h1⟩
   |false=>cases ih n1.1 r h1 with
    |mk r σ2 n2 c2 h2=>exact⟨r,σ2,n1.trans n2,.miss c c2,h2⟩
end
structure CP(C:Cx)(T:Tab):Prop where
 FP:∀d l,T.FP d=some l->(d==AuK)=false∧∃Bk,C.h1.DictOf (AF C.prog C.w) d Bk∧∀(W:Wd) (h:Asb),Based C W h->Co C W h l Bk
 whole:∀(W:Wd) (h:Asb),Based C W h->∃cv,VR C W h C.whole cv
 Aar:∃o,C.h1.get? AuK=some o
 Hc:T.whole=C.whole
 ch:∀x n y,T.ch x n=some y->∃X c,A9 x=some X∧n<1000000∧X.cps[n]?=some c∧A9 y=some ⟨#[c]⟩
def RX(W:Wd)(h:Asb)(a:Bool)(b:ArR):Prop:=b= .bool a
theorem Ka(I:Inv C W σ s){k:K Bool}(ha:VR C W s.heap a ca)(h:isNone a σ k=true):∃σ',Bg C W s σ σ'∧k (ca== .none) σ'=true:=by
 obtain⟨a',σ1,n1,r,ns,h⟩:=Aw I ha h;refine⟨σ1,n1,?_⟩;refine VR.Bo (P:=λca=>k (ca== .none) σ1=true) r h id λh=>VR.cBool (P:=λca=>k (ca== .none) σ1=true) r h (λz=>id) λh=>VR.cInt (P:=λca=>k (ca== .none) σ1=true) r h (λz z z h z=>h) λh=>
  VR.cStr (P:=λca=>k (ca== .none) σ1=true) r h (λz z z h z=>h) λh=>VR.CS (P:=λca=>k (ca== .none) σ1=true) r h (λz z=>id) λh=>VR.AU (P:=λca=>k (ca== .none) σ1=true) r h (λz z z h z z=>h) λh=>
  VR.Ay (P:=λca=>k (ca== .none) σ1=true) r h (λz z h z=>h) λh=>VR.KO (P:=λca=>k (ca== .none) σ1=true) r h (λq cv h hq hr=>?_) ff
 obtain⟨_,_,u,t,e⟩:=hq;rw[e] at hr;exact VR.inv (P:=λca=>k (ca== .none) σ1=true) hr λz z z z=>h
section
variable{A:Ar4}{σ:St}{W:Wd}{s:ArT}{T:Tab}
theorem Jr(I:Inv C W σ s){a b:AV}{ca cb:ArR}{f:Ad->Ad->St->Bool}{P:ArR->ArR->Prop}(ha:VR C W s.heap a ca)(hb:VR C W s.heap b cb)(h:two a b σ f=true)
  (k:∀x y i j t u σ',Bg C W s σ σ'->x.ev W.ρ=some i->y.ev W.ρ=some j->f x y σ'=true->P (.int i t) (.int j u)):P ca cb:=by
 obtain⟨a',σ1,n1,JD,_,h⟩:=Aw I ha h;obtain⟨b',σ2,n2,Hm,_,h⟩:=Aw n1.1 hb h;exact VR.cInt (P:=λca=>P ca cb) JD h (λx i t h hx=>VR.cInt (P:=λcb=>P (.int i t) cb) Hm h (λy j u h hy=>k x y i j t u σ2 (n1.trans n2) hx hy h) ff) ff
theorem Bg.post{α β:Type}{k:K α}{a:α}{b:β}{R:Wd->Asb->α->β->Prop}(n:Bg C W s σ σ')(h:k a σ'=true)(r:R W s.heap a b):Ah C k σ W s R b s:=⟨a,σ',W,h,n.ext,n.1,r⟩
theorem Inv.Qm(I:Inv C W σ s){i:Nat}(hp:W.τ[i]?=some p){d:Ar0}(hd:∃o,C.h1.get? d=some o):(p.1==d)=false:=
 beq_eq_false_iff_ne.mpr λe=>hd.elim λo ho=>sn ho (e▸(I.new p<|get_mem hp).1)
theorem DictOf.base(I:Inv C W σ s){d:Ar0}{Bk}(h:C.h1.DictOf (AF C.prog C.w) d Bk):s.heap.DictOf (AF C.prog C.w) d Bk:=h.keep I.base
def rC(C:Cx)(A:Ar4)(s:ArT)(ca cb:ArR)(r:Bool):Prop:=∀(Q E:ArR->ArT->Prop),
 ((∀t,Q (.bool r) {s with toks:=t})->Ar5 (model C.prog C.w) A (AuA .In ca cb) Q E s)∧((∀t,Q (.bool<|!r) {s with toks:=t})->Ar5 (model C.prog C.w) A (AuA .NotIn ca cb) Q E s)
theorem in_dict(I:Inv C W σ s)(ha:VR C W s.heap a ca){d:Ar0}{l:List (AV×AV)}{Bk:List (KK×ArR)}(hd:s.heap.DictOf (AF C.prog C.w) d Bk)(hs:(d==AuK)=false)(hl:Co C W s.heap l Bk){k:K Bool}(h:OW l a σ k=true):
  Eh C W s σ (rC C A s ca<|.ref d) k:=by
 obtain⟨K0,hk,hc⟩:=ES ha (bl h);obtain⟨σ3,n3,h3⟩:=SD hk I hl (br h);exact⟨_,σ3,n3,λQ E=>⟨λq=>wpAny_in_of (knd:=AF C.prog C.w) hc hs hd.mapOf (q _),λq=>wpAny_notIn_of (knd:=AF C.prog C.w) hc hs hd.mapOf (q _)⟩,h3⟩
theorem fN(hu:A.units+41<AuR):A.in1.units+40<AuR:=un1 hu
theorem VU(TK:CP C T)(I:Inv C W σ s)(ha:VR C W s.heap a ca)(hb:VR C W s.heap b cb)(hu:A.units+41<AuR){k:K Bool}(h:iD T a b σ k=true):Eh C W s σ (rC C A s ca cb) k:=by
 refine VR.AU (P:=λcb=>Eh C W s σ (rC C A s ca cb) k) hb h (λl vs p h ht v=>?_) λh=>VR.Ay (P:=λcb=>Eh C W s σ (rC C A s ca cb) k) hb h (λi p h hi=>?_) λh=>VR.AL (P:=λcb=>Eh C W s σ (rC C A s ca cb) k) hb h (λh=>?_) ff
 ·cases VT ha I v h with
  |mk r σ3 n3 c h3=>exact⟨r,σ3,n3,λQ E=>⟨λq=>oI ht.Af (c.at (fN hu)) (q _),λq=>Te ht.Af (c.at (fN hu)) (q _)⟩,h3⟩
 ·refine I.A7 hi h (λl cl h z b=>?_) λh=>I.DC hi h (λl Bk h z z hd hl=>in_dict I ha hd (I.Qm hi TK.Aar) hl h) ff
  cases VT ha I b.v h with
  |mk r σ3 n3 c h3=>exact⟨r,σ3,n3,λQ E=>⟨λq=>oH b.il (c.at (fN hu)) (q _),λq=>Tc b.il (c.at (fN hu)) (q _)⟩,h3⟩
 ·induction cb with
  |ref d=>
   refine Cp h λl ed h=>?_
   obtain⟨hs,Bk,hd,hl⟩:=TK.FP _ _ ed;exact in_dict I ha (DictOf.base I hd) hs (hl W s.heap I.based) h
  |_=>exact ff h
theorem QJ(TK:CP C T)(I:Inv C W σ s)(ha:VR C W s.heap a ca)(hb:VR C W s.heap b cb)(hu:A.units+41<AuR){k:K Bool}(h:M1 T a b σ k=true):Eh C W s σ (rC C A s ca cb) k:=by
 obtain⟨a',σ1,n1,JD,_,h⟩:=Aw I ha h;obtain⟨b',σ2,n2,Hm,_,h⟩:=Aw n1.1 hb h;cases VU TK n2.1 JD Hm hu h with
 |mk r σ3 n3 c h3=>exact⟨r,σ3,(n1.trans n2).trans n3,c,h3⟩
theorem Bg.Bc{α β:Type}{k:K α}{a:α}{b:β}{R:Wd->Asb->α->β->Prop}{t:Nat}(n:Bg C W s σ σ')(h:k a σ'=true)(r:R W s.heap a b):Ah C k σ W s R b {s with toks:=t}:=
 (Inv.grow n.1 (s':={s with toks:=t}) (λz z h=>h) rfl rfl).elim λJ X=>⟨a,σ',W,h,n.ext.trans X,J,r⟩
theorem Sp.M1(TK:CP C T)(I:Inv C W σ s)(ha:VR C W s.heap a ca)(hb:VR C W s.heap b cb)(hu:A.units+41<AuR):
  Sp C A σ W s (AuA .In ca cb) (λk z=>M1 T a b σ k) RX∧Sp C A σ W s (AuA .NotIn ca cb) (λk z=>M1 T a b σ (neg k)) RX:=by
 refine⟨λk ke h=>?_,λk ke h=>?_⟩
 ·cases QJ TK I ha hb hu h with
  |mk r σ' n q h=>exact(q _ _).1 λt=>n.Bc h rfl
 ·cases QJ TK I ha hb hu h with
  |mk r σ' n q h=>exact(q _ _).2 λt=>n.Bc (k:=k) (R:=RX) h rfl
theorem sub_lt{i j:Int}:decide (i<j)=decide (i-j<0):=decide_eq_decide.mpr (by lia)
theorem sub_le{i j:Int}:decide (i≤j)= !decide (j-i<0):=(decide_eq_decide.mpr (by lia)).trans decide_not
theorem Sp.CV(TK:CP C T)(I:Inv C W σ s)(ha:VR C W s.heap a ca)(hb:VR C W s.heap b cb)(hu:A.units+41<AuR)(op:CmpOp):
  Sp C A σ W s (AuA op ca cb) (λk z=>CV T op a b σ k) RX:=by
 have u:=Nat.lt_of_succ_lt hu
 induction op with
 |Eq=>exact λk ke h=>match OG 40 _ _ _ _ _ _ I ha hb h with |⟨r,σ',n,c,h⟩=>c.rc A u _ _ _ _ (n.post h rfl)
 |NotEq=>exact λk ke h=>match OG 40 _ _ _ _ _ _ I ha hb h with |⟨r,σ',n,c,h⟩=>c.ne A u _ _ _ _ (n.post (k:=k) (R:=RX) h rfl)
 |Lt=>exact λk ke h=>Jr (P:=λca cb=>Ar5 (model C.prog C.w) A (AuA .Lt ca cb) _ _ s) I ha hb h λx y i j t u σ1 n1 hx hy h=>(Ez n1.1 (Ad.Dv hx hy) h).elim λσ2 q=>lt_int ((n1.trans q.1).post (R:=RX) q.2 (congrArg _ sub_lt))
 |Gt=>exact λk ke h=>Jr (P:=λca cb=>Ar5 (model C.prog C.w) A (AuA .Gt ca cb) _ _ s) I ha hb h λx y i j t u σ1 n1 hx hy h=>(Ez n1.1 (Ad.Dv hy hx) h).elim λσ2 q=>gt_int ((n1.trans q.1).post (R:=RX) q.2 (congrArg _ sub_lt))
 |LtE=>exact λk ke h=>Jr (P:=λca cb=>Ar5 (model C.prog C.w) A (AuA .LtE ca cb) _ _ s) I ha hb h λx y i j t u σ1 n1 hx hy h=>(Ez n1.1 (Ad.Dv hy hx) h).elim λσ2 q=>le_int ((n1.trans q.1).post (k:=k) (R:=RX) q.2 (congrArg _ sub_le))
 |GtE=>exact λk ke h=>Jr (P:=λca cb=>Ar5 (model C.prog C.w) A (AuA .GtE ca cb) _ _ s) I ha hb h λx y i j t u σ1 n1 hx hy h=>(Ez n1.1 (Ad.Dv hx hy) h).elim λσ2 q=>ge_int ((n1.trans q.1).post (k:=k) (R:=RX) q.2 (congrArg _ sub_le))
 |Is=>exact λk ke h=>VR.Bo (P:=λcb=>Ar5 (model C.prog C.w) A (AuA .Is ca cb) _ _ s) hb h (λh=>(Ka I ha h).elim λσ' q=>is_none (q.1.post (R:=RX) q.2 rfl)) ff
 |IsNot=>exact λk ke h=>VR.Bo (P:=λcb=>Ar5 (model C.prog C.w) A (AuA .IsNot ca cb) _ _ s) hb h (λh=>(Ka I ha h).elim λσ' q=>isNot_none (q.1.post (k:=k) (R:=RX) q.2 rfl)) ff
 |In=>exact(Sp.M1 TK I ha hb hu).1
 |NotIn=>exact(Sp.M1 TK I ha hb hu).2
end
end
section
variable{A:Ar4}{σ:St}{W:Wd}{s:ArT}
theorem Inv.tok(I:Inv C W σ s)(t:Nat):Inv C W σ {s with toks:=t}∧Ext σ W s σ W {s with toks:=t}:=Inv.grow I (s':={s with toks:=t}) (λz z h=>h) rfl rfl
theorem RN{c:Int}(h:word c=true):Builtin.Int.intBits c≤64:=by have h1:=Bt (bl h);have h2:=Bt (br h);exact intBits_le_64 (by lia) (by lia)
theorem d6(a:Int)(n:Nat):d5 a n=a^n:=by
 induction n with
 |zero=>exact(Int.pow_zero a).symm
 |succ n ih=>rw[d5,ih,Int.pow_succ,Int.mul_comm]
theorem dN(I:Inv C W σ s){x y:Ad}{i j:Int}(hx:x.ev W.ρ=some i)(hy:y.ev W.ρ=some j):Sp C A σ W s (AyH .Mult (.int i t)<|.int j u) (λk z=>yO x y σ k) (RV C):=λk ke h=>
 BZ h (λe h=>mul_int (BZ (br h) (λe2 h=>(Bg.refl I).Bc (k:=k) (R:=RV C) h (by rw[Ad.Du e hy,Ad.Du e2 hx];exact .int<|Ad.Ci _)) λh=>(Bg.refl I).Bc (k:=k) (R:=RV C) h (by rw[Ad.Du e hy,Int.mul_comm];exact .int<|Ad.OJ hx)) (.of_right<|Ad.Du e hy▸RN (bl h))) λh=>
 BZ h (λe h=>mul_int ((Bg.refl I).Bc (k:=k) (R:=RV C) (br h) (by refine(Ad.Du e hx).symm▸?_;exact .int<|Ad.OJ hy)) (.of_left<|Ad.Du e hx▸RN (bl h))) ff
theorem bD(I:Inv C W σ s){x y:Ad}{i j:Int}(hx:x.ev W.ρ=some i)(hy:y.ev W.ρ=some j):Sp C A σ W s (AyH .FloorDiv (.int i t)<|.int j u) (λk z=>uE x y σ k) (RV C):=λk ke h=>
 BZ h (λe1 h=>BZ h (λe2 h=>by
  have h1:=Bt (bl<|bl h);have h2:=Bt (br<|bl h);have h:=br h;rw[←Ad.Du e1 hx,←Ad.Du e2 hy] at h;rw[←Ad.Du e2 hy] at h1 h2;exact floordiv_int (Awe h1) ((Bg.refl I).Bc (k:=k) (R:=RV C) h<|.int<|Ad.Ci _)<|.inl<|Ax2 (by lia)) ff) ff
theorem dK(I:Inv C W σ s){x y:Ad}{i j:Int}(hx:x.ev W.ρ=some i)(hy:y.ev W.ρ=some j):Sp C A σ W s (AyH .Mod (.int i t)<|.int j u) (λk z=>yM x y σ k) (RV C):=λk ke h=>
 BZ h (λe2 h=>by
  have hp:=Bt (bl h);have ey:=Ad.Du e2 hy;rw[←ey] at hp;refine mod_int (Awe hp) (BZ (br h) (λe1 h=>?_) λh=>iZ h (λlo hi r1 r2 h=>?_) ff)
  ·rw[←Ad.Du e1 hx,←ey] at h;exact(Bg.refl I).Bc (k:=k) (R:=RV C) h (.int<|Ad.Ci _)
  ·have r:=DI I.rng hx;have h1:=Av6 (Bs<|bl<|bl h) (r.1 _ r1);have h2:=Av7 (r.2 _ r2) (Bt<|br<|bl h);rw[←ey] at h2;refine(Bg.refl I).Bc (k:=k) (R:=RV C) (br h) ?_;rw[As7 _ (Av4 hp),Int.emod_eq_of_lt h1 h2];exact .int hx) ff
theorem d7(I:Inv C W σ s){x y:Ad}{i j:Int}(hx:x.ev W.ρ=some i)(hy:y.ev W.ρ=some j):Sp C A σ W s (AyH .Pow (.int i t)<|.int j u) (λk z=>y8 x y σ k) (RV C):=λk ke h=>
 BZ h (λe1 h=>BZ h (λe2 h=>by
  have h1:=Bt (bl<|bl h);have h2:=Bt (bl<|br<|bl h);have h3:=Bs (bl<|br<|br<|bl h);have h4:=Bt (br<|br<|br<|bl h);have h:=br h;rw[←Ad.Du e1 hx,←Ad.Du e2 hy,d6] at h;rw[←Ad.Du e1 hx] at h1 h2;rw[←Ad.Du e2 hy] at h3 h4;exact pow_int_small h3 (by lia) (by lia)<|(Bg.refl I).Bc (k:=k) (R:=RV C) h<|.int<|Ad.Ci _) ff) ff
theorem Sp.binI(I:Inv C W σ s){x y:Ad}{i j:Int}(hx:x.ev W.ρ=some i)(hy:y.ev W.ρ=some j)(op:AxR):
  Sp C A σ W s (AyH op (.int i t)<|.int j u) (λk z=>binI op x y σ k) (RV C):=by
 induction op with
 |Add=>exact λk ke h=>add_int ((Bg.refl I).Bc (k:=k) h (.int (Ad.OI hx hy)))
 |Sub=>exact λk ke h=>sub_int ((Bg.refl I).Bc (k:=k) h (.int (Ad.Dv hx hy)))
 |Mult=>exact dN I hx hy
 |FloorDiv=>exact bD I hx hy
 |Mod=>exact dK I hx hy
 |Pow=>exact d7 I hx hy
 |_=>exact λz z=>ff
theorem Sp.WN(I:Inv C W σ s)(ha:VR C W s.heap a ca):Sp C A σ W s (unaryOp .USub ca) (λk z=>WN a σ k) (RV C):=λk ke h=>by obtain⟨a',σ1,n1,JD,_,h⟩:=Aw I ha h;exact VR.cInt (P:=λca=>Ar5 (model C.prog C.w) A (unaryOp .USub ca) _ _ s) JD h (λl i t h hx=>neg_int (n1.Bc (k:=k) (R:=RV C) h<|.int<|Ad.Vl hx)) ff
theorem Sp.truth(I:Inv C W σ s)(ha:VR C W s.heap a ca):Sp C A σ W s (truthy ca) (λk z=>truth a σ k) RB:=λk ke h=>by obtain⟨a',σ1,n1,JD,_,h⟩:=Aw I ha h;exact VR.cBool (P:=λca=>Ar5 (model C.prog C.w) A (truthy ca) _ _ s) JD h (λb h=>Az0 (n1.post (k:=k) (R:=RB) h rfl)) λh=>VR.Bo (P:=λca=>Ar5 (model C.prog C.w) A (truthy ca) _ _ s) JD h (λh=>truthy_none (n1.post (k:=k) (R:=RB) h rfl)) ff
end
theorem Ca{α:Type}:∀l:List α,B5 l=l.length
 | []=>rfl |a::l=>by show Auv (B5 l)=_;rw[Ca l];rfl
theorem Bn{α:Type}{l:List α}(h:fits l=true):l.length≤4000:=by rw[←Ca];exact ble_iff.mp h
theorem Ag(h:Asb):h.get? h.objs.size=none:=by unfold Heap.get?;simp
section
variable{A:Ar4}{σ:St}{W:Wd}{s:ArT}
theorem Inv.push(I:Inv C W σ s)(o:Obj)(t:Nat):Inv C W σ {s with heap:=s.heap.push o,toks:=t}∧Ext σ W s σ W {s with heap:=s.heap.push o,toks:=t}:=
 Inv.grow I (s':={s with heap:=s.heap.push o,toks:=t}) (λz z h=>ArW o h) rfl rfl
theorem GW{h:Asb}{a:Ar0}{items:Array ArR}(x:h.IsList a items):∃dd n sl,h.get? a=some {cls:=.type "list",dict:=dd,data:=.seq items n,slots:=sl}:=by
 refine hide λAx Aa=>?_
 obtain⟨⟨c,dd,d,sl⟩,ho,hc,n,hd⟩:=x;refine Aa ?_;exact⟨dd,n,sl,ho.trans (by cases hc;cases hd;rfl)⟩
theorem QW{h:Asb}{a:Ar0}{items:Array ArR}(x:h.IsList a items)(nd:GB h a):∃n,h.get? a=some {cls:=.type "list",dict:=none,data:=.seq items n,slots:= #[]}:=by
 refine hide λAx Aa=>?_
 obtain⟨⟨c,dd,d,sl⟩,ho,hc,n,hd⟩:=x;obtain⟨o',Ho,K7,N8⟩:=nd;refine Aa ?_;cases uniq ho Ho;exact⟨n,ho.trans (by cases hc;cases hd;cases K7;cases N8;rfl)⟩
theorem LX{h:Asb}{a:Ar0}{items:Array ArR}(x:h.IsTuple a items):∃dd n sl,h.get? a=some {cls:=.type "tuple",dict:=dd,data:=.seq items n,slots:=sl}:=by
 refine hide λAx Aa=>?_
 obtain⟨⟨c,dd,d,sl⟩,ho,hc,n,hd⟩:=x;refine Aa ?_;exact⟨dd,n,sl,ho.trans (by cases hc;cases hd;rfl)⟩
theorem IX{h:Asb}{a b:Ar0}{P:Prop}(e:a=b)(h1:h.get? b=some o)(h2:h.get? a=some y)(f:CZ y)(hc:o.cls≠ .type "frame"):P:=by subst e;exact absurd ((congrArg AxN (uniq h2 h1)).trans f.1) hc
theorem Li{n:Nat}(h:n≤4000):n≤AtY:=AtH h (by rw[Ast];decide)
theorem IsT.push(o:Obj){items}(t:IsT W h a items):IsT W (h.push o) a items:=
 ⟨t.un,t.fo,t.Af.imp λz=>Au1 (ArW o),t.nd.imp λz=>Au1 (ArW o)⟩
theorem AJ.push(W:Wd)(h:Asb)(o:Obj):AJ W W h (h.push o):=λz z=>IsT.push o
theorem Inv.WX(I:Inv C W σ s){a:Ar0}(h:s.heap.get? a=none):a∉W.fo:=λq=>(I.fo a q).2.elim λz e=>sn e h
theorem Inv.Pr(I:Inv C W σ s){a:Ar0}(h:s.heap.get? a=none):¬own W.τ a:=λq=>q.elim λp q=>by have l:=I.live p q.1;exact q.2.elim (λe=>l.1.elim λz x=>sn x.1 (e▸h)) (λe=>l.2.elim λz x=>sn x.1 (e▸h))
theorem Ae.push{l:List AV}(o:Obj)(v:Ae C W h l vs):Ae C W (h.push o) l vs:=v.keep (ArZ _) (ArZ _) (λz z=>rfl) (.push W h o)
theorem Inv.list(I:Inv C W σ s){l:List AV}(v:Ae C W s.heap l vs)(t:Nat):
  Inv C (W.more (s.heap.objs.size,s.heap.objs.size)) (σ.new (.list none l none)) {s with heap:=s.heap.push {cls:=.type "list",data:=.seq vs.toArray},toks:=t}∧
  Ext σ W s (σ.new (.list none l none)) (W.more (s.heap.objs.size,s.heap.objs.size)) {s with heap:=s.heap.push {cls:=.type "list",data:=.seq vs.toArray},toks:=t}:=by
 have g:(s.heap.push {cls:=.type "list",data:=.seq vs.toArray}).get? s.heap.objs.size=some {cls:=.type "list",data:=.seq vs.toArray}:=Ar9 _ rfl;refine I.make (s':={s with heap:=s.heap.push {cls:=.type "list",data:=.seq vs.toArray},toks:=t}) (p:=(s.heap.objs.size,s.heap.objs.size)) (λz z h=>ArW _ h) (Ag _) (Ag _) (λS=>?_) ⟨_,g,.HY rfl⟩ ⟨_,g,.HY rfl⟩ rfl rfl;exact⟨vs,rfl,v.keep S.ρ S.τ S.q S.Af,(Ar7 vs).symm▸⟨_,g,rfl,_,rfl⟩,trivial,trivial,_,g,rfl,rfl⟩
theorem St.A5(I:Inv C W σ s)(p:Ar0×Ar0):(W.more p).τ[σ.n]?=some p:=by show(W.τ++ [p])[σ.n]?=some p;rw[←I.nτ];simp
theorem Ae.fit{l:List AV}(v:Ae C W h l vs)(f:fits l=true):vs.toArray.size≤AtY:=Li (by show vs.length≤4000;rw[v.length];exact Bn f)
theorem DF{k:K AV}(n:Bg C W s σ σ'){l:List AV}(v:Ae C W s.heap l vs)(t:Nat)(h:newList l σ' k=true):
  l.length≤4000∧Ah C k σ W s (RV C) (.ref s.heap.objs.size) {s with heap:=s.heap.push {cls:=.type "list",data:=.seq vs.toArray},toks:=t}:=
 ⟨Bn<|bl h,(n.1.list v t).elim λJ X=>⟨.obj σ'.n,σ'.new<|.list none l none,W.more (s.heap.objs.size,s.heap.objs.size),br h,n.ext.trans X,J,.obj<|St.A5 n.1 _⟩⟩
theorem H2{k:K AV}(n:Bg C W s σ σ'){l:List AV}(v:Ae C W s.heap l vs)(t:Nat)(h:B6 l σ' k=true):
  l.length≤4000∧Ah C k σ W s (RV C) (.ref s.heap.objs.size) {s with heap:=s.heap.push {cls:=.type "tuple",data:=.seq vs.toArray},toks:=t}:=
 have g:(s.heap.push {cls:=.type "tuple",data:=.seq vs.toArray}).get? s.heap.objs.size=some {cls:=.type "tuple",data:=.seq vs.toArray}:=Ar9 _ rfl
 ⟨Bn (bl h),(n.1.push {cls:=.type "tuple",data:=.seq vs.toArray} t).elim λJ X=>⟨.Af l,σ',W,br h,n.ext.trans X,J,.Af ⟨n.1.Pr (Ag _),n.1.WX (Ag _),⟨_,g,rfl,_,rfl⟩,_,g,rfl⟩ (v.push _)⟩⟩
theorem LW{k:K AV}(n:Bg C W s σ σ'){l:List AV}{vs:List ArR}(ht:IsT W s.heap a vs.toArray)(v:Ae C W s.heap l vs)(h:B6 l σ' k=true):Ah C k σ W s (RV C) (.ref a) s:=n.post (br h) (.Af ht v)
theorem Sp.newList(I:Inv C W σ s){l:List AV}(v:Ae C W s.heap l vs):Sp C A σ W s (Ayj vs) (λk z=>newList l σ k) (RV C):=λk ke h=>
 (DF (.refl I) v s.toks h).elim λf q=>AzS q (Li<|v.length▸f)
theorem Sp.B6(I:Inv C W σ s){l:List AV}(v:Ae C W s.heap l vs):Sp C A σ W s (PySem.newTuple vs) (λk z=>B6 l σ k) (RV C):=λk ke h=>
 (H2 (.refl I) v s.toks h).elim λf q=>AzT q (Li<|v.length▸f)
theorem Ae.xX{l:List AV}(v:Ae C W h l cl)(w:Ae C W h m cm)(f:(l++m).length≤4000):cl.length+cm.length≤AtY:=
 Li (by rw[v.length,w.length,←Ar1];exact f)
theorem aA(I:Inv C W σ s){x y:Nat}(hx:W.τ[x]?=some p)(hy:W.τ[y]?=some q):
  Sp C A σ W s (AyH .Add (.ref p.1)<|.ref q.1) (λk zz=>sR x y σ k) (RV C):=λk ke h=>
 I.A7 hx h (λl cl h zz b=>I.A7 hy h (λm cm h zz c=>by
  refine hide λAx Aa=>?_
  obtain⟨f,z⟩:=DF (.refl I) (b.v.app c.v) s.toks h;obtain⟨dd,n,sl,ho⟩:=GW b.il;obtain⟨Fy,n2,CK,La⟩:=GW c.il;refine Aa ?_;exact concat_meets b.il.typeIs c.il.typeIs noFill_list_add seq_list_add PySem.F.slot_list_add PySem.F.entry_list_add (PySem.F.args_list_add_2 _ _) (list_addW p.1 q.1 cl.toArray cm.toArray n n2 dd Fy sl CK<|b.v.xX c.v f) ⟨ho,La,by rw[Awx];exact z⟩) ff) ff
theorem Sp.Ud(I:Inv C W σ s){cx cy:List ArR}(hx:IsT W s.heap a cx.toArray)(vx:Ae C W s.heap x cx)(hy:IsT W s.heap b cy.toArray)(vy:Ae C W s.heap y cy):
  Sp C A σ W s (AyH .Add (.ref a)<|.ref b) (λk z=>Mine.Internal.B6 (x++y) σ k) (RV C):=by
 intro k ke h;have v:=vx.app vy;have fz:=H2 (.refl I) v s.toks h;have f:=vx.xX vy fz.1;refine hide λAx Aa=>?_
 obtain⟨dd,n,sl,ho⟩:=LX hx.Af;obtain⟨Fy,n2,CK,La⟩:=LX hy.Af;refine Aa ?_;have go:∀{S:PySem.Spec},Meets (Builtin.«tuple.__add__» ⟨[.ref a,.ref b],[]⟩) S->S A (wants (Ah C k σ W s<|RV C)<|Ac C ke σ W s) s->Ar5 (model C.prog C.w) A (AyH .Add (.ref a)<|.ref b) (Ah C k σ W s<|RV C) (Ac C ke σ W s) s:=
  λg=>concat_meets hx.Af.typeIs hy.Af.typeIs noFill_tuple_add seq_tuple_add PySem.F.slot_tuple_add PySem.F.entry_tuple_add (PySem.F.args_tuple_add_2 _ _) g
 cases cx with
 |nil=>exact go (tuple_addW0 a b #[] cy.toArray n n2 dd Fy sl CK rfl) ⟨ho,La,LW (.refl I) hy v h⟩
 |cons c cx=>
  cases cy with
  |nil=>exact go (tuple_addW1 a b (c::cx).toArray #[] n n2 dd Fy sl CK AsJ rfl) ⟨ho,La,LW (.refl I) hx (Ar7 (c::cx)▸v) h⟩
  |cons d cy=>exact go (tuple_addW2 a b (c::cx).toArray (d::cy).toArray n n2 dd Fy sl CK AsJ AsJ f) ⟨ho,La,by rw[Awx];exact fz.2⟩
theorem Ae.rep{l:List AV}(v:Ae C W h l vs)(n:Nat):Ae C W h (rep l n) (rep vs n):=Nat.rec .nil (λz ih=>v.app ih) n
theorem Xu(vs:List ArR)(n:Nat)(acc:List ArR):AwH (λx1 x2=>x1++x2) acc.toArray (Aw0 n vs.toArray)=(acc++rep vs n).toArray:=by
 induction n generalizing acc with
 |zero=>rw[Mine.Internal.rep,Ar7];rfl
 |succ n ih=>rw[List.replicate_succ,AwI,Awx,ih,Mine.Internal.rep,AsE]
theorem eE(n:Nat):rep ([]:List ArR) n= []:=Nat.rec rfl (λz ih=>ih) n
theorem PN{α:Type}(l:List α)(n:Nat):(rep l n).length=l.length*n:=by
 induction n with
 |zero=>rfl |succ n ih=>rw[rep,Ar1,ih,Nat.mul_succ,Aw9]
theorem Ze{n:Int}(h:small n=true):0≤n∧n<1000:=⟨(DU _ _).mp<|bl h,(CD _ _).mp<|br h⟩
theorem Ts(vs:List ArR)(n:Nat):AwH (λx1 x2=>x1++x2) #[] (Aw0 (if vs.toArray.isEmpty=true then 0 else n) vs.toArray)=(rep vs n).toArray:=by
 induction vs with
 |nil=>rw[eE];rfl
 |cons a r=>exact Xu _ n []
theorem x7{i:Int}{z:Nat}(s:0≤i∧i<1000)(f:z*i.toNat≤4000):¬(!Avh i)=true∧¬z*i.toNat>(2^63-1)/8∧¬Avj (z*i.toNat)=true:=
 ⟨by simp[Avh];omega,by omega,by simp[Avj,AtY];omega⟩
theorem Sp.dP(I:Inv C W σ s){x:Nat}(hx:W.τ[x]?=some p){y:Ad}{i:Int}(hy:y.ev W.ρ=some i):
  Sp C A σ W s (AyH .Mult (.ref p.1)<|.int i u) (λk zz=>Mine.Internal.dP x y σ k) (RV C):=λk ke h=>
 I.A7 hx h (λl cl h zz b=>by
  refine hide λAx Aa=>?_
  obtain⟨σ1,n1,h⟩:=Ck I hy h;obtain⟨f,z⟩:=DF n1 (b.v.rep i.toNat) s.toks (br h);refine Aa ?_;rw[PN,←b.v.length] at f;have q:=x7 (Ze<|bl h) f;refine hide λAx Aa=>?_
  obtain⟨dd,n,sl,ho⟩:=GW b.il;refine Aa ?_;exact wpAny_binaryOp_repeat_ref (T:="list") (U:="int") (by decide) b.il.typeIs (λs'=>typeIs_int s' i u) noFill_list_mul F.fills_int_mul F.slot_int_rmul repeat_list F.slot_int_index.lookup
    (AyJ F.slot_int_rmul (typeIs_int s i u) F.entry_int_rmul (F.args_int_rmul_2 _ _) (lm_int_rmul_list_any i u p.1 cl.toArray n dd sl)
    ⟨ho,rfl,b.il.typeIs,AyJ F.slot_list_mul b.il.typeIs F.entry_list_mul (F.args_list_mul_2 _ _)
     (lm_list_mul_any p.1 cl.toArray n dd sl i u q.1 q.2.1 q.2.2)
     ⟨ho,by rw[Ts];exact z⟩⟩)) ff
end
structure BQ(n:Nat)(b:Bool)(A:Ar4):Prop where
 depth:A.depth+2*n≤980
 units:A.units+14*n≤9800
 hand:b=true->A.handled=none
theorem BQ.room{n:Nat}{b:Bool}(f:BQ n b A):A.units+41<AuR:=Axs (Nat.add_le_add_right (AtH (Axl _ _) f.units) 41) (by decide:9800+41<9900)
theorem FY{a n k c m:Nat}(hk:k≤c)(h:a+c*(n+1)≤m):a+k+c*n≤m:=
 AtH (AtH (Axm<|Aw8 a k<|c*n)<|Axb (AtH (Axm<|Aw9 k<|c*n)<|Axb hk<|c*n) a) h
def SE(C:Cx)(X:CX)(n:Nat)(b:Bool)(sc:Asv)(c:Cd)(e:Expr):Prop:=
 ∀(A:Ar4) (σ:St) (W:Wd) (s:ArT) (E:AZ) (env:Env),BQ n b A->Inv C W σ s->AD C A W sc E env->Sp C A σ W s (eval e env) (λk ke=>c X E σ k ke) (RV C)
def SB(C:Cx)(X:CX)(n:Nat)(b:Bool)(sc:Asv)(c:Cb)(e:Expr):Prop:=
 ∀(A:Ar4) (σ:St) (W:Wd) (s:ArT) (E:AZ) (env:Env),BQ n b A->Inv C W σ s->AD C A W sc E env->Sp C A σ W s (isTrue e env<|eval e env) (λk ke=>c X E σ k ke) RB
section
variable{A:Ar4}{σ:St}{W:Wd}{s:ArT}{T:Tab}
theorem Sp.operate{α:Type}{R:Wd->Asb->α->ArR->Prop}{m:M α}(h:Sp C A σ W s t m R):Sp C A σ W s (Ayk vs t) m R:=λk ke e=>wpAny_operate' (h k ke e)
theorem Sp.release{α β:Type}{R:Wd->Asb->α->β->Prop}{f:Unit->Sem β}{m:M α}(h:Sp C A σ W s (f ()) m R):Sp C A σ W s (PySem.release vs ks>>=f) m R:=λk ke e=>ArQ (wpAny_release'<|h k ke e)
theorem Sp.binOp(I:Inv C W σ s)(ha:VR C W s.heap a ca)(hb:VR C W s.heap b cb)(op:AxR):
  Sp C A σ W s (AyH op ca cb) (λk z=>binOp op a b σ k) (RV C):=by
 intro k ke h;obtain⟨a',σ1,n1,JD,_,h⟩:=Aw I ha h;obtain⟨b',σ2,n2,Hm,_,h⟩:=Aw n1.1 hb h;have J:=n2.1;have go:Sp C A σ2 W s (AyH op ca cb) (λk z=>tI op a' b' σ2 k) (RV C):=λk ke h=>by
  refine JD.cInt h (λx i t h hx=>Hm.cInt h (λy j u h hy=>Sp.binI J hx hy op k ke h) ff) λh=>JD.AU h (λx cx p h tx vx=>?_) λh=>JD.Ay h (λx p h hx=>?_) ff
  ·induction op with
   |Add=>exact Hm.AU h (λy cy q h ty vy=>Sp.Ud J tx vx ty vy k ke h) ff
   |_=>exact ff h
  ·induction op with
   |Add=>exact Hm.Ay h (λy q h hy=>aA J hx hy k ke h) ff
   |Mult=>exact Hm.cInt h (λy j u h hy=>Sp.dP J hx hy k ke h) ff
   |_=>exact ff h
 exact Sp.here (n1.ext.trans n2.ext) go k ke h
end
noncomputable def isStar:Expr->Bool
 | .Starred .. =>true |_=>false
theorem G9(h:isStar e=false)(r:List Expr)(env:Env):Azt (e::r) env=(false,eval e env)::Azt r env:=by cases e<;>first |rfl |cases h
inductive KI(C:Cx)(X:CX)(n:Nat)(b:Bool)(sc:Asv):List Cd->List Expr->Prop
 |nil:KI C X n b sc [] []
 |cons {c e l es}:SE C X n b sc c e->isStar e=false->KI C X n b sc l es->KI C X n b sc (c::l) (e::es)
def TZ(C:Cx)(nm:Str)(v:AV):Prop:=∃cv,(∀W h,Based C W h->VR C W h v cv)∧
 ((∃mg,C.h1.Ns AuS mg∧mg nm=some cv)∨(∃mg mb,C.h1.Ns AuS mg∧mg nm=none∧C.h1.Ns Atu mb∧mb nm=some cv))
theorem Ns.keep{h h':Asb}{a:Ar0}{m}(x:h.Ns a m)(k:∀a o,h.get? a=some o->h'.get? a=some o):h'.Ns a m:=x.imp λz=>Avw λz=>Avw λz=>Au1 (k _ _)
section
variable{X:CX}{n:Nat}{b:Bool}{sc:Asv}
theorem SE.AR{k pos}:SE C X n b sc (CA .AR) (.Constant .none k pos):=λA σ W s E env f I e=>.pure (m:=λk ke=>CA .AR X E σ k ke) I (λz z h=>h) VR.AR
theorem SE.bool{c:Bool}{k pos}:SE C X n b sc (CA<|.bool c) (.Constant (.bool c) k pos):=λA σ W s E env f I e=>.pure (m:=λk ke=>CA (.bool c) X E σ k ke) I (λz z h=>h) VR.bool
theorem SE.int{i:Int}{k pos}:SE C X n b sc (CA<|.int<|.k i) (.Constant (.int i) k pos):=λA σ W s E env f I e k' ke h=>
 wpAny_mkInt ((Bg.refl I).Bc (R:=RV C) h<|.int<|Ad.Ci i)
theorem SE.str{nm:Str}(hx:A9 x=some nm){k pos}:SE C X n b sc (CA<|.str x) (.Constant (.str nm) k pos):=λA σ W s E env f I e k' ke h=>
 Constant_str ((Bg.refl I).Bc (R:=RV C) h<|.str hx)
theorem SE.BG{k pos}:SE C X n b sc (CA<|.BG x) (.Constant (.bytes x) k pos):=λA σ W s E env f I e k' ke h=>
 Constant_bytes ((Bg.refl I).Bc (R:=RV C) h .BG)
theorem SE.l{nm:Str}(hx:A9 x=some nm)(hk:sc.names.lookup nm=some .local)(hd:(nm==("__debug__":Str))=false){pos}:SE C X n b sc (x8 x) (.Name nm pos):=λA σ W s E env f I e k ke h=>
 wpAny_Name (Sp.QZ I e hx hk k ke h) hd
theorem SE.Sk{nm:Str}(hx:A9 x=some nm)(hk:sc.names.lookup nm=some .cell∨sc.names.lookup nm=some .free)(hc:(nm==("__classdict__":Str))=false)(hd:(nm==("__debug__":Str))=false){pos}:
  SE C X n b sc (tS x) (.Name nm pos):=λA σ W s E env f I e k ke h=>
 wpAny_Name (Sp.QY I e hx hk hc k ke h) hd
theorem SE.glo{nm:Str}(hk:sc.names.lookup nm=some .globalImplicit)(hd:(nm==("__debug__":Str))=false)(hv:TZ C nm v){pos}:SE C X n b sc (CA v) (.Name nm pos):=λA σ W s E env f I e k ke h=>by
 obtain⟨cv,hr,hg⟩:=hv;have fin:=(Bg.refl I).post h (hr W s.heap I.based);refine Name_function_global (by refine e.scope.symm▸?_;exact e.kind) (by unfold Atx;refine e.scope.symm▸?_;exact hk) ?_ hd;rcases hg with⟨mg,h1,h2⟩|⟨mg,mb,h1,h2,h3,h4⟩
 ·exact loadGlobal_global (by refine e.glob.symm▸?_;exact Ns.keep h1 I.base) h2 fin
 ·exact loadGlobal_builtin (by refine e.glob.symm▸?_;exact Ns.keep h1 I.base) h2 (by refine e.bi.symm▸?_;exact Ns.keep h3 I.base) h4 fin
theorem SE.bin{pos}(hx:SE C X n b sc x ex)(hy:SE C X n b sc y ey):SE C X n b sc (tH op x y) (.BinOp ex op ey pos):=λA σ W s E env f I e=>by
 rw[arm_eval_BinOp];refine Sp.bind (m:=λk ke=>x X E σ k ke) (g:=λa σ k ke=>y X E σ (λc σ=>Mine.Internal.binOp op a c σ k) ke) (hx A σ W s E env f I e) λa ca σ1 W1 s1 X1 I1 r1=>?_
 refine Sp.bind (m:=λk ke=>y X E σ1 k ke) (g:=λc σ k ke=>Mine.Internal.binOp op a c σ k) (Sp.holding<|hy A σ1 W1 s1 E env f I1<|e.up X1.up) λc cc σ2 W2 s2 X2 I2 r2=>?_
 exact Sp.standAt (Sp.operate<|Sp.binOp I2 (I1.vr X2 r1) r2 op)
theorem SE.neg{pos}(hx:SE C X n b sc x ex):SE C X n b sc (yQ x) (.UnaryOp .USub ex pos):=λA σ W s E env f I e=>by
 rw[arm_eval_UnaryOp];refine Sp.bind (m:=λk ke=>x X E σ k ke) (g:=λv σ k ke=>Mine.Internal.WN v σ k) (hx A σ W s E env f I e) λa ca σ1 W1 s1 X1 I1 r1=>?_
 exact Sp.standAt (Sp.holding<|Sp.WN I1 r1)
theorem SE.not{pos}(hx:SE C X n b sc x ex):SE C X n b sc (yV x) (.UnaryOp .Not ex pos):=λA σ W s E env f I e=>by
 rw[arm_eval_UnaryOp];refine Sp.bind (m:=λk ke=>x X E σ k ke) (g:=λv σ k ke=>Mine.Internal.truth v σ λc σ=>k (AV.bool<|!c) σ) (hx A σ W s E env f I e) λa ca σ1 W1 s1 X1 I1 r1=>?_
 refine Sp.standAt<|Sp.holding ?_;intro k ke h;have key:=Sp.truth (A:=A) I1 r1 (λc σ=>k (.bool<|!c) σ) ke h;refine PyProof.Rows.not_of (ArY key (λc s2 q=>?_) λz z q=>q);obtain⟨c',σ2,W2,h2,X2,I2,rfl⟩:=q;exact⟨_,σ2,W2,h2,X2,I2,.bool⟩
theorem SE.wD{pos}(ht:SB C X n b sc t et)(hx:SE C X n b sc x ex)(hy:SE C X n b sc y ey):SE C X n b sc (wG t x y) (.IfExp et ex ey pos):=λA σ W s E env f I e=>by
 rw[arm_eval_IfExp];refine Sp.bind (m:=λk ke=>t X E σ k ke) (g:=λc σ k ke=>bt c (x X E σ k ke) (y X E σ k ke)) (ht A σ W s E env f I e) λc c' σ1 W1 s1 X1 I1 r1=>?_
 cases(show c=c' from r1)
 induction c with
 |true=>exact hx A σ1 W1 s1 E env f I1 (e.up X1.up)
 |false=>exact hy A σ1 W1 s1 E env f I1 (e.up X1.up)
theorem Sp.Md{l:List Cd}(h:KI C X n b sc l es){pos:Pos}(f:BQ n b A):∀{σ:St} {W:Wd} {s:ArT},Inv C W σ s->AD C A W sc E env->
  Sp C A σ W s (spliced<|backTo pos<|Azt es env) (λk ke=>Md X E l σ k ke) (RVs C):=by
 induction h with
 |nil=>exact λI e=>.pure (m:=λk ke=>Mine.Internal.Md X E [] _ k ke) I (λz z h=>h) Ae.nil
 | @cons c1 e1 l es h1 st _ ih=>
  intro σ W s I e;rw[G9 st];show Sp C A σ W s (eval e1 env>>=λv=>_) _ _;refine Sp.bind (m:=λk ke=>c1 X E σ k ke) (g:=λv σ k ke=>Mine.Internal.Md X E l σ (λvs σ=>k (v::vs) σ) ke) (h1 A σ W s E env f I e) λa ca σ1 W1 s1 X1 I1 r1=>?_
  refine Sp.bind (m:=λ(k:K Unit) ke=>k () σ1) (g:=λz σ k ke=>Mine.Internal.Md X E l σ (λvs σ=>k (a::vs) σ) ke) (R:=λW h z here=>here= [ca]) (.pure I1 (λz z h=>h) rfl) λz here σ2 W2 s2 X2 I2 r2=>?_
  subst r2;refine Sp.bind (m:=λk ke=>Mine.Internal.Md X E l σ2 k ke) (g:=λvs σ k ke=>k (a::vs) σ) (Sp.holding<|ih I2<|e.up (X1.trans X2).up) λvs cvs σ3 W3 s3 X3 I3 r3=>?_
  exact .pure I3 (λz z h=>h) (.cons ((I2.vr X3<|I1.vr X2 r1)) r3)
theorem SE.list{l:List Cd}{pos}(h:KI C X n b sc l es):SE C X n b sc (Ed l) (.List es pos):=λA σ W s E env f I e=>by rw[arm_eval_List];refine Sp.standAt (Sp.bind (m:=λk ke=>Mine.Internal.Md X E l σ k ke) (g:=λl σ k ke=>Mine.Internal.newList l σ k) (Sp.Md h f I e) λvs cvs σ1 W1 s1 X1 I1 r1=>?_);exact Sp.newList I1 r1
theorem SE.Af{l:List Cd}{k pos}(h:KI C X n b sc l es):SE C X n b sc (AaA l) (.Tuple es k pos):=λA σ W s E env f I e=>by rw[arm_eval_Tuple];refine Sp.standAt (Sp.bind (m:=λk ke=>Mine.Internal.Md X E l σ k ke) (g:=λl σ k ke=>Mine.Internal.B6 l σ k) (Sp.Md h f I e) λvs cvs σ1 W1 s1 X1 I1 r1=>?_);exact Sp.B6 I1 r1
theorem Sp.boolOp{l:List Cd}(h:KI C X n b sc l es)(f:BQ n b A):∀{σ:St} {W:Wd} {s:ArT},Inv C W σ s->AD C A W sc E env->
  Sp C A σ W s (boolOp pos op<|AyW es env) (λk ke=>JQ op l X E σ k ke) (RV C):=by
 induction h with
 |nil=>exact λz z z z=>ff
 | @cons c1 e1 l es h1 st hs ih=>
  intro σ W s I e
  induction hs with
  |nil=>exact h1 A σ W s E env f I e
  | @cons c2 e2 l2 es2 h2 st2 hs2=>
   show Sp C A σ W s (eval e1 env>>=λv=>_) _ _;refine Sp.bind (m:=λk ke=>c1 X E σ k ke) (g:=λv σ k ke=>Mine.Internal.truth v σ λc σ=>bt (NS op c) (k v σ) (JQ op (c2::l2) X E σ k ke)) (h1 A σ W s E env f I e) λa ca σ1 W1 s1 X1 I1 r1=>?_
   refine Sp.standAt (Sp.bind (m:=λk z=>Mine.Internal.truth a σ1 k) (g:=λc σ k ke=>bt (NS op c) (k a σ) (JQ op (c2::l2) X E σ k ke)) (Sp.holding<|Sp.truth I1 r1) λc c' σ2 W2 s2 X2 I2 r2=>?_);cases(show c=c' from r2);have go:=ih I2 (e.up (X1.trans X2).up)
   induction op<;>induction c
   ·exact .pure I2 (λz z h=>h) (I1.vr X2 r1)
   ·exact go
   ·exact go
   ·exact .pure I2 (λz z h=>h) (I1.vr X2 r1)
theorem SE.Ol{l:List Cd}{pos}(h:KI C X n b sc l es):SE C X n b sc (JQ op l) (.BoolOp op es pos):=λA σ W s E env f I e=>Sp.boolOp h f I e
end
noncomputable def EZ:List CmpOp->List Expr->Bool
 |op::ops,e::es=>(!behindInMarks op e)&&EZ ops es |_,_=>true
theorem GX:∀(ops:List CmpOp) (es:List Expr) (ts:List (Sem ArR)),EZ ops es=true->markedEach ops es ts=ts
 | [],es,ts,h=>by induction es<;>rfl
 | [op],[],ts,h=>rfl
 | [op],[e],ts,h=>by
  have h:=Ava _▸(Asw.mp h).1
  match ts with
  | []=>rfl | [t]=>show [markedBehindIn op e t]= [t];rw[markedBehindIn_of_false h]
  |t::u::r=>rfl
 | [op],e::e2::es,ts,h=>by
  match ts with
  | []=>rfl | [t]=>rfl |t::u::r=>rfl
 |op::Xf::ops,[],ts,h=>by induction ts<;>rfl
 |op::Xf::ops,e::es,ts,h=>by
  have h:=(Asw.mp h).2
  match ts with
  | []=>rfl |t::r=>show t::markedEach (Xf::ops) es r=t::r;rw[GX (Xf::ops) es r h]
section
variable{X:CX}{n:Nat}{b:Bool}{sc:Asv}
theorem Sp.sU(h:Sp C A σ W s t m RX):Sp C A σ W s t (λk ke=>m (λc σ=>k (.bool c) σ) ke) (RV C):=λk ke e=>
 ArY (h _ ke e) (λv s' q=>by
  induction q with
  |mk c σ' W' h1 h2 h3 h4=>exact⟨.bool c,σ',W',h1,h2,h3,by refine(show v= .bool c from h4).symm▸?_;exact .bool⟩) λz z q=>q
theorem Sp.Zy(I:Inv C W σ s){c:Bool}{v:ArR}(h:v= .bool c):Sp C A σ W s (truthy v) (λ(k:K Unit) _=>k () σ) (λz z z d=>d=c):=λk ke e=>by subst h;exact Az0 ((Bg.refl I).post (R:=λz z z d=>d=c) e rfl)
theorem Sp.chain(TK:CP C X.T){l:List Cd}(h:KI C X n b sc l es){pos:Pos}(f:BQ n b A):∀{ops:List CmpOp} {σ:St} {W:Wd} {s:ArT} {a:AV} {ca:ArR},ops.length=l.length->Inv C W σ s->AD C A W sc E env->VR C W s.heap a ca->
  Sp C A σ W s (compareChain pos ca ops<|AyW es env) (λk ke=>B3 X E a ops l σ k ke) RX∧Sp C A σ W s (testChain pos ca ops<|AyW es env) (λk ke=>B3 X E a ops l σ k ke) RB:=by
 induction h with
 |nil=>
  intro ops σ W s a ca hl I e ha
  induction ops with
  |nil=>exact⟨λz z=>ff,λz z=>ff⟩
  |cons op ops=>cases hl
 | @cons c1 e1 l es h1 st hs ih=>
  intro ops σ W s a ca hl I e ha
  induction ops with
  |nil=>cases hl
  |cons op ops=>
   induction ops with
   |nil=>
    induction hs with
    |cons _ _ _=>cases hl
    |nil=>
     refine⟨?_,?_⟩
     ·show Sp C A σ W s (Auz [ca] (eval e1 env)>>=λrv=>_) _ _;refine Sp.bind (m:=λk ke=>c1 X E σ k ke) (g:=λv σ k ke=>Mine.Internal.CV X.T op a v σ k) (Sp.holding<|h1 A σ W s E env f I e) λv cv σ1 W1 s1 X1 I1 r1=>?_
      exact Sp.standAt (Sp.operate<|Sp.CV TK I1 (I.vr X1 ha) r1 f.room op)
     ·show Sp C A σ W s (Auz [ca] (eval e1 env)>>=λrv=>_) _ _;refine Sp.bind (m:=λk ke=>c1 X E σ k ke) (g:=λv σ k ke=>Mine.Internal.CV X.T op a v σ k) (Sp.holding<|h1 A σ W s E env f I e) λv cv σ1 W1 s1 X1 I1 r1=>?_
      refine Sp.standAt (Sp.bind (m:=λk z=>Mine.Internal.CV X.T op a v σ1 k) (g:=λc σ k ke=>k c σ) (Sp.operate<|Sp.CV TK I1 (I.vr X1 ha) r1 f.room op) λc c' σ2 W2 s2 X2 I2 r2=>?_);refine Sp.holding λk ke h=>?_
      refine(show c'= .bool c from r2).symm▸?_;exact Az0 ((Bg.refl I2).post h rfl)
   |cons Xf ops=>
    have hl2:(Xf::ops).length=l.length:=by simpa using hl
    refine⟨?_,?_⟩
    ·show Sp C A σ W s (Auz [ca] (eval e1 env)>>=λrv=>_) _ _;refine Sp.bind (m:=λk ke=>c1 X E σ k ke) (g:=λv σ k ke=>Mine.Internal.CV X.T op a v σ λc σ=>bt c (B3 X E v (Xf::ops) l σ k ke) (k false σ)) (Sp.holding<|h1 A σ W s E env f I e) λv cv σ1 W1 s1 X1 I1 r1=>?_
     refine Sp.standAt (Sp.bind (m:=λk z=>Mine.Internal.CV X.T op a v σ1 k) (g:=λc σ k ke=>bt c (B3 X E v (Xf::ops) l σ k ke) (k false σ)) (Sp.holding<|Sp.CV TK I1 (I.vr X1 ha) r1 f.room op) λc c' σ2 W2 s2 X2 I2 r2=>?_);refine Sp.release (Sp.bind (m:=λ(k:K Unit) _=>k () σ2) (g:=λz σ k ke=>bt c (B3 X E v (Xf::ops) l σ k ke) (k false σ)) (Sp.holding<|Sp.Zy I2 r2) λd d' σ3 W3 s3 X3 I3 r3=>?_);subst r3
     induction d' with
     |true=>exact(ih hl2 I3 (e.up ((X1.trans X2).trans X3).up) ((I2.vr X3 (I1.vr X2 r1)))).1
     |false=>exact .pure I3 (λz z h=>h) r2
    ·show Sp C A σ W s (Auz [ca] (eval e1 env)>>=λrv=>_) _ _;refine Sp.bind (m:=λk ke=>c1 X E σ k ke) (g:=λv σ k ke=>Mine.Internal.CV X.T op a v σ λc σ=>bt c (B3 X E v (Xf::ops) l σ k ke) (k false σ)) (Sp.holding<|h1 A σ W s E env f I e) λv cv σ1 W1 s1 X1 I1 r1=>?_
     refine Sp.standAt (Sp.bind (m:=λk z=>Mine.Internal.CV X.T op a v σ1 k) (g:=λc σ k ke=>bt c (B3 X E v (Xf::ops) l σ k ke) (k false σ)) (Sp.holding<|Sp.CV TK I1 (I.vr X1 ha) r1 f.room op) λc c' σ2 W2 s2 X2 I2 r2=>?_);refine Sp.release (Sp.bind (m:=λ(k:K Unit) _=>k () σ2) (g:=λz σ k ke=>bt c (B3 X E v (Xf::ops) l σ k ke) (k false σ)) (Sp.holding<|Sp.Zy I2 r2) λd d' σ3 W3 s3 X3 I3 r3=>?_);subst r3
     induction d' with
     |true=>exact(ih hl2 I3 (e.up ((X1.trans X2).trans X3).up) ((I2.vr X3 (I1.vr X2 r1)))).2
     |false=>exact .pure I3 (λz z h=>h) rfl
theorem SE.cmp(TK:CP C X.T){l:List Cd}{pos}(hx:SE C X n b sc x ex)(h:KI C X n b sc l es)(hm:EZ ops es=true)(hl:ops.length=l.length):
  SE C X n b sc (t7 x ops l) (.Compare ex ops es pos):=λA σ W s E env f I e=>by
 rw[arm_eval_Compare,GX _ _ _ hm];refine Sp.bind (m:=λk ke=>x X E σ k ke) (g:=λa σ k ke=>B3 X E a ops l σ (λc σ=>k (AV.bool c) σ) ke) (hx A σ W s E env f I e) λa ca σ1 W1 s1 X1 I1 r1=>?_
 exact Sp.sU (Sp.chain TK h f hl I1 (e.up X1.up) r1).1
theorem SB.cmp(TK:CP C X.T){l:List Cd}{pos}(hx:SE C X n b sc x ex)(h:KI C X n b sc l es)(hm:EZ ops es=true)(hl:ops.length=l.length):
  SB C X n b sc (t6 x ops l) (.Compare ex ops es pos):=λA σ W s E env f I e=>by
 rw[arm_isTrue_Compare,GX _ _ _ hm];refine Sp.bind (m:=λk ke=>x X E σ k ke) (g:=λa σ k ke=>B3 X E a ops l σ k ke) (hx A σ W s E env f I e) λa ca σ1 W1 s1 X1 I1 r1=>?_
 exact(Sp.chain TK h f hl I1 (e.up X1.up) r1).2
theorem SB.not{pos}(hx:SB C X n b sc x ex):SB C X n b sc (yT x) (.UnaryOp .Not ex pos):=λA σ W s E env f I e=>by
 rw[arm_isTrue_UnaryOp];refine Sp.bind (m:=λk ke=>x X E σ k ke) (g:=λc σ k ke=>k (!c) σ) (hx A σ W s E env f I e) λc c' σ1 W1 s1 X1 I1 r1=>?_
 cases(show c=c' from r1);exact .pure I1 (λz z h=>h) rfl
theorem SB.wD{pos}(ht:SB C X n b sc t et)(hx:SB C X n b sc x ex)(hy:SB C X n b sc y ey):SB C X n b sc (wF t x y) (.IfExp et ex ey pos):=λA σ W s E env f I e=>by
 rw[arm_isTrue_IfExp];refine Sp.bind (m:=λk ke=>t X E σ k ke) (g:=λc σ k ke=>bt c (x X E σ k ke) (y X E σ k ke)) (ht A σ W s E env f I e) λc c' σ1 W1 s1 X1 I1 r1=>?_
 cases(show c=c' from r1)
 induction c with
 |true=>exact hx A σ1 W1 s1 E env f I1 (e.up X1.up)
 |false=>exact hy A σ1 W1 s1 E env f I1 (e.up X1.up)
inductive TQ(C:Cx)(X:CX)(n:Nat)(b:Bool)(sc:Asv):List Cb->List Expr->Prop
 |nil:TQ C X n b sc [] []
 |cons {c e l es}:SB C X n b sc c e->TQ C X n b sc l es->TQ C X n b sc (c::l) (e::es)
theorem Sp.allTrue{l:List Cb}(h:TQ C X n b sc l es)(f:BQ n b A):∀{σ:St} {W:Wd} {s:ArT},Inv C W σ s->AD C A W sc E env->
  Sp C A σ W s (allTrue op es env) (λk ke=>allB op l X E σ k ke) RB:=by
 induction h with
 |nil=>
  intro σ W s I e;rw[arm_allTrue_nil]
  induction op<;>exact .pure I (λz z h=>h) rfl
 | @cons c1 e1 l es h1 hs ih=>
  intro σ W s I e;rw[arm_allTrue_cons];refine Sp.bind (m:=λk ke=>c1 X E σ k ke) (g:=λc σ k ke=>bt (NS op c) (k c σ) (allB op l X E σ k ke)) (h1 A σ W s E env f I e) λc c' σ1 W1 s1 X1 I1 r1=>?_
  cases(show c=c' from r1);have go:=ih I1 (e.up X1.up)
  induction op<;>induction c
  ·exact .pure I1 (λz z h=>h) rfl
  ·exact go
  ·exact go
  ·exact .pure I1 (λz z h=>h) rfl
theorem SB.Ol{l:List Cb}{pos}(h:TQ C X n b sc l es):SB C X n b sc (allB op l) (.BoolOp op es pos):=λA σ W s E env f I e=>by rw[arm_isTrue_BoolOp];exact Sp.allTrue h f I e
noncomputable def G5:Expr->Bool
 | .UnaryOp .Not _ _=>false | .BoolOp .. =>false | .IfExp .. =>false | .Compare .. =>false |_=>true
theorem Lx(h:G5 e=true)(env:Env)(whole:Sem ArR):isTrue e env whole=(do let v ←whole;standAt e.pos;holding [v] (truthy v)):=by
 cases e with
 |UnaryOp op x p=>cases op<;>first |rfl |cases h
 |_=>first |rfl |cases h
theorem SB.val{x:Cd}{ex:Expr}(hx:SE C X n b sc x ex)(h:G5 ex=true):SB C X n b sc (AaG x) ex:=λA σ W s E env f I e=>by
 rw[Lx h];refine Sp.bind (m:=λk ke=>x X E σ k ke) (g:=λv σ k ke=>Mine.Internal.truth v σ k) (hx A σ W s E env f I e) λa ca σ1 W1 s1 X1 I1 r1=>?_
 exact Sp.standAt (Sp.holding<|Sp.truth I1 r1)
end
noncomputable def Gm:Expr->Bool
 | .Slice .. =>false |_=>true
theorem Gw(h:Gm slice=true)(o i:ArR):Azx slice false o i=Ayk [o,i] (Ay1 o i):=by cases slice<;>first |rfl |exact ff h
theorem NW{prog:AsR}{w:ArV}{A:Ar4}{E:ArR->ArT->Prop}{s:ArT}{value slice:Expr}{o i:ArR}{T id:String}{Q:ArR->ArT->Prop}(hT:s.TypeIs o T)
  (hl:AzF (.type T) "__getitem__"=pure (some (.builtin id))){vs:List ArR}(hs:Azx slice false o i=Ayk vs (Ay1 o i))(h:Ar5 (model prog w) A (Ay1 o i) Q E s):
  Ar5 (model prog w) A (Azw value slice o i) Q E s:=by
 unfold Azw;refine ArQ ?_;rw[getitemInPython_of_ne hT.not_modules];refine ArQ<|AzY hT hl ?_;have fin:Ar5 (model prog w) A (Azx slice false o i) (λr s₃=>Ar5 (model prog w) A (letTemporaryGo value o r>>=λz=>pure r) Q E s₃) E s:=by rw[hs];exact wpAny_operate' (ArY h (λr s₃ h₃=>ArQ (wpAny_letTemporaryGo<|ArS h₃)) λz z x=>x)
 first
  |exact ArS (ArQ fin)
  |exact ArQ (ArS (ArQ fin))
  |exact ArQ fin
theorem Gl{n j:Nat}{i:Int}(h:place n i=some j):Azn i n=some j∧j<n∧ -(2^63)≤i∧i<2^63∧((0≤i∧j=i.toNat)∨(i<0∧ -(n:Int)≤i∧j=(i+n).toNat)):=by
 unfold place at h;unfold Azn;refine Df (P:=λv=>v=some j->_) (λhb h=>?_) (λz=>ns) h;have b1:=Bs (bl hb);have b2:=Bs (br hb);refine Df (P:=λv=>v=some j->_) (λh1 h=>?_) (λh1 h=>?_) h
 ·have h1:=Bt h1;refine Df (P:=λv=>v=some j->_) (λz=>ns) (λh2 h=>?_) h;have h2:=Bz h2;rw[←Ase h,if_pos h1,if_pos (by simp;lia)];exact⟨rfl,by lia,by lia,by lia,.inr ⟨h1,by lia,rfl⟩⟩
 ·have h1:=Bz h1;refine Df (P:=λv=>v=some j->_) (λh2 h=>?_) (λz=>ns) h;have h2:=Bt h2;rw[←Ase h,if_neg<|Awg.mpr h1,if_pos (by simp;lia)];exact⟨rfl,by lia,by lia,by lia,.inl ⟨h1,rfl⟩⟩
section
variable{W:Wd}{s:ArT}{σ:St}
inductive AtO(C:Cx)(W:Wd)(s:ArT)(σ:St)(n:Nat)(i:Int)(cl:List ArR)(k:K AV):Prop
 |mk (j:Nat) (a:AV) (ca:ArR) (σ':St) (hp:place n i=some j) (hc:cl[j]?=some ca) (r:VR C W s.heap a ca) (nr:Bg C W s σ σ') (h:k a σ'=true)
theorem Tn(I:Inv C W σ s){l:List AV}{x:Ad}{i:Int}(v:Ae C W s.heap l cl)(hx:x.ev W.ρ=some i){k:K AV}(h:I7 l x σ k=true):AtO C W s σ l.length i cl k:=by
 obtain⟨σ1,n1,h⟩:=Ck I hx h;refine Cp h λj hj h=>Cp h λa ha h=>?_
 rw[AI] at ha;exact(v.get ha).elim λca q=>⟨j,a,ca,σ1,hj,q.1,q.2,n1,h⟩
theorem Xl{n j:Nat}(h1:j<n)(h2:(j:Int)≤4000):place n (j:Int)=some j:=by have q1:both (EN (-4000) (j:Int)) (EN (j:Int) 4000)=true:=Cf.mpr ⟨(DU _ _).mpr (by lia),(DU _ _).mpr h2⟩;have q3:C7 (j:Int) (n:Int)=true:=(CD _ _).mpr (Awj.mpr h1);unfold place;refine q1.symm▸?_;refine(show C7 (j:Int) 0=false from rfl).symm▸?_;refine q3.symm▸?_;rfl
theorem Ke(I:Inv C W σ s){l:List AV}{x:Ad}{i:Int}(v:Ae C W s.heap l cl)(hx:x.ev W.ρ=some i){k:K AV}(h:IL l x σ k=true):AtO C W s σ l.length i cl k:=by
 have other:=Tn I v hx (k:=k);refine dX h (λa f hxt h=>B9 h (λhc h=>iZ h (λlo hi r1 r2 h=>B9 h (λhb h=>?_) λz=>other) other) λz=>other) other;refine hide λAx Aa=>?_
 obtain⟨y,hy,e⟩:=Ad.A2.mp hx;obtain⟨u,hu,ey⟩:=HO (hxt▸hy);have e:i=u:=by rw[e,ey,Bj hc,Bj<|bl hb,Awo,Awk]
 have ru:=I.rng a u hu;obtain⟨j,ej⟩:=AsY (Av6 (Bs<|bl<|br hb)<|ru.1 _ r1);refine Aa ?_;have h2:=ru.2 _ r2;rw[ej] at h2 hu e;have hj:=Awj.mp (Av7 h2<|Bt<|bl<|br<|br hb);exact(v.get<|Ar8 hj).elim λca q=>⟨j,.sel a l,ca,σ,e▸Xl hj (Av6 h2<|Bs<|bl<|br<|br<|br hb),q.1,.sel hu (Ar8 hj) q.2,.refl I,h⟩
structure Got(C:Cx)(A:Ar4)(s:ArT)(co ci:ArR)(k:K AV)(σ:St)(W:Wd):Prop where
 ty:∃T id,s.TypeIs co T∧AzF (.type T) "__getitem__"=pure (some (.builtin id))
 go:∀ke:K AV,Ar5 (model C.prog C.w) A (Ay1 co ci) (Ah C k σ W s<|RV C) (Ac C ke σ W s) s
variable{A:Ar4}{T:Tab}
theorem Got.back{k:K AV}(n:Bg C W s σ σ1)(g:Got C A s co ci k σ1 W):Got C A s co ci k σ W:=
 ⟨g.ty,λke=>ArY (g.go ke) (λz z q=>q.base n.ext) (λz z q=>q.base n.ext)⟩
theorem b9(I:Inv C W σ s){l:List AV}{x:Ad}{i:Int}{cl:List ArR}(htt:IsT W s.heap a cl.toArray)(v:Ae C W s.heap l cl)(hx:x.ev W.ρ=some i){k:K AV}(h:IL l x σ k=true):
  Got C A s (.ref a) (.int i u) k σ W:=by
 cases Ke I v hx h with
 |mk j b cb σ1 hp hc hv n1 h1=>have p:=Gl hp;exact⟨⟨"tuple",_,htt.Af.typeIs,PySem.F.slot_tuple_getitem.lookup⟩,λke=>getItem_tuple htt.Af p.2.2.1 p.2.2.2.1 ((congrArg (Azn i) v.length).trans p.1) (AwO.trans hc) (n1.post h1 hv)⟩
theorem VG(I:Inv C W σ s){l:List AV}{x:Ad}{i:Int}{a:Ar0}{cl:List ArR}(ht:s.heap.IsList a cl.toArray)(v:Ae C W s.heap l cl)(hx:x.ev W.ρ=some i){k:K AV}(h:IL l x σ k=true):
  Got C A s (.ref a) (.int i u) k σ W:=by
 cases Ke I v hx h with
 |mk j b cb σ1 hp hc hv n1 h1=>
  refine hide λAx Aa=>?_
  obtain⟨_,_,p3,p4,p5⟩:=Gl hp;refine Aa ?_;refine⟨⟨"list",_,ht.typeIs,PySem.F.slot_list_getitem.lookup⟩,λke=>?_⟩;rcases p5 with⟨q,e⟩|⟨q,q2,e⟩
  ·exact AzM ht q p4 (e▸AwO.trans hc) (n1.post h1 hv)
  ·rw[←v.length] at q2 e;exact AzN ht q q2 p3 (e▸AwO.trans hc) (n1.post h1 hv)
theorem QE(I:Inv C W σ s){l:List AV}{x:Ad}{i:Int}{a:Ar0}{cl cr:List ArR}(ht:s.heap.IsList a (cl++cr).toArray)(v:Ae C W s.heap l cl)(hx:x.ev W.ρ=some i){k:K AV}(h:OU l x σ k=true):
  Got C A s (.ref a) (.int i u) k σ W:=by
 obtain⟨σ1,n1,h⟩:=Ck I hx h;refine Cp (br h) λb hl h'=>?_
 rw[AI] at hl;obtain⟨ca,hc,hv⟩:=v.get hl;exact⟨⟨"list",_,ht.typeIs,PySem.F.slot_list_getitem.lookup⟩,λke=>AzM ht (Bs (bl (bl h))) (Av7 (Bs (br (bl h))) (by decide)) (AwO.trans ((Asn (Ar2.mp hc).1).trans hc)) (n1.post h' hv)⟩
theorem pS{i:Int}{z n:Nat}(h: -i≤n):(i+((z+n:Nat):Int)).toNat=z+(i+(n:Int)).toNat:=by lia
theorem b8(I:Inv C W σ s){l:List AV}{x:Ad}{i:Int}{a:Ar0}{cl cp:List ArR}(ht:s.heap.IsList a (cp++cl).toArray)(v:Ae C W s.heap l cl)(hx:x.ev W.ρ=some i){k:K AV}(h:VB l x σ k=true):
  Got C A s (.ref a) (.int i u) k σ W:=by
 obtain⟨σ1,n1,h⟩:=Ck I hx h;refine Cp (br h) λb hl h'=>?_
 rw[AI] at hl;obtain⟨ca,hc,hv⟩:=v.get hl;have b2:=Bs (bl (br (bl h)));have z:(cp++cl).toArray.size=cp.length+l.length:=(Ar1 ..).trans (congrArg _ v.length);refine⟨⟨"list",_,ht.typeIs,PySem.F.slot_list_getitem.lookup⟩,λke=>AzN ht (Bt (bl (bl h))) ?_ (Av6 (by decide) (Bs (br (br (bl h))))) ?_ (n1.post h' hv)⟩
 ·rw[z];lia
 ·rw[z,pS b2,AwO,Asc<|Axl _ _,Axg];exact hc
theorem O3{q n:Nat}{x:Ad}{i:Int}{d:Bool}{P:Prop}(lo:W.ρ[q]?=some (Ar6 n))(hx:x.ev W.ρ=some i)(h:QN q x f d=true)(k:∀m:Nat,i=(n:Int)+m->f m=true->P)(k0:d=true->P):P:=by refine dX h (λa g e h=>B9 h (λhb h=>?_) λz=>k0) k0;obtain⟨y,hy,ei⟩:=Ad.A2.mp hx;obtain⟨u,hu,ey⟩:=HO (e▸hy);rw[beq_iff.mp (bl hb)] at hu;refine k _ ?_ h;rw[ei,ey,Bj<|bl<|br hb,uniq lo hu,Awk,Awn<|Bs<|br<|br hb,Int.add_comm];rfl
theorem DS{α:Type}{l:List α}(h:fits l=true):l.length≤4000:=Bn h
theorem DE(I:Inv C W σ s){a:Nat}(k1:Fj W (some a))(h:BY σ (some a)=true):(W.ls a).length≤1000000:=
 Cp h λz hy h=>Awi.mp (Av6 ((I.rng a _ k1).2 _ hy)<|Bs h)
theorem b7(I:Inv C W σ s){l m:List AV}{p:Nat}{x:Ad}{i:Int}{u:Tok}{a:Ar0}{cl cm:List ArR}(ht:s.heap.IsList a (cl++W.ls p++cm).toArray)(v:Ae C W s.heap l cl)(vm:Ae C W s.heap m cm)(lo:Fj W (some p))
  (hx:x.ev W.ρ=some i){k:K AV}(h:getM l p m x σ k=true):Got C A s (.ref a) (.int i u) k σ W:=by
 refine O3 lo hx h (λn en h=>Cp (br<|br h) λb hl h'=>?_) λh=>QE I (AsE .. ▸ht) v hx h
 rw[AI] at hl;obtain⟨ca,hc,hv⟩:=vm.get hl;have hj:=(Ar2.mp hc).1;have f3:=DE I lo (br<|bl h);have f1:=DS (bl<|bl<|bl h);have f2:=DS (br<|bl<|bl h);have hb:=Awi.mp (Bs<|bl<|br h);have vml:=vm.length;have vl:=v.length;have e:i.toNat=(cl++W.ls p).length+(n-l.length):=by rw[Ar1,en];lia
 exact⟨⟨"list",_,ht.typeIs,PySem.F.slot_list_getitem.lookup⟩,λke=>AzM ht (by lia) (by lia) (by rw[e,AwO,Asc (Axl _ _),Axg];exact hc) ((Bg.refl I).post h' hv)⟩
theorem MR(I:Inv C W σ s){l:List (AV×AV)}{d:Ar0}{Bk}(hd:s.heap.DictOf (AF C.prog C.w) d Bk)(hl:Co C W s.heap l Bk)(hi:VR C W s.heap i ci){k:K AV}(ko:keyOk i=true)(h:My l i σ k=true):
  Got C A s (.ref d) ci k σ W:=by
 obtain⟨K0,hk,hc⟩:=ES hi ko;obtain⟨v,cv,σ1,n1,hv,hr,h1⟩:=bC hk I hl h;exact⟨⟨"dict",_,hd.typeIs,F.slot_dict_getitem.lookup⟩,λke=>wpAny_getItem_of (knd:=AF C.prog C.w) hc hd.mapOf hv (n1.Bc h1 hr)⟩
theorem S3{k:K Bool}(h:Na a i σ k=true):keyOk i=true:=by
 cases i with
 |str _ |int _=>rfl |_=>cases a<;>exact ff h
theorem Mz{l:List (AV×AV)}{k:K AV}(h:My l i σ k=true):keyOk i=true:=by
 induction l with
 |nil=>exact ff h
 |cons p l=>exact S3 (k:=λc σ=>bt c (k p.2 σ) (My l i σ k)) h
theorem str_idx{X:Str}{n:Int}{c:Nat}(h0:0≤n)(h:X.cps[n.toNat]?=some c):(Azn n X.length).bind (X.cps[·]?)=some c:=by
 have hn:n<((X.cps.size:Nat):Int):=(Int.toNat_lt h0).mp (AsX.mp h).1;have q:Azn n X.length=some n.toNat:=by unfold Azn;refine(if_neg<|Awg.mpr h0).symm▸?_;exact if_pos (Asw.mpr ⟨decide_eq_true h0,decide_eq_true hn⟩)
 refine q.symm▸?_;exact h
theorem bY(I:Inv C W σ s){j:Nat}(hj:W.τ[j]?=some p)(hi:VR C W s.heap i ci){k:K AV}(h:u7 j i σ k=true):Got C A s (.ref p.1) ci k σ W:=
 I.A7 hj h (λl cl h z b=>hi.cInt h (λx i t h hx=>VG I b.il b.v hx h) ff) λh=>
 I.UB hj h (λl a cl h z b=>hi.cInt h (λx i t h hx=>QE I b.il b.v hx h) ff) λh=>
 I.Fc hj h (λa l cl h z b=>hi.cInt h (λx i t h hx=>b8 I (Ar7 _▸b.il) b.v hx h) ff) λh=>
 I.GH hj h (λl a m cl cm h z b=>hi.cInt h (λx i t h hx=>b7 I b.il b.v b.w b.k1 hx h) ff) λh=>
 I.DC hj h (λl Bk h z z hd hl=>MR I hd hl hi (Mz h) h) ff
theorem bW(I:Inv C W σ s){l:List UInt8}{x:Ad}{i:Int}{t:Tok}(hx:x.ev W.ρ=some i){k:K AV}(h:u6 l x σ k=true):Got C A s (.bytes l.toArray t) (.int i u) k σ W:=by
 obtain⟨σ1,n1,h⟩:=Ck I hx h;refine Cp h λj hj h=>Cp h λv hv h=>?_
 have p:=Gl hj;rw[AI] at hv;exact⟨⟨"bytes",_,AzE s _ _,FB.slot_bytes_getitem.lookup⟩,λke=>getItem_gives (AzE s _ _) (by decide) At3 AvH (AvG _ _)
  (gives_bytes_getitem _ _ _ _ v (Asw.mpr ⟨decide_eq_true p.2.2.1,decide_eq_true p.2.2.2.1⟩) ((congrArg (Option.bind · _) p.1).trans<|AwO.trans hv)) (n1.Bc (R:=RV C) h<|.int<|Ad.Ci _)⟩
theorem b4(TK:CP C T)(I:Inv C W σ s){z:Nm}{x:Ad}{i:Int}(hz:A9 z=some X)(hx:x.ev W.ρ=some i){k:K AV}(h:vA T z x σ k=true):Got C A s (.str X t) (.int i u) k σ W:=by refine BZ h (λe1 h=>Cp (br h) λy hc h'=>?_) ff;obtain⟨X',c,g1,g2,g3,g4⟩:=TK.ch _ _ _ hc;obtain rfl:=uniq hz g1;have ey:=Ad.Du e1 hx;have e2:=Bs (bl h);rw[←ey] at e2 g3;exact⟨⟨"str",_,typeIs_str s _ _,PySem.F.slot_str_getitem.lookup⟩,λke=>getItem_str (c:=c) (by simp;lia) (str_idx e2 g3) ((Bg.refl I).Bc (R:=RV C) h' (.str g4))⟩
theorem bZ(TK:CP C T)(I:Inv C W σ s){q:Nat}{cv:ArR}{x:Ad}{i:Int}(hq:Mh C W.ρ q (W.q q))(hr:VR C W s.heap (W.q q).1 cv)(hx:x.ev W.ρ=some i){k:K AV}(h:u9 T x σ k=true):Got C A s cv (.int i u) k σ W:=by
 refine BZ h (λe1 h=>?_) ff;refine hide λAx Aa=>?_
 obtain⟨_,_,z,r,e⟩:=hq;refine Aa ?_;rw[e] at hr;refine VR.inv hr λvs a ht v=>Ae.inv (P:=λvs=>IsT W s.heap a vs.toArray->Got C A s (.ref a) (.int i u) k σ W) v (λc1 vs zz v ht=>Ae.inv (P:=λvs=>IsT W s.heap a (c1::vs).toArray->Got C A s (.ref a) (.int i u) k σ W) v (λc2 vs hw zz ht=>?_) ht) ht
 have ei:i=1:=(Ad.Du e1 hx).trans (Bj (bl h));refine ei.symm▸?_;exact⟨⟨"tuple",_,ht.Af.typeIs,PySem.F.slot_tuple_getitem.lookup⟩,λke=>getItem_tuple (j:=1) ht.Af (by decide) (by decide) (if_pos (Asw.mpr ⟨rfl,decide_eq_true (Awj.mpr (Nat.lt_add_left vs.length Nat.one_lt_two))⟩)) rfl ((Bg.refl I).post (br h) (TK.Hc▸hw))⟩
theorem b3(TK:CP C T)(I:Inv C W σ s){co:ArR}(hi:VR C W s.heap i ci){k:K AV}(h:eD (λd=>oS (T.FP d) λl=>My l i σ k) co=true):Got C A s co ci k σ W:=by
 induction co with
 |ref d=>
  refine Cp h λl ed h=>?_
  obtain⟨_,Bk,hd,hl⟩:=TK.FP _ _ ed;exact MR I (DictOf.base I hd) (hl W s.heap I.based) hi (Mz h) h
 |_=>exact ff h
theorem b5(TK:CP C T)(I:Inv C W σ s)(ho:VR C W s.heap o co)(hi:VR C W s.heap i ci){k:K AV}(h:vB T o i σ k=true):Got C A s co ci k σ W:=
 ho.AU h (λl vs a h ht v=>hi.cInt h (λx i t h hx=>b9 I ht v hx h) ff) λh=>
 ho.CS h (λl t h=>hi.cInt h (λx i u h hx=>bW I hx h) ff) λh=>
 ho.Ay h (λj p h hj=>bY I hj hi h) λh=>
 ho.AL h (b3 TK I hi) λh=>
 ho.cStr h (λz X t h hz=>hi.cInt h (λx i u h hx=>b4 TK I hz hx h) ff) λh=>
 ho.KO h (λq cv h hq hr=>hi.cInt h (λx i u h hx=>bZ TK I hq hr hx h) ff) ff
end
section
variable{X:CX}{n:Nat}{b:Bool}{sc:Asv}
theorem Sp.Sz(TK:CP C T)(I:Inv C W σ s){value:Expr}(hp:Gm slice=true)(ho:VR C W s.heap o co)(hi:VR C W s.heap i ci):
  Sp C A σ W s (Azw value slice co ci) (λk z=>Sz T o i σ k) (RV C):=λk ke h=>by
 refine hide λAx Aa=>?_
 obtain⟨o',σ1,n1,Ho,_,h⟩:=Aw I ho h;obtain⟨i',σ2,n2,cH,_,h⟩:=Aw n1.1 hi h;obtain⟨⟨T',id,hT,hl⟩,go⟩:=(b5 (A:=A) TK n2.1 Ho cH h).back (n1.trans n2);refine Aa ?_;exact NW hT hl (Gw hp _ _) (go ke)
theorem SE.sub(TK:CP C X.T){pos}(hp:Gm slice=true)(hx:SE C X n b sc x value)(hy:SE C X n b sc y slice):SE C X n b sc (Aaj x y) (.Subscript value slice pos):=λA σ W s E env f I e=>by
 rw[arm_eval_Subscript];refine Sp.bind (m:=λk ke=>x X E σ k ke) (g:=λo σ k ke=>y X E σ (λi σ=>Mine.Internal.Sz X.T o i σ k) ke) (hx A σ W s E env f I e) λa ca σ1 W1 s1 X1 I1 r1=>?_
 refine Sp.bind (m:=λk ke=>y X E σ1 k ke) (g:=λi σ k ke=>Mine.Internal.Sz X.T a i σ k) (Sp.holding<|hy A σ1 W1 s1 E env f I1<|e.up X1.up) λc cc σ2 W2 s2 X2 I2 r2=>?_
 exact Sp.standAt (Sp.Sz TK I2 hp (I1.vr X2 r1) r2)
end
noncomputable def bnd(n d:Nat)(v:Option Int):Int:=match v with |none=>(d:Int)|some i=>max 0 (min (if i<0 then i+(n:Int) else i) (n:Int))
theorem HL(n:Nat)(d:Nat)(hd:d≤n)(v:Option Int):clip n d v≤n∧bnd n d v=((clip n d v:Nat):Int):=by
 induction v with
 |none=>exact⟨hd,rfl⟩
 |some i=>
  refine Df (P:=λc=>c≤n∧max 0 (min (if i<0 then i+(n:Int) else i) (n:Int))=((c:Nat):Int)) (λq=>?_) (λq=>?_)
  ·refine(if_pos<|Bt q).symm▸?_;have q:=AvR ((Int.sub_self (n:Int)).symm▸Av4 (Bt q));exact⟨Int.toNat_le.mpr q,by rw[Awa q,Int.ofNat_toNat,Av9]⟩
  ·have q:=Bz q;refine(if_neg<|Awg.mpr q).symm▸?_;refine Df (P:=λc=>c≤n∧max 0 (min i (n:Int))=((c:Nat):Int)) (λr=>?_) (λr=>?_)
   ·have r:=Av4 (Bt r);exact⟨Int.toNat_le.mpr r,by rw[Awa r,Int.ofNat_toNat,Av9]⟩
   ·exact⟨As0 _,by rw[Int.min_eq_right (Bz r),Int.max_eq_right<|AtG n]⟩
theorem Hf(n:Nat)(lo hi:Option Int):sliceBounds lo hi none n=((clip n 0 lo:Int),(clip n n hi:Int),1):=by
 refine((HL n 0 (Auo _) lo).2)▸?_;refine((HL n n (As0 _) hi).2)▸?_
 induction lo<;>induction hi<;>rfl
theorem Dx(items:Array ArR)(lo hi:Option Int):slicePick items lo hi none=(cut items.toList lo hi).toArray:=by unfold slicePick cut;rw[Hf];simp only[sliceRange_one,pick_run,AtU]
theorem Ae.drop{l vs}(k:Nat)(v:Ae C W h l vs):Ae C W h (l.drop k) (vs.drop k):=by
 induction k generalizing l vs with
 |zero=>exact v
 |succ k ih=>induction l with
  |nil=>exact v.inv (P:=λvs=>Ae C W h [] (vs.drop (k+1))) .nil
  |cons a l=>exact v.inv (P:=λvs=>Ae C W h (l.drop k) (vs.drop (k+1))) λz z z r=>ih r
theorem Ae.take{l vs}(k:Nat)(v:Ae C W h l vs):Ae C W h (l.take k) (vs.take k):=by
 induction k generalizing l vs with
 |zero=>exact .nil
 |succ k ih=>induction l with
  |nil=>exact v.inv (P:=λvs=>Ae C W h [] (vs.take (k+1))) .nil
  |cons a l=>exact v.inv (P:=λvs=>Ae C W h (a::l.take k) (vs.take (k+1))) λz z a r=>.cons a (ih r)
theorem Ae.cut{l vs}(v:Ae C W h l vs)(lo hi:Option Int):Ae C W h (cut l lo hi) (cut vs lo hi):=by unfold Mine.Internal.cut;refine v.length.symm▸?_;exact(v.drop _).take _
theorem Ae.rev{l vs}(v:Ae C W h l vs):Ae C W h l.reverse vs.reverse:=by
 induction l generalizing vs with
 |nil=>exact v.inv (P:=λvs=>Ae C W h [] vs.reverse) .nil
 |cons a l ih=>
  rw[Aw1];refine Ae.inv (P:=λvs=>Ae C W h (l.reverse++ [a]) vs.reverse) v λcv cl a r=>?_
  show Ae C W h _ (cv::cl).reverse;rw[Aw1];exact(ih r).app (.cons a .nil)
theorem Oz{α:Type}(l:List α)(lo hi:Option Int):(cut l lo hi).length≤l.length:=AtH (List.length_take_le' _ _) (by rw[AwQ];exact AxF _ _)
inductive T6(C:Cx)(W:Wd)(s:ArT)(σ:St)(ca:ArR)(k:K (Option Int)):Prop
 |mk (p:Option Int) (σ':St) (n:Bg C W s σ σ') (ip:Awq ca p) (h:k p σ'=true)
theorem E7(I:Inv C W σ s)(ha:VR C W s.heap a ca){k:K (Option Int)}(h:I6 a σ k=true):T6 C W s σ ca k:=by obtain⟨a',σ1,n1,JD,_,h⟩:=Aw I ha h;exact VR.Bo (P:=λca=>T6 C W s σ ca k) JD h (λh=>⟨none,σ1,n1,.none,h⟩) λh=>VR.cInt (P:=λca=>T6 C W s σ ca k) JD h (λx i t h hx=>(Ck n1.1 hx h).elim λσ2 q=>⟨some i,σ2,n1.trans q.1,.int _ _,q.2⟩) ff
section
variable{prog:AsR}{w:ArV}{A:Ar4}{E:ArR->ArT->Prop}{s:ArT}
theorem Gu{v:ArR}{k:Option Int}{Q:Option Int->ArT->Prop}(hv:Awq v k)(h:Q k s):Ar5 (model prog w) A (Builtin.Slice.slicePartIndex v) Q E s:=by
 induction hv with
 |none=>exact slicePart_none h
 |int i t=>exact slicePart_int h
theorem Mk(n:Nat)(lo hi:Option Int):Avk lo hi 1 (n:Int)=((clip n 0 lo:Int),(clip n n hi:Int)):=by
 refine((HL n 0 (Auo _) lo).2)▸?_;refine((HL n n (As0 _) hi).2)▸?_;have aux:∀i:Int,(if i<0 then max (i+(n:Int)) 0 else min i (n:Int))=max 0 (min (if i<0 then i+(n:Int) else i) (n:Int)):=λi=>by
  by_cases q:i<0
  ·rw[if_pos q,if_pos q,Awa<|AvR<|(Int.sub_self (n:Int)).symm▸Av4 q,Av9]
  ·rw[if_neg q,if_neg q,Int.max_eq_right<|Int.le_min.mpr ⟨Awg.mp q,AtG n⟩]
 have l:∀(v:Option Int) (d:Nat),(match v with |none=>(d:Int)|some i=>if i<0 then max (i+(n:Int)) 0 else min i (n:Int))=bnd n d v:=λv d=>by
  induction v with
  |none=>rfl |some i=>exact aux i
 exact AxY (l lo 0) (l hi n)
theorem PE(a b:Nat):At5 (a:Int) (b:Int) 1=b-a:=by unfold At5;rw[if_pos (by decide)];split<;>lia
theorem G8{sl:Ar0}{n:Nat}{vl vu:ArR}{lo hi:Option Int}{Q:Int×Int×Nat->ArT->Prop}(hs:s.heap.IsSliceOf sl vl vu .none)(pl:Awq vl lo)(pu:Awq vu hi)
  (h:Q ((clip n 0 lo:Int),1,clip n n hi-clip n 0 lo) s):Ar5 (model prog w) A (Avl (.ref sl)<|pure (n:Int)) Q E s:=by
 refine hide λAx Aa=>?_
 obtain⟨os,Hp,Cw,hF⟩:=id hs;refine Aa ?_;unfold Avl Builtin.Slice.sliceFields;refine ArQ<|AB Hp hF (x:=vl) rfl (AB Hp hF (x:=vu) rfl (AB Hp hF (x:=.none) rfl (ArS ?_)));refine ArQ<|slicePart_none ?_;show Ar5 _ _ (if((1:Int)==0)=true then _ else _) _ _ s;refine GQ (by decide) ?_;refine ArQ<|Gu pl<|ArQ<|Gu pu<|AA ?_;show Ar5 _ _ (match Avk lo hi 1 (n:Int) with |(lo,hi)=>pure (lo,(1:Int),At5 lo hi 1)) _ _ s;rw[Mk];show Ar5 _ _ (pure ((clip n 0 lo:Int),(1:Int),At5 (clip n 0 lo:Int) (clip n n hi:Int) 1)) _ _ s;rw[PE];exact ArS h
theorem Xj(xs:Array ArR)(a k:Nat):((AwZ k).filterMap λ(k:Nat)=>xs[((a:Int)+(k:Int)*1).toNat]?).toArray=((xs.toList.drop a).take k).toArray:=by
 have e:(λ(k:Nat)=>xs[((a:Int)+(k:Int)*1).toNat]?)=(λx=>xs[x]?) ∘ λx=>a+x:=funext λk=>by rw[Int.mul_one];rfl
 rw[e,←List.filterMap_map,pick_run]
theorem Mv{α:Type}(b:Array α)(lo hi:Option Int){z:Nat}(h:b.size≤z):(cut b.toList lo hi).toArray.size≤z:=AtH (Oz b.toList lo hi) h
theorem Qx{α:Type}(b:Array α){lo hi:Option Int}(h1:clip b.size 0 lo=0)(h2:clip b.size b.size hi-0=b.size):cut b.toList lo hi=b.toList:=by show(b.toList.drop<|clip b.size 0 lo).take (clip b.size b.size hi-clip b.size 0 lo)=b.toList;refine h1.symm▸?_;refine h2.symm▸?_;refine AwD.symm▸?_;exact Aw3
theorem F4{t sl:Ar0}{items:Array ArR}{vl vu:ArR}{lo hi:Option Int}{Q:ArR->ArT->Prop}(ht:IsTup s.heap t items)(hs:s.heap.IsSliceOf sl vl vu .none)(pl:Awq vl lo)(pu:Awq vu hi)
  (h1:cut items.toList lo hi=items.toList->Q (.ref t) s)
  (h2:Q (.ref s.heap.objs.size) {s with heap:=s.heap.push {cls:=.type "tuple",data:=.seq (cut items.toList lo hi).toArray}})
  (En:items.size≤AtY):Ar5 (model prog w) A (Ay1 (.ref t)<|.ref sl) Q E s:=by
 have ec:cut items.toList lo hi=(items.toList.drop (clip items.size 0 lo)).take (clip items.size items.size hi-clip items.size 0 lo):=rfl;have hok:=Mv items lo hi En;obtain⟨os,Hp,Cw,hF⟩:=id hs;have hTs:s.TypeIs (.ref sl) "slice":=⟨os,Hp,Cw⟩;unfold Ay1
 try with_reducible refine Aso ?_
 first |refine AA ?_ |skip
 refine ArQ (wpAny_sequenceKey ht.typeIs (by decide) ?_);refine ArQ (AsN (name:=ArP "__getitem__") ht.typeIs Ax1
  (Ata Ax1 ht.typeIs PyProof.Rows.entry_tuple_getitem ?_<|PyProof.Rows.args_tuple_getitem _ _))
 show Ar5 _ _ (Avo (.ref t)>>=_) _ _ s;refine ArQ<|tupleItemsOf_ ht ?_;refine JP hTs ?_;refine ZV (by decide) ?_;refine ArQ<|G8 hs pl pu ?_;show Ar5 _ _ (if(((clip items.size 0 lo:Nat):Int)==0&&(1:Int)==1&&(clip items.size items.size hi-clip items.size 0 lo)==items.size)=true then _ else _) _ _ s;by_cases hw:(((clip items.size 0 lo:Nat):Int)==0&&(1:Int)==1&&(clip items.size items.size hi-clip items.size 0 lo)==items.size)=true
 ·refine ZV hw ?_;have w1:=Awh (beq_iff_eq.mp (Asw.mp (Asw.mp hw).1).1);have e:=Qx items w1 (w1▸beq_iff_eq.mp (Asw.mp hw).2);have hex:Ar5 (model prog w) A.in1 (Avn<|.ref t) (λb s'=>b=true∧s'=s) (λz z=>False) s:=by
   unfold Avn;exact JP ht.typeIs (ArS ⟨by decide,rfl⟩)
  refine Az hex (λb s' hb=>?_) λz z q=>q.elim
  obtain⟨rfl,rfl⟩:=hb;refine ZV rfl ?_;exact DA (ArS ⟨_,rfl,ArS<|h1 e⟩)
 ·refine GQ hw ?_;rw[Xj items,←ec]
  first
   |exact ArQ (m:=Auf _) (AsF (ArS ⟨_,rfl,ArS h2⟩) hok)
   |exact ArQ (m:=Auf _) (AsF (AA (ArS ⟨_,rfl,ArS h2⟩)) hok)
   |exact ArQ (ArQ (m:=Auf _) (AsF (ArS (ArS ⟨_,rfl,ArS h2⟩)) hok))
   |exact ArQ (ArQ (m:=Auf _) (AsF (ArS ⟨_,rfl,ArS h2⟩) hok))
end
section
variable{M:Auw}{A:Ar4}{E:ArR->ArT->Prop}{s:ArT}
noncomputable def FQ(v:ArR):Sem ArR:=do
 if v== .none then return .none
 if(←specialOf v "__index__").isNone then
  rule "bytes.slice.part-no-index";raiseError "TypeError" "slice indices must be integers or None or have an __index__ method"
 return AtQ (←asIndex v)
theorem Mq(v:ArR):Builtin.Bytes.sliceParts v=(do
  let step ←FQ (←field v 2)
  if step==AtQ 0 then rule "bytes.slice.step-zero";raiseError "ValueError" "slice step cannot be zero"
  let start ←FQ (←field v 0)
  let stop ←FQ (←field v 1)
  return(start,stop,step)):=rfl
theorem Fu{v:ArR}{k:Option Int}{Q:ArR->ArT->Prop}(hv:Awq v k)(h:Q (rawPart k) s):Ar5 M A (FQ v) Q E s:=by
 induction hv with
 |none=>exact ArS h
 |int i t=>unfold FQ;refine GQ (show¬((Value.int i t==Atd)=true) from AsJ) ?_;refine ArQ (AzY (T:="int") (typeIs_int s i t) int_index ?_);simp only[Option.isNone_some,AsM,if_false];exact bEq (a:=i) rfl (ArS h)
end
theorem aP(b:Array UInt8)(lo hi:Option Int):Ave b (clip b.size 0 lo:Int) (clip b.size b.size hi:Int) 1=(cut b.toList lo hi).toArray:=by unfold Ave Mine.Internal.cut;simp only[sliceRange_one,pick_run,AtU]
section
variable{prog:AsR}{w:ArV}{A:Ar4}{E:ArR->ArT->Prop}{s:ArT}
theorem F3{b:Array UInt8}{u:Tok}{sl:Ar0}{vl vu:ArR}{lo hi:Option Int}{Q:ArR->ArT->Prop}(hs:s.heap.IsSliceOf sl vl vu .none)(pl:Awq vl lo)(pu:Awq vu hi)
  (h1:cut b.toList lo hi=b.toList->Q (.bytes b u) s)
  (h2:Q (.bytes (cut b.toList lo hi).toArray s.toks) {s with toks:=s.toks+1})
  (En:b.size≤AtY):Ar5 (model prog w) A (Ay1 (.bytes b u)<|.ref sl) Q E s:=by
 refine hide λAx Aa=>?_
 obtain⟨os,Hp,Cw,hF⟩:=id hs;refine Aa ?_;have hTs:s.TypeIs (.ref sl) "slice":=⟨os,Hp,Cw⟩;unfold Ay1
 try with_reducible refine Aso ?_
 first |refine AA ?_ |skip
 refine ArQ (AsN (name:=ArP "__getitem__") (AzE s b u) At3
  (Ata At3 (AzE s b u) AvH ?_<|AvG _ _))
 show Ar5 _ _ (Avf (.ref sl)>>=_) _ _ s;refine ArQ ?_;unfold Avf;refine ArQ<|AzY hTs slice_no_index ?_;simp only[Option.isNone_none,if_true];refine ArS ?_;show Ar5 _ _ (AzG (.ref sl)>>=_) _ _ s;refine JP hTs ?_;refine GQ (by decide) ?_;rw[Mq];refine ArQ<|AB Hp hF (x:=.none) rfl (ArQ<|Fu .none ?_);refine(if_neg (show¬((rawPart none==AtQ 0)=true) from AsJ)).symm▸?_;refine AB Hp hF (x:=vl) rfl (ArQ<|Fu pl ?_);refine AB Hp hF (x:=vu) rfl (ArQ<|Fu pu<|ArS ?_);refine bEq (sliceIndices_raw lo hi none b.size (by simp)) ?_;rw[Hf];dsimp only;rw[aP];by_cases hw:(((clip b.size 0 lo:Nat):Int)==0&&(1:Int)==1&&((clip b.size b.size hi:Nat):Int)==(b.size:Int)&& !b.isEmpty)=true
 ·refine(if_pos hw).symm▸?_;have q:=Asw.mp (Asw.mp hw).1;have e:=Qx b (Awh<|beq_iff_eq.mp (Asw.mp q.1).1) (Awh<|beq_iff_eq.mp q.2);refine JP (AzE s b u) ?_;refine ZV (by decide) ?_;exact DA (ArS ⟨_,rfl,ArS<|h1 e⟩)
 ·refine(if_neg hw).symm▸?_;exact ArQ (wpAny_mkBytes (ArS ⟨_,rfl,ArS h2⟩)<|Mv b lo hi En)
end
theorem JK(items:Array ArR):slicePick items none none (some<|-1)=items.toList.reverse.toArray:=by
 have e2:sliceRange ((items.size:Int)-1) (-1) (-1)=(AwZ items.size).reverse:=by
  unfold sliceRange;rw[if_neg (by decide)];rcases Nat.eq_zero_or_pos items.size with h |h
  ·rw[h];rfl
  ·rw[if_pos (by lia),show((items.size:Int)-1- -1- -1-1)/ - -1=items.size from(Int.ediv_one _).trans (by lia)];show List.map (λ(k:Nat)=>((items.size:Int)-1+ -1*(k:Int)).toNat) (AwZ items.size)=_;refine List.ext_getElem (by rw[AsQ,At9,AwR,At9]) λi h1 h2=>?_
   rw[List.getElem_map,AwP,List.getElem_reverse,AwP,At9];rw[AsQ,At9] at h1;obtain⟨d,hd⟩:=Axk h1;rw[hd,Axf,Axg,show((i+d+1:Nat):Int)-1+ -1*(i:Int)=(d:Int) by lia];rfl
 show((sliceRange ((items.size:Int)-1) (-1)<|-1).filterMap (items[·]?)).toArray=_;rw[e2,List.filterMap_reverse];have q:=pick_run items 0 items.size;rw[AwD,show(λx=>0+x)=(id:Nat->Nat) from funext AxL,List.map_id,show items.toList.take items.size=items.toList from Aw3] at q;exact congrArg (λl:List ArR=>l.reverse.toArray) q
theorem HF{lo hi st:Option Expr}{p:Pos}(o i:ArR):∃vs,Azx (.Slice lo hi st p) false o i=Ayk vs (Ay1 o i):=by
 induction st<;>exact⟨_,rfl⟩
inductive Fs(C:Cx)(X:CX)(n:Nat)(b:Bool)(sc:Asv):Cd->Option Expr->Prop
 |AR:Fs C X n b sc (CA .AR) none
 |some {c e}:SE C X n b sc c e->Fs C X n b sc c (some e)
section
variable{X:CX}{n:Nat}{b:Bool}{sc:Asv}
theorem Sp.part(h:Fs C X n b sc c o)(f:BQ n b A)(I:Inv C W σ s)(e:AD C A W sc E env):
  Sp C A σ W s (valueOrNone<|evalOpt o env) (λk ke=>c X E σ k ke) (RV C):=by
 induction h with
 |AR=>exact .pure (m:=λk ke=>CA .AR X E σ k ke) I (λz z h=>h) VR.AR
 |some h=>exact h A σ W s E env f I e
end
section
variable{A:Ar4}{σ:St}{W:Wd}{s:ArT}
theorem aW{n d:Nat}{i:Int}(h0:0≤i):clip n d (some i)=bt (C7 i n) i.toNat n:=by
 show bt (C7 i 0) _ _=_;cases e:C7 i 0 with
 |true=>exact absurd (Bt e) (Awg.mpr h0)
 |false=>rfl
theorem Mt{p v d:Nat}(n:Nat):clip (p+v) d (some<|(p:Int)+n)=p+min n v:=by
 rw[aW (Int.add_nonneg (AtG p)<|AtG n)];refine Df (P:=λc=>c=p+min n v) (λq=>?_) (λq=>?_)
 ·rw[Axx (by have:=Bt q;lia)];rfl
 ·rw[Axy (by have:=Bz q;lia)]
theorem KS{α:Type}(p v:List α)(n:Nat):cut (p++v) (some<|(p.length:Int)+n) none=v.drop n:=by
 show((p++v).drop<|clip (p++v).length 0<|some<|(p.length:Int)+n).take ((p++v).length-clip (p++v).length 0 (some<|(p.length:Int)+n))=v.drop n;rw[AsT (Axm AwQ),Ar1,Mt,List.drop_length_add_append];rcases Nat.le_total n v.length with h |h
 ·rw[Axx h]
 ·rw[Axy h,As9 h,List.drop_length]
theorem KV{α:Type}(p v:List α)(n:Nat):cut (p++v) none (some<|(p.length:Int)+n)=p++v.take n:=by
 show((p++v).drop 0).take (clip (p++v).length (p++v).length (some<|(p.length:Int)+n)-0)=p++v.take n;rw[AwD,Nat.sub_zero,Ar1,Mt,List.take_length_add_append];rcases Nat.le_total n v.length with h |h
 ·rw[Axx h]
 ·rw[Axy h,AsT h,Aw3]
theorem Inv.dG(I:Inv C W σ s){l:List AV}{q:Nat}(hq:Fj W (some q))(v:Ae C W s.heap l vs)(t:Nat):
  Inv C (W.more (s.heap.objs.size,s.heap.objs.size)) (σ.new (.list (some q) l none)) {s with heap:=s.heap.push {cls:=.type "list",data:=.seq (W.ls q++vs).toArray},toks:=t}∧
  Ext σ W s (σ.new (.list (some q) l none)) (W.more (s.heap.objs.size,s.heap.objs.size)) {s with heap:=s.heap.push {cls:=.type "list",data:=.seq (W.ls q++vs).toArray},toks:=t}:=by
 have g:(s.heap.push {cls:=.type "list",data:=.seq (W.ls q++vs).toArray}).get? s.heap.objs.size=some {cls:=.type "list",data:=.seq (W.ls q++vs).toArray}:=Ar9 _ rfl;refine I.make (s':={s with heap:=s.heap.push {cls:=.type "list",data:=.seq (W.ls q++vs).toArray},toks:=t}) (p:=(s.heap.objs.size,s.heap.objs.size)) (λz z h=>ArW _ h) (Ag _) (Ag _) (λS=>?_) ⟨_,g,.HY rfl⟩ ⟨_,g,.HY rfl⟩ rfl rfl;obtain⟨c1,c2⟩:=B7 S hq;exact⟨vs,rfl,v.keep S.ρ S.τ S.q S.Af,c1▸⟨_,g,rfl,_,congrArg (λl:List ArR=>Data.seq l.toArray 0) (Ar7 _).symm⟩,c2,trivial,_,g,rfl,rfl⟩
structure Dq(C:Cx)(A:Ar4)(s:ArT)(co:ArR)(sl:Ar0)(k:K AV)(σ:St)(W:Wd):Prop where
 ty:∃T id,s.TypeIs co T∧AzF (.type T) "__getitem__"=pure (some (.builtin id))
 go:∀ke:K AV,Ar5 (model C.prog C.w) A (Ay1 co<|.ref sl) (Ah C k σ W s<|RV C) (Ac C ke σ W s) s
theorem Dq.back{k:K AV}(n:Bg C W s σ σ1)(g:Dq C A s co sl k σ1 W):Dq C A s co sl k σ W:=
 ⟨g.ty,λke=>ArY (g.go ke) (λz z q=>q.base n.ext) (λz z q=>q.base n.ext)⟩
theorem le6{n m:Nat}(h:n≤1000000)(k:m≤4000):n+m≤AtY:=AtH (Axa h k) (by rw[Ast];decide)
theorem a9(I:Inv C W σ s){l:List AV}{vs:List ArR}{a:Ar0}{lo hi:AV}{cl ch:ArR}{sl:Ar0}(ht:IsT W s.heap a vs.toArray)(v:Ae C W s.heap l vs)(J6:VR C W s.heap lo cl)(SG:VR C W s.heap hi ch)(hs:s.heap.IsSliceOf sl cl ch .none){k:K AV}
  (h:(I6 lo σ λa σ=>I6 hi σ λb σ=>both (fits l) (B6 (cut l a b) σ k))=true):Dq C A s (.ref a) sl k σ W:=by
 obtain⟨pa,σ1,n1,ha,h⟩:=E7 I J6 h;obtain⟨pb,σ2,n2,hb,h⟩:=E7 n1.1 SG h;have hc:=v.cut pa pb;exact⟨⟨"tuple",_,ht.Af.typeIs,PySem.F.slot_tuple_getitem.lookup⟩,λke=>F4 ht.Af hs ha hb (λe=>LW (n1.trans n2) ((show cut vs pa pb=vs from e).symm▸ht) hc (br h)) (H2 (n1.trans n2) hc s.toks (br h)).2 (v.fit (bl h))⟩
theorem aZ(I:Inv C W σ s){l:List UInt8}{t:Tok}{lo hi:AV}{cl ch:ArR}{sl:Ar0}(J6:VR C W s.heap lo cl)(SG:VR C W s.heap hi ch)(hs:s.heap.IsSliceOf sl cl ch .none){k:K AV}
  (h:(I6 lo σ λa σ=>I6 hi σ λb σ=>both (fits l) (k (.BG<|cut l a b) σ))=true):Dq C A s (.bytes l.toArray t) sl k σ W:=by
 obtain⟨pa,σ1,n1,ha,h⟩:=E7 I J6 h;obtain⟨pb,σ2,n2,hb,h⟩:=E7 n1.1 SG h;exact⟨⟨"bytes",_,AzE s _ _,FB.slot_bytes_getitem.lookup⟩,λke=>F3 hs ha hb (λe=>(n1.trans n2).post (R:=RV C) (br h) ((show cut l pa pb=l from e).symm▸ .BG)) ((n1.trans n2).Bc (R:=RV C) (br h) .BG) (Li (Bn (bl h)))⟩
theorem a8(I:Inv C W σ s){j:Nat}(hj:W.τ[j]?=some p){lo hi:AV}{sl:Ar0}(J6:VR C W s.heap lo cl)(SG:VR C W s.heap hi ch)(hs:s.heap.IsSliceOf sl cl ch .none){k:K AV}(h:uA j lo hi σ k=true):Dq C A s (.ref p.1) sl k σ W:=by
 refine I.A7 hj h (λl vs h z b=>?_) λh=>I.Fc hj h (λq l vs h z b=>?_) ff
 ·obtain⟨pa,σ1,n1,ha,h⟩:=E7 I J6 h;obtain⟨pb,σ2,n2,hb,h⟩:=E7 n1.1 SG h;exact⟨⟨"list",_,b.il.typeIs,PySem.F.slot_list_getitem.lookup⟩,λke=>Aug b.il hs ha hb .none nofun (by rw[Dx];exact(DF (n1.trans n2) (b.v.cut pa pb) s.toks (br h)).2) (b.v.fit (bl h))⟩
 ·have il:=b.pre;have fit:=AtH (Axm (Ar1 ..)) (le6 (DE I b.k1 (br (bl h))) (b.v.length▸Bn (bl (bl h))));obtain⟨lo',σ1,n1,vS,_,h⟩:=Aw I J6 (br h);obtain⟨cH,σ2,n2,vO,_,h⟩:=Aw n1.1 SG h;have ty:∃T id,s.TypeIs (.ref p.1) T∧AzF (.type T) "__getitem__"=pure (some (.builtin id)):=⟨"list",_,il.typeIs,PySem.F.slot_list_getitem.lookup⟩;refine VR.cInt (P:=λcl=>s.heap.IsSliceOf sl cl ch .none->Dq C A s (.ref p.1) sl k σ W) vS h (λx i t h hx hs=>VR.Bo (P:=λch=>s.heap.IsSliceOf sl (.int i t) ch .none->Dq C A s (.ref p.1) sl k σ W) vO h (λh hs=>?_) ff hs)
   (λh=>VR.Bo (P:=λcl=>s.heap.IsSliceOf sl cl ch .none->Dq C A s (.ref p.1) sl k σ W) vS h (λh hs=>VR.cInt (P:=λch=>s.heap.IsSliceOf sl .none ch .none->Dq C A s (.ref p.1) sl k σ W) vO h (λx i t h hx hs=>?_) ff hs) ff) hs
  ·refine O3 b.k1 hx h (λm e h=>⟨ty,λke=>Aug il hs (.int _ _) .none .none nofun ?_ fit⟩) ff;rw[Dx,e,KS];exact(DF (n1.trans n2) (b.v.drop m) s.toks h).2
  ·refine O3 b.k1 hx h (λm e h=>⟨ty,λke=>Aug il hs .none (.int _ _) .none nofun ?_ fit⟩) ff;rw[Dx,e,KV];exact(n2.1.dG (q:=q) b.k1 (b.v.take m) s.toks).elim λJ X=>⟨_,_,_,h,(n1.trans n2).ext.trans X,J,.obj<|St.A5 n2.1 (s.heap.objs.size,s.heap.objs.size)⟩
theorem bA(I:Inv C W σ s){lo hi:AV}{sl:Ar0}(ho:VR C W s.heap o co)(J6:VR C W s.heap lo cl)(SG:VR C W s.heap hi ch)(hs:s.heap.IsSliceOf sl cl ch .none){k:K AV}(h:uB o lo hi σ k=true):
  Dq C A s co sl k σ W:=
 VR.AU (P:=λco=>Dq C A s co sl k σ W) ho h (λl vs a h ht v=>a9 I ht v J6 SG hs h) λh=>VR.CS (P:=λco=>Dq C A s co sl k σ W) ho h (λl t h=>aZ I J6 SG hs h) λh=>VR.Ay (P:=λco=>Dq C A s co sl k σ W) ho h (λj p h hj=>a8 I hj J6 SG hs h) ff
end
section
variable{A:Ar4}{σ:St}{W:Wd}{s:ArT}
theorem c4(hv:VR C W s.heap v cv)(h:wA v=true):∃t,cv= .int (-1) t:=
 VR.cInt (P:=λcv=>∃t,cv= .int (-1) t) hv h (λx i t h hx=>BZ h (λe h=>⟨t,by rw[Ad.Du e hx,Bj h]⟩) ff) ff
theorem eI(I:Inv C W σ s){sl:Ar0}(ho:VR C W s.heap o co)(hs:s.heap.IsSliceOf sl .none .none (.int (-1) t)){k:K AV}(h:z6 o σ k=true):Dq C A s co sl k σ W:=
 VR.Ay (P:=λco=>Dq C A s co sl k σ W) ho h (λj p h hj=>I.A7 hj h (λl vs h zz b=>by
  obtain⟨f,z⟩:=DF (.refl I) b.v.rev s.toks h;rw[AwR,←b.v.length] at f;exact⟨⟨"list",_,b.il.typeIs,PySem.F.slot_list_getitem.lookup⟩,λke=>Aug b.il hs .none .none (.int _ _) nofun (by rw[JK];exact z) (Li f)⟩) ff) ff
theorem VC(I:Inv C W σ s){lo hi st:AV}{sl:Ar0}(ho:VR C W s.heap o co)(J6:VR C W s.heap lo cl)(SG:VR C W s.heap hi ch)(hst:VR C W s.heap st ck)(hs:s.heap.IsSliceOf sl cl ch ck){k:K AV}(h:QD o lo hi st σ k=true):
  Dq C A s co sl k σ W:=by
 obtain⟨o',σ1,n1,Ho,_,h⟩:=Aw I ho h;refine Dq.back n1<|VR.Bo (P:=λck=>s.heap.IsSliceOf sl cl ch ck->Dq C A s co sl k σ1 W) hst h (λh hs=>bA n1.1 Ho J6 SG hs h) (λh hs=>?_) hs;obtain⟨t,rfl⟩:=c4 hst (bl h);exact VR.Bo (P:=λcl=>s.heap.IsSliceOf sl cl ch (.int (-1) t)->Dq C A s co sl k σ1 W) J6 (br h) (λh hs=>VR.Bo (P:=λch=>s.heap.IsSliceOf sl .none ch (.int (-1) t)->Dq C A s co sl k σ1 W) SG h (λh hs=>eI n1.1 Ho hs h) ff hs) ff hs
end
section
variable{X:CX}{n:Nat}{b:Bool}{sc:Asv}
theorem SE.slc{lo hi st:Option Expr}{p pos:Pos}(hx:SE C X n b sc x value)(ha:Fs C X n b sc ca lo)(hb:Fs C X n b sc cb hi)(hc:Fs C X n b sc cc st):
  SE C X n b sc (Aag x ca cb cc) (.Subscript value (.Slice lo hi st p) pos):=λA σ W s E env f I e=>by
 rw[arm_eval_Subscript];refine Sp.bind (m:=λk ke=>x X E σ k ke) (g:=λo σ k ke=>ca X E σ (λa σ=>cb X E σ (λb σ=>cc X E σ (λc σ=>QD o a b c σ k) ke) ke) ke) (hx A σ W s E env f I e) λo co σ1 W1 s1 X1 I1 r1=>?_
 refine Sp.bind (m:=λ(k:K (AV×AV×AV)) ke=>ca X E σ1 (λa σ=>cb X E σ (λb σ=>cc X E σ (λc σ=>k (a,b,c) σ) ke) ke) ke) (g:=λq σ k ke=>QD o q.1 q.2.1 q.2.2 σ k)
  (R:=λW h q i=>∃sl vl vu vk,i= .ref sl∧h.IsSliceOf sl vl vu vk∧VR C W h q.1 vl∧VR C W h q.2.1 vu∧VR C W h q.2.2 vk) (Sp.holding ?_) λq i σ2 W2 s2 X2 I2 r2=>?_
 ·rw[arm_eval_Slice];refine Sp.bind (m:=λk ke=>ca X E σ1 k ke) (g:=λa σ (k:K (AV×AV×AV)) ke=>cb X E σ (λb σ=>cc X E σ (λc σ=>k (a,b,c) σ) ke) ke) (Sp.part ha f I1<|e.up X1.up) λa va σ2 W2 s2 X2 I2 r2=>?_
  refine Sp.bind (m:=λk ke=>cb X E σ2 k ke) (g:=λb σ (k:K (AV×AV×AV)) ke=>cc X E σ (λc σ=>k (a,b,c) σ) ke) (Sp.holding<|Sp.part hb f I2<|e.up (X1.trans X2).up) λb' vb σ3 W3 s3 X3 I3 r3=>?_
  refine Sp.bind (m:=λk ke=>cc X E σ3 k ke) (g:=λc σ (k:K (AV×AV×AV)) ke=>k (a,b',c) σ) (Sp.holding<|Sp.part hc f I3<|e.up ((X1.trans X2).trans X3).up) λc vc σ4 W4 s4 X4 I4 r4=>?_
  intro k ke h;refine hide λAx Aa=>?_
  obtain⟨J,Y⟩:=I4.push {cls:=.type "slice",data:=.fields #[va,vb,vc]} s4.toks;refine Aa ?_;have ra:=J.vr (.refl _ _ _) (I4.vr Y (I3.vr X4 (I2.vr X3 r2)));refine AsF ⟨(a,b',c),σ4,W4,h,Y,J,s4.heap.objs.size,va,vb,vc,rfl,Heap.IsSliceOf.new ..,ra,I4.vr Y (I3.vr X4 r3),I4.vr Y r4⟩ (by size_fits)
 ·refine hide λAx Aa=>?_
  obtain⟨sl,vl,vu,vk,rfl,hs,hl,hu,hk⟩:=r2;refine Aa ?_;refine Sp.standAt λk ke h=>?_
  refine hide λAx Aa=>?_
  obtain⟨⟨T,id,hT,ht⟩,go⟩:=VC (A:=A) I2 (I1.vr X2 r1) hl hu hk hs h;obtain⟨vs,hv⟩:=HF (lo:=lo) (hi:=hi) (st:=st) (p:=p) co (.ref sl);refine Aa ?_;exact NW hT ht hv (go ke)
end
section
open Builtin Builtin.ObjectAttr
noncomputable def V1(v:ArR):Bool:=match v with | .ref _=>true |_=>false
theorem O5(h:V1 v=true):∃c,v= .ref c:=by
 induction v with
 |ref c=>exact⟨c,rfl⟩
 |_=>exact ff h
noncomputable def GL(l:List ArR):Bool:= @List.rec ArR (λz=>Bool) false (λv r ih=>bt (V1 v) ih (v::r== [.type "Exception",.type "BaseException",.type "object"])) l
theorem Fz{P:List ArR->Prop}(h0:P [.type "Exception",.type "BaseException",.type "object"])(h1:∀c r,P r->P (.ref c::r)){l:List ArR}(h:GL l=true):P l:=by
 induction l with
 |nil=>exact ff h
 |cons v r ih=>exact B9 h (λe h=>(O5 e).elim λc e=>e▸h1 c r (ih h)) λz h=>AyV h▸h0
structure B8(K:Atw)(Cl:Ar0)(nm:Str):Prop where
 hd:Ay3 K Cl=true
 free:AuU K (.ref Cl) nm=some none
 ga:AuU K (.ref Cl) "__getattribute__"=some (some (.builtin "BaseException.__getattribute__"))
 hook:AuU K (.ref Cl) "__getattr__"=some none
 set:AuU K (.ref Cl) "__setattr__"=some (some (.builtin "object.__setattr__"))
 mro:(clsIn K Cl).any (λcd=>GL cd.mro)=true
 Zw:takerIn K Cl nm=some none
theorem JC(self:ArR){l:List ArR}:GL l=true->refuseLoop self "__setattr__" l=pure ():=
 Fz (P:=λl=>refuseLoop self "__setattr__" l=pure ()) (PySem.F.store_Exception.passes self) λc r h=>(refuseLoop_ref ..).trans h
theorem OK{l:List ArR}:GL l=true->l.contains (.type "object")=true∧l.contains (.type "BaseException")=true:=
 Fz (P:=λl=>l.contains (.type "object")=true∧l.contains (.type "BaseException")=true) ⟨by decide,by decide⟩ λc r h=>by rw[AtZ,AtZ,h.1,h.2];exact⟨Avc _,Avc _⟩
theorem J0{l:List ArR}:GL l=true->l.isEmpty=false:=Fz (P:=λl=>l.isEmpty=false) rfl λz z z=>rfl
theorem Uu:builtinKind "BaseException.__getattribute__"=some .slot:=by decide +kernel
theorem Sd:splitId "BaseException.__getattribute__"=some ("BaseException","__getattribute__"):=by decide +kernel
theorem Sb:plainId "BaseException.__getattribute__"=true:=by decide +kernel
theorem Sa:entryFor table "BaseException.__getattribute__"=some Builtin.«object.__getattribute__» :=
 entryFor_alias (id':="object.__getattribute__") (by kernel_rfl) (by first |rfl |decide +kernel |(unfold String.splitOn;simp +decide [String.splitOnAux])) (by decide +kernel) (by kernel_rfl)
theorem Us(a b:ArR):argsOk "BaseException.__getattribute__" ⟨[a,b],[]⟩:=by unfold argsOk;kernel_rfl
theorem Ut(self:ArR):bindSpecial (.builtin "BaseException.__getattribute__") self=pure (.builtin "BaseException.__getattribute__",[self]):=by kernel_rfl
theorem Xp{name:Str}{k:Int}{t:Nat}{v:ArR}{es:List Ass}(hz:es.length≤1000):(putL name k (.str name t) v es).toArray.size≤AtY+1:=by rw[Asg,Dj,Ast];split<;>lia
section
variable{prog:AsR}{w:ArV}{A:Ar4}{E:ArR->ArT->Prop}{s:ArT}{K:Atw}{x Cl:Ar0}{ox:Obj}{od:Option Obj}{nm:Str}
theorem Iw{M:Auw}{h:Asb}(D:B8 K Cl nm)(X:K.In h)(I:InstAt h x ox Cl od):AtV M h (AuL (.ref x) (.type "BaseException")) true∧AtV M h (AuL (.ref x) (.type "object")) true:=by
 refine hide λAx Aa=>?_
 obtain⟨cd,hc,hm⟩:=AyC D.mro;obtain⟨a,b⟩:=OK hm;refine Aa ?_;exact⟨I.type.andThen<|looks_mroIn X (by unfold mroIn;rw[hc,AxT,if_neg (by rw[J0 hm];decide),b]),
  I.type.andThen (looks_mroIn X (by unfold mroIn;rw[hc,AxT,if_neg (by rw[J0 hm];decide),a]))⟩
theorem bK{v:ArR}{expr:Bool}{Q:ArR->ArT->Prop}(D:B8 K Cl nm)(X:K.In s.heap)(I:InstAt s.heap x ox Cl od)(hf:findObj K Cl od nm=some (.value v))(hh:Ay2 v=true)
  (h:Q v {s with toks:=s.toks+1}):Ar5 (model prog w) A (getAttr (.ref x) nm expr) Q E s:=by
 obtain⟨hh',g,d,t,os⟩:=s;have L0:=I.type (M:=model prog w);have L1:=Azb (M:=model prog w) X D.ga;have LH:AtV (model prog w) hh' (hookBefore (.ref Cl)) none:=looks_hook X D.hook;have LF:=looks_find (M:=model prog w) X I hf;have LB:=(Iw (M:=model prog w) D X I).1;unfold getAttr getAttrBy;refine Ql (Aso (ArQ (L0.at (ArQ (L1.at ?_)))));show Ar5 _ _ (getAttrByItsOwn _ _ _ _ _ _) _ _ _;unfold getAttrByItsOwn;refine ArQ (LH.at (ArQ ?_));refine AuB (Aso ?_);unfold callGetattribute;rw[show(expr&&onTheHeap (.builtin "BaseException.__getattribute__"))=false from by induction expr<;>rfl,if_neg (by decide)];unfold boundAndCalled;rw[Ut];refine AA ?_;show Ar5 _ _ (call (.builtin "BaseException.__getattribute__") [.ref x,.str nm t]) _ _ _;refine AzK (AyO Sb Sa ?_);refine @check_slot (model prog w) _ _ ⟨hh',g,d,t+1,os⟩ "BaseException.__getattribute__" "BaseException" "__getattribute__" (.ref x) [.str nm t] [] _ Uu Sd LB (Us (.ref x) (.str nm t)) ?_;unfold Builtin.«object.__getattribute__»;refine AA (AA (ArQ (L0.at (ArQ (LF.at ?_)))));refine ArS ?_;show Ar5 _ _ (handedOut v) _ _ _;rw[handedOut_of hh];exact ArS h
theorem bL{name:Str}{tk:Tok}{v:ArR}{R:Auh->ArT->Prop}(D:B8 K Cl name)(X:K.In s.heap)(I:InstAt s.heap x ox Cl od)
  (h:∀b,Ar5 (model prog w) A.in1 (storeInOwnDict (.ref x) (.ref Cl) (.str name tk) name v b)
   (λfin s'=>match fin with | .done f=>R (.ok f) s' | .again c'=>c'.quiet=true∧Asu (model prog w) A c' R s') (λe s'=>R (.error e) s') s):
  Asu (model prog w) A (.call (.builtin "object.__setattr__") ⟨[.ref x,.str name tk,v],[]⟩) R s:=by
 have SF:=PySem.F.store_object;obtain⟨cd,hc,hm⟩:=AyC D.mro;refine AyO SF.slot.plain SF.entry (@check_slot (model prog w) _ _ s "object.__setattr__" "object" "__setattr__" (.ref x) [.str name tk,v] [] _ SF.kind SF.split (Iw D X I).2 (SF.args (.ref x) (.str name tk) v) ?_);obtain⟨attr,ha,hr⟩:=AxS.mp D.Zw;have Lm:AtV (model prog w) s.heap (mroOf (.ref Cl)) cd.mro:=(Aza X hc).andThen .now;have L3:AtV (model prog w) s.heap (storeTaker? attr) none:=by
  induction attr with
  |none=>exact .now
  |some a=>
   obtain⟨b,hb,hr⟩:=AtW.mp hr;refine(looks_takesIn X hb).andThen ?_
   induction b with
   |false=>exact .now
   |true=>cases hr
 rw[osa_eq,refuse_eq];refine ArQ<|ArQ<|I.type.here<|ArQ<|Lm.here ?_;refine(JC _ hm).symm▸?_;refine ArS<|ArQ<|I.type.here<|ArQ<|(Azb X ha).here<|ArQ<|L3.here ?_;exact h _
theorem QA{name:Str}{v:ArR}{Q:Unit->ArT->Prop}(D:B8 K Cl name)(X:K.In s.heap)(I:InstAt s.heap x ox Cl od)
  (h:∀b,Ar5 (model prog w) A.in1 (storeInOwnDict (.ref x) (.ref Cl) (.str name s.toks) name v b)
   (λfin s'=>match fin with | .done (.ret _)=>Q () s' | .done _=>False | .again c'=>False) E {s with toks:=s.toks+1}):
  Ar5 (model prog w) A (Azq (.ref x) name v) Q E s:=by
 refine set_plain X I D.set (bL (s:={s with toks:=s.toks+1}) D X I λb=>?_);refine ArY (h b) (λfin s' q=>?_) λz z q=>q
 rcases fin with(_ |_ |_ |_)|_<;>first |exact q |exact q.elim
theorem SV{h:Asb}{Cl:Ar0}{fs:Array ArR}{sl:Array (Option ArR)}(ho:h.get? x=some ⟨.ref Cl,none,.fields fs,sl⟩):InstAt h x ⟨.ref Cl,none,.fields fs,sl⟩ Cl none:=⟨ho,rfl,rfl,trivial⟩
theorem HM{name:Str}{k:Int}{v:ArR}{es:List Ass}{n:Nat}{sl:Array (Option ArR)}:(AsL name k (.str name t) v ⟨.type "dict",none,.dict es.toArray n,sl⟩).isFreed=false:=by rw[Bw];rfl
theorem Sw{fs:Array ArR}{sl:Array (Option ArR)}{name:Str}{v:ArR}{Q:Unit->ArT->Prop}(D:B8 K Cl name)(X:K.In s.heap)(ho:s.heap.get? x=some ⟨.ref Cl,none,.fields fs,sl⟩)
  (h:∀h' n,h'.get? x=some ⟨.ref Cl,some s.heap.objs.size,.fields fs,sl⟩->h'.get? s.heap.objs.size=some ⟨.type "dict",none,.dict #[⟨Asi w.params name,.str name (s.toks+1),v⟩] n,#[]⟩->(∀b o,b≠x->s.heap.get? b=some o->h'.get? b=some o)->Q () {s with heap:=h',toks:=s.toks+2}):
  Ar5 (model prog w) A (Azq (.ref x) name v) Q E s:=by
 refine QA D X (SV ho) λb=>?_
 obtain⟨cd,hc,K7⟩:=AyC (show(clsIn K Cl).any (·.hasDict)=true from D.hd);have hx₁:(s.heap.push {cls:=.type "dict",data:=.dict #[]}).get? x=some ⟨.ref Cl,none,.fields fs,sl⟩:=ArW _ ho;have hxs:=AtI (As2 ho);unfold storeInOwnDict;refine AA (ArQ (ArQ (AuI (s:={s with toks:=s.toks+1}) ho (ArQ ((Aza X hc).here (s:={s with toks:=s.toks+1}) ?_)))));rw[K7,if_neg (by decide)];show Ar5 _ _ (if(!true|| !typeHasDict _)=true then _ else _) _ _ _;refine GQ (by simp[typeHasDict]) ?_;refine ArQ (AzI (ArQ (wpAny_update (s:={s with heap:=s.heap.push {cls:=.type "dict",data:=.dict #[]},toks:=s.toks+1}) hx₁ ?_)));generalize hm:(s.heap.push {cls:=.type "dict",data:=.dict #[]}).update x (λo=>{cls:=o.cls,dict:=some s.heap.objs.size,data:=o.data,slots:=o.slots})=h₁;have hgd:h₁.get? s.heap.objs.size=some ⟨.type "dict",none,.dict ([]:List Ass).toArray 0,#[]⟩:=hm▸(Asj _ _ hxs).trans (Ar9 _ rfl);have hgx:h₁.get? x=some ⟨.ref Cl,some s.heap.objs.size,.fields fs,sl⟩:=hm▸Asa _ hx₁ rfl;have hgo:∀b o,b≠x->s.heap.get? b=some o->h₁.get? b=some o:=λb o hb e=>hm▸(Asj _ _ (AuD hb)).trans (ArW _ e)
 refine ArS (a:=some s.heap.objs.size) ?_;unfold storeInDict newKeyGuard;refine AA<|ArQ<|IZ (s:={s with heap:=h₁,toks:=s.toks+1}) hgd (λe he=>nomatch he) ?_;have gd:=Asa _ hgd (HM (name:=name) (k:=Asi w.params name) (t:=s.toks+1) (v:=v));rw[Bw] at gd;refine ArQ (AzR gd (Azh (by simp[putL,Ast]))<|ArS (h _ _ ?_ gd λb o hb e=>?_))
 ·exact(Asj _ _<|AuD hxs).trans hgx
 ·exact(Asj _ _<|AtJ<|As2 e).trans (hgo b o hb e)
theorem Vo{fs:Array ArR}{sl CK:Array (Option ArR)}{dx:Ar0}{es:List Ass}{n:Nat}{name:Str}{v:ArR}{Q:Unit->ArT->Prop}(D:B8 K Cl name)(X:K.In s.heap)(ho:s.heap.get? x=some ⟨.ref Cl,some dx,.fields fs,sl⟩)
  (cE:s.heap.get? dx=some ⟨.type "dict",none,.dict es.toArray n,CK⟩)(hk:∀e∈es,∃n t,e.key= .str n t)(hz:es.length≤1000)
  (h:Q () {s with heap:=s.heap.update dx (AsL name (Asi w.params name) (.str name<|s.toks+1) v),toks:=s.toks+2}):
  Ar5 (model prog w) A (Azq (.ref x) name v) Q E s:=by
 refine QA D X (od:=some ⟨.type "dict",none,.dict es.toArray n,CK⟩) ⟨ho,rfl,rfl,cE⟩ λb=>?_
 obtain⟨cd,hc,K7⟩:=AyC (show(clsIn K Cl).any (·.hasDict)=true from D.hd);unfold storeInOwnDict;refine AA<|ArQ<|ArQ<|AuI (s:={s with toks:=s.toks+1}) ho<|ArQ<|(Aza X hc).here (s:={s with toks:=s.toks+1}) ?_;rw[K7,if_neg (by decide)];refine ArS (a:=some dx) ?_;unfold storeInDict newKeyGuard;refine AA<|ArQ<|IZ (s:={s with toks:=s.toks+1}) cE hk ?_;have gd:=Asa _ cE (HM (name:=name) (k:=Asi w.params name) (t:=s.toks+1) (v:=v));rw[Bw] at gd;refine ArQ (AzR gd (Azh<|Xp hz)<|ArS h)
end
end
structure Fn(K:Atw)(Cl:Ar0)(nm:Str):Prop where
 get:plainGet K Cl nm=true
 hd:Ay3 K Cl=true
 free:AuU K (.ref Cl) nm=some none
 set:AuU K (.ref Cl) "__setattr__"=some (some (.builtin "object.__setattr__"))
 over:plainOver K Cl=true
 Zw:takerIn K Cl nm=some none
structure MethAt(K:Atw)(Cl f:Ar0)(nm:Str):Prop where
 get:plainGet K Cl nm=true
 hd:Ay3 K Cl=true
 at_:AuU K (.ref Cl) nm=some (some<|.ref f)
 fn:typeIn K (.ref f)=some (.type "function")
 gf:specialIn K (.ref f) "__get__"=some (some (.builtin "function.__get__"))
 tk:takesIn K (.ref f)=some false
 cp:copiedNames.contains nm=false
structure CN(C:Cx)(T:Tab):Prop where
 Ea:∀Cl x nm,T.attr Cl x=some .Ea->A9 x=some nm->∃K:Atw,K.In C.h1∧B8 K Cl nm
 FF:∀Cl x nm f,T.attr Cl x=some (.FF f)->A9 x=some nm->∃K:Atw,K.In C.h1∧MethAt K Cl f nm
 data:∀Cl x nm,T.attr Cl x=some .data->A9 x=some nm->∃K:Atw,K.In C.h1∧Fn K Cl nm
theorem ED{es:Array Ass}{n:Nat}{sl:Array (Option ArR)}{nm:Str}(hk:StrKeys es)(h:Auc es nm=none):Ay9 nm ⟨.type "dict",none,.dict es n,sl⟩=some none:=by
 unfold Auc AyY at h;unfold Ay9;dsimp only;rw[←AwG,Au7];have q:=Option.map_eq_none_iff.mp h;refine q.symm▸?_;refine if_neg λhr=>?_
 obtain⟨e,he,hq⟩:=Aum.mp hr;obtain⟨m,t,hm⟩:=hk e (Array.mem_toList_iff.mp he);unfold Avs at hq;rw[hm] at hq;exact ff hq
theorem EC{es:Array Ass}{n:Nat}{sl:Array (Option ArR)}{nm:Str}(h:Auc es nm=some cv):Ay9 nm ⟨.type "dict",none,.dict es n,sl⟩=some (some cv):=by unfold Auc AyY at h;unfold Ay9;dsimp only;rw[←AwG,Au7];obtain⟨e,q,rfl⟩:=AtW.mp h;rw[q]
theorem EP{h:Asb}{p:Ar0×Ar0}{Cl:Ar0}{sl:Array (Option ArR)}(ho:h.get? p.1=some ⟨.ref Cl,some p.2,.plain,sl⟩){es n CK}(nX:h.get? p.2=some ⟨.type "dict",none,.dict es n,CK⟩):
  InstAt h p.1 ⟨.ref Cl,some p.2,.plain,sl⟩ Cl (some ⟨.type "dict",none,.dict es n,CK⟩):=⟨ho,rfl,rfl,nX⟩
theorem SR{h:Asb}{a:Ar0}{Cl:Ar0}{fs:Array ArR}{sl:Array (Option ArR)}(ho:h.get? a=some ⟨.ref Cl,some d,.fields fs,sl⟩){es n CK}(nX:h.get? d=some ⟨.type "dict",none,.dict es n,CK⟩):
  InstAt h a ⟨.ref Cl,some d,.fields fs,sl⟩ Cl (some ⟨.type "dict",none,.dict es n,CK⟩):=⟨ho,rfl,rfl,nX⟩
section
variable{A:Ar4}{σ:St}{W:Wd}{s:ArT}{T:Tab}
theorem VD{K:Atw}{Cl:Ar0}{nm:Str}(D:Fn K Cl nm)(hK:K.In s.heap){ox:Obj}{a:Ar0}{es n sl}{cv:ArR}(I:InstAt s.heap a ox Cl (some ⟨.type "dict",none,.dict es n,sl⟩))(hf:Auc es nm=some cv)(hh:Ay2 cv=true)
  {expr:Bool}{Q:ArR->ArT->Prop}{E:ArR->ArT->Prop}(h:Q cv {s with toks:=s.toks+1}):Ar5 (model C.prog C.w) A (getAttr (.ref a) nm expr) Q E s:=
 get_value hK I (Azj D.get).1 (findObj_own D.hd D.free rfl (EC hf)) hh h
theorem SA{n:Nat}{l:List AV}{j:Nat}(h:LR true (λv z ih=>both (QG n v) ih) l=true)(e:l[j]?=some v):QG n v=true:=by
 induction l generalizing j with
 |nil=>cases e
 |cons a l ih=>induction j with
  |zero=>exact Ase e▸bl h
  |succ j=>exact ih (br h) e
theorem VH(hv:VR C W s.heap v cv)(h:gZ v=true):Ay2 cv=true:=by
 cases v with
 |AR |bool b=>exact VR.inv (P:=λcv=>Ay2 cv=true) hv rfl
 |int l=>exact VR.inv (P:=λcv=>Ay2 cv=true) hv λzz zz zz=>rfl
 |str z=>exact VR.inv (P:=λcv=>Ay2 cv=true) hv λzz zz zz=>rfl
 |BG b=>exact VR.inv (P:=λcv=>Ay2 cv=true) hv λzz=>rfl
 |Af l=>exact VR.inv (P:=λcv=>Ay2 cv=true) hv λzz zz zz zz=>rfl
 |obj i=>exact VR.inv (P:=λcv=>Ay2 cv=true) hv λzz zz=>rfl
 |Bd t=>
  refine VR.inv (P:=λcv=>Ay2 cv=true) hv ?_
  induction t with
  |builtin=>exact ff h
  |_=>rfl
 |sel a l=>exact ff h
 |any=>exact ff h
 |Ee q=>
  refine VR.inv (P:=λcv=>Ay2 cv=true) hv λcv zz o r=>?_
  obtain⟨_,_,u,t,e⟩:=o;rw[e] at r;exact VR.inv (P:=λcv=>Ay2 cv=true) r λzz zz zz zz=>rfl
theorem QH{n:Nat}(hv:VR C W s.heap v cv)(h:QG n v=true):Ay2 cv=true:=by
 induction n generalizing v cv with
 |zero=>exact ff h
 |succ n ih=>refine AV.YZ (Q:=λv=>VR C W s.heap v cv->Ay2 cv=true) h (λa l h r=>VR.inv (P:=λcv=>Ay2 cv=true) r ?_) (λz h z=>VH hv h) hv;intro j u cv _ b c;exact ih c (SA h b)
theorem Ej.noName{l:List (Nm×AV)}(N:Ej C W h l m){nm:Str}(hx:A9 x=some nm)(e:AW l x=none):m nm=none:=by
 cases q2:m nm with
 |none=>rfl |some cv=>obtain⟨y,v,a1,a2⟩:=N.2 nm cv q2;exact sn a2 (HW a1 hx▸e)
theorem Inv.keepIn(I:Inv C W σ s){K:Atw}(hK:K.In C.h1):K.In s.heap:=λa o e=>I.base a o (hK a o e)
theorem Inv.dead(I:Inv C W σ s)(o:Obj)(hf:o.isFreed=false)(t:Nat):
  Inv C (W.more (s.heap.objs.size,s.heap.objs.size)) (σ.new .dead) {s with heap:=s.heap.push o,toks:=t}∧Ext σ W s (σ.new .dead) (W.more (s.heap.objs.size,s.heap.objs.size)) {s with heap:=s.heap.push o,toks:=t}:=by
 have g:(s.heap.push o).get? s.heap.objs.size=some o:=Ar9 _ hf;exact I.make (s':={s with heap:=s.heap.push o,toks:=t}) (p:=(s.heap.objs.size,s.heap.objs.size)) (λz z h=>ArW _ h) (Ag _) (Ag _) (λS=>trivial) ⟨_,g,trivial⟩ ⟨_,g,trivial⟩ rfl rfl
theorem Sp.VA(AK:CN C T)(I:Inv C W σ s){nm:Str}(hx:A9 x=some nm)(ho:VR C W s.heap o co):Sp C A σ W s (getAttr co nm true) (λk z=>VA T o x σ k) (RV C):=λk ke h=>by
 refine hide λAx Aa=>?_
 obtain⟨o',σ1,n1,Ho,_,h⟩:=Aw I ho h;refine Aa ?_;have J:=n1.1;refine VR.Ay (P:=λco=>Ar5 (model C.prog C.w) A (getAttr co nm true) (Ah C k σ W s<|RV C) (Ac C ke σ W s) s) Ho h (λj p h hj=>J.Fh hj h (λCl l h z b=>?_) λh=>J.Jz hj h (λCl d h z b=>?_) ff) ff
 ·refine hide λAx Aa=>?_
  obtain⟨⟨sl,e1⟩,es,n,CK,he,hk,hz,hN⟩:=b;refine Aa ?_;refine B9 h (λht h=>Cp h λv hv h=>?_) λz h=>QP h λg ht h=>Pk (P:=λq=>AW l x=q->_) h (λh hn=>?_) ff rfl
  ·refine hide λAx Aa=>?_
   obtain⟨nm',cv,a1,a2,a3⟩:=hN.1 x v hv;refine Aa ?_;obtain rfl:=uniq hx a1;refine hide λAx Aa=>?_
   obtain⟨K,hK,D⟩:=AK.data _ _ _ (QM ht).1 hx;refine Aa ?_;exact VD D (I.keepIn hK) (EP e1 he) a2 (QH a3<|bl h) (n1.Bc (R:=RV C) (br h) a3)
  ·refine hide λAx Aa=>?_
   obtain⟨K,hK,D⟩:=AK.FF _ _ _ _ ht hx;refine Aa ?_;have hK':=I.keepIn hK;refine get_bind hK' (EP e1 he) (Azj D.get).1 (findObj_fn D.hd D.at_ D.gf D.tk D.cp<|ED hk<|hN.noName hx hn) (Azj D.get).2<|AzK<|fn_get (s:={s with toks:=s.toks+1}) hK' D.fn<|handed_on rfl ?_;exact(J.dead (methodObj (.ref g)<|.ref p.1) rfl (s.toks+1)).elim λJ2 X=>⟨.obj σ1.n,_,_,h,n1.ext.trans X,J2,.obj<|St.A5 J (s.heap.objs.size,s.heap.objs.size)⟩
 ·refine hide λAx Aa=>?_
  obtain⟨_,_,dd,fs,sl,TR,e1⟩:=b;obtain⟨ht,h⟩:=M4 h;refine Aa ?_;refine Cp h λq hq h=>?_
  rw[hq] at TR;refine hide λAx Aa=>?_
  obtain⟨r,hr,ed⟩:=TR;refine Aa ?_;refine J.fZ hr h (λl h z b=>Cp h λv hv h=>?_) ff;refine hide λAx Aa=>?_
  obtain⟨_,es,n,CK,he,hk,hz,hN⟩:=b;obtain⟨nm',cv,a1,a2,a3⟩:=hN.1 x v hv;refine Aa ?_;obtain rfl:=uniq hx a1;refine hide λAx Aa=>?_
  obtain⟨K,hK,D⟩:=AK.Ea _ _ _ ht hx;refine Aa ?_;rw[ed] at e1;exact bK D (I.keepIn hK) (SR e1 he) (findObj_own D.hd D.free rfl (EC a2)) (QH a3<|bl h) (n1.Bc (R:=RV C) (br h) a3)
end
noncomputable def WZ(f:Expr):Bool:=match f with | .Name id _=>id != "super" |_=>true
def Gg(e:Expr):Bool:=match e with | .Call f _ _ _=>WZ f |_=>true
theorem R6{es:List Expr}{kw:List Keyword}{p:Pos}(h:WZ f=true)(attr:Str)(env:Env)(whole:Sem ArR):attributeBase (.Call f es kw p) attr env whole=whole∨∃id q,f= .Name id q∧(id != ("super":Str))=true∧es= []∧kw= []:=by
 cases f with
 |Name id q=>induction es with
  |nil=>induction kw with
   |nil=>exact .inr ⟨id,q,rfl,h,rfl,rfl⟩
   |cons _ _=>exact .inl rfl
  |cons _ _=>exact .inl rfl
 |_=>exact .inl rfl
theorem Ie{A:Ar4}{M:Auw}{E:ArR->ArT->Prop}{s:ArT}(h:Gg o=true){attr:Str}{env:Env}{whole:Sem ArR}{Q:ArR->ArT->Prop}(q:Ar5 M A whole Q E s):Ar5 M A (attributeBase o attr env whole) Q E s:=by
 cases o with
 |Call f es kw p=>
  rcases R6 (p:=p) (es:=es) (kw:=kw) h attr env whole with e |⟨id,r,rfl,hi,rfl,rfl⟩
  ·refine e.symm▸?_;exact q
  ·show Ar5 M A (if(id != ("super":Str)||attr==("__class__":Str)||_||_)=true then whole else _) Q E s;refine hi.symm▸?_;exact q
 |_=>exact q
section
variable{X:CX}{n:Nat}{b:Bool}{sc:Asv}
theorem SE.attr(AK:CN C X.T){nm:Str}{pos}(hy:A9 y=some nm)(hn:Gg value=true)(hx:SE C X n b sc x value):SE C X n b sc (fV x y) (.Attribute value nm pos):=λA σ W s E env f I e=>by
 rw[arm_eval_Attribute];refine Sp.bind (m:=λk ke=>x X E σ k ke) (g:=λo σ k ke=>Mine.Internal.VA X.T o y σ k) (λk ke h=>Ie hn (hx A σ W s E env f I e k ke h)) λa ca σ1 W1 s1 X1 I1 r1=>?_
 refine Sp.standAt λk ke h=>?_
 refine Dz (Az (Sp.VA AK I1 hy r1 k ke h) (λr s2 q=>?_) λz z q=>q);exact ArQ (wpAny_letTemporaryGo<|ArS q)
end
section
variable{prog:AsR}{w:ArV}{A:Ar4}{E:ArR->ArT->Prop}{s:ArT}{K:Atw}{x Cl:Ar0}
set_option tactic.hygienic true in
theorem dY{ox od iW:Obj}{dx:Ar0}{name:Str}{tk:Tok}{v:ArR}{es:List Ass}{n:Nat}{R:Auh->ArT->Prop}(X:K.In s.heap)(D:Fn K Cl name)
  (I:InstAt s.heap x ox Cl (some od))(hd:ox.dict=some dx)(cE:s.heap.get? dx=some od)(hl:(Ay9 name od).isSome=true)
  (e:AsL name (Asi w.params name) (.str name s.toks) v od=iW)(e':iW.data= .dict es.toArray n)(hz:es.length≤1000)
  (h:R (.ok<|.ret .none) {s with heap:=s.heap.update dx (AsL name (Asi w.params name) (.str name s.toks) v),toks:=s.toks+1}):
  Asu (model prog w) A (.call (.builtin "object.__setattr__") ⟨[.ref x,.str name tk,v],[]⟩) R s:=by
 refine osa_open X I D.over D.Zw λb=>?_
 obtain⟨cd,hc,K7⟩:=AyC (show(clsIn K Cl).any (·.hasDict)=true from D.hd);have hO:iW.isFreed=false:=by obtain⟨_,_,dd,_⟩:=iW;cases e';rfl
 have D':(s.heap.update dx<|AsL name (Asi w.params name) (.str name s.toks) v).get? dx=some iW:=by refine e▸?_;exact Asa _ cE (by refine e.symm▸?_;exact hO)
 obtain⟨hx,MU,hn, -⟩:=I;obtain⟨oc,odi,oda,osl⟩:=ox;dsimp only at MU hd;subst MU hd;refine AA<|ArQ<|ArQ<|AuI hx<|ArQ<|(Aza X hc).here ?_;refine K7.symm▸?_;refine ArS (a:=some dx)<|AA<|ArQ ?_;unfold nsSet;refine ArQ<|ArQ<|AzJ<|ArS<|Ql<|ArQ<|AuI cE ?_;unfold Ay9 at hl;split at hl
 ·rename_i es₀ n₀ q;refine q.symm▸?_;dsimp only;have c:(!es₀.any (·.key.isStr name)&&es₀.any (·.refKey))=false:=by
   refine Au5▸?_;refine Au5▸?_;split at hl
   ·rename_i en he;refine(Aum.mpr ⟨en,List.mem_of_find?_eq_some he,List.find?_some he⟩).symm▸?_;rfl
   ·split at hl
    ·cases hl
    ·rename_i z;rw[Bool.not_eq_true] at z;rw[z,Bool.and_false]
  rw[AyB,c];refine Az1 cE ?_;refine ArQ<|AzR D' (by refine e'.symm▸?_;exact Azh (by refine Asg.symm▸?_;refine Ast.symm▸?_;omega)) ?_;exact ArS h
 ·cases hl
theorem NJ{ox od iW:Obj}{dx:Ar0}{name:Str}{v:ArR}{es:List Ass}{n:Nat}{Q:Unit->ArT->Prop}(X:K.In s.heap)(D:Fn K Cl name)
  (I:InstAt s.heap x ox Cl (some od))(hd:ox.dict=some dx)(cE:s.heap.get? dx=some od)(hl:(Ay9 name od).isSome=true)
  (e:AsL name (Asi w.params name) (.str name<|s.toks+1) v od=iW)(e':iW.data= .dict es.toArray n)(hz:es.length≤1000)
  (h:Q () {s with heap:=s.heap.update dx (AsL name (Asi w.params name) (.str name<|s.toks+1) v),toks:=s.toks+2}):
  Ar5 (model prog w) A (Azq (.ref x) name v) Q E s:=
 set_plain X I D.set (dY (s:={s with toks:=s.toks+1}) X D I hd cE hl e e' hz h)
end
theorem NM{α:Type}(x:Nm)(v:α)(l:List (Nm×α)):(AM l x v).length=if(AW l x).isSome then l.length else l.length+1:=by
 induction l with
 |nil=>rfl
 |cons p l ih=>
  rw[Kt,CJ];cases q:ArX x p.1 with
  |true=>rfl
  |false=>
   show(AM l x v).length+1=if(AW l x).isSome then l.length+1 else l.length+1+1
   rw[ih];cases(AW l x).isSome<;>rfl
theorem TX.look{W:Wd}{h:Asb}{a:Ar0}{l:List (Nm×AV)}{nm:Str}{es:Array Ass}{n:Nat}{sl:Array (Option ArR)}(hk:StrKeys es):(Ay9 nm ⟨.type "dict",none,.dict es n,sl⟩).isSome=true:=by
 cases q:Auc es nm with
 |none=>rw[ED hk q];rfl
 |some v=>rw[EC q];rfl
section
variable{A:Ar4}{σ:St}{W:Wd}{s:ArT}{T:Tab}
theorem Ej.isSome{l:List (Nm×AV)}(N:Ej C W h l m){nm:Str}(hx:A9 x=some nm):(m nm).isSome=(AW l x).isSome:=by
 cases q:AW l x with
 |some v=>
  refine hide λAx Aa=>?_
  obtain⟨nm',cv,a1,a2,_⟩:=N.1 x v q;refine Aa ?_;refine(uniq hx a1)▸?_;refine a2.symm▸?_;rfl
 |none=>refine(N.noName hx q).symm▸?_;rfl
theorem Ej.put{W':Wd}{h h':Asb}{l:List (Nm×AV)}{es:List Ass}(hk:∀e∈es,∃n t,e.key= .str n t)(hz:es.length≤l.length)(N:Ej C W h l (Auc es.toArray)){x:Nm}{nm:Str}(hx:A9 x=some nm){v:AV}{cv:ArR}(hv:VR C W h v cv)(t:Tok)
  (S:Cr W W' h h'){p:Ar0}{n:Nat}{sl:Array (Option ArR)}(g:h'.get? p=some ⟨.type "dict",none,.dict (putL nm (Asi C.w.params nm) (.str nm t) cv es).toArray n,sl⟩):TX C W' h' p (AM l x v):=by
 refine⟨_,n,sl,g,λe he=>G6 hk e (AwW.mp he),?_,?_⟩
 ·rw[Asg,Dj,NM,N.isSome hx];split
  ·exact hz
  ·exact Nat.succ_le_succ hz
 ·refine((N.AS S).set hx<|hv.keep S.ρ S.τ S.q S.Af).congr λy=>?_
  rw[Pm]
theorem Y8(I:Inv C W σ s){i:Nat}{p:Ar0×Ar0}(hp:W.τ[i]?=some p){Cl:Ar0}{l:List (Nm×AV)}(b:Ob C W s.heap p (.inst Cl l))(hl:l.length≤900){x:Nm}{nm:Str}(hx:A9 x=some nm){KF:Atw}(hK:KF.In s.heap)(D:Fn KF Cl nm){v:AV}{cv:ArR}(hv:VR C W s.heap v cv)
  {k:K Unit}(hk:k () (σ.put i<|.inst Cl<|AM l x v)=true)(ke:K AV):Ar5 (model C.prog C.w) A (Azq (.ref p.1) nm cv) (Ah C k σ W s RU) (Ac C ke σ W s) s:=by
 refine hide λAx Aa=>?_
 obtain⟨⟨sl,h1⟩,⟨es⟩,n,CK,he,hsk,hz,hN⟩:=b;refine Aa ?_;have hsk:∀e∈es,∃n t,e.key= .str n t:=λe m=>hsk e (AwW.mpr m)
 have hz:es.length≤l.length:=hz;have ne:p.1≠p.2:=λe=>nomatch (congrArg Obj.data (uniq h1<|(congrArg s.heap.get? e).trans he):Data.dict ⟨es⟩ n=Data.plain)
 refine NJ (K:=KF) (Cl:=Cl) (es:=putL nm (Asi C.w.params nm) (.str nm<|s.toks+1) cv es) (n:=putN nm es n) hK D (EP h1 he) rfl he (TX.look (W:=W) (h:=s.heap) (a:=p.2) (l:=l) λe m=>hsk e (AwW.mp m)) (Bw _ _ _ _ _ _ _ _ _) rfl (by rw[Dj];split<;>lia) ?_;have g2:=Asa _ he (HM (name:=nm) (k:=Asi C.w.params nm) (t:=s.toks+1) (v:=cv));rw[Bw] at g2;have gk:∀b,b≠p.2->((s.heap.update p.2<|AsL nm (Asi C.w.params nm) (.str nm<|s.toks+1) cv)).get? b=s.heap.get? b:=λb hb=>Asj _ _ (AuD hb)
 generalize s.heap.update p.2 (AsL nm (Asi C.w.params nm) (.str nm<|s.toks+1) cv)=h' at g2 gk ⊢;obtain⟨J,X⟩:=I.put (s':={s with heap:=h',toks:=s.toks+2}) (o:=.inst Cl (AM l x v)) hp (λb o z h2 hb=>(gk b h2).trans hb)
  (λT=>⟨⟨sl,(gk _ ne).trans h1⟩,hN.put hsk hz hx hv _ ⟨ArZ _,ArZ _,λz z=>rfl,λz z=>rfl,T⟩ g2⟩)
  (by refine(gk _ ne).symm▸?_;exact(I.live p<|get_mem hp).1) ⟨_,g2,trivial⟩
  (λa ha y hy iB=>ha.elim (λe=>IX e h1 hy iB nofun) (λe=>IX e he hy iB (show AtS "dict"≠_ by decide))) rfl rfl
 exact⟨(),_,W,hk,X,J,trivial⟩
theorem nE(I:Inv C W σ s){i:Nat}{p:Ar0×Ar0}(hp:W.τ[i]?=some p)(ep:p.2=p.1){es:List Ass}{n:Nat}{sl:Array (Option ArR)}(he:s.heap.get? p.1=some ⟨.type "dict",none,.dict es.toArray n,sl⟩)
  (VL:∀e∈es,∃n t,e.key= .str n t){l:List (Nm×AV)}(hz:es.length≤l.length)(hN:Ej C W s.heap l (Auc es.toArray)){x:Nm}{nm:Str}(hx:A9 x=some nm){v:AV}{cv:ArR}(hv:VR C W s.heap v cv)
  {k:K Unit}(hk:k () (σ.put i<|.ed<|AM l x v)=true):Ah C k σ W s RU () {s with heap:=(s.heap.update p.1<|AsL nm (Asi C.w.params nm) (.str nm<|s.toks+1) cv),toks:=s.toks+2}:=by
 have g2:=Asa _ he (HM (name:=nm) (k:=Asi C.w.params nm) (t:=s.toks+1) (v:=cv));rw[Bw] at g2;have gk:∀b,b≠p.1->((s.heap.update p.1<|AsL nm (Asi C.w.params nm) (.str nm<|s.toks+1) cv)).get? b=s.heap.get? b:=λb hb=>Asj _ _ (AuD hb)
 generalize s.heap.update p.1 (AsL nm (Asi C.w.params nm) (.str nm<|s.toks+1) cv)=h' at g2 gk ⊢;obtain⟨J,X⟩:=I.put (s':={s with heap:=h',toks:=s.toks+2}) (o:=.ed (AM l x v)) hp (λb o h2 z hb=>(gk b h2).trans hb)
  (λT=>⟨ep,hN.put VL hz hx hv _ ⟨ArZ _,ArZ _,λz z=>rfl,λz z=>rfl,T⟩ g2⟩)
  ⟨_,g2,trivial⟩ (by rw[ep];exact⟨_,g2,trivial⟩)
  (λa ha y hy iB=>IX (ha.elim id λe=>e.trans ep) he hy iB (show AtS "dict"≠_ by decide)) rfl rfl
 exact⟨(),_,W,hk,X,J,trivial⟩
theorem bM(I:Inv C W σ s){i:Nat}{p:Ar0×Ar0}(hp:W.τ[i]?=some p){Cl:Ar0}(b:Ob C W s.heap p (.exc Cl none)){x:Nm}{nm:Str}(hx:A9 x=some nm){K:Atw}(hK:K.In s.heap)(D:B8 K Cl nm){v:AV}{cv:ArR}(hv:VR C W s.heap v cv)
  {k:Mine.Internal.K Unit}(hk:k () ((σ.new<|.ed [(x,v)]).put i<|.exc Cl<|some σ.n)=true)(ke:Mine.Internal.K AV):Ar5 (model C.prog C.w) A (Azq (.ref p.1) nm cv) (Ah C k σ W s RU) (Ac C ke σ W s) s:=by
 refine hide λAx Aa=>?_
 obtain⟨ep,xc,dd,fs,sl,TR,e1,e3⟩:=b;refine Aa ?_;obtain rfl:dd=none:=TR;refine Sw D hK e1 λh' n g1 g2 gk=>?_
 have ne:=AtI (As2 e1);have m1:=Asa (λz=>(⟨.ref Cl,none,.fields fs,sl⟩:Obj)) g1 rfl;have m2:∀b,b≠p.1->(h'.update p.1 (λz=>(⟨.ref Cl,none,.fields fs,sl⟩:Obj))).get? b=h'.get? b:=λb hb=>Asj _ _ (AuD hb)
 generalize h'.update p.1 (λz=>(⟨.ref Cl,none,.fields fs,sl⟩:Obj))=hm at m1 m2;have gd:=(m2 _ ne.symm).trans g2;obtain⟨J1,X1⟩:=I.make (s':={s with heap:=hm,toks:=s.toks+2}) (p:=(s.heap.objs.size,s.heap.objs.size)) (o:=.ed [(x,v)]) (λb y e=>(Decidable.em (b=p.1)).elim (λhb=>hb▸m1.trans (e1.symm.trans<|hb▸e)) λhb=>(m2 b hb).trans (gk b y hb e)) (Ag _) (Ag _)
  (λS=>⟨rfl,Ej.put (es:=[]) (l:=[]) (λz h=>absurd h AwY) (As0 _) ⟨λz z h=>ns h,λz z h=>ns h⟩ hx hv (s.toks+1) S gd⟩)
  ⟨_,gd,trivial⟩ ⟨_,gd,trivial⟩ rfl rfl
 obtain⟨J2,X2⟩:=J1.put (s':={s with heap:=h',toks:=s.toks+2}) (o:=.exc Cl (some σ.n)) (Ab X1.τ hp) (λb y hb z e=>(m2 b hb).symm.trans e)
  (λT=>⟨ep,xc,_,fs,sl,⟨_,St.A5 I _,rfl⟩,g1,e3⟩) ⟨_,g1,trivial⟩ (by refine ep.symm▸?_;exact⟨_,g1,trivial⟩)
  (λa ha y hy iB=>IX (ha.elim id λe=>e.trans ep) m1 hy iB nofun) rfl rfl
 exact⟨(),_,_,hk,X1.trans X2,J2,trivial⟩
theorem xY{α:Type}{l:List α}(h:AsO (B5 l) 900=true):l.length≤900:=Ca l▸ble_iff.mp h
theorem Sp.Y7(AK:CN C T)(I:Inv C W σ s){nm:Str}(hx:A9 x=some nm)(ho:VR C W s.heap o co)(hv:VR C W s.heap v cv):
  Sp C A σ W s (Azq co nm cv) (λk z=>Y7 T o x v σ k) RU:=λk ke h=>by
 refine hide λAx Aa=>?_
 obtain⟨o',σ1,n1,Ho,_,h⟩:=Aw I ho h;refine Aa ?_;have J:=n1.1;refine ArY (?_:Ar5 (model C.prog C.w) A (Azq co nm cv) (Ah C k σ1 W s RU) (Ac C ke σ1 W s) s) (λz z=>Ah.base n1.ext) λz z=>Ac.base n1.ext
 refine VR.Ay (P:=λco=>Ar5 (model C.prog C.w) A (Azq co nm cv) (Ah C k σ1 W s RU) (Ac C ke σ1 W s) s) Ho h (λj p h hj=>J.Fh hj h (λCl l h z b=>?_) λh=>J.KL hj h (λCl d h z b=>?_) ff) ff
 ·refine hide λAx Aa=>?_
  obtain⟨ht,h⟩:=QM h;obtain⟨KF,hK,D⟩:=AK.data _ _ _ ht hx;refine Aa ?_;exact Y8 J hj b (xY<|bl h) hx (I.keepIn hK) D hv (br h) ke
 ·refine hide λAx Aa=>?_
  obtain⟨ht,h⟩:=M4 h;obtain⟨KF,hK,D⟩:=AK.Ea _ _ _ ht hx;refine Aa ?_
  induction d with
  |none=>exact bM J hj b hx (I.keepIn hK) D hv h ke
  |some q=>
   refine hide λAx Aa=>?_
   obtain⟨ep,xc,dd,fs,sl,⟨r,hr,ed⟩,e1,e3⟩:=b;refine Aa ?_;refine J.fZ hr h (λl h z b=>?_) ff;refine hide λAx Aa=>?_
   obtain⟨eq,⟨es⟩,n,CK,he,hk,oE,hN⟩:=b;refine Aa ?_;have VL:∀e∈es,∃n t,e.key= .str n t:=λe m=>hk e (AwW.mpr m)
   rw[ed] at e1;exact Vo D (I.keepIn hK) e1 he VL (AtH (show es.length≤l.length from oE)<|AtH (xY<|bl h) (by decide)) (nE J hr eq he VL oE hN hx hv<|br h)
end
def ST(C:Cx)(X:CX)(n:Nat)(b:Bool)(sc:Asv)(c:Ct)(t:Expr):Prop:=
 ∀(A:Ar4) (σ:St) (W:Wd) (s:ArT) (E:AZ) (env:Env) (v:AV) (cv:ArR),BQ n b A->Inv C W σ s->AD C A W sc E env->VR C W s.heap v cv->Sp C A σ W s (AyF t env cv) (λk ke=>c X E v σ k ke) RU
theorem Q7{o:Obj}{t:String}(hc:o.cls= .type t)(ht:(t=="frame")=false)(h:CZ o):False:=AsJ (ht.symm.trans (beq_iff_eq.mpr (Ayz (hc.symm.trans h.1))))
section
variable{A:Ar4}{σ:St}{W:Wd}{s:ArT}{T:Tab}
theorem Ae.set{l vs}{i:Nat}{v cv}(r:Ae C W h l vs)(b:VR C W h v cv):Ae C W h (l.set i v) (vs.set i cv):=by
 induction l generalizing vs i with
 |nil=>exact r.inv (P:=λvs=>Ae C W h [] (vs.set i cv)) .nil
 |cons a l ih=>induction i with
  |zero=>exact r.inv (P:=λvs=>Ae C W h (v::l) (vs.set 0 cv)) λz z z r=>.cons b r
  |succ i=>exact r.inv (P:=λvs=>Ae C W h (a::l.set i v) (vs.set (i+1) cv)) λz z a r=>.cons a (ih r)
theorem GB.update{h:Asb}{a:Ar0}{items:Array ArR}(il:h.IsList a items)(nd:GB h a)(f:Array ArR->Array ArR):GB (h.update a<|Ate f) a:=by
 refine hide λAx Aa=>?_
 obtain⟨o,ho,hd,hs⟩:=nd;obtain⟨o',Ho,_,n,nW⟩:=il;have nW:=uniq ho Ho▸nW;obtain⟨c,dd,d,sl⟩:=o;refine Aa ?_;obtain rfl:d=_:=nW;exact⟨_,Asa _ ho rfl,hd,hs⟩
theorem IsList.update{h:Asb}{a:Ar0}{items:Array ArR}(il:h.IsList a items)(f:Array ArR->Array ArR):(h.update a<|Ate f).IsList a (f items):=by
 refine hide λAx Aa=>?_
 obtain⟨o,ho,hc,n,hd⟩:=il;obtain⟨n',K7⟩:=Obj.data_mapSeq hd f;refine Aa ?_;exact⟨_,Asa _ ho<|Obj.isFreed_of_seq K7,(Obj.cls_mapSeq ..).trans hc,n',K7⟩
theorem PZ{l:Ar0}{items:Array ArR}{k:Int}{t:Tok}{v:ArR}{Q:Unit->ArT->Prop}{E:ArR->ArT->Prop}(hl:s.heap.IsList l items)(h0:0≤k)(hj:k<items.size)(cG:k<2^63)
  (hQ:Q () {s with heap:=s.heap.update l (Ate (·.setIfInBounds k.toNat v))}):Ar5 (model C.prog C.w) A (Azs (.ref l) (.int k t) v) Q E s:=by
 obtain⟨o,ho,hc,n,hd⟩:=id hl;unfold Azs
 try with_reducible refine Aso ?_
 first |refine ArQ (ArS ?_)|skip
 refine ArQ (wpAny_sequenceKey hl.typeIs (by decide) ?_);refine ArQ (AsN (name:=ArP "__setitem__") hl.typeIs slot_list_setitem (Ata slot_list_setitem hl.typeIs entry_list_setitem ?_ (args_list_setitem _ _ _)));show Ar5 _ _ (Builtin.List.listSubscript? (.int k t)>>=_) _ _ s;refine ArQ (wpAny_listSubscript_int (fitsIndex_of h0 cG) ?_);clear cG;obtain⟨j,rfl⟩:=AsY h0;have hj:=Awj.mp hj;show Ar5 _ _ ((seqItemAt l j>>=λr=>pure (r.map (j,·)))>>=_) _ _ s;refine ArQ (ArQ (wpAny_seqItemAt ho hd (ArS ?_)));refine(Au6 hj).symm▸?_;show Ar5 _ _ (setSeqItemAt l j v>>=_) _ _ s;refine ArQ (wpAny_setSeqItemAt ho hd ?_)
 first
  |exact ArQ (ArS (ArS ⟨.none,rfl,ArS hQ⟩))
  |exact ArS ⟨.none,rfl,ArS hQ⟩
theorem Inv.Gd(I:Inv C W σ s){i:Nat}{p:Ar0×Ar0}(hp:W.τ[i]?=some p)(ep:p.2=p.1){items V4:Array ArR}(il:s.heap.IsList p.1 items)(nd:GB s.heap p.1){f:Array ArR->Array ArR}(ei:f items=V4)(t:Nat){o:AO}
  (ho:∀h',AJ W W s.heap h'->h'.IsList p.1 V4->GB h' p.1->Ob C W h' p o):
  Inv C W (σ.put i o) {s with heap:=s.heap.update p.1 (Ate f),toks:=t}∧Ext σ W s (σ.put i o) W {s with heap:=s.heap.update p.1 (Ate f),toks:=t}:=by
 have n7:=ei▸IsList.update il f;have nd':=GB.update il nd f;have N8:AsD p.1 s.heap (s.heap.update p.1<|Ate f):=AsK ..;generalize s.heap.update p.1 (Ate f)=h' at n7 nd' N8;have nt:∃x,h'.get? p.1=some x∧Be x:=n7.imp λz q=>⟨q.1,trivial⟩
 refine hide λAx Aa=>?_
 obtain⟨o',h1,hc,_⟩:=il;refine Aa ?_;exact I.put (s':={s with heap:=h',toks:=t}) hp (λb o h1 z hb=>(N8.2 b h1).trans hb) (λT=>ho h' T n7 nd') nt (by refine ep.symm▸?_;exact nt)
  (λa ha o ho hd=>IX (ha.elim id λe=>e.trans ep) h1 ho hd (by refine hc.symm▸?_;decide)) rfl rfl
theorem U1(I:Inv C W σ s){j:Nat}{p:Ar0×Ar0}(hj:W.τ[j]?=some p)(ep:p.2=p.1){l:List (AV×AV)}{Bk}(hd:s.heap.DictOf (AF C.prog C.w) p.1 Bk)(hl:Co C W s.heap l Bk){i v:AV}{ci cv:ArR}(hi:VR C W s.heap i ci)(hv:VR C W s.heap v cv)
  {k:K Unit}(h:both (both (keyOk i)<|AsO l.length 1000) (Su i v [] j l σ k)=true)(ke:K AV):Ar5 (model C.prog C.w) A (Azs (.ref p.1) ci cv) (Ah C k σ W s RU) (Ac C ke σ W s) s:=by
 refine hide λAx Aa=>?_
 obtain⟨K0,hk,hc⟩:=ES hi (bl<|bl h);refine Aa ?_;have hz:=ble_iff.mp (br<|bl h);have vV:=hd.elim λo q=>q.elim λes q=>q.elim λen q=>q.2.2.2.2.2
 cases Qy hk hv (d:=[]) I .nil hl (λp hp=>absurd hp AwY) vV (br h) with
 |mk l' σ3 n3 n7 h=>
  refine hide λAx Aa=>?_
  obtain⟨o',ZP,n',h1,hx,_⟩:=id hd;refine Aa ?_;refine wpAny_setItem_pairs (knd:=AF C.prog C.w) hc hd (λh' K7 N8=>?_) (by refine hl.length.symm▸?_;exact AtH hz (by refine Ast.symm▸?_;decide));have nt:∃x,h'.get? p.1=some x∧Be x:=K7.imp λz q=>q.elim λz q=>q.elim λz q=>⟨q.1,trivial⟩
  obtain⟨J,X⟩:=n3.1.put (s':={s with heap:=h',toks:=s.toks+1}) (o:=.dict l') hj (λb o h1 z hb=>(N8.2 b h1).trans hb)
   (λT=>⟨ep,_,K7,n7.AS ⟨ArZ _,ArZ _,λz z=>rfl,λz z=>rfl,T⟩⟩) nt (by refine ep.symm▸?_;exact nt)
   (λa ha o ho TR=>IX (ha.elim id λe=>e.trans ep) h1 ho TR (by refine hx.1.symm▸?_;decide)) rfl rfl
  exact⟨(),_,W,h,n3.ext.trans X,J,trivial⟩
theorem eP(I:Inv C W σ s){j:Nat}(hj:W.τ[j]?=some p)(hi:VR C W s.heap i ci)(hv:VR C W s.heap v cv){k:K Unit}(h:G7 j i v σ k=true)(ke:K AV):
  Ar5 (model C.prog C.w) A (Azs (.ref p.1) ci cv) (Ah C k σ W s RU) (Ac C ke σ W s) s:=by
 refine I.A7 hj h (λl cl h z b=>VR.cInt (P:=λci=>Ar5 (model C.prog C.w) A (Azs (.ref p.1) ci cv) (Ah C k σ W s RU) (Ac C ke σ W s) s) hi h (λx i t h hx=>?_) ff) λh=>I.DC hj h (λl Bk h z ep hd hl=>U1 I hj ep hd hl hi hv h ke) ff
 refine hide λAx Aa=>?_
 obtain⟨σ3,n3,h⟩:=Ck I hx h;refine Aa ?_;refine Cp (br h) λm hpl h'=>?_
 have h0:=Bs (bl h);refine hide λAx Aa=>?_
 obtain⟨_,p2,_,p4,p5⟩:=Gl hpl;refine Aa ?_;have em:=p5.elim (·.2) λq=>absurd q.1 (Awg.mpr h0)
 rw[em,←b.v.length] at p2;rw[FI] at h';refine PZ b.il h0 ((Int.toNat_lt h0).mp p2) p4 ?_;obtain⟨J,X⟩:=n3.1.Gd (f:=(·.setIfInBounds i.toNat cv)) (o:=.list none (l.set m v) none) hj b.ep b.il b.nd rfl s.toks
  (λh' T hl nd=>⟨cl.set m cv,b.ep,Ae.set (i:=m) (b.v.keep (ArZ _) (ArZ _) (λz z=>rfl) T)<|hv.keep (ArZ _) (ArZ _) (λz z=>rfl) T,(by rw[em];simpa [G3] using hl),trivial,trivial,nd⟩)
 exact⟨(),_,W,h',n3.ext.trans X,J,trivial⟩
theorem Sp.TC(I:Inv C W σ s)(ho:VR C W s.heap o co)(hi:VR C W s.heap i ci)(hv:VR C W s.heap v cv):
  Sp C A σ W s (Azs co ci cv) (λk z=>TC o i v σ k) RU:=λk ke h=>by
 refine hide λAx Aa=>?_
 obtain⟨o',σ1,n1,Ho,_,h⟩:=Aw I ho h;obtain⟨i',σ2,n2,cH,_,h⟩:=Aw n1.1 hi h;refine Aa ?_;have n:=n1.trans n2;refine ArY (?_:Ar5 (model C.prog C.w) A (Azs co ci cv) (Ah C k σ2 W s RU) (Ac C ke σ2 W s) s) (λz z=>Ah.base n.ext) λz z=>Ac.base n.ext
 exact VR.Ay (P:=λco=>Ar5 (model C.prog C.w) A (Azs co ci cv) (Ah C k σ2 W s RU) (Ac C ke σ2 W s) s) Ho h (λj p h hj=>eP n2.1 hj cH hv h ke) ff
end
section
variable{X:CX}{n:Nat}{b:Bool}{sc:Asv}
theorem De{env:Env}{x:Str}{v:ArR}(h:Sp C A σ W s (Azv env x v) m RU):Sp C A σ W s (Ayg env x v) m RU:=λk ke e=>wpAny_bindName (h k ke e)
theorem ST.l{nm:Str}(hx:A9 x=some nm)(hk:sc.names.lookup nm=some .local){pos}:ST C X n b sc (S7 x) (.Name nm pos):=λA σ W s E env v cv f I e hv=>by rw[arm_assign_Name];exact Sp.standAt (De<|Sp.DW I e hx hk hv)
theorem ST.Sk{nm:Str}(hx:A9 x=some nm)(hk:sc.names.lookup nm=some .cell){pos}:ST C X n b sc (tT x) (.Name nm pos):=λA σ W s E env v cv f I e hv=>by rw[arm_assign_Name];exact Sp.standAt (De<|Sp.Ha I e hx hk hv)
theorem Sp.ND(h:Sp C A σ W s t m RU):Sp C A σ W s (t>>=λz=>PySem.release vs ks) m RU:=λk ke e=>
 ArQ (ArY (h k ke e) (λz z q=>wpAny_release' q) λz z q=>q)
theorem ST.attr(AK:CN C X.T){nm:Str}{pos}(hy:A9 y=some nm)(hx:SE C X n b sc x value):ST C X n b sc (fW x y) (.Attribute value nm pos):=λA σ W s E env v cv f I e hv=>by
 rw[arm_assign_Attribute];refine Sp.bind (m:=λk ke=>x X E σ k ke) (g:=λo σ k ke=>Mine.Internal.Y7 X.T o y v σ k) (Sp.holding<|hx A σ W s E env f I e) λa ca σ1 W1 s1 X1 I1 r1=>?_
 exact Sp.standAt (Sp.ND<|Sp.holding<|Sp.Y7 AK I1 hy r1<|I.vr X1 hv)
theorem ST.sub{pos}(hx:SE C X n b sc x value)(hy:SE C X n b sc y slice):ST C X n b sc (Aal x y) (.Subscript value slice pos):=λA σ W s E env v cv f I e hv=>by
 rw[arm_assign_Subscript];refine Sp.bind (m:=λk ke=>x X E σ k ke) (g:=λo σ k ke=>y X E σ (λi σ=>Mine.Internal.TC o i v σ k) ke) (Sp.holding<|hx A σ W s E env f I e) λa ca σ1 W1 s1 X1 I1 r1=>?_
 refine Sp.bind (m:=λk ke=>y X E σ1 k ke) (g:=λi σ k ke=>Mine.Internal.TC a i v σ k) (Sp.holding<|hy A σ1 W1 s1 E env f I1<|e.up X1.up) λc cc σ2 W2 s2 X2 I2 r2=>?_
 exact Sp.standAt (Sp.ND<|Sp.holding<|Sp.TC I2 (I1.vr X2 r1) r2<|I1.vr X2<|I.vr X1 hv)
inductive ZN(C:Cx)(X:CX)(n:Nat)(b:Bool)(sc:Asv):List Ct->List Expr->Prop
 |nil:ZN C X n b sc [] []
 |cons {c e l es}:ST C X n b sc c e->isStar e=false->ZN C X n b sc l es->ZN C X n b sc (c::l) (e::es)
theorem Es(h:isStar e=false)(r:List Expr)(env:Env):AuM (e::r) env=(false,AyF e env)::AuM r env:=by cases e<;>first |rfl |cases h
theorem ZN.each{l:List Ct}(h:ZN C X n b sc l es)(env:Env):(AuM es env).length=l.length∧(AuM es env).findIdx? (·.1)=none:=by
 induction h with
 |nil=>exact⟨rfl,rfl⟩
 |cons _ hs _ ih=>rw[Es hs];exact⟨by simp[ih.1],by simp[List.findIdx?_cons,ih.2]⟩
theorem Sp.R1{l:List Ct}(h:ZN C X n b sc l es)(f:BQ n b A):∀{σ:St} {W:Wd} {s:ArT} {vs:List AV} {cvs:List ArR},Inv C W σ s->AD C A W sc E env->Ae C W s.heap vs cvs->
  Sp C A σ W s (AyG ((AuM es env).map (·.2)) cvs) (λk ke=>R1 X E l vs σ k ke) RU:=by
 induction h with
 |nil=>
  intro σ W s vs cvs I e hv
  induction vs with
  |nil=>exact Ae.inv (P:=λcvs=>Sp C A σ W s (AyG [] cvs) (λk ke=>Mine.Internal.R1 X E [] [] σ k ke) RU) hv (.pure (m:=λk ke=>Mine.Internal.R1 X E [] [] σ k ke) I (λz z h=>h) trivial)
  |cons _ _=>exact λz z=>ff
 | @cons c1 e1 l es h1 st _ ih=>
  intro σ W s vs cvs I e hv;rw[Es st]
  induction vs with
  |nil=>exact λz z=>ff
  |cons v vs=>
   refine Ae.inv (P:=λcvs=>Sp C A σ W s (AyG (((false,AyF e1 env)::AuM es env).map (·.2)) cvs) (λk ke=>Mine.Internal.R1 X E (c1::l) (v::vs) σ k ke) RU) hv λcv cvs a r=>?_
   show Sp C A σ W s (Auz cvs (AyF e1 env cv)>>=λz=>AyG ((AuM es env).map (·.2)) cvs) _ _;refine Sp.bind (m:=λk ke=>c1 X E v σ k ke) (g:=λz σ k ke=>Mine.Internal.R1 X E l vs σ k ke) (Sp.holding<|h1 A σ W s E env v cv f I e a) λz z σ1 W1 s1 X1 I1 z=>?_
   exact ih I1 (e.up X1.up) (I.qZ X1 r)
end
theorem NZ{l:List AV}(h:qT v=some l):v= .Af l:=by
 cases v with
 |Af x=>exact congrArg _ (Ase h)
 |_=>exact ns h
theorem ORI{α β:Type}{f:α->Option β}{o:Option α}{b:β}{P:Prop}(h:OR none f o=some b)(k:∀a,o=some a->f a=some b->P):P:=by
 induction o with
 |none=>exact ns h
 |some a=>exact k a rfl h
theorem MW{l hs ts:List AV}{j:Nat}(h:K9 l=some (hs,ts))(e:l[j]?=some w):∃v r,w= .Af (v::r)∧hs[j]?=some v∧ts[j]?=some (.Af r):=by
 induction l generalizing hs ts j with
 |nil=>exact nomatch e
 |cons x l ih=>
  refine ORI h λt ht h=>?_
  induction t with
  |nil=>exact ns h
  |cons v r=>
   refine ORI (o:=K9 l) h λp hp h=>?_
   have q:=Ase h;refine((Asy q).1)▸?_;refine((Asy q).2)▸?_
   induction j with
   |zero=>exact⟨v,r,(Ase e).symm.trans (NZ ht),rfl,rfl⟩
   |succ j=>exact ih (j:=j) hp e
theorem Oh{l:List AV}{j:Nat}(h:Uh l=true)(e:l[j]?=some w):w= .Af []:=by
 induction l generalizing j with
 |nil=>exact nomatch e
 |cons x l ih=>
  refine Cp h λt ht h=>BZ h (λet h=>?_) ff
  induction j with
  |zero=>exact(Ase e).symm.trans (et▸NZ ht)
  |succ j=>exact ih (j:=j) h e
section
variable{W:Wd}{s:ArT}{σ:St}
theorem NH{a j:Nat}(ha:W.ρ[a]?=some (Ar6 j)){n:Nat}{l:List AV}(e:Jf a n l=some vs)(q:l[j]?=some w):∃ps,w= .Af ps∧∀cps,Ae C W h ps cps->Ae C W h vs cps:=by
 induction n generalizing l vs w with
 |zero=>refine Df (P:=λo=>o=some vs->_) (λhn e=>?_) (λz=>ns) e;exact⟨[],Oh hn q,λz h=>Ase e▸h⟩
 |succ n ih=>
  refine ORI e λp hp e=>ORI (o:=Jf a n p.2) e λr hr e=>?_
  refine hide λAx Aa=>?_
  obtain⟨v,r',e1,e2,e3⟩:=MW hp q;obtain⟨ps,e4,e5⟩:=ih hr e3;refine Aa ?_;obtain rfl:=AV.Af.inj e4;refine⟨v::r',e1,λcps hc=>?_⟩;refine(Ase e)▸?_;exact Ae.inv hc λcv cl x y=>.cons (.sel ha e2 x) (e5 _ y)
def Qe(h:Asb)(a:Ar0)(l:List ArR):Prop:=h.IsTuple a l.toArray∨h.IsList a l.toArray
inductive Z9(C:Cx)(W:Wd)(s:ArT)(σ:St)(f:List AV->St->Bool):ArR->Prop
 |mk (vs:List AV) (cvs:List ArR) (a:Ar0) (σ':St) (n:Bg C W s σ σ') (q:Qe s.heap a cvs) (v:Ae C W s.heap vs cvs) (h:f vs σ'=true):Z9 C W s σ f (.ref a)
theorem ZD(n1:Bg C W s σ σ1)(hv:VR C W s.heap v cv)(h:unp v σ1 f=true):Z9 C W s σ f cv:=
 VR.AU hv h (λl vs a h ht v=>⟨l,vs,a,σ1,n1,.inl ht.Af,v,h⟩) λh=>VR.Ay hv h (λj p h hj=>n1.1.A7 hj h (λl cl h z b=>⟨l,cl,p.1,σ1,n1,.inr b.il,b.v,h⟩) ff) ff
theorem Js(I:Inv C W σ s){n:Nat}(hv:VR C W s.heap v cv)(h:L9 n v σ f=true):Z9 C W s σ f cv:=by refine AV.YZ (Q:=λw=>VR C W s.heap w cv->Z9 C W s σ f cv) h (λa l h r=>Ti h (λvs hs h=>VR.inv r λj w cv ha hl hc=>?_) λh=>(Aw I hv h).elim λv' σ1 n1 Jv z h=>ZD n1 Jv h) (λz h z=>ZD (.refl I) hv h) hv;obtain⟨ps,e1,e2⟩:=NH (h:=s.heap) ha hs hl;rw[e1] at hc;exact VR.inv hc λcps b ht vv=>⟨vs,cps,b,σ,.refl I,.inl ht.Af,e2 _ vv,h⟩
end
section
variable{X:CX}{n:Nat}{b:Bool}{sc:Asv}
theorem Ef{A:Ar4}{s:ArT}{E:ArR->ArT->Prop}(hh:A.handled=none){a:Ar0}{l:List ArR}(hs:Qe s.heap a l){Q:List ArR->ArT->Prop}
  (hQ:∀h',Atg s.heap.objs.size s.heap h'->Q l {s with heap:=h'}):Ar5 (model C.prog C.w) A (unpackItems (.ref a) l.length none) Q E s:=by
 rcases hs with h |h
 ·exact wpAny_unpackItems_tuple hh h hQ
 ·exact kun_itemsOf hh h hQ
theorem ExtBut.grow{h h':Asb}(x:Atg h.objs.size h h'):∀b o,h.get? b=some o->h'.get? b=some o:=λb o e=>x b o (AtI<|As2 e) e
theorem Sp.ZA(hs:ZN C X n true sc ts elts)(f:BQ n true A)(I:Inv C W σ s)(e:AD C A W sc E env)(hv:VR C W s.heap v cv):
  Sp C A σ W s (unpack cv<|AuM elts env) (λk ke=>ZA ts X E v σ k ke) RU:=λk ke h=>by
 cases Js I hv h with
 |mk vs cvs a σ1 n1 sq vr h=>obtain⟨e1,e2⟩:=hs.each env;unfold unpack;refine e1.symm▸?_;refine e2.symm▸?_;refine(beq_iff.mp (bl h)).symm▸?_;refine vr.length▸?_;refine ArQ (Aso (Ef (f.hand rfl) sq λh' he=>?_));obtain⟨J,Y⟩:=n1.1.grow (s':={s with heap:=h'}) (ExtBut.grow he) rfl rfl;have X:=n1.ext.trans Y;exact ArY (Sp.R1 hs f J (e.up Y.up) (n1.1.qZ Y vr) k ke (br h)) (λz z=>Ah.base X) λz z=>Ac.base X
theorem ST.Af{k pos}(hs:ZN C X n true sc ts elts):ST C X n true sc (ZA ts) (.Tuple elts k pos):=λA σ W s E env v cv f I e hv=>by rw[arm_assign_Tuple];exact Sp.standAt (Sp.ZA hs f I e hv)
end
theorem S6(l:Ar0)(items:Array ArR)(n:Nat)(dd:Option Ar0)(sl:Array (Option ArR))(y:ArR)(hy:items[items.size-1]?=some y)(hY:items.size≤AtY):
  Meets (Builtin.«list.pop» ⟨[.ref l],[]⟩)
   (λz R s=>s.heap.get? l=some {cls:=.type "list",dict:=dd,data:=.seq items n,slots:=sl}∧R (.ok (.ret y)) {s with heap:=s.heap.update l (Ate λxs=>xs.eraseIdxIfInBounds (items.size-1))}):=
 .of_wp λprog w A R s h=>by
  obtain⟨hp,g,d,tk,os⟩:=s;obtain⟨hl,h⟩:=h;have SJ:=(AsX.mp hy).1;have SP:0<items.size:=AxM SJ;have cL:¬items.isEmpty=true:=λhe=>absurd (of_decide_eq_true he:items.size=0) (AtJ SP)
  have hk:Azn (-1) items.size=some (items.size-1):=by rw[seqIndex_neg (by omega) (by omega)];congr 1;omega
  wp_walk using Asd hl
  simp only[hk,hy,AxT,AtB];have oD:(items.eraseIdxIfInBounds<|items.size-1).size≤AtY+1:=AtH (MeetsSeq.size_erased items _) (Axq hY)
  wp_walk using(Az2 hl rfl (hz:=hY) (_hz':=oD)),Asd hl
  exact⟨_,rfl,h⟩
theorem Lk(l:Ar0)(items:Array ArR)(n:Nat)(dd:Option Ar0)(sl:Array (Option ArR))(b:Ar0)(Aj:Array ArR)(n2:Nat)(Fy:Option Ar0)(CK:Array (Option ArR))(hc0:¬(!items.isEmpty&&Avj (items.size+Aj.size))=true)(hc1:items.size≤AtY)(hs2:items.size+Aj.size≤AtY+1):
  Meets (Builtin.«list.extend» ⟨[.ref l,.ref b],[]⟩) (λz R s=>s.heap.get? l=some {cls:=.type "list",dict:=dd,data:=.seq items n,slots:=sl}∧s.heap.get? b=some {cls:=.type "list",dict:=Fy,data:=.seq Aj n2,slots:=CK}∧R (.ok (.ret Atd)) {s with heap:=s.heap.update l (Ate λx=>x++Aj),toks:=s.toks}):=
 .of_wp λprog w A R s h=>by
  obtain⟨hp,g,d,tk,os⟩:=s;obtain⟨hl,hb,h⟩:=h;have f1:=AutoSeq1.idx_int;have f2:=Aud;have f3:=Au9;have f4:=AutoSeq1.sub_tuple_list;have f5:=AutoSeq1.sub_list_tuple;have oD:(items++Aj).size≤AtY+1:=by rw[Array.size_append];exact hs2
  wp_walk using(Az2 hl rfl (hz:=hc1) (_hz':=oD)),Asd hl,Asd hb;exact⟨_,rfl,h⟩
theorem d4(x:List ArR)(v:ArR):(x++ [v]).toArray.eraseIdxIfInBounds ((x++ [v]).toArray.size-1)=x.toArray:=by
 have e:(x++ [v]).toArray.size-1=x.length:=by rw[Asg,Ar1];rfl
 rw[e,Array.eraseIdxIfInBounds,dif_pos (by rw[Asg,Ar1];exact Axw _),List.eraseIdx_toArray,List.eraseIdx_append_of_length_le<|As0 _,AxG];exact congrArg Aw4 (Ar7 x)
theorem Xm(x:List ArR)(v:ArR):(x++ [v]).toArray[(x++ [v]).toArray.size-1]?=some v:=by rw[Asg,Ar1,AwO];exact AwK
section
variable{A:Ar4}{σ:St}{W:Wd}{s:ArT}{T:Tab}
theorem IM(I:Inv C W σ s)(k1:Fj W p)(h:BY σ p=true):(Mine.Internal.part W p).length≤1000000:=by
 induction p with
 |none=>exact Auo _
 |some a=>exact DE I k1 h
theorem Rg(I:Inv C W σ s){l:List AV}(b:Eo C W s.heap p a l none vs)(h:both (fits l) (BY σ a)=true):(Mine.Internal.part W a++vs).toArray.size≤1004000:=
 AtH (Axm<|Ar1 ..) (Axa (IM I b.k1<|br h)<|b.v.length▸Bn (bl h))
theorem le7{n m:Nat}(h:n≤1004000)(k:m≤4000):n+m<AtY:=Axs (Axa h k) (by rw[Ast];decide)
theorem le8{n:Nat}(h:n≤1004000):n<AtY:=le7 h (Auo _)
theorem Sp.BJ(I:Inv C W σ s){i:Nat}(hp:W.τ[i]?=some p)(hv:VR C W s.heap v cv):
  Sp C A σ W s (call (.builtin "list.append") [.ref p.1,cv]) (λk zz=>BJ i v σ k) (λzz zz zz r=>r= .none):=λk ke h=>by
 refine I.KN hp h (λa l vs h zz b=>?_) λh=>I.GH hp h (λl a m vs ws h zz b=>?_) ff
 ·obtain⟨n,ho⟩:=QW b.pQ b.nd;refine AyJ Aui b.pQ.typeIs Ax8 (Ax7 _ _) (list_append p.1 _ n cv<|Axn<|le8<|Rg I b<|bl h) ⟨ho,?_⟩;obtain⟨J,X⟩:=I.Gd (f:=(·.push cv)) (o:=.list a (l++ [v]) none) hp b.ep b.pQ b.nd rfl s.toks λh' T hl nd=>⟨vs++ [cv],b.ep,(b.v.app<|.cons hv .nil).keep (ArZ _) (ArZ _) (λzz zz=>rfl) T,by simpa [G3] using hl,b.k1,trivial,nd⟩
  exact⟨(),_,W,br h,X,J,rfl⟩
 ·obtain⟨n,ho⟩:=QW b.il b.nd;have z:(vs++W.ls a++ws).toArray.size≤AtY:=by
   have q:=DE I b.k1 (br<|bl h);have q2:=Bn (bl<|bl<|bl h);have q3:=Bn (br<|bl<|bl h);rw[Asg,Ar1,Ar1,b.v.length,b.w.length,Ast];lia
  refine AyJ Aui b.il.typeIs Ax8 (Ax7 _ _) (list_append p.1 _ n cv z) ⟨ho,?_⟩;obtain⟨J,X⟩:=I.Gd (f:=(·.push cv)) (o:=.mid l a (m++ [v])) hp b.ep b.il b.nd rfl s.toks λh' T hl nd=>⟨vs,ws++ [cv],b.ep,b.v.keep (ArZ _) (ArZ _) (λzz zz=>rfl) T,(b.w.app<|.cons hv .nil).keep (ArZ _) (ArZ _) (λzz zz=>rfl) T,by rw[←AsE];simpa using hl,b.k1,nd⟩
  exact⟨(),_,W,br h,X,J,rfl⟩
theorem Ae.snoc{v:AV}{l:List AV}(r:Ae C W h (l++ [v]) cl):∃cr cv,cl=cr++ [cv]∧Ae C W h l cr∧VR C W h v cv:=by
 induction l generalizing cl with
 |nil=>exact Ae.inv (P:=λcl=>∃cr cv,cl=cr++ [cv]∧Ae C W h [] cr∧VR C W h v cv) r λcv cl a b=>Ae.inv (P:=λcl=>∃cr cw,cv::cl=cr++ [cw]∧Ae C W h [] cr∧VR C W h v cw) b ⟨[],cv,rfl,.nil,a⟩
 |cons x l ih=>exact Ae.inv (P:=λcl=>∃cr cv,cl=cr++ [cv]∧Ae C W h (x::l) cr∧VR C W h v cv) r λcx cl a b=>(ih b).elim λcr q=>q.elim λcv q=>⟨cx::cr,cv,congrArg _ q.1,.cons a q.2.1,q.2.2⟩
theorem Sp.d3(I:Inv C W σ s){i:Nat}(hp:W.τ[i]?=some p):Sp C A σ W s (call (.builtin "list.pop") [.ref p.1]) (λk zz=>d3 i σ k) (RV C):=λk ke h=>by
 refine I.KN hp h (λa l vs h zz b=>?_) ff;have z:=Rg I b (bl h)
 replace h:=br h
 generalize hr:l.reverse=lr at h
 induction lr with
 |nil=>exact ff h
 |cons v r=>
  obtain rfl:l=r.reverse++ [v]:=by rw[←Aw1,←hr,Aw2]
  obtain⟨cr,cv,rfl,v1,v2⟩:=b.v.snoc;have il:=b.pQ;rw[←AsE] at il z;obtain⟨dd,n,sl,ho⟩:=GW il;refine AyJ Ayb il.typeIs PySem.F.entry_list_pop (PySem.F.args_list_pop_1 _) (S6 p.1 _ n dd sl cv (Xm _ cv)<|Axn<|le8 z) ⟨ho,?_⟩;obtain⟨J,X⟩:=I.Gd (f:=λxs=>xs.eraseIdxIfInBounds ((Mine.Internal.part W a++cr++ [cv]).toArray.size-1)) (o:=.list a r.reverse none) hp b.ep il b.nd (d4 _ cv) s.toks λh' T hl nd=>⟨cr,b.ep,v1.keep (ArZ _) (ArZ _) (λzz zz=>rfl) T,(Ar7 _).symm▸hl,b.k1,trivial,nd⟩
  exact⟨v,_,W,h,X,J,I.vr X v2⟩
theorem Sp.bN(I:Inv C W σ s){i j:Nat}(hp:W.τ[i]?=some p)(hq:W.τ[j]?=some q):Sp C A σ W s (call (.builtin "list.extend") [.ref p.1,.ref q.1]) (λk zz=>bN i j σ k) (RV C):=λk ke h=>by
 refine I.KN hp h (λa l vs h zz b=>I.A7 hq h (λm ws h zz c=>?_) ff) ff;refine hide λAx Aa=>?_
 obtain⟨dd,n,sl,ho⟩:=GW b.pQ;obtain⟨Fy,n2,CK,La⟩:=GW c.il;refine Aa ?_;have f1:=Bn (bl<|bl h);rw[Ar1] at f1;have z1:=AtH (Axm<|Ar1 ..) (Axa (IM I b.k1<|br<|bl h)<|b.v.length▸AtH (Axl _ _) f1);have z2:=AtH (Axm c.v.length) (AtH (Nat.le_add_left _ _) f1);have z:=le7 z1 z2;refine AyJ Aya b.pQ.typeIs PySem.F.entry_list_extend (PySem.F.args_list_extend_2 _ _) (Lk p.1 _ n dd sl q.1 _ n2 Fy CK (λe=>absurd (of_decide_eq_true (Asw.mp e).2) (Nat.not_lt.mpr<|Axn z)) (Axn<|le8 z1)<|Axq<|Axn z) ⟨ho,La,?_⟩;refine hide λAx Aa=>?_
 obtain⟨J,X⟩:=I.Gd (f:=λxs=>xs++ws.toArray) (o:=.list a (l++m) none) hp b.ep b.pQ b.nd rfl s.toks λh' T hl nd=>⟨vs++ws,b.ep,(b.v.app c.v).keep (ArZ _) (ArZ _) (λzz zz=>rfl) T,by simpa [G3] using hl,b.k1,trivial,nd⟩
 refine Aa ?_;exact⟨.AR,_,W,br h,X,J,.AR⟩
end
structure Z5(K:Atw)(Cl g:Ar0)(nm:Str):Prop where
 hg:specialIn K (.ref Cl) "__getattribute__"=some (some (.builtin "type.__getattribute__"))
 rd:∃mc,readsIn K Cl mc=true∧findCls K (.ref Cl) mc nm=some (.val<|.ref g)
structure DM(C:Cx)(T:Tab):Prop where
 S9:A9 (T.S9)=some (ArP "pop")
 Di:A9 (T.Di)=some (ArP "append")
 EV:A9 (T.EV)=some (ArP "extend")
 GZ:A9 (T.GZ)=some (ArP "index")
 EU:A9 (T.EU)=some (ArP "encode")
 Kh:A9 (T.Kh)=some (ArP "__init__")
 GY:A9 (T.GY)=some (ArP "ascii")
 gD:∀Cl x nm g,T.UJ Cl x=some g->A9 x=some nm->∃K:Atw,K.In C.h1∧Z5 K Cl g nm
 enc:∀s b,T.enc s=some b->∃X,A9 s=some X∧b.length≤1000∧∀t u,Gives (Builtin.«str.encode» ⟨[.str X t,.str (ArP "ascii") u],[]⟩) (.bytes b.toArray)
inductive T3:MK->ArR->ArR->List ArR->Prop
 |fnS {g co}:T3 (.fn g true) co (.ref g) [co]
 |fnC {g co}:T3 (.fn g false) co (.ref g) []
 |pop {co}:T3 .pop co (.builtin "list.pop") [co]
 |app {co}:T3 .app co (.builtin "list.append") [co]
 |ext {co}:T3 .ext co (.builtin "list.extend") [co]
 |exc {co}:T3 .exc co (.builtin "Exception.__init__") []
 |enc {co}:T3 .enc co (.builtin "str.encode") [co]
 |idx {co}:T3 .idx co (.builtin "tuple.index") [co]
theorem Oj{x y:Nm}(h:ArX x y=true)(hx:A9 x=some n)(hy:A9 y=some m):n=m:=uniq (beq_iff.mp h▸hy) hx
section
variable{A:Ar4}{σ:St}{W:Wd}{s:ArT}{T:Tab}
def Meth(C:Cx)(s:ArT)(co:ArR)(nm:Str)(cf:ArR)(first:List ArR):Prop:=
 ∀(A:Ar4) (E:ArR->ArT->Prop) (Q:ArR×List ArR->ArT->Prop) (pl:Sem Bool),(∀t,Q (cf,first) {s with toks:=t})->Ar5 (model C.prog C.w) A (getMethod co nm pl) Q E s
inductive Mg(C:Cx)(s:ArT)(nm:Str)(f:MK->Bool)(co:ArR):Prop
 |mk (m:MK) (cf:ArR) (first:List ArR) (h:f m=true) (k:T3 m co cf first) (me:Meth C s co nm cf first)
theorem noDict{a:Ar0}(nd:∃o,s.heap.get? a=some o∧o.dict=none):∀b,Ati a= .ref b->∃o,s.heap.get? b=some o∧o.dict=none:=λz e=>Ayy e▸nd
theorem GB.nd(nd:GB h a):∃o,h.get? a=some o∧o.dict=none:=nd.imp λz q=>⟨q.1,q.2.1⟩
theorem Ni(MO:DM C T){a:Ar0}{items:Array ArR}(il:s.heap.IsList a items)(nd:GB s.heap a){nm:Str}(hx:A9 x=some nm){f:MK->Bool}(e:ArX x T.Di=true)(h:f .app=true):Mg C s nm f (.ref a):=by obtain rfl:=Oj e hx MO.Di;exact⟨.app,_,_,h,.app,λA E Q pl q=>Aua il.typeIs Aun Aui PySem.F.type_list_append (noDict nd.nd) (q _)⟩
theorem Vv(AK:CN C T)(MO:DM C T)(I:Inv C W σ s){nm:Str}(hx:A9 x=some nm){j:Nat}(hj:W.τ[j]?=some p)(h:gP T j x σ f=true):Mg C s nm f (.ref p.1):=by
 refine I.Fh hj h (λCl l h zz b=>QP h λg ht h=>?_) λh=>I.GH hj h (λl q m vs ws h zz b=>Ni MO b.il b.nd hx (bl h) (br h)) λh=>Ti h (λo ol h=>?_) ff
 ·refine Pk (P:=λq=>AW l x=q->_) h (λh hn=>?_) ff rfl;refine hide λAx Aa=>?_
  obtain⟨⟨sl,e1⟩,es,n,CK,he,hk,hz,hN⟩:=b;obtain⟨K,hK,D⟩:=AK.FF _ _ _ _ ht hx;refine Aa ?_;have sh:shadowIn (some ⟨.type "dict",none,.dict es n,CK⟩) nm=some false:=congrArg (Option.map _) (ED hk (hN.noName hx hn));exact⟨_,_,_,h,.fnS,λA E Q pl q=>method_fn (I.keepIn hK) (EP e1 he) (Azj D.get).1 (Azj D.get).2 D.at_ D.fn sh (q _)⟩
 ·refine AO.listI (Q:=λo=>σ.obj j=some o->Mg C s nm f (.ref p.1)) h (λa l z h ol=>(I.at hj ol).elim λvs b=>?_) (λzz=>ff) ol;refine B9 h (λe h=>?_) λzz h=>B9 h (Ni MO b.il b.nd hx) λzz h=>?_
  ·obtain rfl:=Oj e hx MO.S9;exact⟨.pop,_,_,h,.pop,λA E Q pl q=>Aua b.il.typeIs Aun Ayb PySem.F.type_list_pop (noDict b.nd.nd) (q _)⟩
  ·obtain rfl:=Oj (bl h) hx MO.EV;exact⟨.ext,_,_,br h,.ext,λA E Q pl q=>Aua b.il.typeIs Aun Aya PySem.F.type_list_extend (noDict b.nd.nd) (q _)⟩
theorem WK(Q:ArR×List ArR->ArT->Prop)(E:ArR->ArT->Prop)(pl:Sem Bool)(q:∀t,Q (.builtin "Exception.__init__",[]) {s with toks:=t}):Ar5 (model C.prog C.w) A (getMethod (.type "Exception") (ArP "__init__") pl) Q E s:=by
 have X:Frag.In [] s.heap:=λa o e=>ns e
 have v3:opaqueClassAbove (.type "Exception")=pure none:=by unfold opaqueClassAbove;dsimp only;refine(show Manifest.isStub "Exception"=false from by decide +kernel).symm▸?_;rfl
 have L0:AtV (model C.prog C.w) s.heap (AzG (.type "Exception")) (.type "type"):=Looks.of_pure rfl;unfold getMethod specialOf;refine ArQ (ArQ (L0.here ((Azb X type_tga).here ?_)));dsimp only;refine(if_pos canon_tga).symm▸?_;refine ArQ (ArY (Q:=λv s'=>Q (v,[]) s') (E:=E) ?_ (λzz zz z=>ArS z) λzz zz z=>z);refine cls_open X (Looks.of_pure v3) L0 type_tga (looks_hook X (r:=none) (by rfl)) (by show subIn [] _ _=_;rfl) (r:=.val (.builtin "Exception.__init__")) (by kernel_rfl) ?_;exact ArS (by show Ar5 _ _ (handedOut (.builtin "Exception.__init__")) _ _ _;rw[handedOut_of (by decide +kernel)];exact ArS (q _))
theorem Vw(MO:DM C T)(I:Inv C W σ s){nm:Str}(hx:A9 x=some nm)(h:gQ T x f co=true):Mg C s nm f co:=by
 refine B9 h (λh z=>?_) λz h=>?_
 ·induction co with
  |ref Cl=>
   refine Cp h λg ht h=>?_
   obtain⟨K,hK,D⟩:=MO.gD _ _ _ _ ht hx;obtain⟨mc,r1,r2⟩:=D.rd;exact⟨_,_,_,h,.fnC,λA E Q pl q=>method_cls (I.keepIn hK) D.hg (cls_value (I.keepIn hK) r1 r2 rfl (q _))⟩
  |_=>exact ff h
 ·induction co with
  |type t=>obtain rfl:=Oj (bl (bl h)) hx MO.Kh;obtain rfl:=beq_iff_eq.mp (br (bl h));exact⟨_,_,_,br h,.exc,λA E Q pl q=>WK Q E pl q⟩
  |_=>exact ff h
theorem Vu(AK:CN C T)(MO:DM C T)(I:Inv C W σ s){nm:Str}(hx:A9 x=some nm)(ho:VR C W s.heap o co)(h:Vt T o x σ f=true):Mg C s nm f co:=
 VR.Ay ho h (λj p h hj=>Vv AK MO I hx hj h) λh=>VR.AL ho h (Vw MO I hx) λh=>VR.cStr ho h (λz X t h hz=>by
  obtain rfl:=Oj (bl h) hx MO.EU;exact⟨_,_,_,br h,.enc,λA E Q pl q=>Aua (typeIs_str _ _ _) PySem.F.plainAttrs_str Ayc PySem.F.type_str_encode (λzz e=>nomatch e) (q _)⟩) λh=>VR.AU ho h (λl vs a h ht v=>by
  obtain rfl:=Oj (bl h) hx MO.GZ;exact⟨_,_,_,br h,.idx,λA E Q pl q=>Aua ht.Af.typeIs PySem.F.plainAttrs_tuple Aye PySem.F.type_tuple_index (noDict ht.nd) (q _)⟩) ff
end
section
set_option backward.match.sparseCases true
variable{C:Cx}
theorem ID{prog:AsR}{w:ArV}{A:Ar4}{Q:Option Fin×Unit->ArT->Prop}{E:ArR->ArT->Prop}{s:ArT}{items:Array ArR}{x:ArR}{e:Nat->Bool}
  (he:∀i (hi:i<items.size) (Q:Bool->ArT->Prop),Q (e i) s->Ar5 (model prog w) A (eqBool items[i] x) Q E s){j:Nat}(hj:j<items.size)(hit:e j=true)(hno:∀i,i<j->e i=false)
  (h:Q (some<|.done<|.ret<|.int j s.toks,()) {s with toks:=s.toks+1}):∀(k i:Nat) (L:List Nat) (hs:∃bs,bs++List.range' i k=L),i+k=items.size->i≤j->
  Ar5 (model prog w) A (List.forIn'.loop L (λa (z:a∈L) (z:Option Fin×Unit)=>match items[a]? with
      |some y=>do
       let r ←eqBool y x
       if r=true then do
         let r ←retInt (a:Int)
         pure (AvJ (some r,()))
        else pure (AsG (none,()))
      |_=>pure (AsG (none,()))) (List.range' i k) (none,()) hs) Q E s
 |0,i,L,hs,hk,hi=>absurd hj (Nat.not_lt.mpr (hk▸hi))
 |k+1,i,L,hs,hk,hi=>by
  have SJ:=Axs hi hj;show Ar5 _ _ ((match items[i]? with
      |some y=>do
       let r ←eqBool y x
       if r=true then do
         let r ←retInt (i:Int)
         pure (AvJ (some r,()))
        else pure (AsG (none,()))
      |_=>pure (AsG (none,())))>>=_) _ _ _
  rw[Au6 SJ];refine ArQ<|ArQ<|he i SJ _ ?_;by_cases q:i=j
  ·subst q;rw[hit,if_pos rfl];exact ArQ (aI<|ArS<|ArS<|ArS h)
  ·have q:=Nat.lt_of_le_of_ne hi q;rw[hno i q,if_neg (by decide)];exact ArS (ID he hj hit hno h k (i+1) L _ ((AxI i k).trans hk) q)
theorem N3(a:Ar0)(items:Array ArR)(n:Nat)(dd:Option Ar0)(sl:Array (Option ArR))(x:ArR)(e:Nat->Bool)
  (he:∀i (hi:i<items.size) (prog:AsR) (w:ArV) (A:Ar4) (E:ArR->ArT->Prop) (s:ArT) (Q:Bool->ArT->Prop),Q (e i) s->Ar5 (model prog w) A (eqBool items[i] x) Q E s)
  (j:Nat)(hj:j<items.size)(hit:e j=true)(hno:∀i,i<j->e i=false):
  Meets (Builtin.«tuple.index» ⟨[.ref a,x],[]⟩)
   (λz R s=>s.heap.get? a=some {cls:=.type "tuple",dict:=dd,data:=.seq items n,slots:=sl}∧R (.ok (.ret (.int j s.toks))) {s with toks:=s.toks+1}):=
 .of_wp λprog w A R s h=>by
  obtain⟨hp,g,d,tk,os⟩:=s;obtain⟨hl,h⟩:=h;have f2:=Aud;unfold Builtin.«tuple.index»;simp only[Std.Legacy.Range.forIn_eq_forIn_range']
  wp_walk using Asd hl
  have e1:[:min items.size items.size].size=items.size:=by simp[Std.Legacy.Range.size]
  refine ID (e:=e) (λi hi Q q=>he i hi prog w _ _ _ Q q) hj hit hno ?_ [:min items.size items.size].size 0 _ _ (by rw[e1];omega) (by omega);exact ArS ⟨_,rfl,h⟩
theorem MF{prog:AsR}{w:ArV}{A:Ar4}{E:ArR->ArT->Prop}{s:ArT}{Q:Bool->ArT->Prop}{u v:ArR}{i j:Int}(hu:u= .int i tu)(hv:v= .int j tv)(h:Q (decide (i=j)) s):Ar5 (model prog w) A (eqBool u v) Q E s:=by subst hu hv;exact wpAny_eqBool_int h
section
variable{A:Ar4}{σ:St}{W:Wd}{s:ArT}{T:Tab}
inductive Mf(W:Wd):List AV->List Int->Prop
 |nil:Mf W [] []
 |cons {l:Ad} {i r m}:l.ev W.ρ=some i->Mf W r m->Mf W (.int l::r) (i::m)
inductive fS(W:Wd)(l:List AV)(cl:List ArR):Prop
 |mk (m:List Int) (h:Mf W l m) (e:m.length=cl.length) (at_:∀i (hi:i<cl.length),∃t,cl[i]= .int (m.getD i 0) t)
theorem RY{l:List AV}(r:Ae C W h l cl)(e:Ug l=true):fS W l cl:=by
 induction l generalizing cl with
 |nil=>exact Ae.inv r ⟨[],.nil,rfl,λi hi=>absurd hi (AxD i)⟩
 |cons v l ih=>
  refine Ae.inv r λcv cl a r=>?_
  refine AV.FC (Q:=λv=>VR C W h v cv->fS W (v::l) (cv::cl)) e (λx e a=>VR.inv a λi t hx=>?_) (λz=>ff) a;cases ih r e with
  |mk m h1 h2 h3=>
   refine⟨i::m,.cons hx h1,congrArg Auv h2,λj hj=>?_⟩
   induction j with
   |zero=>exact⟨t,rfl⟩
   |succ j=>exact h3 j (Axv hj)
inductive AdM(C:Cx)(W:Wd)(s:ArT)(σ:St)(m:List Int)(j:Int)(n:Nat)(k:K AV):Prop
 |mk (i:Nat) (σ':St) (hi:i<m.length) (e:m.getD i 0=j) (no:∀i',i'<i->m.getD i' 0≠j) (nr:Bg C W s σ σ') (h:k (.int (.k (Ar6 (n+i)))) σ'=true)
theorem oF{y:Ad}{j:Int}(hy:y.ev W.ρ=some j){k:K AV}{l:List AV}{n:Nat}(I:Inv C W σ s)(r:Mf W l m)(h:idx l y n σ k=true):AdM C W s σ m j n k:=by
 induction r generalizing n σ with
 |nil=>exact ff h
 | @cons x i0 l m e r ih=>
  obtain⟨σ1,n1,h⟩:=ER (k:=λc σ=>bt c (k (.int<|.k<|Ar6 n) σ) (idx l y (n+1) σ k)) I (Ad.Dv e hy) h;refine B9 h (λq h=>⟨0,σ1,Nat.zero_lt_succ _,Awm.mp<|of_decide_eq_true q,λi' hi=>absurd hi (AxD _),n1,h⟩) λq h=>?_
  cases ih n1.1 h with
  |mk i σ2 a1 a2 a3 n2 h=>
   refine⟨i+1,σ2,Nat.succ_lt_succ a1,a2,λi' hi=>?_,n1.trans n2,(AxI n i)▸h⟩
   induction i' with
   |zero=>exact λe=>of_decide_eq_false q (Awm.mpr e)
   |succ i'=>exact a3 i' (Axv hi)
theorem Sp.cT(I:Inv C W σ s){l:List AV}{cl:List ArR}(ht:IsT W s.heap a cl.toArray)(vl:Ae C W s.heap l cl)(hv:VR C W s.heap v cv):
  Sp C A σ W s (call (.builtin "tuple.index") [.ref a,cv]) (λk z=>cT l v σ k) (RV C):=λk ke h=>by
 obtain⟨v',σ1,n1,Jv,_,h'⟩:=Aw I hv (br h);refine VR.cInt (P:=λcv=>Ar5 (model C.prog C.w) A (call (.builtin "tuple.index") [.ref a,cv]) (Ah C k σ W s (RV C)) (Ac C ke σ W s) s) Jv h' (λy j u h' hy=>?_) ff;cases RY vl (br (bl h)) with
 |mk m h1 h2 h3=>cases oF hy n1.1 h1 h' with
  |mk i σ2 a1 a2 a3 n2 h=>
   obtain⟨dd,n,sl,ho⟩:=LX ht.Af;refine AyJ Aye ht.Af.typeIs PySem.F.entry_tuple_index (PySem.F.args_tuple_index_2 _ _) (N3 a cl.toArray n dd sl (.int j u) (λi=>decide (m.getD i 0=j)) ?_ i (Axt a1 h2) (decide_eq_true a2) (λi' hi=>decide_eq_false (a3 i' hi))) ⟨ho,?_⟩
   ·exact λi hi prog w A E s Q q=>(h3 i hi).elim λt e=>MF e rfl q
   ·rw[AxL] at h;exact(n1.trans n2).Bc (R:=RV C) h (.int<|Ad.Ci _)
theorem Vm(I:Inv C W σ s){a Cl:Ar0}{dd:Option Ar0}{fs:Array ArR}{sl:Array (Option ArR)}(xc:Ff C Cl)(e1:s.heap.get? a=some ⟨.ref Cl,dd,.fields fs,sl⟩){cv:ArR}{Q E:ArR->ArT->Prop}
  (h:Ar5 (model C.prog C.w) A.in1 (Builtin.«BaseException.__init__» ⟨[.ref a,cv],[]⟩) (λfin s'=>match fin with | .done f=>wants Q E (.ok f) s' | .again c'=>c'.quiet=true∧Asu (model C.prog C.w) A c' (wants Q E) s') (λe s'=>wants Q E (.error e) s') s):
  Ar5 (model C.prog C.w) A (call (.builtin "Exception.__init__") [.ref a,cv]) Q E s:=by
 obtain⟨K,hK,s1,s2⟩:=xc;have X:=I.keepIn hK;have F:=excClass_Exception;have LT:AtV (model C.prog C.w) s.heap (AzG (.ref a)) (.ref Cl):=(Aw6 e1).andThen .now;have LI:AtV (model C.prog C.w) s.heap (AuL (.ref a) (.type "Exception")) true:=LT.andThen (Azc X s1);refine AzK (AyO F.init.plain F.initEntry ?_);simp only[AyM,F.initKind,F.initSplit,F.initSig];refine ArQ (LI.here ?_);simp only[Bool.not_true,AsM,if_false];unfold Bind.checkArgs;dsimp only;refine ArQ (m:=Bind.printed "*" true _ _) ?_;unfold Bind.printed Bind.receiverType;rw[if_neg (by decide)];refine ArQ (m:=(if(Manifest.Receiver.self==Manifest.Receiver.cls)=true then Asl (Ati a) else AzG (.ref a))) ?_;refine GQ (by decide) ?_;refine LT.here (ArQ (m:=typeNameWhole _) ?_);obtain⟨cd,hcd,_⟩:=AxS.mp (show(clsIn K Cl).bind _=some true from s1);have LN:AtV (model C.prog C.w) s.heap (typeNameWhole (.ref Cl)) cd.name.toString:=(Aza X hcd).andThen .now;refine LN.here (ArS ?_);dsimp only;rw[if_pos (show(("Exception":String) != "*")=true from by decide)];refine AA (AzW ?_);show Ar5 _ _ (Bind.check _ _ _ _ []) _ _ _;rw[check_varPos];exact ArS h
theorem Sp.HP(I:Inv C W σ s){j:Nat}(hj:W.τ[j]?=some p){cv:ArR}:
  Sp C A σ W s (call (.builtin "Exception.__init__") [.ref p.1,cv]) (λk z=>HP j σ k) (RV C):=λk ke h=>by
 refine I.KL hj h (λCl d h z b=>?_) ff;obtain⟨ep,xc,dd,fs,sl,TR,e1,e3⟩:=b;have En:1<fs.size:=(AsX.mp e3).1;have h0:0<fs.size:=AxM En;refine Vm I xc e1 ?_;unfold Builtin.«BaseException.__init__»;dsimp only;refine GQ (by simp) ?_;unfold Azf Avd;have e1':=ArW (h:=s.heap) {cls:=.type "tuple",data:=.seq [cv].toArray} e1;refine ArQ (AsF (ArQ (AB e1' rfl (x:=fs[0]) (Au6 h0) (ArQ (At0 e1' rfl h0 ?_)))) (by show 1≤AtY;rw[Ast];decide));obtain⟨J1,X1⟩:=I.push {cls:=.type "tuple",data:=.seq [cv].toArray} s.toks;have g:=Asa (Ats (·.setIfInBounds 0 (.ref s.heap.objs.size))) e1' rfl;have gk:∀b,b≠p.1->_:=λb (hb:b≠p.1)=>Asj (h:=s.heap.push {cls:=.type "tuple",data:=.seq [cv].toArray}) (Ats (·.setIfInBounds 0 (.ref s.heap.objs.size))) (AuD hb)
 have fin:Ah C k σ W s (RV C) .none {s with heap:=(s.heap.push {cls:=.type "tuple",data:=.seq [cv].toArray}).update p.1 (Ats (·.setIfInBounds 0 (.ref s.heap.objs.size)))}:=by
  generalize (s.heap.push {cls:=.type "tuple",data:=.seq [cv].toArray}).update p.1 (Ats (·.setIfInBounds 0 (.ref s.heap.objs.size)))=h' at g gk ⊢;obtain⟨J2,X2⟩:=J1.put (s':={s with heap:=h'}) (o:=.exc Cl d) hj (λb o h1 z hb=>(gk b h1).trans hb)
   (λT=>⟨ep,xc,dd,_,sl,TR,g,by rw[Array.getElem?_setIfInBounds];simpa using e3⟩) ⟨_,g,trivial⟩ (by rw[ep];exact⟨_,g,trivial⟩)
   (λa ha y hy iB=>IX (ha.elim id λe=>e.trans ep) e1' hy iB nofun) rfl rfl
  exact⟨.AR,_,W,h,X1.trans X2,J2,.AR⟩
 generalize fs[0]=f0
 induction f0 with
 |ref a=>exact wpAny_letGo (ArS fin)
 |_=>exact ArS (ArS fin)
end
end
def Dd(C:Cx)(cf:ArR):Prop:=∀(M:Auw) (h:Asb),(∀a o,C.h1.get? a=some o->h.get? a=some o)->∃k,(k=Awu∨k=Awv∨k=Awt)∧AtV M h (keeperOf cf) k
def As(A:Ar4)(W:Wd):Prop:=∃l,A.frames=some l∧∀e∈l,e.scope.kind≠ .module∧∃L∈W.fs,e.frame=some L
def AQ(C:Cx)(k:K AV)(ke:K AV)(σ:St)(W:Wd)(s:ArT)(r:Auh)(s':ArT):Prop:=match r with
 | .ok (.ret v)=>Ah C k σ W s (RV C) v s' | .ok _=>False | .error e=>Ac C ke σ W s e s'
def H5(C:Cx)(a:Ar0):Prop:=∃o fd,C.h1.get? a=some o∧o.data= .func fd
structure Cq(C:Cx)(n:Nat)(cl:CL):Prop where
 rG:∀f vs σ k ke,cl f vs σ k ke=true->∃v,f= .Bd v∧Dd C v
 run:∀(A:Ar4) (σ:St) (W:Wd) (s:ArT) (f:AV) (vs:List AV) (cf:ArR) (cvs:List ArR),BQ n true A->Inv C W σ s->As A W->VR C W s.heap f cf->Ae C W s.heap vs cvs->
  Sp C A σ W s (call cf cvs) (λk ke=>cl f vs σ k ke) (RV C)
 code:∀(A:Ar4) (σ:St) (W:Wd) (s:ArT) (a:Ar0) (vs:List AV) (cvs:List ArR) (k ke:K AV),BQ n true A->Inv C W σ s->As A W->H5 C a->Ae C W s.heap vs cvs->cl (.Bd<|.ref a) vs σ k ke=true->
  Asu (model C.prog C.w) A (.call (.ref a) ⟨cvs,[]⟩) (AQ C k ke σ W s) s
theorem AD.ar{sc E env}(e:AD C A W sc E env):As A W:=e.around.imp λz q=>⟨q.1,q.2.1⟩
theorem As.up{W':Wd}(h:As A W)(t:W.τ<+:W'.τ∧W.fs<+:W'.fs):As A W':=h.imp λzz q=>⟨q.1,λe he=>⟨(q.2 e he).1,(q.2 e he).2.imp λzz z=>⟨t.2.subset z.1,z.2⟩⟩⟩
theorem Br(i:String):Dd C (.builtin i):=λM h z=>⟨.machine,.inr<|.inl rfl,.now⟩
theorem UI(i:String):Dd C (.type i):=λM h z=>⟨.machine,.inr<|.inl rfl,.now⟩
section
variable{A:Ar4}{σ:St}{W:Wd}{s:ArT}{T:Tab}{n:Nat}{cl:CL}
theorem Gk{α:Type}{l:List α}{f:α->Bool}(h:FG l f=true):∃a,l= [a]∧f a=true:=by
 induction l with
 |nil=>exact ff h
 |cons a r=>exact BZ h (λe h=>⟨a,e▸rfl,h⟩) ff
theorem AfZ{α:Type}{l:List α}{f:α->Bool}(h:AaD l f=true):∃a b,l= [a,b]∧f a=true:=by
 cases l with
 |nil=>exact ff h
 |cons a r=>obtain⟨b,rfl,h⟩:=Gk (f:=λz=>f a) h;exact⟨a,b,rfl,h⟩
@[elab_as_elim] theorem Ae.one{h:Asb}{v:AV}{cvs:List ArR}{P:List ArR->Prop}(r:Ae C W h [v] cvs)(k:∀cv,VR C W h v cv->P [cv]):P cvs:=Ae.inv r λcv cl a r=>Ae.inv (P:=λcl=>P (cv::cl)) r (k cv a)
@[elab_as_elim] theorem Ae.two{h:Asb}{u v:AV}{cvs:List ArR}{P:List ArR->Prop}(r:Ae C W h [u,v] cvs)(k:∀cu cv,VR C W h u cu->VR C W h v cv->P [cu,cv]):P cvs:=Ae.inv r λcu cl a r=>Ae.one (P:=λcl=>P (cu::cl)) r (k cu · a)
theorem Xd(ok:Cq C n cl){v:ArR}{vs:List AV}{σ:St}{k ke:K AV}(h:cl (.Bd v) vs σ k ke=true):Dd C v:=(ok.rG _ _ _ _ _ h).elim λz q=>AV.Bd.inj q.1▸q.2
theorem JU(AK:CN C T)(MO:DM C T)(I:Inv C W σ s){m:MK}{o:AV}{co:ArR}{i:String}{first:List ArR}(mk:T3 m co (.builtin i) first)(ho:VR C W s.heap o co){vs:List AV}{cvs:List ArR}(hv:Ae C W s.heap vs cvs)
  {k:K AV}{ke:K AV}(h:JT T cl m o vs σ k ke=true):Ar5 (model C.prog C.w) A (call (.builtin i)<|first++cvs) (Ah C k σ W s<|RV C) (Ac C ke σ W s) s:=by
 cases mk with
 |pop=>exact VR.Ay ho h (λj p h hj=>BZ h (λe h=>by
  subst e;exact Ae.inv (P:=λcvs=>Ar5 (model C.prog C.w) A (call (.builtin "list.pop") (.ref p.1::cvs)) (Ah C k σ W s (RV C)) (Ac C ke σ W s) s) hv (Sp.d3 I hj k ke h)) ff) ff
 |app=>
  refine VR.Ay ho h (λj p h hj=>?_) ff;obtain⟨v,rfl,h⟩:=Gk h;refine hv.one λcv a=>ArY (Sp.BJ I hj a (λzz σ=>k .AR σ) ke h) (λr s1 q=>?_) λzz zz q=>q
  induction q with
  |mk _ σ1 W1 h1 X1 I1 e=>exact⟨.AR,σ1,W1,h1,X1,I1,(show r= .none from e)▸ .AR⟩
 |ext=>refine VR.Ay ho h (λj p h hj=>?_) ff;obtain⟨v,rfl,h⟩:=Gk h;exact hv.one λcv a=>VR.Ay a h (λi q h hi=>Sp.bN I hj hi k ke h) ff
 |exc=>obtain⟨u,v,rfl,h⟩:=AfZ h;exact hv.two λcu cv a zz=>VR.Ay a h (λj p h hj=>Sp.HP I hj k ke h) ff
 |enc=>
  refine VR.cStr ho h (λz X t h hX=>?_) ff;obtain⟨v,rfl,h⟩:=Gk h;refine hv.one λcv a=>VR.cStr a h (λe Y u h hE=>Cp (br h) λb hb h'=>?_) ff
  obtain rfl:=Oj (bl h) hE MO.GY;obtain⟨X',h1,h2,g⟩:=MO.enc _ _ hb;obtain rfl:=uniq hX h1;exact call_gives Ayc (typeIs_str _ _ _) PySem.F.entry_str_encode (PySem.F.args_str_encode_2 _ _) (g _ _) ⟨Li<|AtH h2 (by decide),(Bg.refl I).Bc (R:=RV C) h' .BG⟩
 |idx=>refine VR.AU ho h (λl vs p h ht vl=>?_) ff;obtain⟨v,rfl,h⟩:=Gk h;exact hv.one λcv a=>Sp.cT I ht vl a k ke h
theorem Sp.JT(AK:CN C T)(MO:DM C T)(ok:Cq C n cl)(f:BQ n true A)(ar:As A W)(I:Inv C W σ s){m:MK}{o:AV}{co cf:ArR}{first:List ArR}(mk:T3 m co cf first)(ho:VR C W s.heap o co){vs:List AV}{cvs:List ArR}(hv:Ae C W s.heap vs cvs)
  {k:K AV}{ke:K AV}(h:JT T cl m o vs σ k ke=true):Dd C cf∧Ar5 (model C.prog C.w) A (call cf<|first++cvs) (Ah C k σ W s<|RV C) (Ac C ke σ W s) s:=by
 induction mk with
 |fnS=>exact⟨Xd ok h,ok.run A σ W s _ _ _ _ f I ar .Bd (.cons ho hv) k ke h⟩
 |fnC=>exact⟨Xd ok h,ok.run A σ W s _ _ _ _ f I ar .Bd hv k ke h⟩
 |pop=>exact⟨Br _,JU AK MO I .pop ho hv h⟩
 |app=>exact⟨Br _,JU AK MO I .app ho hv h⟩
 |ext=>exact⟨Br _,JU AK MO I .ext ho hv h⟩
 |exc=>exact⟨Br _,JU AK MO I .exc ho hv h⟩
 |enc=>exact⟨Br _,JU AK MO I .enc ho hv h⟩
 |idx=>exact⟨Br _,JU AK MO I .idx ho hv h⟩
end
section
variable{X:CX}{n:Nat}{sc:Asv}
theorem KI.noStar{b:Bool}{l:List Cd}(h:KI C X n b sc l es)(pos:Pos)(env:Env):(backTo pos<|Azt es env).any (·.1)=false∧(backTo pos<|Azt es env).all (!·.1)=true:=by
 induction h with
 |nil=>exact⟨rfl,rfl⟩
 |cons _ st _ ih=>rw[G9 st];exact⟨ih.1,ih.2⟩
theorem KI.args{b:Bool}{l:List Cd}{es:List Expr}(h:KI C X n b sc l es){pos:Pos}{env:Env}{M:Auw}{A:Ar4}{E:ArR->ArT->Prop}{s:ArT}{f:ArR}{Q:Args->ArT->Prop}
  (q:Ar5 M A (spliced<|backTo pos<|Azt es env) (λvs s'=>Q ⟨vs,[]⟩ s') E s):Ar5 M A (evalArgs f true (backTo pos<|Azt es env)<|backToKw pos<|keywordEach [] env) Q E s:=by
 induction h with
 |nil=>
  unfold evalArgs;show Ar5 M A (spliced []>>=_) Q E s;refine Az q (λvs s' hq=>AA ?_) λz z x=>x
  refine Aso ?_;exact AA (AA<|ArS hq)
 |cons _ st _=>rw[G9 st] at q ⊢;exact evalArgs_plain q
noncomputable def notAttr:Expr->Bool
 | .Attribute .. =>false |_=>true
theorem UH(h:notAttr ef=true)(args:List Expr)(kws:List Keyword)(pos:Pos)(env:Env):eval (.Call ef args kws pos) env=(do
  callWith pos (←eval ef env) [] (backTo pos<|Azt args env) (backToKw pos<|keywordEach kws env)):=by
 cases ef<;>first |rfl |cases h
theorem SE.call(ok:Cq C n X.cl){l:List Cd}{pos:Pos}(hn:notAttr ef=true)(hf:SE C X n true sc c ef)(h:KI C X n true sc l es):SE C X n true sc (callC c l) (.Call ef es [] pos):=λA σ W s E env f I e=>by
 rw[UH hn];refine Sp.bind (m:=λk ke=>c X E σ k ke) (g:=λa σ k ke=>Md X E l σ (λvs σ=>X.cl a vs σ k ke) ke) (hf A σ W s E env f I e) λa ca σ1 W1 s1 X1 I1 r1=>λk ke q=>?_
 refine callWith_of (P:=λh=>∃k,(k=Awu∨k=Awv∨k=Awt)∧AtV (model C.prog C.w) h (keeperOf ca) k) (by refine((h.noStar pos env).1).symm▸?_;rfl) (λz p=>p)<|h.args ?_;refine ArY (Sp.Md h f I1 (e.up X1.up) _ ke q) (λcvs s2 q=>?_) λz z q=>q
 obtain⟨vs,σ2,W2,h2,X2,I2,r2⟩:=q;obtain⟨v,rfl,cc⟩:=ok.rG _ _ _ _ _ h2;obtain rfl:v=ca:=VR.inv (P:=λca=>v=ca) r1 rfl;refine⟨cc _ _ I2.base,?_⟩;exact ArY (ok.run A σ2 W2 s2 _ vs _ cvs f I2 ((e.up X1.up).up X2.up).ar .Bd r2 k ke h2) (λz z q=>q.base X2) λz z q=>q.base X2
theorem SE.FF(AK:CN C X.T)(MO:DM C X.T)(ok:Cq C n X.cl){c:Cd}{o:Expr}{y:Nm}{nm:Str}{l:List Cd}{es:List Expr}{apos pos:Pos}(hy:A9 y=some nm)(hn:Gg o=true)(ho:SE C X n true sc c o)(h:KI C X n true sc l es)
  (hl:es.length<30)(hp:(apos.endLine==pos.line)=true):SE C X n true sc (iP c y l) (.Call (.Attribute o nm apos) es [] pos):=λA σ W s E env f I e=>by
 rw[arm_eval_Call];refine Sp.bind (m:=λk ke=>c X E σ k ke) (g:=λa σ k ke=>res a σ λa σ=>Vt X.T a y σ λm=>Md X E l σ (λvs σ=>JT X.T X.cl m a vs σ k ke) ke) (λk ke q=>Ie hn (ho A σ W s E env f I e k ke q)) λa ca σ1 W1 s1 X1 I1 r1=>λk ke q=>?_
 obtain⟨a2,σ2,n2,r2,ns,q⟩:=Aw I1 r1 q;obtain⟨m,cf,first,q,mk,me⟩:=Vu AK MO n2.1 hy r2 q;refine Bm ?_;have ON:methodCallForm (es.length+([]:List Keyword).length) (backTo pos<|Azt es env) (backToKw pos<|keywordEach [] env)=true:=by unfold methodCallForm;refine((h.noStar pos env).2).symm▸?_;exact decide_eq_true hl
 unfold methodCall;refine ON.symm▸?_;refine Dz<|ArQ (me _ _ _ _ λt=>?_);obtain⟨J,Y⟩:=n2.1.tok t;unfold methodCallPos;refine hp.symm▸?_;refine AA ?_;refine callWith_of (P:=λh=>∃k,(k=Awu∨k=Awv∨k=Awt)∧AtV (model C.prog C.w) h (keeperOf cf) k) (by refine((h.noStar pos env).1).symm▸?_;rfl) (λz p=>p)<|h.args ?_;have Z:Ext σ1 W1 s1 σ2 W1 {s1 with toks:=t}:=n2.ext.trans Y;refine ArY (Sp.Md h f J ((e.up X1.up).up Z.up) _ ke q) (λcvs s2 q=>?_) λz z q=>q.base Z
 obtain⟨vs,σ3,W3,h3,X3,I3,r3⟩:=q;obtain⟨cc,run⟩:=Sp.JT AK MO ok f (((e.up X1.up).up Z.up).up X3.up).ar I3 mk (J.vr X3<|n2.1.vr Y r2) r3 h3;exact⟨cc _ _ I3.base,ArY run (λz z q=>q.base (Z.trans X3)) λz z q=>q.base (Z.trans X3)⟩
end
section
set_option backward.match.sparseCases true
variable{C:Cx}
inductive RF(C:Cx)(W:Wd)(h:Asb):Fl->Flow->Prop
 |next:RF C W h .next .next
 |brk:RF C W h .brk .brk
 |cont:RF C W h .cont .cont
 |ret {v cv}:VR C W h v cv->RF C W h (.ret v) (.ret cv)
noncomputable def RF.K(C:Cx)(W:Wd)(h:Asb)(P:Flow->Prop):Fl->Prop
 | .next=>P .next
 | .brk=>P .brk | .cont=>P .cont | .ret v=>∀cv,VR C W h v cv->P (.ret cv)
@[elab_as_elim] theorem RF.inv{W:Wd}{h:Asb}{f fl}{P:Flow->Prop}(r:RF C W h f fl):RF.K C W h P f->P fl:=by
 induction r with
 |ret a=>exact λk=>k _ a
 |_=>exact id
def SS(C:Cx)(X:CX)(n:Nat)(b:Bool)(sc:Asv)(c:Cs)(st:Auj):Prop:=
 ∀(A:Ar4) (σ:St) (W:Wd) (s:ArT) (E:AZ) (env:Env),BQ n b A->Inv C W σ s->AD C A W sc E env->Sp C A σ W s (exec st env) (λk ke=>c X E σ k ke) (RF C)
def SL(C:Cx)(X:CX)(n:Nat)(b:Bool)(sc:Asv)(c:Cs)(sts:List Auj):Prop:=
 ∀(A:Ar4) (σ:St) (W:Wd) (s:ArT) (E:AZ) (env:Env),BQ n b A->Inv C W σ s->AD C A W sc E env->Sp C A σ W s (execs sts env) (λk ke=>c X E σ k ke) (RF C)
section
variable{X:CX}{n:Nat}{b:Bool}{sc:Asv}
theorem SL.nil:SL C X n b sc (Cj .next) []:=λA σ W s E env f I e=>by rw[AyE];exact .pure (m:=λk ke=>Cj .next X E σ k ke) I (λz z h=>h) .next
set_option backward.match.sparseCases false in
theorem SL.cons{c r:Cs}{st:Auj}{sts:List Auj}(h:SS C X n b sc c st)(hr:SL C X n b sc r sts):SL C X n b sc (NI c r) (st::sts):=λA σ W s E env f I e=>by
 rw[arm_execs_cons];refine Sp.bind (m:=λk ke=>c X E σ k ke) (g:=λfl σ k ke=>match fl with | .next=>r X E σ k ke |f=>k f σ) (h A σ W s E env f I e) λfl cf σ1 W1 s1 X1 I1 r1=>?_
 induction r1 with
 |next=>exact hr A σ1 W1 s1 E env f I1 (e.up X1.up)
 |brk=>exact .pure I1 (λz z h=>h) .brk
 |cont=>exact .pure I1 (λz z h=>h) .cont
 |ret v=>exact .pure I1 (λz z h=>h) (.ret v)
set_option backward.match.sparseCases false in
noncomputable def Gh:Expr->Bool
 | .ListComp .. =>false | .SetComp .. =>false | .DictComp .. =>false |_=>true
theorem Cz(h:Gh v=true)(t:Option Expr)(l:Nat)(env:Env):swapsWith v t l env=pure false:=by cases v<;>first |rfl |cases h
theorem Kn(e:AD C A W sc E env):interactive env=false:=by unfold interactive;refine e.scope.symm▸?_;refine e.kind.symm▸?_;rfl
theorem SS.expr{pos:Pos}(hn:Gh v=true)(h:SE C X n b sc c v):SS C X n b sc (gO c) (.Expr v pos):=λA σ W s E env f I e=>by
 rw[arm_exec_Expr,Kn e,Cz hn];intro k ke q;refine Bm ?_;refine GQ (by decide) ?_;refine AA ?_;refine GQ (by decide) ?_;refine Az (h A σ W s E env f I e _ ke q) (λv s1 q=>?_) λz z q=>q
 obtain⟨a,σ1,W1,h1,X1,I1,r1⟩:=q;exact AzL ⟨.next,σ1,W1,h1,X1,I1,.next⟩
set_option backward.match.sparseCases false in
noncomputable def UU(c:Const):Bool:=match c with | .none=>true | .bool _=>true | .str _=>true |_=>false
theorem SS.const{kk:Nat}{p pos:Pos}(hc:UU c=true):SS C X n b sc (Cj .next) (.Expr (.Constant c kk p) pos):=λA σ W s E env f I e=>by
 rw[arm_exec_Expr,Kn e,Cz rfl];intro k ke q;refine Bm ?_;refine GQ (by decide) ?_;refine AA ?_;refine GQ (by decide) ?_;rw[arm_eval_Constant]
 induction c with
 |none=>exact AA (AzL ((Bg.refl I).post q .next))
 |bool _=>exact AA (AzL ((Bg.refl I).post q .next))
 |str _=>exact Ql (AzL ((Bg.refl I).Bc (R:=RF C) (k:=k) q RF.next))
 |_=>exact ff hc
theorem SS.pass{pos}:SS C X n b sc (Cj .next) (.Pass pos):=λA σ W s E env f I e=>by rw[arm_exec_Pass];exact Sp.standAt (.pure (m:=λk ke=>Cj .next X E σ k ke) I (λz z h=>h) .next)
theorem SS.brk{pos}:SS C X n b sc (Cj .brk) (.Break pos):=λA σ W s E env f I e=>by rw[arm_exec_Break];exact Sp.standAt (.pure (m:=λk ke=>Cj .brk X E σ k ke) I (λz z h=>h) .brk)
theorem SS.cont{pos}:SS C X n b sc (Cj .cont) (.Continue pos):=λA σ W s E env f I e=>by rw[arm_exec_Continue];exact Sp.standAt (.pure (m:=λk ke=>Cj .cont X E σ k ke) I (λz z h=>h) .cont)
theorem SS.ret{pos:Pos}(h:SE C X n b sc c v):SS C X n b sc (retS c) (.Return (some v) pos):=λA σ W s E env f I e=>by rw[arm_exec_Return,arm_evalOpt_some];refine Sp.standAt ?_;show Sp C A σ W s (eval v env>>=λx=>Asl (Flow.ret x)) _ _;refine(Sp.bind (m:=λk ke=>c X E σ k ke) (g:=λv σ k ke=>k (Fl.ret v) σ) (h A σ W s E env f I e) λa ca σ1 W1 s1 X1 I1 r1=>?_);exact .pure I1 (λz z h=>h) (.ret r1)
theorem SS.AfK{pos:Pos}:SS C X n b sc (retS<|CA .AR) (.Return none pos):=λA σ W s E env f I e=>by rw[arm_exec_Return];exact Sp.standAt (.pure (m:=λk ke=>retS (CA .AR) X E σ k ke) I (λz z h=>h)<|.ret .AR)
theorem SS.wD{by_:List Auj}{pos}(ht:SB C X n b sc t et)(hx:SL C X n b sc x bx)(hy:SL C X n b sc y by_):SS C X n b sc (wH t x y) (.If et bx by_ pos):=λA σ W s E env f I e=>by
 rw[arm_exec_If];refine Sp.standAt (Sp.bind (m:=λk ke=>t X E σ k ke) (g:=λc σ k ke=>bt c (x X E σ k ke) (y X E σ k ke)) (ht A σ W s E env f I e) λc c' σ1 W1 s1 X1 I1 r1=>?_);cases(show c=c' from r1)
 induction c with
 |true=>exact hx A σ1 W1 s1 E env f I1 (e.up X1.up)
 |false=>exact hy A σ1 W1 s1 E env f I1 (e.up X1.up)
def isName:Expr->Bool
 | .Name .. =>true |_=>false
set_option backward.match.sparseCases false in
noncomputable def B1(e:Expr):Option (List Expr):=match e with | .Tuple ts _ _=>some ts |_=>none
set_option backward.match.sparseCases false in
noncomputable def QO(e:Expr):Bool:=match e with | .List .. =>true |_=>false
def Lr(t value:Expr):Bool:=match B1 t with
 |none=> !QO t |some ts=>(match B1 value with |none=>true |some vs=> !(ts.length==2||ts.length==3)||vs.length != ts.length|| !ts.all isName)
noncomputable def Nk(f:Str->Pos->Option Str)(t:Expr):Option Str:=match t with | .Name id pos=>f id pos |_=>none
theorem Pl(h:isName t=false):Nk f t=none:=by
 cases t with
 |Name id pos=>exact ff h.symm
 |_=>rfl
theorem Nl{ts:List Expr}(h:ts.all isName=false):(ts.filterMap<|Nk f).length<ts.length:=by
 induction ts with
 |nil=>exact ff h.symm
 |cons t ts ih=>
  rw[List.all_cons] at h;rw[AwE,Asr];cases q:isName t with
  |false=>rw[Pl q];exact Nat.lt_succ_of_le (List.length_filterMap_le _ _)
  |true=>
   rw[q,Bool.true_and] at h;have ih:=ih h;cases Nk f t with
   |none=>exact AuG ih
   |some _=>exact Nat.succ_lt_succ ih
theorem CE(h:B1 e=some ts):∃k p,e= .Tuple ts k p:=by
 cases e with
 |Tuple ts' k p=>exact⟨k,p,by rw[Ase h]⟩
 |_=>exact ns h
theorem Pp{ts:List Expr}{k p}(h:B1 value=none)(env:Env):Azy [.Tuple ts k p] value env=pure none:=by
 cases value with
 |Tuple _ _ _=>exact ns h.symm
 |_=>rfl
theorem Pn{value:Expr}(h:B1 t=none)(hl:QO t=false)(env:Env):Azy [t] value env=pure none:=by
 cases t with
 |Tuple _ _ _=>exact ns h.symm
 |List _ _=>exact ff hl.symm
 |_=>rfl
theorem Po{ts vs:List Expr}{k p k2 p2}(h:(!(ts.length==2||ts.length==3)||vs.length != ts.length|| !ts.all isName)=true)(env:Env):Azy [.Tuple ts k p] (.Tuple vs k2 p2) env=pure none:=by
 unfold Azy;dsimp only;by_cases c1:(!(ts.length==2||ts.length==3)||vs.length != ts.length||env.blockKind != .function)=true
 ·exact if_pos c1
 ·rw[if_neg c1];split
  ·rfl
  ·have c2:ts.all isName=false:=by
    cases q:ts.all isName with
    |false=>rfl |true=>rw[q,Bool.not_true,Bool.or_false] at h;exact absurd (by rw[h];rfl) c1
   refine if_pos ?_;rw[Bool.or_eq_true];exact .inl (bne_iff_ne.mpr (AtI (Nl (f:=λid pos=>if env.kindOf id==some .local&&pos.line==(ts.head?.map (·.pos.line)).getD 0 then some id else none) c2)))
theorem Tb(h:Lr t value=true)(env:Env):Azy [t] value env=pure none:=by
 unfold Lr at h;cases q:B1 t with
 |none=>rw[q] at h;exact Pn q ((Ava _).mp h) env
 |some ts=>
  rw[q] at h;obtain⟨k,p,rfl⟩:=CE q;cases q2:B1 value with
  |none=>exact Pp q2 env
  |some vs=>rw[q2] at h;obtain⟨k2,p2,rfl⟩:=CE q2;exact Po h env
theorem SS.asg{pos:Pos}(hn:Gh v=true)(hw:Lr et v=true)(hs:isStar et=false)(h:SE C X n b sc c v)(ht:ST C X n b sc t et):SS C X n b sc (sX t c) (.Assign [et] v pos):=λA σ W s E env f I e=>by
 rw[AyD];rw[show Azz [et] v pos.line env=Asl false from Cz hn _ _ _,Tb hw,Es hs];intro k ke q;refine Bm<|AA ?_;refine GQ (by decide) ?_;refine Az (h A σ W s E env f I e _ ke q) (λv s1 q=>?_) λz z q=>q
 obtain⟨a,σ1,W1,h1,X1,I1,r1⟩:=q;refine AA ?_;show Ar5 _ _ (AyF et env v>>=λz=>Asl AvI) _ _ _;refine Az (ht A σ1 W1 s1 E env a v f I1 (e.up X1.up) r1 _ ke h1) (λz s2 q=>?_) λz z q=>q.base X1
 obtain⟨_,σ2,W2,h2,X2,I2,_⟩:=q;exact ArS ⟨.next,σ2,W2,h2,X1.trans X2,I2,.next⟩
noncomputable def WL(sc:Asv)(line:Nat)(nm:Str):Expr->Bool
 | .Name id pos=>id==nm&&(sc.names.lookup nm==some .local&&pos.line==line) |_=>false
def H9(sc:Asv)(line:Nat):List Str->List Expr->Bool
 | [],[]=>true |nm::ns,t::ts=>WL sc line nm t&&H9 sc line ns ts |_,_=>false
def OC(sc:Asv)(ns:List Str)(ts vs:List Expr):Bool:=
 (ts.length==2||ts.length==3)&&(vs.length==ts.length&&(vs.all (λe=> !isStar e)&&(H9 sc ((ts.head?.map (·.pos.line)).getD 0) ns ts&&
  (ns.eraseDups.length==ns.length&&(!vs.all (foldedForSure 8)&& !vs.all (constantsAlone 8))))))
theorem Ta{sc:Asv}{env:Env}(he:env.scope=sc){line:Nat}{nm:Str}(h:WL sc line nm t=true):Nk (λid pos=>if env.kindOf id==some .local&&pos.line==line then some id else none) t=some nm:=by
 cases t with
 |Name id pos=>
  obtain⟨q1,q2⟩:=Asw.mp h;obtain rfl:=beq_iff_eq.mp q1;have e:env.kindOf id=sc.names.lookup id:=by unfold Atx;rw[he]
  exact if_pos (by refine e.symm▸?_;exact q2)
 |_=>exact ff h
theorem Ml{sc:Asv}{env:Env}(he:env.scope=sc){line:Nat}{ns:List Str}(h:H9 sc line ns ts=true):
  (ts.filterMap (Nk λid pos=>if env.kindOf id==some .local&&pos.line==line then some id else none))=ns∧ns.length=ts.length:=by
 induction ns generalizing ts with
 |nil=>induction ts with
  |nil=>exact⟨rfl,rfl⟩
  |cons _ _=>exact ff h
 |cons nm ns ih=>induction ts with
  |nil=>exact ff h
  |cons t ts=>
   refine hide λAx Aa=>?_
   obtain⟨h1,h2⟩:=Asw.mp h;obtain⟨a,b⟩:=ih h2;refine Aa ?_;rw[AwE,Ta he h1];exact⟨congrArg _ a,congrArg Auv b⟩
theorem Zj{vs:List Expr}(h:(vs.all (λe=> !isStar e))=true):¬(vs.any λ| .Starred .. =>true |_=>false)=true:=λq=>by
 obtain⟨x,hx,hq⟩:=Aum.mp q;have e:=List.all_eq_true.mp h x hx;cases x with
 |Starred _ _=>exact ff e
 |_=>exact ff hq
theorem Sr(e:AD C A W sc E env){ns:List Str}{k1 k2 p1 p2}(h:OC sc ns ts vs=true):
  Azy [.Tuple ts k1 p1] (.Tuple vs k2 p2) env=pure (some ns)∧ns.length=ts.length:=by
 refine hide λAx Aa=>?_
 obtain⟨h1,h⟩:=Asw.mp h;obtain⟨h2,h⟩:=Asw.mp h;obtain⟨h3,h⟩:=Asw.mp h;obtain⟨h4,h⟩:=Asw.mp h;obtain⟨h5,h⟩:=Asw.mp h;obtain⟨h6,h7⟩:=Asw.mp h;have h6:=(Ava _).mp h6;have h7:=(Ava _).mp h7;obtain⟨n1,n2⟩:=Ml e.scope h4;refine Aa ?_;refine⟨?_,n2⟩;have hb:env.blockKind= .function:=by unfold Env.blockKind;rw[e.scope,e.kind];rfl
 have c1:¬(!(ts.length==2||ts.length==3)||vs.length != ts.length||env.blockKind != .function)=true:=by rw[h1,hb,beq_iff_eq.mp h2,bne_self_eq_false];decide
 refine(if_neg c1).trans<|(if_neg<|Zj h3).trans ?_;have c3:¬(ns.length != ts.length||ns.eraseDups.length != ns.length)=true:=by rw[beq_iff_eq.mp h5,n2,bne_self_eq_false];decide
 have key:∀l:List Str,l=ns->(if(l.length != ts.length||l.eraseDups.length != l.length)=true then(Asl none:Sem (Option<|List Str)) else
   if vs.all (foldedForSure 8)=true then Asl none else do
    if vs.all (constantsAlone 8)=true then unsupported "assign.tuple-of-constant-expressions:order-of-the-stores"
    Asl (some l))=Asl (some ns):=by
  intro l hl;subst hl;refine(if_neg c3).trans<|(if_neg (by rw[h6];decide)).trans ?_;rw[if_neg (by rw[h7];decide)]
 exact key _ n1
end
end
structure BF(C:Cx)(fr:List Ar0)(e:Ar0)(h h':Asb):Prop where
 keep:∀b o,h.get? b=some o->AG o->∃sl,h'.get? b=some {o with slots:=sl}∧(b∉fr->sl=o.slots)
 alive:∀b o,h.get? b=some o->∃o',h'.get? b=some o'
 base:∀b o,C.h1.get? b=some o->h.get? b=some o->h'.get? b=some o
 exc:∀o vs,h.get? e=some o->o.data= .fields vs->∃u3,h'.get? e=some {o with data:=.fields u3}
theorem BF.refl(fr:List Ar0)(e:Ar0)(h:Asb):BF C fr e h h:=⟨λb o a z=>⟨o.slots,a,λz=>rfl⟩,λb o a=>⟨o,a⟩,λb o z a=>a,λo vs a d=>⟨vs,by rw[a];obtain⟨c,dd,dt,sl⟩:=o;cases(show dt= .fields vs from d);rfl⟩⟩
theorem BF.trans(x:BF C fr e h1 h2)(y:BF C fr e h2 h3):BF C fr e h1 h3:=by
 refine⟨λb o a n=>?_,λb o a=>?_,λb o q a=>y.base b o q (x.base b o q a),λo vs a d=>?_⟩
 ·obtain⟨sl,q1,q2⟩:=x.keep b o a n;obtain⟨sl',q3,q4⟩:=y.keep b _ q1 n;exact⟨sl',q3,λq=>(q4 q).trans (q2 q)⟩
 ·obtain⟨o1,q⟩:=x.alive b o a;exact y.alive b o1 q
 ·obtain⟨fs,q⟩:=x.exc o vs a d;obtain⟨u3,q'⟩:=y.exc _ fs q rfl;exact⟨u3,q'⟩
theorem BF.field{T:Ar0}{h:Asb}{ts:Array ArR}(hT:h.get? T=some oT)(hd:oT.data= .fields ts)(hb:C.h1.get? T=none)(f:Array ArR->Array ArR):BF C fr e h (h.update T<|Ats f):=by
 obtain⟨c,dd,dt,sl⟩:=oT;cases(show dt= .fields ts from hd);have g:(h.update T<|Ats f).get? T=some ⟨c,dd,.fields<|f ts,sl⟩:=Asa _ hT rfl;have other:∀b,b≠T->(h.update T<|Ats f).get? b=h.get? b:=λb q=>Asj _ _ (AuD q)
 refine⟨λb o a n=>?_,λb o a=>?_,λb o q a=>?_,λo vs a d=>?_⟩
 ·have ne:b≠T:=λq=>by subst q;rw[hT] at a;cases a;exact n _ rfl
  exact⟨o.slots,(other b ne).trans a,λz=>rfl⟩
 ·by_cases q:b=T
  ·subst q;exact⟨_,g⟩
  ·exact⟨o,(other b q).trans a⟩
 ·exact(other b λr=>by subst r;rw[hb] at q;cases q).trans a
 ·by_cases q:e=T
  ·subst q;rw[hT] at a;cases a;exact⟨_,g⟩
  ·refine⟨vs,(other e q).trans ?_⟩;rw[a];obtain⟨c,dd,dt,sl⟩:=o;cases(show dt= .fields vs from d);rfl
section
variable{M:Auw}{A:Ar4}{E:ArR->ArT->Prop}{s:ArT}
structure Frames(C:Cx)(A:Ar4)(h:Asb)(fsl:List Ar0)(env:Env):Prop where
 frames:∃l,A.frames=some l∧(∀e∈l,e.scope.kind≠ .module∧∃L∈fsl,e.frame=some L)∧∃e∈l,e.frame=env.frame
 here:∀a∈fsl,C.h1.get? a=none∧∃o,h.get? a=some o∧CZ o
theorem CZ.AG(h:CZ o):AG o:=λvs e=>by obtain⟨_,es,n,d⟩:=h;rw[d] at e;cases e
theorem J3{h:Asb}{fsl:List Ar0}(hh:∀a∈fsl,C.h1.get? a=none∧∃o,h.get? a=some o∧CZ o):∀{l:List Env},(∀e∈l,e.scope.kind≠ .module∧∃L∈fsl,e.frame=some L)->h.FunFrames C.h1 l
 | [],_=>trivial
 |e::l,q=>by
  refine hide λAx Aa=>?_
  obtain⟨a,L,b,c⟩:=q e (.head _);obtain⟨d,o,f,g⟩:=hh L b;refine Aa ?_;exact⟨a,⟨L,o,c,d,f,g.AG⟩,J3 hh λe he=>q e (.tail _ he)⟩
theorem U7{f:Option Ar0}:∀{l:List Env},(∃e∈l,e.frame=f)->∃e1 rest,l.dropWhile (λx=>x.frame != f)=e1::rest∧e1.frame=f∧∀e∈e1::rest,e∈l
 | [],h=>by obtain⟨e,he,_⟩:=h;cases he
 |a::l,h=>by
  by_cases q:a.frame=f
  ·refine⟨a,l,?_,q,λe he=>he⟩;rw[AwB,if_neg (by simp[q])]
  ·obtain⟨e1,rest,r1,r2,r3⟩:=U7 (l:=l) (by
    obtain⟨e,he,hf⟩:=h;rcases Ar3.mp he with rfl |he
    ·exact absurd hf q
    ·exact⟨e,he,hf⟩)
   refine⟨e1,rest,?_,r2,λe he=>.tail _ (r3 e he)⟩;rw[AwB,if_pos (by simpa using q)];exact r1
theorem OT{Q:ArR->ArT->Prop}(F:Frames C A s.heap fsl env)(hf:env.frame=some L)(h:∀h',Heap.SlotsOnly fsl s.heap h'->Q (.ref L) {s with heap:=h'}):Ar5 M A (frameOf env) Q E s:=by
 refine hide λAx Aa=>?_
 obtain⟨l,h1,h2,h3⟩:=F.frames;obtain⟨e1,rest,r1,r2,r3⟩:=U7 h3;refine Aa ?_;unfold PySem.frameOf;refine ArQ<|wpAny_frameEnvs h1 ?_;refine r1.symm▸?_;unfold frameObject;have ff:=J3 F.here (λe he=>h2 e (r3 e he));refine ArQ<|ArQ (wpAny_readyFrames_fun ff λh' hs=>ArS ?_);refine r2.symm▸?_;refine hf.symm▸?_;refine ArS<|h h' (hs.mono λb hb=>?_);refine hide λAx Aa=>?_
 obtain⟨e,he,hq⟩:=List.mem_filterMap.mp hb;obtain⟨_,L',q1,q2⟩:=h2 e (r3 e he);refine Aa ?_;rw[q2] at hq;cases hq;exact q1
theorem SlotsOnly.note{fsl:List Ar0}{h h':Asb}(hh:∀a∈fsl,C.h1.get? a=none∧∃o,h.get? a=some o∧CZ o)(x:Heap.SlotsOnly fsl h h'):BF C fsl e h h':=by
 refine⟨λb o a n=>?_,λb o a=>?_,λb o q a=>?_,λo vs a d=>?_⟩
 ·obtain⟨sl,q⟩:=x.2.2 b o a;refine⟨sl,q,λnb=>?_⟩;rw[x.2.1 b nb,a] at q;exact(congrArg Obj.slots<|Ase q).symm
 ·obtain⟨sl,q⟩:=x.2.2 b o a;exact⟨_,q⟩
 ·exact(x.2.1 b λr=>by rw[(hh b r).1] at q;cases q).trans a
 ·refine⟨vs,(x.2.1 e λr=>?_).trans ?_⟩
  ·obtain⟨_,o',h1,h2⟩:=hh e r;rw[a] at h1;cases h1;exact h2.AG _ d
  ·rw[a];obtain⟨c,dd,dt,sl⟩:=o;cases(show dt= .fields vs from d);rfl
theorem BF.push(o:Obj):BF C fr e h (h.push o):=
 ⟨λb x a z=>⟨x.slots,ArW o a,λz=>rfl⟩,λb x a=>⟨x,ArW o a⟩,λb x z a=>ArW o a,
  λx vs a d=>⟨vs,by rw[ArW o a];obtain⟨c,dd,dt,sl⟩:=x;cases(show dt= .fields vs from d);rfl⟩⟩
theorem Hs{fsl:List Ar0}{env:Env}{L e:Ar0}{oe:Obj}{vs:Array ArR}{head:ArR}{cD:Bool}{Q:Unit->ArT->Prop}(F:Frames C A s.heap fsl env)(hf:env.frame=some L)
  (he:s.heap.get? e=some oe)(hd:oe.data= .fields vs)(En:1<vs.size)(hen:C.h1.get? e=none)(kb:∀a o,C.h1.get? a=some o->s.heap.get? a=some o)
  (h:∀h',BF C fsl e s.heap h'->Traced C h' e->Q () {s with heap:=h'}):
  Ar5 M A (do let a ←frameOf env;let pl ←entryPlaceOf L cD;let b ←Avt head a .none (AtQ L) .none pl;setField (.ref e) 1 b) Q E s:=by
 refine ArQ (OT F hf λh₁ O0=>?_);refine ArQ (wpAny_entryPlaceOf λpl hpl=>?_);unfold Avt newFields;refine ArQ<|AsF ?_<|hpl.sizeOk5 _ _ _ _ _;have AeJ:e∉fsl:=λr=>by obtain⟨_,o',h1,h2⟩:=F.here e r;rw[he] at h1;cases h1;exact h2.AG _ hd
 have N1:BF C fsl e s.heap h₁:=SlotsOnly.note F.here O0;have nZ:=(O0.2.1 e AeJ).trans he;have hJ:=ArW (h:=h₁) {cls:=.type "traceback",dict:=none,data:=.fields ([head,.ref L,.none,AtQ L,.none]++(if pl.isEmpty then Aw0 6 Atd else pl)).toArray} nZ;refine At0 hJ hd En (h _ ((N1.trans (.push _)).trans (.field hJ hd hen _)) ?_);obtain⟨c,dd,dt,sl⟩:=oe;cases(show dt= .fields vs from hd);have gY:=AtJ (As2 nZ);refine⟨_,_,h₁.objs.size,_,_,AtQ L,Asa _ hJ rfl,rfl,by simp[En],?_,gY,(Asj _ _ (AuD gY)).trans (Ar9 _ rfl),rfl,by simp⟩;cases q:C.h1.get? h₁.objs.size with
 |none=>rfl |some o=>have:=N1.base _ _ q (kb _ _ q);rw[Ag] at this;cases this
theorem Ls{fsl:List Ar0}{env:Env}{e:Ar0}{Q:Unit->ArT->Prop}(F:Frames C A s.heap fsl env)(fl:Kz C s.heap e)(hen:C.h1.get? e=none)(kb:∀a o,C.h1.get? a=some o->s.heap.get? a=some o)
  (h:∀h',BF C fsl e s.heap h'->Traced C h' e->Q () {s with heap:=h'}):Ar5 M A (Azg (.ref e) env) Q E s:=by
 obtain⟨L,hf⟩:∃L,env.frame=some L:=by obtain⟨l,h1,h2,e0,h3,h4⟩:=F.frames;obtain⟨_,L,_,h5⟩:=h2 e0 h3;exact⟨L,h4▸h5⟩
 unfold Azg;simp only[hf];rcases fl with⟨o,fs,he,hd,h1⟩|⟨o,fs,T,oT,ts,m,he,hd,h1,vH,gY,hT,QI,h3⟩
 ·refine AB he hd h1 ?_;refine GQ (by decide) ?_;exact Hs F hf he hd (AsX.mp h1).1 hen kb h
 ·refine AB he hd h1 ?_;refine ZV (show(Ati T != Atd)=true from by simp) ?_;refine AB hT QI h3 ?_;by_cases q:(m==AtQ L)=true
  ·refine ZV q ?_;exact ArS (h _ (.refl _ _ _) ⟨o,fs,T,oT,ts,m,he,hd,h1,vH,gY,hT,QI,h3⟩)
  ·refine GQ q ?_;refine ArQ<|At0 hT QI (AsX.mp h3).1 ?_;have N1:BF C fsl e s.heap (s.heap.update T (Ats (·.setIfInBounds 3 Atd))):=.field hT QI vH _;have he':(s.heap.update T (Ats (·.setIfInBounds 3 Atd))).get? e=some o:=(Asj _ _ gY).trans he;refine Hs (s:={s with heap:=s.heap.update T (Ats (·.setIfInBounds 3 Atd))}) ⟨F.frames,λa ha=>?_⟩ hf he' hd (AsX.mp h1).1 hen (λa o q=>N1.base a o q (kb a o q)) λh' N2 tr=>h h' (N1.trans N2) tr
   obtain⟨q1,o',q2,q3⟩:=F.here a ha;refine⟨q1,o',(Asj _ _ λr=>?_).trans q2,q3⟩;subst r;rw[hT] at q2;cases q2;exact q3.AG _ QI
theorem Gs{f:Option Ar0}{Q:Unit->ArT->Prop}(tr:Traced C s.heap e)(h:∀h',BF C fsl e s.heap h'->Traced C h' e->Q () {s with heap:=h'}):Ar5 M A (Azr (.ref e) f) Q E s:=by
 refine hide λAx Aa=>?_
 obtain⟨o,fs,T,oT,ts,m,he,hd,h1,vH,gY,hT,QI,h3⟩:=tr;refine Aa ?_;unfold Azr;refine AB he hd h1 ?_;refine(if_pos (show(Ati T != Atd)=true from by simp)).symm▸?_;have hz:=(AsX.mp h3).1;refine At0 hT QI hz<|h _ (.field hT QI vH _) ?_;refine hide λAx Aa=>?_
 obtain⟨c,dd,dt,sl⟩:=oT;refine Aa ?_;cases(show dt= .fields ts from QI);exact⟨o,fs,T,_,_,_,(Asj _ _ gY).trans he,hd,h1,vH,gY,Asa _ hT rfl,rfl,by simp[hz];rfl⟩
end
section
variable{W:Wd}{σ:St}{s:ArT}
theorem St.G1{σ:St}{j D i:Nat}{l:Option Nat}(h:(σ.after j D l).obj i=some y):(i=j∧y= .old D l)∨(i≠j∧∃o,σ.obj i=some o∧y=Cn o):=by
 rcases PA.get_set _ _ _ _ _ h with⟨a,b⟩|⟨a,b⟩
 ·exact .inl ⟨a,b⟩
 ·exact .inr ⟨a,PA.Iz _ _ _ b⟩
theorem BF.exact(N:BF C fr e h h')(hf:∀a∈fr,∃o,h.get? a=some o∧CZ o){a:Ar0}(ho:h.get? a=some o)(n:AG o)(nf:¬CZ o):h'.get? a=some o:=by
 obtain⟨sl,q1,q2⟩:=N.keep a o ho n;have:a∉fr:=λr=>by obtain⟨o',q,q'⟩:=hf a r;rw[ho] at q;cases q;exact nf q'
 rw[q1,q2 this]
def JO(h:Asb)(a:Ar0):Prop:=∃o,h.get? a=some o∧AG o∧¬CZ o
theorem JO.lst{h:Asb}{a:Ar0}{items}(x:h.IsList a items):JO h a:=x.imp λz q=>⟨q.1,q.2.2.elim λz d vs e=>(nomatch d.symm.trans e),Q7 q.2.1 (by decide)⟩
theorem JO.dic{h:Asb}{a:Ar0}{es n sl}(x:h.get? a=some ⟨.type "dict",none,.dict es n,sl⟩):JO h a:=⟨_,x,λz e=>(nomatch e),Q7 (t:="dict") rfl (by decide)⟩
theorem JO.cell{h:Asb}{a:Ar0}{w}(x:h.IsCell a w):JO h a:=x.imp λz q=>⟨q.1,λz e=>(nomatch q.2.symm.trans e),λf=>f.2.elim λz d=>d.elim λz d=>(nomatch q.2.symm.trans d)⟩
theorem JO.two{p:Ar0×Ar0}(e:p.2=p.1)(x:JO h p.1):JO h p.1∧JO h p.2:=⟨x,e.symm▸x⟩
theorem Ob.sol(b:Ob C W h p (Cn o)):(JO h p.1∧JO h p.2)∨Cn o= .dead∨∃l,Cn o= .frame l:=by
 induction o with
 |list pre l Zn=>exact .inl (b.elim λz b=>JO.two b.ep (.lst b.il))
 |mid l a m=>exact .inl (b.elim λz b=>b.elim λz b=>JO.two b.ep (.lst b.il))
 |dict l=>exact .inl (JO.two b.1 (b.2.elim λz q=>q.1.imp λz q=>q.elim λz q=>q.elim λz q=>⟨q.1,λz e=>(nomatch q.2.2.1.symm.trans e),Q7 q.2.1.1 (by decide)⟩))
 |inst Cl l=>exact .inl ⟨b.1.elim λz e=>⟨_,e,λz e=>(nomatch e),λf=>(nomatch f.1)⟩,b.2.elim λz q=>q.elim λz q=>q.elim λz q=>.dic q.1⟩
 |ed l=>exact .inl (JO.two b.1 (b.2.elim λz q=>q.elim λz q=>q.elim λz q=>.dic q.1))
 |cell v=>induction v with
  |none=>exact .inl (JO.two b.1 (.cell b.2))
  |some v=>exact .inl (JO.two b.1 (b.2.elim λz q=>.cell q.1))
 |Ao f=>exact .inl (JO.two b.1 (b.2.elim λz q=>q.elim λz q=>q.elim λz q=>q.elim λz q=>.lst q.1))
 |frame l=>exact .inr (.inr ⟨l,rfl⟩)
 |exc _ _ |old _ _ |iter _ |Gr _ _ _ |dead=>exact .inr (.inl rfl)
theorem Inv.note{j D:Nat}{l:Option Nat}(I:Inv C W (σ.after j D l) s)(hp:W.τ[j]?=some p)(N:BF C W.fs p.1 s.heap h'):Inv C W (σ.after j D l) {s with heap:=h'}:=by
 have ex:∀{a:Ar0} {o:Obj},s.heap.get? a=some o->AG o->¬CZ o->h'.get? a=some o:=λho n nf=>N.exact (λa ha=>(I.HQ a ha).2) ho n nf
 have same:∀{a:Ar0},JO s.heap a->h'.get? a=s.heap.get? a:=λx=>x.elim λo q=>(ex q.1 q.2.1 q.2.2).trans q.1.symm
 have T:AJ W W s.heap h':=λa items t=>by
  refine hide λAx Aa=>?_
  obtain⟨o,ho,hc,n,hd⟩:=t.Af;refine Aa ?_;have e:=same ⟨o,ho,λvs q=>(nomatch hd.symm.trans q),Q7 hc (by decide)⟩;exact⟨t.un,t.fo,⟨o,e.trans ho,hc,n,hd⟩,t.nd.imp λz=>Au1 e.trans⟩
 have S:Cr W W s.heap h':=⟨ArZ _,ArZ _,λz z=>rfl,λz z=>rfl,T⟩;refine⟨I.nτ,I.kρ,I.rl,I.rng,I.neg,I.BM,λi y h=>?_,I.apart,I.new,λq hq=>?_,λa ha=>⟨(I.HQ a ha).1,?_⟩,λa o h=>N.base a o h (I.base a o h),I.gens,I.os,λa ha=>⟨(I.fo a ha).1,(I.fo a ha).2.elim λz=>N.alive a _⟩⟩
 ·refine hide λAx Aa=>?_
  obtain⟨q,hq,hb⟩:=I.obj i y h;refine Aa ?_;refine⟨q,hq,?_⟩;rcases St.G1 h with⟨rfl,rfl⟩|⟨ne,o,ho,rfl⟩
  ·obtain rfl:=uniq hq hp;refine hide λAx Aa=>?_
   obtain⟨ep,xc,dd,fs,sl,a,b⟩:=hb;refine Aa ?_;exact⟨ep,xc,(N.exc _ _ b rfl).elim λu3 b'=>⟨dd,u3,sl,a.AS S,b'⟩⟩
  ·rcases hb.sol with e |e |⟨l,e⟩
   ·exact Ob.AS S (same e.1) (same e.2) hb
   ·rw[e];trivial
   ·rw[e] at hb ⊢;refine hide λAx Aa=>?_
    obtain⟨ep,m,⟨o,es,n,ho,hd,r⟩,hN⟩:=hb;obtain⟨sl,q1,_⟩:=N.keep _ _ ho (λvs q=>(nomatch hd.symm.trans q));refine Aa ?_;exact⟨ep,m,⟨_,es,n,q1,hd,r⟩,hN.AS S⟩
 ·refine hide λAx Aa=>?_
  obtain⟨⟨o,h,_⟩,o',h',_⟩:=I.live q hq;refine Aa ?_;exact⟨(N.alive _ _ h).imp λz e=>⟨e,trivial⟩,(N.alive _ _ h').imp λz e=>⟨e,trivial⟩⟩
 ·refine hide λAx Aa=>?_
  obtain⟨o,h,q⟩:=(I.HQ a ha).2;obtain⟨sl,q1,_⟩:=N.keep _ _ h q.AG;refine Aa ?_;exact⟨_,q1,q⟩
theorem Ext.note{j D:Nat}{l:Option Nat}(x:Ext σ0 W0 s0 (σ.after j D l) W s)(hv:σ0.A8≤σ.A8)(I:Inv C W (σ.after j D l) s)(N:BF C W.fs e s.heap h'):
  Ext σ0 W0 s0 (σ.after j D l) W {s with heap:=h'}:=by
 refine⟨x.τ,x.ρ,x.q,x.ls,x.low,x.A8,λa o h n no=>?_,λv=>?_,x.fresh,λa o h=>?_,λa o h q=>?_,x.fs,x.fo⟩
 ·refine hide λAx Aa=>?_
  obtain⟨sl,q1,q2⟩:=x.keep a o h n no;obtain⟨sl',q3,q4⟩:=N.keep a _ q1 n;refine Aa ?_;refine⟨sl',q3,λq=>(q4 λr=>?_).trans (q2 q)⟩;refine hide λAx Aa=>?_
  obtain⟨o',h1,h2⟩:=(I.HQ a r).2;refine Aa ?_;rw[q1] at h1;cases h1;exact q h2.1
 ·exact absurd (v▸hv) (Nat.not_succ_le_self _)
 ·obtain⟨o1,q⟩:=x.alive a o h;exact N.alive _ _ q
 ·refine hide λAx Aa=>?_
  obtain⟨o1,h1,q1⟩:=x.fr a o h q;obtain⟨sl,q3,_⟩:=N.keep a _ h1 q1.AG;refine Aa ?_;exact⟨_,q3,q1⟩
def Ba(C:Cx)(ke:K AV)(σ:St)(W:Wd)(s:ArT)(e:ArR)(s':ArT):Prop:=Ac C ke σ W s e s'∧∃x,e= .ref x∧Traced C s'.heap x
variable{A:Ar4}{sc:Asv}{E:AZ}{env:Env}{ke:K AV}{e:ArR}{s':ArT}
theorem Ac.step(P:Ac C ke σ W s e s'):∃x fsl,e= .ref x∧Kz C s'.heap x∧C.h1.get? x=none∧(∀a o,C.h1.get? a=some o->s'.heap.get? a=some o)∧(∀a∈W.fs,a∈fsl)∧(∀a∈fsl,C.h1.get? a=none∧∃o,s'.heap.get? a=some o∧CZ o)∧
  ∀h',BF C fsl x s'.heap h'->Kz C h' x->Ac C ke σ W s e {s' with heap:=h'}:=by
 obtain⟨j,D,l,σ',W',p,h1,h0,h2,h3,rfl,h5,h6,h7⟩:=P;exact⟨p.1,W'.fs,rfl,h5,(h7.new p<|get_mem h3).1,h7.base,λa ha=>h6.fs.subset ha,h7.HQ,λh' N fl=>⟨j,D,l,σ',W',p,h1,h0,h2,h3,rfl,fl,h6.note h0 h7 N,h7.note h3 N⟩⟩
theorem AD.frames(ev:AD C A W sc E env){fsl:List Ar0}{h:Asb}(hs:∀a∈W.fs,a∈fsl)(hh:∀a∈fsl,C.h1.get? a=none∧∃o,h.get? a=some o∧CZ o):Frames C A h fsl env:=
 ⟨ev.around.imp λzz q=>⟨q.1,λe he=>⟨(q.2.1 e he).1,(q.2.1 e he).2.imp λzz z=>⟨hs _ z.1,z.2⟩⟩,q.2.2⟩,hh⟩
theorem DG{M:Auw}{Er:ArR->ArT->Prop}(P:Ac C ke σ W s e s')(ev:AD C A W sc E env):Ar5 M A (Azg e env) (λz YY=>Ba C ke σ W s e YY) Er s':=by
 refine hide λAx Aa=>?_
 obtain⟨x,fsl,rfl,fl,hn,kb,hs,hh,st⟩:=P.step;refine Aa ?_;exact Ls (ev.frames hs hh) fl hn kb λh' N tr=>⟨st h' N<|.inr tr,x,rfl,tr⟩
theorem EL{M:Auw}{A:Ar4}{f:Option Ar0}{Er:ArR->ArT->Prop}(P:Ba C ke σ W s e s'):Ar5 M A (Azr e f) (λz YY=>Ba C ke σ W s e YY) Er s':=by
 refine hide λAx Aa=>?_
 obtain⟨P,y,rfl,tr⟩:=P;obtain⟨x,fsl,e1,fl,hn,kb,hs,hh,st⟩:=P.step;refine Aa ?_;cases e1;exact Gs (fsl:=fsl) tr λh' N tr'=>⟨st h' N<|.inr tr',_,rfl,tr'⟩
theorem Et{M:Auw}(P:Ba C ke σ W s e s'):AyL M A env (Ac C ke σ W s) e s':=by
 refine hide λAx Aa=>?_
 obtain⟨y,rfl,o,fs,T,oT,ts,m,he,hd,h1,r⟩:=P.2;refine Aa ?_;unfold AyL;refine AB he hd h1 ?_;refine GQ (by simp) ?_;exact ArY (EL P) (λz z q=>q.1) λz z q=>q
theorem Pb{M:Auw}{Er:ArR->ArT->Prop}(P:Ac C ke σ W s e s')(ev:AD C A W sc E env):Ar5 M A (leaving env e) (λz YY=>Ac C ke σ W s e YY) Er s':=by unfold leaving;exact Az (DG (Er:=Er) P ev) (λz z q=>ArY (EL q) (λz z q=>q.1) λz z q=>q) λz z q=>q
end
def Ei(h:Asb)(it l:Ar0)(i:Nat)(items:Array ArR):Prop:=(h.IsListIter it l i∧h.IsList l items)∨(h.IsTupleIter it l i∧h.IsTuple l items)
def Stop(h:Asb)(e:ArR):Prop:=∃x o,e= .ref x∧h.get? x=some o∧o.cls= .type "StopIteration"
def Hz(h:Asb)(a:Ar0):Prop:=∃o,h.get? a=some o
theorem Zi{l:Ar0}{i:Nat}{items:Array ArR}(q:Ei h it l i items):l≠it:=by
 rintro rfl;rcases q with⟨⟨o,h1,c1,_⟩,o',h2,c2,_⟩|⟨⟨o,h1,c1,_⟩,o',h2,c2,_⟩
 ·rw[h1] at h2;cases h2;rw[c1] at c2;simp at c2
 ·rw[h1] at h2;cases h2;rw[c1] at c2;simp at c2
section
variable{prog:AsR}{w:ArV}{A:Ar4}{E:ArR->ArT->Prop}{s:ArT}
theorem Hh{it l:Ar0}{i:Nat}{items:Array ArR}{Q:Option ArR->ArT->Prop}(hh:A.handled=none)(hs:Ei s.heap it l i items)
  (h1:∀x h',items[i]?=some x->Ei h' it l (i+1) items->AsD it s.heap h'->Q (some x) {s with heap:=h'})
  (h2:items[i]?=none->∀h' e,Atg it s.heap h'->Hz h' it->Stop h' e->E e {s with heap:=h'}):
  Ar5 (model prog w) A (callSpecial? (.ref it) "__next__") Q E s:=by
 have ne:=Zi hs;rcases hs with⟨hit,hl⟩|⟨hit,hl⟩
 ·refine hide λAx Aa=>?_
  obtain⟨o,ho,hc,hd⟩:=id hit;obtain⟨ol,hol,_,nl,hdl⟩:=id hl;refine Aa ?_;refine AsN (name:=ArP "__next__") hit.typeIs slot_listiter_next (Ata slot_listiter_next hit.typeIs entry_listiter_next ?_ (args_listiter_next _));show Ar5 _ _ (field (.ref it) 0>>=_) _ _ s;refine AB ho hd (x:=.ref l) rfl ?_;show Ar5 _ _ (if(Ati l==Atd)=true then _ else _) _ _ s;refine(if_neg (show¬((Ati l==Atd)=true) from AsJ)).symm▸?_;show Ar5 _ _ (field (.ref it) 1>>=_) _ _ s;refine AB ho hd (x:=.int i 0) rfl ?_;show Ar5 _ _ (Azo (.ref l)>>=_) _ _ s;refine GF hol hdl ?_;cases hx:items[i]? with
  |some x=>
   simp only[AuF,hx];have SB:AsD it s.heap (s.heap.update it (Ats λx=>x.setIfInBounds 1 (AtQ<|(i:Int)+1))):=AsK ..;refine ArQ<|At0 ho hd (by simp)<|ArS ⟨x,rfl,(h1 x _ hx (.inl ⟨?_,hl.extBut SB.extBut ne⟩) SB)⟩;exact⟨_,Asa _ ho<|At4<|At2 hd _,(Obj.cls_mapFields ..).trans hc,by
    rw[At2 hd];simp[AtQ]⟩
  |none=>
   simp only[AuF,hx];refine DA (ArQ (At0 ho hd (by simp) ?_));show Ar5 _ _ (newExc (.type "StopIteration") []>>=_) _ _ _;refine ArQ ?_;simp only[newExc,Azf];refine ArQ (AsF ?_ (by size_fits));refine ArQ (m:=AuN _ _) (AzV (a:=Atd) (by first |rfl |(simp only[AuN];rfl)) ?_);refine AsF ?_ (by size_fits);unfold raiseNew;refine ArQ (AzO ?_)
   first |refine(show A.in1.handled=none from hh).symm▸?_ |refine hh.symm▸?_
   refine AA<|AzZ ?_;refine h2 hx _ _ (((AsK ..).extBut.push _).push _) ⟨_,ArW _<|ArW _<|Asa _ ho<|At4<|At2 hd _⟩ ⟨_,_,rfl,Ar9 _ rfl,rfl⟩
 ·refine hide λAx Aa=>?_
  obtain⟨o,ho,hc,hd⟩:=id hit;obtain⟨ol,hol,_,nl,hdl⟩:=id hl;refine Aa ?_;refine AsN (name:=ArP "__next__") hit.typeIs AvF (Ata AvF hit.typeIs F.entry_tuple_iterator_next ?_ (F.args_tuple_iterator_next_1 _));show Ar5 _ _ (field (.ref it) 0>>=_) _ _ s;refine AB ho hd (x:=.ref l) rfl ?_;show Ar5 _ _ (if(Ati l==Atd)=true then _ else _) _ _ s;refine(if_neg (show¬((Ati l==Atd)=true) from AsJ)).symm▸?_;show Ar5 _ _ (field (.ref it) 1>>=_) _ _ s;refine AB ho hd (x:=.int i 0) rfl ?_;show Ar5 _ _ (Azo (.ref l)>>=_) _ _ s;refine GF hol hdl ?_;cases hx:items[i]? with
  |some x=>
   simp only[AuF,hx];have SB:AsD it s.heap (s.heap.update it (Ats λx=>x.setIfInBounds 1 (AtQ<|(i:Int)+1))):=AsK ..;refine ArQ<|At0 ho hd (by simp)<|ArS ⟨x,rfl,(h1 x _ hx (.inr ⟨?_,hl.extBut SB.extBut ne⟩) SB)⟩;exact⟨_,Asa _ ho<|At4<|At2 hd _,(Obj.cls_mapFields ..).trans hc,by
    rw[At2 hd];simp[AtQ]⟩
  |none=>
   simp only[AuF,hx];refine DA (ArQ (At0 ho hd (by simp) ?_));show Ar5 _ _ (newExc (.type "StopIteration") []>>=_) _ _ _;refine ArQ ?_;simp only[newExc,Azf];refine ArQ (AsF ?_ (by size_fits));refine ArQ (m:=AuN _ _) (AzV (a:=Atd) (by first |rfl |(simp only[AuN];rfl)) ?_);refine AsF ?_ (by size_fits);unfold raiseNew;refine ArQ (AzO ?_)
   first |refine(show A.in1.handled=none from hh).symm▸?_ |refine hh.symm▸?_
   refine AA<|AzZ ?_;refine h2 hx _ _ (((AsK ..).extBut.push _).push _) ⟨_,ArW _<|ArW _<|Asa _ ho<|At4<|At2 hd _⟩ ⟨_,_,rfl,Ar9 _ rfl,rfl⟩
theorem P1{M:Auw}{Q:Bool->ArT->Prop}(h:Stop s.heap e)(hq:Q true s):Ar5 M A (AuL e (.type "StopIteration")) Q E s:=by obtain⟨x,o,rfl,ho,hc⟩:=h;exact AzP (T:="StopIteration") (b:=true) ⟨o,ho,hc⟩ isSubtype_stop hq
theorem To{it l:Ar0}{i:Nat}{items:Array ArR}{Q:Option ArR->ArT->Prop}(hh:A.handled=none)(hs:Ei s.heap it l i items)
  (h1:∀x h',items[i]?=some x->Ei h' it l (i+1) items->AsD it s.heap h'->Q (some x) {s with heap:=h'})
  (h2:items[i]?=none->∀h',Atg it s.heap h'->Hz h' it->Q none {s with heap:=h'}):
  Ar5 (model prog w) A (Azl<|.ref it) Q E s:=by
 unfold Azl;refine R2 (Hh hh hs (λx h' a b c=>ArS (h1 x h' a b c)) λa h' e b c d=>ArQ (P1 d<|ArS<|h2 a h' b c))
theorem Kl{it l:Ar0}{i:Nat}{items:Array ArR}{Q:ArR->ArT->Prop}(hh:A.handled=none)(hs:Ei s.heap it l i items)
  (h1:∀x h',items[i]?=some x->Ei h' it l (i+1) items->AsD it s.heap h'->Q x {s with heap:=h'})
  (h2:items[i]?=none->∀h' e,Atg it s.heap h'->Hz h' it->Stop h' e->E e {s with heap:=h'}):
  Ar5 (model prog w) A (At6<|.ref it) Q E s:=by
 unfold At6;exact ArQ (Hh hh hs (λx h' a b c=>ArS (h1 x h' a b c)) h2)
theorem Ny{e it l:Ar0}{n:Int}{i:Nat}{items:Array ArR}{old:ArR}{Q:Option ArR->ArT->Prop}(hh:A.handled=none)
  (he:Awp s.heap e it n old)(hs:Ei s.heap it l i items)(cL:e≠it)
  (h1:∀x h₁ h',items[i]?=some x->Ei h₁ it l (i+1) items->AsD it s.heap h₁->IsEnumOut h' e it (n+1) x s.heap.objs.size->
   h'.get? s.heap.objs.size=some {cls:=.type "tuple",data:=.seq #[.int n s.toks,x]}->(∀b o,b≠e->h₁.get? b=some o->h'.get? b=some o)->Q (some (.ref s.heap.objs.size)) {s with heap:=h',toks:=s.toks+1})
  (h2:items[i]?=none->∀h',Atg it s.heap h'->Hz h' it->Q none {s with heap:=h'}):
  Ar5 (model prog w) A (Azl<|.ref e) Q E s:=by
 have hT:s.TypeIs (.ref e) "enumerate":=⟨_,he,rfl⟩;unfold Azl;refine R2 (AsN (name:=ArP "__next__") hT AvB
  (Ata AvB hT F.entry_enumerate_next ?_<|F.args_enumerate_next_1 _))
 obtain⟨hp,g,d,tk,os⟩:=s;show Ar5 _ _ (field (.ref e) 2>>=_) _ _ _;refine AB he rfl (x:=.ref it) rfl ?_;refine ArQ (Kl hh hs (λx h₁ hx hq O0=>?_) λa h' e b c d=>ArQ (P1 d<|ArS<|h2 a h' b c))
 replace O0:AsD it hp h₁:=O0
 have nZ:=(O0.2 e cL).trans he;show Ar5 _ _ (field (.ref e) 3>>=_) _ _ ⟨h₁,g,d,tk,os⟩;refine AB nZ rfl (x:=AtQ n) rfl ?_;show Ar5 _ _ (field (.ref e) 4>>=_) _ _ ⟨h₁,g,d,tk,os⟩;refine AB nZ rfl (x:=.none) rfl ?_;show Ar5 _ _ (mkInt n>>=_) _ _ ⟨h₁,g,d,tk,os⟩;refine aI ?_;show Ar5 _ _ (setField (.ref e) 3 (AtQ<|n+1)>>=_) _ _ ⟨h₁,g,d,tk+1,os⟩;refine R3 nZ (by simp) λh₂ hJ M0=>?_
 replace M0:AsD e h₁ h₂:=M0
 replace hJ:Awp h₂ e it (n+1) old:=hJ
 show Ar5 _ _ (setField (.ref e) 4 .none>>=_) _ _ ⟨h₂,g,d,tk+1,os⟩;refine R3 hJ (by simp) λh₃ he₃ TU=>?_
 replace TU:AsD e h₂ h₃:=TU
 replace he₃:Awp h₃ e it (n+1) old:=he₃
 show Ar5 _ _ (Azf [.int n tk,x]>>=_) _ _ ⟨h₃,g,d,tk+1,os⟩;refine ArQ (AzT ?_);have he₄:Awp (h₃.push {cls:=.type "tuple",data:=.seq #[.int n tk,x]}) e it (n+1) old:=ArW _ he₃;generalize hh₄:h₃.push {cls:=.type "tuple",data:=.seq #[.int n tk,x]}=h₄ at he₄;have En:h₃.objs.size=hp.objs.size:=by rw[TU.1,M0.1,O0.1]
 have hel:=As2 he;have ht₄:h₄.get? hp.objs.size=some {cls:=.type "tuple",data:=.seq #[.int n tk,x]}:=by refine hh₄▸?_;refine En▸?_;exact Ar9 _ rfl
 have hk₄:∀b o,b≠e->h₁.get? b=some o->h₄.get? b=some o:=λb o vI hb=>by refine hh₄▸?_;exact ArW _ (TU.extBut b o vI<|M0.extBut b o vI hb)
 show Ar5 _ _ (Atj (.ref e)>>=_) _ _ ⟨h₄,g,d,tk+1,os⟩;refine En.symm▸?_;clear hh₄ he₃ TU hJ M0 nZ En;refine ArQ ?_
 ·unfold Atj;refine AB he₄ rfl (x:=.none) rfl (ArS ?_);simp only[if_true];refine DA ?_;refine AB he₄ rfl (x:=old) rfl ?_;refine R3 he₄ (by simp) λh₅ he₅ iA=>?_
  replace iA:AsD e h₄ h₅:=iA
  replace he₅:Awp h₅ e it (n+1) x:=he₅
  show Ar5 _ _ (Atf (.ref e) (.ref hp.objs.size)>>=_) _ _ ⟨h₅,g,d,tk+1,os⟩;refine ArQ ?_
  ·unfold Atf;refine R3 he₅ (by simp) λh₆ he₆ hs₆=>?_
   replace hs₆:AsD e h₅ h₆:=hs₆
   replace he₆:IsEnumOut h₆ e it (n+1) x hp.objs.size:=he₆
   refine As4 he₆ (by simp) λh₇ he₇ rO=>?_
   replace rO:AsD e h₆ h₇:=rO
   replace he₇:IsEnumOut h₇ e it (n+1) x hp.objs.size:=he₇
   have up:∀b o,b≠e->h₄.get? b=some o->h₇.get? b=some o:=λb o c q=>rO.extBut b o c (hs₆.extBut b o c<|iA.extBut b o c q)
   refine Oi (ArS ⟨_,rfl,ArS<|h1 x h₁ h₇ hx hq O0 he₇ ?_ ?_⟩)
   ·exact up _ _ (AtJ hel) ht₄
   ·exact λb o vI hb=>up b o vI (hk₄ b o vI hb)
end
section
variable{W:Wd}{σ:St}{s:ArT}
theorem Inv.II(I:Inv C W σ s){j:Nat}{p:Ar0×Ar0}(hj:W.τ[j]?=some p)(ep:p.2=p.1){o:Obj}(ho:s.heap.get? p.1=some o)(hc:o.cls≠ .type "frame"){y:AO}{s':ArT}(hg:s'.gens=s.gens)(Hp:s'.os=s.os)(hx:Atg p.1 s.heap s'.heap)(hl:Hz s'.heap p.1)
  (hy:AJ W W s.heap s'.heap->Ob C W s'.heap p y):Inv C W (σ.put j y) s'∧Ext σ W s (σ.put j y) W s':=
 I.put (o:=y) hj (λb x n1 z e=>hx b x n1 e) hy (hl.imp λz e=>⟨e,trivial⟩) (by rw[ep];exact hl.imp λz e=>⟨e,trivial⟩) (λa ha x hxx fr=>IX (ha.elim id λe=>e.trans ep) ho hxx fr hc) hg Hp
structure Qd(C:Cx)(W:Wd)(σ:St)(s:ArT)(j:Nat)(p:Ar0×Ar0)(k:K (Option AV))(l:Ar0)(i:Nat)(items:Array ArR):Prop where
 sq:Ei s.heap p.1 l i items
 go:∀cx,items[i]?=some cx->∃v y,VR C W s.heap v cx∧k (some v) (σ.put j<|.iter y)=true∧
    ∀s':ArT,s'.gens=s.gens->s'.os=s.os->Atg p.1 s.heap s'.heap->Ei s'.heap p.1 l (i+1) items->Inv C W (σ.put j<|.iter y) s'∧Ext σ W s (σ.put j<|.iter y) W s'
 stop:items[i]?=none->k none (σ.put j .dead)=true∧
    ∀s':ArT,s'.gens=s.gens->s'.os=s.os->Atg p.1 s.heap s'.heap->Hz s'.heap p.1->Inv C W (σ.put j .dead) s'∧Ext σ W s (σ.put j .dead) W s'
theorem Rw{l:Ar0}{i:Nat}{items:Array ArR}(q:Ei h it l i items):Hz h it:=q.elim (λq=>q.1.imp λz e=>e.1) (λq=>q.1.imp λz e=>e.1)
theorem bE{items:Array ArR}{i:Nat}(hx:items[i]?=some cx):items.toList.drop i=cx::items.toList.drop (i+1):=by obtain⟨lt,e⟩:=AsX.mp hx;rw[Atc lt];exact congrArg (· ::_) e
theorem qK{h h':Asb}{l:Ar0}{i n:Nat}{items:Array ArR}{b:Ar0}(ht:h.IsTuple l items)(nl:l≠b)(x:Atg b h h')(q:Ei h' it l n items):h'.IsTupleIter it l n:=q.elim (λq=>by
  refine hide λAx Aa=>?_
  obtain⟨o,h1,c1,_⟩:=ht;obtain⟨o2,h2,c2,_⟩:=q.2;refine Aa ?_;have e:=c1.symm.trans ((congrArg AxN<|uniq (x _ _ nl h1) h2).symm.trans c2);exact absurd (Ayz e) (by decide)) (·.1)
theorem qJ{h h':Asb}{l:Ar0}{n:Nat}{items:Array ArR}{b:Ar0}(ht:h.IsList l items)(nl:l≠b)(x:Atg b h h')(q:Ei h' it l n items):h'.IsListIter it l n:=q.elim (·.1) (λq=>by
  refine hide λAx Aa=>?_
  obtain⟨o,h1,c1,_⟩:=ht;obtain⟨o2,h2,c2,_⟩:=q.2;refine Aa ?_;have e:=c1.symm.trans ((congrArg AxN<|uniq (x _ _ nl h1) h2).symm.trans c2);exact absurd (Ayz e) (by decide))
theorem QQ{p:Ar0×Ar0}{it:It}(e:p.2=p.1∨∃a b,it= .zip a b)(n:∀a b,it≠ .zip a b):p.2=p.1:=e.resolve_right λq=>q.elim λa q=>q.elim λb q=>n a b q
theorem Nr(I:Inv C W σ s){j:Nat}(hj:W.τ[j]?=some p){l:List AV}(b:Ob C W s.heap p (.iter<|.seq l)){k:K (Option AV)}(h:WT j l σ k=true):∃l i items,Qd C W σ s j p k l i items:=by
 refine hide λAx Aa=>?_
 obtain⟨ep,T,i,items,hit,hT,hv⟩:=b;refine Aa ?_
 replace ep:=QQ ep nofun
 have sq:Ei s.heap p.1 T i items:=.inr ⟨hit,hT.Af⟩;refine hide λAx Aa=>?_
 obtain⟨o,ho,hc,hd⟩:=id hit;refine Aa ?_;have hc:o.cls≠ .type "frame":=by rw[hc];decide
 refine⟨T,i,items,sq,λcx hx=>?_,λhx=>?_⟩
 ·rw[bE hx] at hv
  induction l with
  |nil=>cases hv
  |cons v r=>refine Ae.inv (P:=λvs=>vs=cx::items.toList.drop (i+1)->_) hv (λcv cl a hr e=>?_) rfl;rw[(Awz e).1] at a;rw[(Awz e).2] at hr;exact⟨v,.seq r,a,h,λs' hg Hp hb hs=>I.II hj ep ho hc hg Hp hb (Rw hs) λTK=>⟨.inl ep,T,i+1,items,qK hT.Af (Zi sq) hb hs (i:=i),TK _ _ hT,hr.keep (ArZ _) (ArZ _) (λz z=>rfl) TK⟩⟩
 ·rw[As9 (Array.getElem?_eq_none_iff.mp hx)] at hv
  induction l with
  |cons _ _=>cases hv
  |nil=>exact⟨h,λs' hg Hp hb hl=>I.II hj ep ho hc hg Hp hb hl λz=>trivial⟩
theorem Np(I:Inv C W σ s){j:Nat}(hj:W.τ[j]?=some p){sj n:Nat}(b:Ob C W s.heap p (.iter<|.lst sj n)){k:K (Option AV)}(h:WR j sj n σ k=true):∃l i items,Qd C W σ s j p k l i items:=by
 refine hide λAx Aa=>?_
 obtain⟨ep,r,hr,hit⟩:=b;refine Aa ?_
 replace ep:=QQ ep nofun
 refine I.A7 hr h (λl vs h z b=>?_) ff;refine hide λAx Aa=>?_
 obtain⟨o,ho,hc,hd⟩:=id hit;refine Aa ?_;have hc:o.cls≠ .type "frame":=by rw[hc];decide
 have sq:Ei s.heap p.1 r.1 n vs.toArray:=.inl ⟨hit,b.il⟩;rw[AI] at h;refine⟨r.1,n,vs.toArray,sq,λcx hx=>?_,λhx=>?_⟩
 ·have hx:=AwO.symm.trans hx;have lt:n<l.length:=b.v.length▸(Ar2.mp hx).1;rw[Ar8 lt] at h;refine hide λAx Aa=>?_
  obtain⟨cv,e1,e2⟩:=b.v.get (Ar8 lt);refine Aa ?_;rw[uniq hx e1] at e2;exact⟨_,.lst sj<|n+1,e2,h,λs' hg Hp hb hs=>I.II hj ep ho hc hg Hp hb (Rw hs) λTK=>⟨.inl ep,r,hr,qJ b.il (Zi sq) hb hs⟩⟩
 ·have hx:=AwO.symm.trans hx;rw[AwL.mpr (b.v.length▸AwL.mp hx)] at h;exact⟨h,λs' hg Hp hb hl=>I.II hj ep ho hc hg Hp hb hl λz=>trivial⟩
theorem IT(I:Inv C W σ s){j:Nat}(hj:W.τ[j]?=some p){k:K (Option AV)}(h:Q4 j σ k=true):∃l i items,Qd C W σ s j p k l i items:=
 I.FT hj h (λit h z b=>by
  induction it with
  |seq l=>exact Nr I hj b h
  |lst a n=>exact Np I hj b h
  |_=>exact ff h) ff
end
section
variable{prog:AsR}{w:ArV}{A:Ar4}{E:ArR->ArT->Prop}{s:ArT}
theorem tZ{h:Asb}{a b:Ar0}(ha:h.get? a=some o)(hb:h.get? b=some o')(n:o.cls≠o'.cls):a≠b:=λe=>n (congrArg AxN<|uniq hb<|e▸ha)
theorem Stop.but{h':Asb}{z:Ar0}(q:Stop h e)(hz:h.get? z=some o)(n:AtS "StopIteration"≠o.cls)(x:Atg z h h'):Stop h' e:=
 q.imp λa q=>q.imp λu q=>⟨q.1,x a u (tZ q.2.1 hz<|q.2.2▸n) q.2.1,q.2.2⟩
inductive Mj(h:Asb)(i:Ar0)(S:ArR->Asb->Prop)(N:Asb->Prop):Prop
 |mk (l:Ar0) (k:Nat) (xs:Array ArR) (q:Ei h i l k xs) (go:∀x h₂,xs[k]?=some x->Ei h₂ i l (k+1) xs->AsD i h h₂->S x h₂) (stop:xs[k]?=none->∀h₂,Atg i h h₂->Hz h₂ i->N h₂)
theorem fQ{σ α:Type}{f:ArR×Nat->σ->Sem (ForInStep σ)}{st:σ}{g:σ->Sem α}{z TI TO i1 i2:Ar0}{x0 y0:ArR}{h:Asb}{Q:α->ArT->Prop}{S1:ArR->Asb->Prop}{S2:ArR->ArR->Asb->Prop}{N:Asb->Prop}
  (turn:∀(i:Ar0) (k:Nat) (a b:ArR) (h:Asb) (S:ArR->Asb->Prop) (Q:ForInStep σ->ArT->Prop),TO≠i->i≠z->IsZip h z TI TO .ellipsis->AuT h TO a b->Mj h i S N->
   (∀x h₂ h₃,S x h₂->AsD TO h₂ h₃->h₃.objs.size=h.objs.size->IsZip h₃ z TI TO .ellipsis->h₃.get? TO=some {cls:=.type "tuple",data:=.seq ((#[a,b]:Array ArR).setIfInBounds k x)}->Q (.yield st) {s with heap:=h₃})->
   Ar5 (model prog w) A (f (.ref i,k) st) Q E {s with heap:=h})
  (n1:TO≠i1)(m1:i1≠z)(n2:TO≠i2)(m2:i2≠z)(hz:IsZip h z TI TO .ellipsis)(hT:AuT h TO x0 y0)(a1:Mj h i1 S1 N)
  (a2:∀x h₂ h₃,S1 x h₂->AsD TO h₂ h₃->AuT h₃ TO x y0->Mj h₃ i2 (S2 x) N)
  (fin:∀x y h₄ h₅,S2 x y h₄->AsD TO h₄ h₅->h₅.objs.size=h.objs.size->IsZip h₅ z TI TO .ellipsis->AuT h₅ TO x y->Ar5 (model prog w) A (g st) Q E {s with heap:=h₅}):
  Ar5 (model prog w) A (forIn [(Ati i1,0),(Ati i2,1)] st f>>=g) Q E {s with heap:=h}:=by
 simp only[Atp,AtN];exact ArQ (ArQ (turn i1 0 x0 y0 h S1 _ n1 m1 hz hT a1 λx h₂ h₃ q e z3 i3 t3=>ArQ (turn i2 1 x y0 h₃ (S2 x) _ n2 m2 i3 t3 (a2 x h₂ h₃ q e t3) λy h₄ h₅ r e5 z5 i5 t5=>ArS (fin x y h₄ h₅ r e5 (z5.trans z3) i5 t5))))
theorem PG{z TI TO i1 i2:Ar0}{x0 y0:ArR}{Q:Option ArR->ArT->Prop}(hh:A.handled=none)(hz:IsZip s.heap z TI TO .none)(hTI:s.heap.IsTuple TI #[.ref i1,.ref i2])(rK:AuT s.heap TO x0 y0)
  (TOz:TO≠z)(i1z:i1≠z)(i2z:i2≠z)(TO1:TO≠i1)(TO2:TO≠i2)
  (step:∀h₁,AsD z s.heap h₁->IsZip h₁ z TI TO .ellipsis->Mj h₁ i1 (λx h₂=>∀h₃,AsD TO h₂ h₃->AuT h₃ TO x y0->Mj h₃ i2
    (λy h₄=>∀h',IsZip h' z TI TO (AtQ s.heap.objs.size)->AuT h' TO x y->AuT h' s.heap.objs.size x y->(∀b o,b≠z->b≠TO->h₄.get? b=some o->h'.get? b=some o)->Q (some<|.ref s.heap.objs.size) {s with heap:=h'})
    (λh₂=>∀h',Atg z h₂ h'->Hz h' z->Q none {s with heap:=h'})) (λh₂=>∀h',Atg z h₂ h'->Hz h' z->Q none {s with heap:=h'})):
  Ar5 (model prog w) A (Azl<|.ref z) Q E s:=by
 have hT:s.TypeIs (.ref z) "zip":=⟨_,hz,rfl⟩;obtain⟨oT,hoT,_,nT,QI⟩:=hTI;unfold Azl;refine R2 (AsN (name:=ArP "__next__") hT F.slot_zip_next
  (Ata F.slot_zip_next hT F.entry_zip_next ?_<|F.args_zip_next_1 _))
 show Ar5 _ _ (field (.ref z) 2>>=_) _ _ _;refine AB hz rfl (x:=.bool false) rfl ?_;show Ar5 _ _ (field (.ref z) 3>>=_) _ _ _;refine AB hz rfl (x:=.ref TI) rfl ?_;refine GF hoT QI ?_;show Ar5 _ _ (Atj (.ref z)>>=_) _ _ _;refine ArQ (Q:=_) ?_;unfold Atj;refine AB hz rfl (x:=.none) rfl (ArS ?_);refine DA ?_;refine AB hz rfl (x:=.ref TO) rfl ?_;refine R3 hz (Asp rfl) λh₁ cO O0=>?_
 refine fQ (i1:=i1) (i2:=i2) (λi k a b h S Q' n1 n2 cO hTO₁ zn fin=>?_) TO1 i1z TO2 i2z cO (O0.extBut _ _ TOz rK) (step h₁ O0 cO) (λx h₂ h₃ q e t=>q h₃ e t) λx y h₄ h₅ fin iA En v8 vG=>?_
 ·obtain⟨l,j,xs,q,go,stop⟩:=zn;refine ArQ<|AzW ?_;show Ar5 _ _ (At6 (.ref i)>>=_) _ _ _;refine ArQ (Kl hh q (λx h₂ hx hq₂ M0=>ArS ?_) λhx h₂ e M0 lv₂ he=>?_)
  ·have vF:=M0.extBut _ _ n1 hTO₁;exact GF vF rfl (tB vF λh₃ AeA TU=>Oi (ArS<|fin x h₂ h₃ (go x h₂ hx hq₂ M0) TU (TU.1.trans M0.1) (TU.extBut _ _ TOz.symm<|M0.extBut _ _ n2.symm cO) AeA))
  ·have hz₂:=M0 _ _ n2.symm cO;exact As4 hz₂ (Asp rfl) λh₅ v8 iA=>ArQ (P1 (he.but hz₂ (show AtS "StopIteration"≠ .type "zip" by decide) iA.extBut) (ArS (stop hx h₂ M0 lv₂ h₅ iA.extBut ⟨_,v8⟩)))
 ·refine GF vG rfl (mU (by size_fits) ?_);show Ar5 _ _ (Atf (.ref z) (.ref h₅.objs.size)>>=_) _ _ _;refine ArQ ?_;unfold Atf;have hz₆:IsZip (h₅.push {cls:=.type "tuple",data:=.seq #[x,y]}) z TI TO .ellipsis:=ArW _ v8;refine R3 hz₆ (Asp rfl) λh₇ hz₇ rO=>As4 hz₇ (Asp rfl) λh₈ hz₈ hs₈=>ArS ⟨_,rfl,ArS ?_⟩
  have up:∀c o,c≠z->h₅.get? c=some o->h₈.get? c=some o:=λc o c1 e=>hs₈.extBut _ _ c1 (rO.extBut _ _ c1<|ArW _ e)
  have hT₈:AuT h₈ h₅.objs.size x y:=hs₈.extBut _ _ (AtJ<|As2 v8) (rO.extBut _ _ (AtJ<|As2 v8)<|Ar9 _ rfl);have e:=En.trans O0.1;show Q (some<|.ref h₅.objs.size) _;rw[e];exact fin h₈ (e▸hz₈) (up _ _ TOz vG) (e▸hT₈) λb o b1 b2 x=>up b o b1 (iA.extBut _ _ b2 x)
theorem Jb{it:Ar0}{x left step:Int}{Q:Option ArR->ArT->Prop}(hh:A.handled=none)(hit:IsRangeIter s.heap it x left step)(vR:left≤0)
  (hQ:∀h',(∀b o,s.heap.get? b=some o->h'.get? b=some o)->Q none {s with heap:=h'}):Ar5 (model prog w) A (Azl<|.ref it) Q E s:=by
 have hT:s.TypeIs (.ref it) "range_iterator":=⟨_,hit,rfl⟩;unfold Azl;refine R2 (AsN (name:=ArP "__next__") hT AvD
  (Ata AvD hT F.entry_range_iterator_next ?_<|F.args_range_iterator_next_1 _))
 show Ar5 _ _ (field (.ref it) 0>>=_) _ _ s;refine AB hit rfl (x:=AtQ x) rfl ?_;show Ar5 _ _ (field (.ref it) 1>>=_) _ _ s;refine AB hit rfl (x:=AtQ left) rfl ?_;show Ar5 _ _ (field (.ref it) 2>>=_) _ _ s;refine AB hit rfl (x:=AtQ step) rfl ?_;show Ar5 _ _ (if left≤0 then _ else _) _ _ s;refine(if_pos vR).symm▸?_;refine DA ?_;refine ArQ ?_;show Ar5 _ _ (newExc (.type "StopIteration") []>>=_) _ _ _;refine ArQ ?_;unfold newExc Azf;refine ArQ (AsF ?_ (by size_fits));refine ArQ (m:=AuN _ _) (AzV (a:=Atd) (by first |rfl |(unfold AuN;rfl)) ?_);refine AsF ?_ (by size_fits);unfold raiseNew;refine ArQ (AzO ?_)
 first |refine(show A.in1.handled=none from hh).symm▸?_ |refine hh.symm▸?_
 refine AA (AzZ ?_);refine ArQ (AzP (T:="StopIteration") (b:=true) ⟨_,Ar9 _ rfl,rfl⟩ isSubtype_stop ?_);exact ArS (hQ _ λb o e=>ArW _ (ArW _ e))
end
theorem Ks{c e st:Int}(h0:st≠0):(0<Asz c e st)↔(if 0<st then c<e else e<c):=by
 unfold Asz;by_cases h:0<st
 ·rw[if_pos h,if_pos h];split
  ·rename_i hl;have:=AvW (a:=e-c-1) (b:=st) (by omega) (by omega);constructor
   ·intro _;exact hl
   ·intro _;omega
  ·constructor
   ·intro q;omega
   ·intro q;omega
 ·rw[if_neg h,if_neg h];split
  ·rename_i hl;have:=AvW (a:=c-e-1) (b:= -st) (by omega) (by omega);constructor
   ·intro _;exact hl
   ·intro _;omega
  ·constructor
   ·intro q;omega
   ·intro q;omega
theorem PO{c e st:Int}(h0:st≠0)(h:if 0<st then c<e else e<c):Asz (c+st) e st=Asz c e st-1:=by
 unfold Asz;by_cases hp:0<st
 ·rw[if_pos hp] at h;rw[if_pos hp,if_pos hp,if_pos h];split
  ·have:e-c-1=(e-(c+st)-1)+st*1:=by omega
   rw[this,AvS _ _ (by omega)];omega
  ·rw[AvV (by omega) (by omega)];omega
 ·rw[if_neg hp] at h;rw[if_neg hp,if_neg hp,if_pos h];split
  ·have:c-e-1=(c+st-e-1)+(-st)*1:=by omega
   rw[this,AvS _ _ (by omega)];omega
  ·rw[AvV (by omega) (by omega)];omega
section
set_option backward.match.sparseCases true
variable{C:Cx}
def Fq(own:Bool)(t:Expr):Prop:=match own with
 |true=>∃elts x pos,t= .Tuple elts x pos |false=>∀it v,Aux t it v=Asl ()
def RO(C:Cx)(W:Wd)(h:Asb):Option AV->Option ArR->Prop
 |none,none=>True |some v,some cv=>VR C W h v cv |_,_=>False
def H7(M:Auw)(A:Ar4)(t:Expr)(it:ArR)(Q:Option ArR->ArT->Prop)(E:ArR->ArT->Prop)(s:ArT):Prop:=
 Ar5 M A (Azl it) (λr s1=>match r with
  |none=>Q none s1
  |some v=>Ar5 M A (Aux t it v) (λz s2=>Q (some v) s2) E s1) E s
noncomputable def Nw:List String:=["enumerate","zip","dict_itemiterator","dict_reverseitemiterator","odict_iterator","itertools.zip_longest","itertools.pairwise"]
theorem FD{M:Auw}{A:Ar4}{E:ArR->ArT->Prop}{s:ArT}{t:Expr}{it:Ar0}{v:ArR}{n:String}{Q:Unit->ArT->Prop}(ho:s.heap.get? it=some o)(hc:o.cls= .type n)(hn:Nw.contains n=false)(hq:Q () s):
  Ar5 M A (Aux t (.ref it) v) Q E s:=by
 have key:Ar5 M A (do
   let(.ref r,.ref a):=(Ati it,v)|return
   let o ←load r
   match o.cls,o.data with
   | .type n,.fields vs=>
    if ["enumerate","zip","dict_itemiterator","dict_reverseitemiterator","odict_iterator","itertools.zip_longest","itertools.pairwise"].contains n&&vs[0]? ==some (AtQ a) then
     rule "for.unpacks-the-owned-tuple"
     updateField r 0 .none
   |_,_=>Asl ():Sem Unit) Q E s:=by
  induction v with
  |ref a=>
   refine fY ho ?_;refine hc.symm▸?_;cases o.data with
   |fields vs=>show Ar5 _ _ (if(Nw.contains n&&vs[0]? ==some (AtQ a))=true then _ else _) _ _ _;rw[hn,Bool.false_and];exact ArS hq
   |_=>exact ArS hq
  |_=>exact ArS hq
 cases t with
 |Tuple=>exact key
 |List=>exact key
 |_=>exact ArS hq
section
variable{W:Wd}{σ:St}{s:ArT}{A:Ar4}{t:Expr}{own:Bool}{X:ArR->ArT->Prop}
theorem IU(ow:Fq own t)(hh:A.handled=none)(I:Inv C W σ s){j:Nat}{k:K (Option AV)}(h:∃l i items,Qd C W σ s j p k l i items):
  H7 (model C.prog C.w) A t (.ref p.1) (Ah C k σ W s<|RO C) X s:=by
 refine hide λAx Aa=>?_
 obtain⟨l,i,items,q⟩:=h;refine Aa ?_;refine To hh q.sq (λx h' hx hq hs=>?_) λhx h' hb hl=>?_
 ·refine hide λAx Aa=>?_
  obtain⟨v,y,hv,hk,hi⟩:=q.go x hx;obtain⟨J,Y⟩:=hi {s with heap:=h'} rfl rfl hs.extBut hq;refine Aa ?_;have fin:Ah C k σ W s (RO C) (some x) {s with heap:=h'}:=⟨some v,_,W,hk,Y,J,I.vr Y hv⟩;rcases hq with⟨⟨o,ho,hc,_⟩,_⟩|⟨⟨o,ho,hc,_⟩,_⟩
  ·exact FD ho hc (by decide) fin
  ·exact FD ho hc (by decide) fin
 ·refine hide λAx Aa=>?_
  obtain⟨hk,hi⟩:=q.stop hx;obtain⟨J,Y⟩:=hi {s with heap:=h'} rfl rfl hb hl;refine Aa ?_;exact⟨none,_,W,hk,Y,J,trivial⟩
theorem Kj{a b:Nat}(h:(!(ArX a b))=true):a≠b:=λe=>by rw[e,Auq] at h;exact ff h
theorem Ri(ow:Fq own t)(h:own=true):∃elts x pos,t= .Tuple elts x pos:=by subst h;exact ow
theorem Inv.yR(I:Inv C W σ s){h':Asb}{W':Wd}{x y:ArR}(g:h'.get? s.heap.objs.size=some {cls:=.type "tuple",data:=.seq #[x,y]})(hx:VR C W h' v x)(hy:VR C W h' u y):VR C W h' (.Af [v,u]) (.ref s.heap.objs.size):=
 VR.Af (vs:=[x,y]) ⟨I.Pr<|Ag _,I.WX<|Ag _,⟨_,g,rfl,_,rfl⟩,_,g,rfl⟩ (.cons hx<|.cons hy .nil)
theorem WQ(ow:Fq own t)(ho:own=true)(hh:A.handled=none)(I:Inv C W σ s){i j:Nat}{n:Int}(hj:W.τ[j]?=some p)(oj:σ.obj j=some (.iter<|.Vc i n)){k:K (Option AV)}(h:iR j i n σ k=true):
  H7 (model C.prog C.w) A t (.ref p.1) (Ah C k σ W s<|RO C) X s:=by
 refine hide λAx Aa=>?_
 obtain⟨elts,x1,pos,rfl⟩:=Ri ow ho;obtain⟨ep,q,old,hq,he⟩:=I.at hj oj;refine Aa ?_
 replace ep:=QQ ep nofun
 refine hide λAx Aa=>?_
 obtain⟨l,m,items,N⟩:=IT I hq h;refine Aa ?_;have ij:i≠j:=λe=>by
  have e2:=uniq hj (e▸hq);have l2:=N.sq;rw[e2] at l2;rcases l2 with⟨⟨o,a,b,_⟩,_⟩|⟨⟨o,a,b,_⟩,_⟩
  ·exact absurd (Ayz<|(congrArg AxN<|uniq he a).symm.trans b) (by decide)
  ·exact absurd (Ayz<|(congrArg AxN<|uniq he a).symm.trans b) (by decide)
 have ap:=I.apart j i p q hj hq ij.symm;refine Ny hh he N.sq ap.1 (λx h₁ h' hx hq1 hY heo hT up=>?_) λhx h' hb hl=>?_
 ·refine hide λAx Aa=>?_
  obtain⟨v,y,hv,hk,hi⟩:=N.go x hx;obtain⟨J,Y⟩:=hi {s with heap:=h₁} rfl rfl hY.extBut hq1;refine Aa ?_;refine wpAny_letOwnedTupleGo_enum heo λgX vK JE=>?_
  replace JE:AsD p.1 h' gX:=JE
  have up2:∀b o,b≠p.1->h₁.get? b=some o->gX.get? b=some o:=λb o c e=>JE.extBut _ _ c (up b o c e)
  have Aex:=JE.extBut _ _ (AtJ<|As2 he) hT;refine hide λAx Aa=>?_
  obtain⟨J2,Y2⟩:=J.II (y:=.iter (.Vc i (n+1))) (s':={s with heap:=gX,toks:=s.toks+1}) hj ep ((hY.2 p.1 ap.1).trans he) (show AtS "enumerate"≠_ by decide) rfl rfl up2 ⟨_,vK⟩ λTK=>⟨.inl ep,q,x,hq,vK⟩
  refine Aa ?_;exact⟨some<|.Af [.int (.k n),v],_,W,hk,Y.trans Y2,J2,I.yR (W':=W) Aex (.int<|Ad.Ci n)<|J.vr Y2<|I.vr Y hv⟩
 ·refine hide λAx Aa=>?_
  obtain⟨hk,hi⟩:=N.stop hx;obtain⟨J,Y⟩:=hi {s with heap:=h'} rfl rfl hb hl;have he':=hb _ _ ap.1 he;obtain⟨J2,Y2⟩:=J.II (y:=.dead) (s':={s with heap:=h'}) hj ep he' (show AtS "enumerate"≠_ by decide) rfl rfl (λz z z e=>e) ⟨_,he'⟩ λz=>trivial
  refine Aa ?_;exact⟨none,_,W,hk,Y.trans Y2,J2,trivial⟩
theorem Inv.ZK(I:Inv C W σ s){j:Nat}{p:Ar0×Ar0}(hj:W.τ[j]?=some p){s2:ArT}{o1 o2:Obj}{y:AO}(hk:∀b x,b≠p.1->b≠p.2->s.heap.get? b=some x->s2.heap.get? b=some x)(hy:AJ W W s.heap s2.heap->Ob C W s2.heap p y)
  (h1:s.heap.get? p.1=some o1)(c1:o1.cls≠ .type "frame")(h2:s.heap.get? p.2=some o2)(c2:o2.cls≠ .type "frame")(l1:Hz s2.heap p.1)(l2:Hz s2.heap p.2)(hg:s2.gens=s.gens)(Hp:s2.os=s.os):Inv C W (σ.put j y) s2∧Ext σ W s (σ.put j y) W s2:=
 I.put (o:=y) hj hk hy (l1.imp λz e=>⟨e,trivial⟩) (l2.imp λz e=>⟨e,trivial⟩) (λa ha x hx fr=>ha.elim (λe=>IX e h1 hx fr c1) (λe=>IX e h2 hx fr c2)) hg Hp
theorem WU(ow:Fq own t)(ho:own=true)(hh:A.handled=none)(I:Inv C W σ s){a b j:Nat}(haj:a≠j)(hbj:b≠j)(hj:W.τ[j]?=some p)(oj:σ.obj j=some (.iter<|.zip a b)){k:K (Option AV)}(h:iT j a b σ k=true):
  H7 (model C.prog C.w) A t (.ref p.1) (Ah C k σ W s<|RO C) X s:=by
 refine hide λAx Aa=>?_
 obtain⟨elts,x1,pos,rfl⟩:=Ri ow ho;obtain⟨_,TI,qa,qb,x0,y0,hz,hTI,ha,hb,rK⟩:=I.at hj oj;refine Aa ?_;have TOz:p.2≠p.1:=λe=>absurd (Ayz<|congrArg AxN<|uniq hz<|(congrArg s.heap.get? e).symm.trans rK) (by decide)
 have za:=I.apart j a p qa hj ha haj.symm;have zb:=I.apart j b p qb hj hb hbj.symm;refine PG hh hz hTI.Af rK TOz za.1.symm zb.1.symm za.2.2.1 zb.2.2.1 λh₁ O0 cO=>?_
 refine hide λG out=>?_
 have nR:=O0.extBut _ _ TOz rK;refine hide λAx Aa=>?_
 obtain⟨I0,Y0⟩:=I.ZK hj (s2:={s with heap:=h₁}) (y:=.dead) (λb x n z e=>O0.extBut b x n e) (λz=>trivial) hz (show AtS "zip"≠_ by decide) rK (show AtS "tuple"≠_ by decide) ⟨_,cO⟩ ⟨_,nR⟩ rfl rfl;obtain⟨l1,k1,xs,N1⟩:=IT I0 ha h;refine Aa ?_;refine out ⟨l1,k1,xs,N1.sq,λx h₂ hx hq₂ M0 h₃ TU nU=>?_,λhx h₂ hb₂ lv₂ h' Hm lv'=>?_⟩
 ·refine hide λG out=>?_
  refine hide λAx Aa=>?_
  obtain⟨v,y1,hv,hk,hi⟩:=N1.go x hx;obtain⟨I1,Y1⟩:=hi {s with heap:=h₂} rfl rfl M0.extBut hq₂;have cA:=M0.extBut _ _ za.2.2.1 nR;have oE:=M0.extBut _ _ za.1 cO;have hz3:=TU.extBut _ _ TOz.symm oE;obtain⟨I2,Y2⟩:=I1.ZK hj (s2:={s with heap:=h₃}) (y:=.dead) (λb x z n e=>TU.extBut b x n e) (λz=>trivial) oE (show AtS "zip"≠_ by decide) cA (show AtS "tuple"≠_ by decide) ⟨_,hz3⟩ ⟨_,nU⟩ rfl rfl;obtain⟨l2,k2,ys,N2⟩:=IT I2 hb hk;refine Aa ?_;have Y02:=(Y0.trans Y1).trans Y2;have hv2:=I2.vr (.refl _ _ _) (I1.vr Y2 (I0.vr Y1 hv));refine out ⟨l2,k2,ys,N2.sq,λy h₄ hy hq₄ hs₄ h' oD Aez hT' up=>?_,λhy h₄ hb₄ lv₄ h' Hm lv'=>?_⟩
  ·refine hide λG out=>?_
   refine hide λAx Aa=>?_
   obtain⟨u,y2,hu,hk2,OX⟩:=N2.go y hy;obtain⟨I3,Y3⟩:=OX {s with heap:=h₄} rfl rfl hs₄.extBut hq₄;refine Aa ?_;have cB:=hs₄.extBut _ _ zb.2.2.1 nU;have hz4:=hs₄.extBut _ _ zb.1 hz3;refine out (wpAny_letOwnedTupleGo_zip oD λgX v7 JE=>hide λG out=>?_)
   replace JE:AsD p.1 h' gX:=JE
   have Y4:=Y02.trans Y3;have vE:=JE.extBut _ _ TOz Aez;obtain⟨I5,Y5⟩:=I3.ZK hj (s2:={s with heap:=gX}) (y:=.iter (.zip a b)) (λb x n1 n2 e=>JE.extBut b x n1 (up b x n1 n2 e))
    (λTK=>⟨.inr ⟨a,b,rfl⟩,TI,qa,qb,x,y,v7,TK _ _ (I.qU Y4 _ _ hTI),ha,hb,vE⟩) hz4 (show AtS "zip"≠_ by decide) cB (show AtS "tuple"≠_ by decide) ⟨_,v7⟩ ⟨_,vE⟩ rfl rfl
   have hT5:=JE.extBut _ _ (AtJ<|As2 hz) hT';exact out ⟨some<|.Af [v,u],_,W,hk2,Y4.trans Y5,I5,I.yR (W':=W) hT5 (I3.vr Y5<|I2.vr Y3 hv2)<|I3.vr Y5<|I2.vr Y3 hu⟩
  ·refine hide λG out=>?_
   refine hide λAx Aa=>?_
   obtain⟨hk2,OX⟩:=N2.stop hy;obtain⟨I3,Y3⟩:=OX {s with heap:=h₄} rfl rfl hb₄ lv₄;have cB:=hb₄ _ _ zb.2.2.1 nU;have hz4:=hb₄ _ _ zb.1 hz3;obtain⟨I5,Y5⟩:=I3.ZK hj (s2:={s with heap:=h'}) (y:=.dead) (λb x n1 z e=>Hm b x n1 e) (λz=>trivial) hz4 (show AtS "zip"≠_ by decide) cB (show AtS "tuple"≠_ by decide) lv' ⟨_,Hm _ _ TOz cB⟩ rfl rfl;refine Aa ?_;exact out ⟨none,_,W,hk2,(Y02.trans Y3).trans Y5,I5,trivial⟩
 ·refine hide λG out=>?_
  refine hide λAx Aa=>?_
  obtain⟨hk,hi⟩:=N1.stop hx;obtain⟨I1,Y1⟩:=hi {s with heap:=h₂} rfl rfl hb₂ lv₂;have cA:=hb₂ _ _ za.2.2.1 nR;have oE:=hb₂ _ _ za.1 cO;obtain⟨I5,Y5⟩:=I1.ZK hj (s2:={s with heap:=h'}) (y:=.dead) (λb x n1 z e=>Hm b x n1 e) (λz=>trivial) oE (show AtS "zip"≠_ by decide) cA (show AtS "tuple"≠_ by decide) lv' ⟨_,Hm _ _ TOz cA⟩ rfl rfl;refine Aa ?_;exact out ⟨none,_,W,hk,(Y0.trans Y1).trans Y5,I5,trivial⟩
theorem Rq{c e st:Int}:bt (C7 0 st) (C7 c e) (C7 e c)=decide (if 0<st then c<e else e<c):=
 Df (P:=λb=>b=decide (if 0<st then c<e else e<c)) (λq=>(Ld c e).trans (decide_eq_decide.mpr<|iff_of_eq (if_pos<|Bt q).symm)) (λq=>(Ld e c).trans (decide_eq_decide.mpr<|iff_of_eq (if_neg<|Awg.mpr<|Bz q).symm))
theorem WS(hh:A.handled=none)(I:Inv C W σ s){c e st:Int}{j:Nat}(hj:W.τ[j]?=some p)(b:Ob C W s.heap p (.iter<|.rng c e st)){k:K (Option AV)}(h:iS j c e st σ k=true):
  H7 (model C.prog C.w) A t (.ref p.1) (Ah C k σ W s<|RO C) X s:=by
 obtain⟨ep,hr,h0⟩:=b
 replace ep:=QQ ep nofun
 refine B9 h (λq h=>?_) λq h=>?_
 ·have q:=of_decide_eq_true (Rq.symm.trans q);refine wpAny_pyNext_range_item hr ((Ks h0).mpr q) λh' TS hs=>?_
  rw[←PO h0 q] at TS
  replace hs:AsD p.1 s.heap h':=hs
  obtain⟨J,Y⟩:=I.II (y:=.iter (.rng (c+st) e st)) (s':={s with heap:=h',toks:=s.toks+1}) hj ep hr (show AtS "range_iterator"≠_ by decide) rfl rfl hs.extBut ⟨_,TS⟩ λz=>⟨.inl ep,TS,h0⟩
  exact FD TS rfl (by decide) ⟨some<|.int<|.k c,_,W,h,Y,J,.int<|Ad.Ci c⟩
 ·have q:=of_decide_eq_false (Rq.symm.trans q);refine Jb hh hr (Awg.mp λx=>q ((Ks h0).mp x)) λh' hk=>?_
  exact(I.grow (s':={s with heap:=h'}) hk rfl rfl).elim λJ Y=>⟨none,σ,W,h,Y,J,trivial⟩
theorem Kk(ow:Fq own t)(hh:A.handled=none)(I:Inv C W σ s){j:Nat}(hj:W.τ[j]?=some p){k:K (Option AV)}(h:nextOf own j σ k=true):
  H7 (model C.prog C.w) A t (.ref p.1) (Ah C k σ W s<|RO C) X s:=
 I.FT hj h (λit h oj b=>by
  induction it with
  |seq l=>exact IU ow hh I (Nr I hj b h)
  |lst a n=>exact IU ow hh I (Np I hj b h)
  |rng c e st=>exact WS hh I hj b h
  |Vc i n=>exact WQ ow (bl h) hh I hj oj (br h)
  |zip a b=>exact WU ow (bl (bl h)) hh I (Kj (bl (br (bl h)))) (Kj (br (br (bl h)))) hj oj (br h)) ff
end
end
def sI(W:Wd)(h:Asb)(j:Nat)(cv:ArR):Prop:=∃p,W.τ[j]?=some p∧cv= .ref p.1
theorem EX{a:Int}(h:near a=true): -1000000≤a∧a≤1000000:=⟨Bs<|bl h,Bs<|br h⟩
theorem CI{x:Int}(q1: -3000000≤x)(q2:x≤3000000):Ax3 x=true:=Asw.mpr ⟨decide_eq_true (by lia),decide_eq_true (by lia)⟩
theorem U2{x y:Int}(hx:0≤x)(hx2:x≤2000000)(hy:0≤y):0≤x/y+1∧x/y+1≤2000001:=
 ⟨Av6 (by decide)<|AvQ (AvW hx hy) 1,AvQ (Av6 (Int.ediv_le_self (b:=y) hx) hx2) 1⟩
theorem NF{a b s:Int}(h:XC a b s=true):Ax4 a b s=true∧s≠0:=by
 obtain⟨a1,a2⟩:=EX (bl h);obtain⟨b1,b2⟩:=EX (bl<|br h);obtain⟨s1,s2⟩:=EX (bl<|br<|br h);have s0:s≠0:=λe=>ff (by have q:=br (br<|br h);rw[e] at q;exact q)
 refine⟨?_,s0⟩;have sz:0≤Asz a b s∧Asz a b s≤2000001:=by
  unfold Asz;split
  ·split
   ·exact U2 (by lia) (by lia) (by lia)
   ·exact⟨by decide,by decide⟩
  ·split
   ·exact U2 (by lia) (by lia) (by lia)
   ·exact⟨by decide,by decide⟩
 unfold Ax4;rw[CI (x:=a) (by lia) (by lia),CI (x:=b) (by lia) (by lia),CI (x:=s) (by lia) (by lia),CI (by lia) (by lia)];split
 ·rw[CI (by lia) (by lia)];simp
 ·rw[CI (by lia) (by lia)];simp
section
variable{W:Wd}{σ:St}{s:ArT}{A:Ar4}
theorem pF{σ1:St}(n1:Bg C W s σ σ1){y:It}{o:Obj}(hy:Cr W (W.more (s.heap.objs.size,s.heap.objs.size)) s.heap (s.heap.push o)->(s.heap.push o).get? s.heap.objs.size=some o->rD C (W.more (s.heap.objs.size,s.heap.objs.size)) (s.heap.push o) s.heap.objs.size s.heap.objs.size y)(hf:o.isFreed=false)
  {k:K Nat}(hk:k σ1.n (σ1.new<|.iter y)=true):Ah C k σ W s sI (.ref s.heap.objs.size) {s with heap:=s.heap.push o}:=by
 have g:(s.heap.push o).get? s.heap.objs.size=some o:=Ar9 _ hf;obtain⟨J,Y⟩:=n1.1.make (o:=.iter y) (s':={s with heap:=s.heap.push o}) (p:=(s.heap.objs.size,s.heap.objs.size)) (λz z e=>ArW _ e) (Ag _) (Ag _) (λS=>⟨.inl rfl,hy S g⟩) ⟨_,g,trivial⟩ ⟨_,g,trivial⟩ rfl rfl;exact⟨σ1.n,_,_,hk,n1.ext.trans Y,J,_,St.A5 n1.1 _,rfl⟩
theorem Sp.A4(I:Inv C W σ s)(hv:VR C W s.heap v cv):Sp C A σ W s (Azk cv) (λk z=>Mine.Internal.A4 v σ k) sI:=λk ke h=>by
 obtain⟨v',σ1,n1,Jv,_,h⟩:=Aw I hv h;have J:=n1.1;refine VR.AU (P:=λcv=>Ar5 (model C.prog C.w) A (Azk cv) (Ah C k σ W s sI) (Ac C ke σ W s) s) Jv h (λl vs a h ht vv=>wpAny_pyIter_tuple ht.Af (pF n1 (y:=.seq _) (λS g=>⟨_,0,_,⟨_,g,rfl,rfl⟩,S.Af _ _ ht,vv.keep S.ρ S.τ S.q S.Af⟩) rfl h)) λh=>
  VR.Ay (P:=λcv=>Ar5 (model C.prog C.w) A (Azk cv) (Ah C k σ W s sI) (Ac C ke σ W s) s) Jv h (λj p h hj=>J.A7 hj h (λl vs h z b=>wpAny_pyIter_list b.il (pF n1 (y:=.lst _ 0) (λS g=>⟨_,Ab S.τ hj,_,g,rfl,rfl⟩) rfl h)) λh=>J.Mr hj h (λa b st h z q=>?_) λh=>J.FT hj h (λit h oj b=>?_) ff) ff
 ·obtain⟨sm,s0⟩:=NF (bl h);obtain⟨ep,t,u,w,hr⟩:=q;exact wpAny_pyIter_range hr sm (pF n1 (y:=.rng a b st) (λS g=>⟨g,s0⟩) rfl (br h))
 ·have fin:k j σ1=true->Ah C k σ W s sI (.ref p.1) s:=λh=>⟨_,σ1,W,h,n1.ext,J,_,hj,rfl⟩
  induction it with
  |Vc i n=>exact b.2.elim λq r=>r.elim λold r=>wpAny_pyIter_enum r.2 (fin h)
  |zip a c=>exact b.2.elim λTI q=>q.elim λqa q=>q.elim λqb q=>q.elim λx0 q=>q.elim λy0 q=>wpAny_pyIter_zip q.1 (fin h)
  |_=>exact ff h
theorem Nq{own:Bool}{j:Nat}{k:K (Option AV)}(h:nextOf own j σ k=true):∃it,σ.obj j=some (.iter it):=Uz (P:=λo=>∃it,o=some (.iter it)) h (λit z=>⟨it,rfl⟩) ff
theorem pyIter_self(I:Inv C W σ s){j:Nat}(hj:W.τ[j]?=some p){it:It}(oj:σ.obj j=some (.iter it)){Q:ArR->ArT->Prop}{E:ArR->ArT->Prop}(h:Q (.ref p.1) s):
  Ar5 (model C.prog C.w) A (Azk<|.ref p.1) Q E s:=by
 obtain⟨_,r⟩:=I.at hj oj
 induction it with
 |seq l=>obtain⟨T,i,items,hit,_⟩:=r;exact wpAny_pyIter_tupleiter hit h
 |lst a b=>obtain⟨q,hq,hit⟩:=r;exact wpAny_pyIter_listiter hit h
 |rng c e st=>obtain⟨hr,_⟩:=r;exact wpAny_pyIter_rangeiter hr h
 |Vc a b=>obtain⟨q,old,_,he⟩:=r;exact wpAny_pyIter_enum he h
 |zip a b=>obtain⟨TI,qa,qb,x0,y0,hz,_⟩:=r;exact wpAny_pyIter_zip hz h
end
section
variable{prog:AsR}{w:ArV}{A:Ar4}{E:ArR->ArT->Prop}{s:ArT}
theorem Vz{R:Auh->ArT->Prop}{target:Expr}{it:ArR}{body:List Auj}{env:Env}
  (turn:H7 (model prog w) A target it (λr s₁=>match r with
   |none=>R (.ok .next) s₁
   |some v=>Ar5 (model prog w) A (AyF target env v) (λz s₂=>Ar5 (model prog w) A (execs body env) (λf s₃=>match f with
      | .next | .cont=>Asu (model prog w) A (.forLoop target it body [] env) R s₃
      | .brk=>R (.ok .next) s₃
      | .ret v=>R (.ok (.ret v)) s₃) (AtK (model prog w) A env λe s'=>R (.error e) s') s₂) (AtK (model prog w) A env λe s'=>R (.error e) s') s₁) (AtK (model prog w) A env λe s'=>R (.error e) s') s):
  Asu (model prog w) A (.forLoop target it body [] env) R s:=by
 refine Auy ?_;show Ar5 _ A ((forTurn target it body [] env).onRaise (λx=>do Azg x env;AzA x)) _ _ s;refine AzU ?_;simp only[forTurn];refine Bm (ArQ<|AzW (ArY turn (λr s₁ h₁=>?_) λz z h'=>AsH h'))
 induction r with
 |none=>refine ArS ⟨rfl,codeAny_block ?_⟩;rw[AyE];exact ArS h₁
 |some v=>
  refine Az h₁ (λz s₁' h₁'=>?_) λz z h'=>h'
  refine Az h₁' (λz s₂ h₂=>Az h₂ (λf s₃ h₃=>?_) λz z h'=>h') λz z h'=>h'
  induction f with
  |next=>exact ArS ⟨rfl,h₃⟩
  |cont=>exact ArS ⟨rfl,h₃⟩
  |brk=>exact ArS h₃
  |ret v=>exact ArS h₃
theorem Ju{R:Auh->ArT->Prop}{test:Expr}{body:List Auj}{env:Env}
  (turn:Ar5 (model prog w) A (isTrue test env<|eval test env) (λb s₂=>
    if b then Ar5 (model prog w) A (execs body env) (λf s₃=>match f with
      | .next | .cont=>Asu (model prog w) A (.whileLoop test body [] env) R s₃
      | .brk=>R (.ok .next) s₃
      | .ret v=>R (.ok (.ret v)) s₃) (AtK (model prog w) A env λe s'=>R (.error e) s') s₂
    else R (.ok .next) s₂)
    (AtK (model prog w) A env λe s'=>R (.error e) s') s):Asu (model prog w) A (.whileLoop test body [] env) R s:=by
 refine Auy ?_;show Ar5 _ A ((whileTurn test body [] env).onRaise (λx=>do Azg x env;AzA x)) _ _ s;refine AzU ?_;simp only[whileTurn];refine Az turn (λb s₂ h₂=>?_) λz z h'=>h'
 induction b with
 |false=>simp only[AsM,if_false] at h₂ ⊢;rw[AyE];exact AA (ArS h₂)
 |true=>
  simp only[if_true] at h₂ ⊢;refine Az h₂ (λf s₃ h₃=>?_) λz z h'=>h'
  induction f with
  |next=>exact ArS ⟨rfl,h₃⟩
  |cont=>exact ArS ⟨rfl,h₃⟩
  |brk=>exact ArS h₃
  |ret v=>exact ArS h₃
end
def sC(C:Cx)(k:K Fl)(ke:K AV)(σ:St)(W:Wd)(s:ArT):Auh->ArT->Prop:=λr s'=>match r with
 | .ok f=>Ah C k σ W s (RF C) f s' | .error e=>Ba C ke σ W s e s'
theorem Ba.base(x:Ext σ W s σ' W' s')(h:Ba C ke σ' W' s' e s2):Ba C ke σ W s e s2:=⟨h.1.base x,h.2⟩
theorem sC.base{k:K Fl}(x:Ext σ W s σ' W' s')(h:sC C k ke σ' W' s' r s2):sC C k ke σ W s r s2:=by
 induction r with
 |ok f=>exact Ah.base x h
 |error e=>exact Ba.base x h
section
variable{X:CX}{n:Nat}{b:Bool}{sc:Asv}
theorem Hq(own:Bool)(turn:AV->St->M Fl)(j m:Nat)(σ:St)(k:K Fl)(ke:K AV):BB own turn j (m+1) σ k ke =
 nextOf own j σ λr σ=>OR (k .next σ) (λv=>turn v σ (λf σ=>turned f k (λσ=>BB own turn j m σ k ke) σ) ke) r:=rfl
theorem Vy{own:Bool}(ow:Fq own et)(ht:ST C X n true sc t et)(hb:SL C X n true sc c bx)(f:BQ n true A){j:Nat}{k:K Fl}:
  ∀(m:Nat) (σ:St) (W:Wd) (s:ArT) (R:Auh->ArT->Prop),Inv C W σ s->AD C A W sc E env->W.τ[j]?=some p->BB own (λv σ k ke=>t X E v σ (λz σ=>c X E σ k ke) ke) j m σ k ke=true->(∀r s',sC C k ke σ W s r s'->R r s')->
   Asu (model C.prog C.w) A (.forLoop et (.ref p.1) bx [] env) R s
 |0,σ,W,s,R,I,e,hj,h,hR=>by cases h
 |m+1,σ,W,s,R,I,e,hj,h,hR=>by
  rw[Hq] at h;have nx:=Kk (X:=AtK (model C.prog C.w) A env λe s'=>R (.error e) s') ow (f.hand rfl) I hj h;refine Vz (ArY nx (λr s1 q=>?_) λz z q=>q);have fin:∀(r:Option ArR) (s1:ArT),Ah C (λr σ=>OR (k .next σ) (λv=>t X E v σ (λz σ=>c X E σ (λf σ=>turned f k (λσ=>BB own (λv σ k ke=>t X E v σ (λz σ=>c X E σ k ke) ke) j m σ k ke) σ) ke) ke) r) σ W s (RO C) r s1->(match r with
   |none=>R (.ok .next) s1
   |some v=>Ar5 (model C.prog C.w) A (AyF et env v) (λz s₂=>Ar5 (model C.prog C.w) A (execs bx env) (λf s₃=>match f with
      | .next | .cont=>Asu (model C.prog C.w) A (.forLoop et (.ref p.1) bx [] env) R s₃
      | .brk=>R (.ok .next) s₃
      | .ret v=>R (.ok (.ret v)) s₃) (AtK (model C.prog C.w) A env λe s'=>R (.error e) s') s₂) (AtK (model C.prog C.w) A env λe s'=>R (.error e) s') s1):=by
   intro r s1 q;obtain⟨a,σ1,W1,h1,X1,I1,r1⟩:=q
   induction r with
   |none=>
    induction a with
    |some _=>exact r1.elim
    |none=>exact hR _ _ ⟨.next,σ1,W1,h1,X1,I1,.next⟩
   |some cv=>
    induction a with
    |none=>exact r1.elim
    |some v=>
     have e1:=e.up X1.up;have er:∀{σ2:St} {W2:Wd} {s2 s3:ArT} {x:ArR},Ext σ W s σ2 W2 s2->AD C A W2 sc E env->Ac C ke σ2 W2 s2 x s3->AtK (model C.prog C.w) A env (λe s'=>R (.error e) s') x s3:=by intro σ2 W2 s2 s3 x X2 e2 q;exact ArY (DG q e2 (Er:=λe s'=>R (.error e) s')) (λz z q=>hR _ _ (Ba.base X2 q)) λz z q=>q
     refine ArY (ht A σ1 W1 s1 E env v cv f I1 e1 r1 _ ke h1) (λz s2 q=>?_) λz z q=>er X1 e1 q
     obtain⟨_,σ2,W2,h2,X2,I2,_⟩:=q;have e2:=e1.up X2.up;refine ArY (hb A σ2 W2 s2 E env f I2 e2 _ ke h2) (λfl s3 q=>?_) λz z q=>er (X1.trans X2) e2 q
     obtain⟨a,σ3,W3,h3,X3,I3,r3⟩:=q;have EI:=(X1.trans X2).trans X3;have again:BB own (λv σ k ke=>t X E v σ (λz σ=>c X E σ k ke) ke) j m σ3 k ke=true->Asu (model C.prog C.w) A (.forLoop et (.ref p.1) bx [] env) R s3:=λh=>
      Vy ow ht hb f m σ3 W3 s3 R I3 (e2.up X3.up) (Ab EI.τ hj) h λr s' q=>hR r s' (q.base EI)
     induction r3 with
     |next=>exact again h3
     |cont=>exact again h3
     |brk=>exact hR _ _ ⟨.next,σ3,W3,h3,EI,I3,.next⟩
     |ret hv=>exact hR _ _ ⟨.ret _,σ3,W3,h3,EI,I3,.ret hv⟩
  induction r with
  |none=>exact fin none s1 q
  |some v=>exact ArY q (λz s2 q=>fin (some v) s2 q) λz z q=>q
noncomputable def C0:Expr->Bool
 | .Set .. =>false |_=>true
theorem BX(h:C0 e=true)(env:Env)(x:ArR):AyZ e env x=Asl x:=by cases e<;>first |rfl |cases h
theorem SS.Aes{own:Bool}{pos:Pos}(ow:Fq own et)(hs:C0 ei=true)(hi:SE C X n true sc ci ei)(ht:ST C X n true sc t et)(hb:SL C X n true sc c bx):
  SS C X n true sc (uU own t ci c) (.For et ei bx [] pos):=λA σ W s E env f I e k ke h=>by
 refine wpAny_For ?_<|BX hs env;refine ArY (hi A σ W s E env f I e _ ke h) (λx s1 q=>?_) λz z q=>q
 obtain⟨a,σ1,W1,h1,X1,I1,r1⟩:=q;refine ArY (Sp.A4 (A:=A) I1 r1 _ ke h1) (λcv s2 q=>?_) λz z q=>q.base X1
 obtain⟨j,σ2,W2,h2,X2,I2,p,hj,rfl⟩:=q;refine Vy ow ht hb f ON σ2 W2 s2 _ I2 ((e.up X1.up).up X2.up) hj h2 λr s' q=>?_
 have q:=q.base (X1.trans X2)
 induction r with
 |ok f=>exact q
 |error e=>exact Et q
theorem Ma(X:CX)(E:AZ)(tag:Nat)(t:Cb)(body:Cs)(m:Nat)(σ:St)(k:K Fl)(ke:K AV):Dn X E tag t body (m+1) σ k ke =
 OR (ZH X E t body (Dn X E tag t body m) σ k ke) (λr=>r (λz σ=>Dn X E tag t body m σ k ke) ke) (X.T.loop tag E σ):=rfl
def Hook(C:Cx)(X:CX)(n:Nat)(b:Bool)(sc:Asv)(tag:Nat)(et:Expr)(bx:List Auj):Prop:=
 ∀(A:Ar4) (σ:St) (W:Wd) (s:ArT) (E:AZ) (env:Env) (r:M Unit) (k:K Unit) (ke:K AV) (R:Auh->ArT->Prop),BQ n b A->Inv C W σ s->AD C A W sc E env->X.T.loop tag E σ=some r->r k ke=true->
  (∀σ' W' s',k () σ'=true->Ext σ W s σ' W' s'->Inv C W' σ' s'->Asu (model C.prog C.w) A (.whileLoop et bx [] env) R s')->(∀e s',Ba C ke σ W s e s'->R (.error e) s')->
  Asu (model C.prog C.w) A (.whileLoop et bx [] env) R s
theorem Jt{tag:Nat}(hk:Hook C X n b sc tag et bx)(ht:SB C X n b sc t et)(hb:SL C X n b sc c bx)(f:BQ n b A){k:K Fl}:
  ∀(m:Nat) (σ:St) (W:Wd) (s:ArT) (R:Auh->ArT->Prop),Inv C W σ s->AD C A W sc E env->Dn X E tag t c m σ k ke=true->(∀r s',sC C k ke σ W s r s'->R r s')->
   Asu (model C.prog C.w) A (.whileLoop et bx [] env) R s
 |0,σ,W,s,R,I,e,h,hR=>by cases h
 |m+1,σ,W,s,R,I,e,h,hR=>by
  rw[Ma] at h;cases q:X.T.loop tag E σ with
  |some r=>
   rw[q] at h;refine hk A σ W s E env r (λz σ=>Dn X E tag t c m σ k ke) ke R f I e q h (λσ' W' s' h' X' I'=>?_) λe s' q=>hR _ _ q
   exact Jt hk ht hb f m σ' W' s' R I' (e.up X'.up) h' λr s' q=>hR r s' (q.base X')
  |none=>
   rw[q] at h
   replace h:t X E σ (λb σ=>bt b (c X E σ (λf σ=>turned f k (λσ=>Dn X E tag t c m σ k ke) σ) ke) (k .next σ)) ke=true:=h
   have er:∀{σ2:St} {W2:Wd} {s2 s3:ArT} {x:ArR},Ext σ W s σ2 W2 s2->AD C A W2 sc E env->Ac C ke σ2 W2 s2 x s3->AtK (model C.prog C.w) A env (λe s'=>R (.error e) s') x s3:=by intro σ2 W2 s2 s3 x X2 e2 q;exact ArY (DG q e2 (Er:=λe s'=>R (.error e) s')) (λz z q=>hR _ _ (Ba.base X2 q)) λz z q=>q
   refine Ju (ArY (ht A σ W s E env f I e _ ke h) (λbo s1 q=>?_) λz z q=>er (.refl _ _ _) e q);obtain⟨a,σ1,W1,h1,X1,I1,r1⟩:=q;cases(show a=bo from r1)
   induction bo with
   |false=>rw[if_neg (by decide)];exact hR _ _ ⟨.next,σ1,W1,h1,X1,I1,.next⟩
   |true=>
    rw[if_pos rfl];have e1:=e.up X1.up;refine ArY (hb A σ1 W1 s1 E env f I1 e1 _ ke h1) (λfl s3 q=>?_) λz z q=>er X1 e1 q
    obtain⟨a,σ3,W3,h3,X3,I3,r3⟩:=q;have EI:=X1.trans X3;have again:Dn X E tag t c m σ3 k ke=true->Asu (model C.prog C.w) A (.whileLoop et bx [] env) R s3:=λh=>
     Jt hk ht hb f m σ3 W3 s3 R I3 (e1.up X3.up) h λr s' q=>hR r s' (q.base EI)
    induction r3 with
    |next=>exact again h3
    |cont=>exact again h3
    |brk=>exact hR _ _ ⟨.next,σ3,W3,h3,EI,I3,.next⟩
    |ret hv=>exact hR _ _ ⟨.ret _,σ3,W3,h3,EI,I3,.ret hv⟩
theorem SS.whl{tag:Nat}{pos:Pos}(hk:Hook C X n b sc tag et bx)(ht:SB C X n b sc t et)(hb:SL C X n b sc c bx):SS C X n b sc (q6 tag t c) (.While et bx [] pos):=λA σ W s E env f I e k ke h=>by
 refine wpAny_While ?_;refine Jt hk ht hb f ON σ W s _ I e h λr s' q=>?_
 induction r with
 |ok f=>exact q
 |error e=>exact Et q
theorem Hook.none{tag:Nat}(h:∀E σ,X.T.loop tag E σ=none):Hook C X n b sc tag et bx:=λA σ W s E env r k ke R f I e q=>by rw[h] at q;cases q
end
theorem PA.F7(v:Option AO)(l r:PA)(j:Nat):PA.get (.Ai v l r) (j+1)=bt (ArX (AsV j 2) 0) (l.get<|Atm j 2) (r.get<|Atm j 2):=rfl
theorem PA.Zc(v:Option AO)(l r:PA)(x:AO)(i:Nat):PA.set (.Ai v l r) x (i+1)=bt (ArX (AsV i 2) 0) (.Ai v (l.set x<|Atm i 2) r) (.Ai v l<|r.set x<|Atm i 2):=rfl
theorem PA.MQ:∀(t:PA) (x o:AO) (i:Nat),t.get i=some o->(t.set x i).get i=some x:=by
 intro t x
 induction t with
 |nil=>intro o i h;cases h
 |Ai v l r VS cV=>
  intro o i h
  induction i with
  |zero=>rfl
  |succ i=>
   rw[PA.F7] at h;rw[PA.Zc];cases q:ArX (AsV i 2) 0 with
   |true=>rw[q] at h;show PA.get (.Ai v (l.set x (Atm i 2)) r) (i+1)=_;rw[PA.F7,q];exact VS _ _ h
   |false=>rw[q] at h;show PA.get (.Ai v l (r.set x (Atm i 2))) (i+1)=_;rw[PA.F7,q];exact cV _ _ h
theorem PA.OV(t:PA)(x o:AO)(i j:Nat)(n:j≠i)(h:t.get j=some o):(t.set x i).get j=some o:=(PA.Zb n).trans h
theorem PA.Nb:∀(t:PA) (j:Nat) (o:AO),t.get j=some o->t.kill.get j=some (Cn o):=by
 intro t
 induction t with
 |nil=>intro j y h;cases h
 |Ai v l r VS cV=>
  intro j o h
  induction j with
  |zero=>have h:=h;subst h;rfl
  |succ j=>
   rw[PA.F7] at h;show bt (ArX (AsV j 2) 0) (l.kill.get<|Atm j 2) (r.kill.get<|Atm j 2)=_;cases q:ArX (AsV j 2) 0 with
   |true=>rw[q] at h;exact VS _ _ h
   |false=>rw[q] at h;exact cV _ _ h
theorem St.Nx{σ:St}{i:Nat}(h:σ.obj i=some o):(σ.put i x).obj i=some x:=PA.MQ _ _ _ _ h
theorem St.PF{σ:St}{i j:Nat}(n:j≠i)(h:σ.obj j=some o):(σ.put i x).obj j=some o:=PA.OV _ _ _ _ _ n h
theorem St.Ft{σ:St}{j D:Nat}{l:Option Nat}(h:σ.obj j=some o):(σ.after j D l).obj j=some (.old D l):=PA.MQ _ _ _ _ (PA.Nb _ _ _ h)
theorem St.CQ{σ:St}{i j D:Nat}{l:Option Nat}(n:i≠j)(h:σ.obj i=some o):(σ.after j D l).obj i=some (Cn o):=PA.OV _ _ _ _ _ n (PA.Nb _ _ _ h)
section
variable{M:Auw}{A:Ar4}{E:ArR->ArT->Prop}{s:ArT}{env:Env}
structure CO(a:Ar0)(h h':Asb):Prop where
 but:AsD a h h'
 ns:∃m,h'.Ns a m
 fr:∀o,h.get? a=some o->CZ o->∃o',h'.get? a=some o'∧CZ o'
theorem CO.refl{a:Ar0}{h:Asb}{m}(n:h.Ns a m):CO a h h:=⟨.refl ..,⟨m,n⟩,λo e f=>⟨o,e,f⟩⟩
theorem CO.trans(x:CO a h h1)(y:CO a h1 h2):CO a h h2:=⟨x.but.trans y.but,y.ns,λo e f=>let⟨o1,e1,f1⟩:=x.fr o e f;y.fr o1 e1 f1⟩
theorem Nu{a:Ar0}{m}{name:Str}{Q:Bool->ArT->Prop}(hn:s.heap.Ns a m)
  (hQ:∀h',CO a s.heap h'->Q (m name).isSome {s with heap:=h'}):Ar5 M A (nsDel a name) Q E s:=by
 obtain⟨o,es,ep,ho,hd,hk,hm⟩:=id hn;have AeD:es.any (·.refKey)=false:=by rw[Au4];intro e he;obtain⟨n,t,h⟩:=hk e he;simp[Avs,h]
 have vZ:(m name).isSome=es.any (·.key.isStr name):=by
  refine(hm name)▸?_;simp only[Auc,AyY,Option.isSome_map];rw[Ato];simp only[Array.find?_isSome,Array.any_eq_true];constructor
  ·rintro⟨x,hx,hp⟩;obtain⟨i,hi,rfl⟩:=Array.mem_iff_getElem.mp hx;exact⟨i,hi,hp⟩
  ·rintro⟨i,hi,hp⟩;exact⟨_,Array.getElem_mem hi,hp⟩
 have AeO:nsHas name o=pure (es.any (·.key.isStr name)):=by
  refine nsHas_eq.symm▸?_;unfold nsHasByArray;refine hd.symm▸?_;show(if(es.any λx=>x.key.isStr name)=true then _ else _)=_;generalize (es.any λx=>x.key.isStr name)=b
  induction b<;>simp[AeD]
 unfold nsDel;refine ArQ<|AuI ho ?_;refine AeO.symm▸?_;refine AA ?_;refine vZ▸?_;cases hmn:(m name).isSome
 ·have:=hQ s.heap (.refl hn);rw[hmn] at this;exact ArS this
 ·refine ArQ<|Az1 ho<|ArS ?_;have key:∃ZP n',(s.heap.update a<|Obj.dropName name).get? a=some {o with data:=.dict ZP n'}∧StrKeys ZP:=by
   obtain⟨cl,d,dt,sl⟩:=o;subst hd;cases hi:es.findIdx? (·.key.isStr name) with
   |some i=>exact⟨_,ep+1,(Asa _ ho (by simp only[AxP,AxO,hi]<;>rfl)).trans (congrArg some (by simp only[AxP,AxO,hi]<;>rfl)),hk.erase i⟩
   |none=>exact⟨_,ep,(Asa _ ho (by simp only[AxP,AxO,hi]<;>rfl)).trans (congrArg some (by simp only[AxP,AxO,hi]<;>rfl)),hk⟩
  obtain⟨ZP,n',g,VL⟩:=key;have:=hQ _ ⟨AsK ..,⟨Auc ZP,_,ZP,n',g,rfl,VL,λz=>rfl⟩,λo' e f=>⟨_,g,by rw[ho] at e;cases e;exact⟨f.1,_,_,rfl⟩⟩⟩;rw[hmn] at this;exact this
theorem IP{cenv:Env}{cellsOf:List (Str×Atk)->List ArR}(Hn:cenv.scope.kind= .function){Q:Unit->ArT->Prop}:
  ∀(vs:List (Str×Atk)) (s:ArT) (m:Str->Option ArR),(∀x∈vs,x.2= .local->cenv.kindOf x.1=some .local)->s.heap.Ns cenv.locals m->
   (∀h',CO cenv.locals s.heap h'->Q () {s with heap:=h'})->Ar5 M A (AyS cenv cellsOf vs) Q E s:=by
 intro vs
 induction vs with
 |nil=>intro s m _ hn hQ;exact ArS (hQ s.heap (.refl hn))
 |cons x r ih=>
  intro s m hv hn hQ;obtain⟨n,k⟩:=x;rw[AyS];have hr:∀y∈r,y.2= .local->cenv.kindOf y.1=some .local:=λy hy=>hv y (List.mem_cons_of_mem _ hy)
  refine Dz<|ArQ ?_;by_cases hk:k= .local
  ·subst hk;have hkn:=hv (n,.local) List.mem_cons_self rfl;simp only[beq_self_eq_true,if_true];refine ArQ<|wpAny_nsGet hn ?_;cases hmn:(m n).isSome
   ·simp only[AsM,if_false];exact ArS (ih s m hr hn hQ)
   ·simp only[if_true];unfold unbindName deleteName;refine Up<|ArQ ?_;simp only[hkn,Hn];refine ArQ (m:=nsDel cenv.locals n) (Nu hn λh' hb=>?_);refine hmn.symm▸?_;refine ArS<|AzX ?_;obtain⟨m',hn'⟩:=hb.ns;exact ih {s with heap:=h'} m' hr hn' λgX Hm=>hQ gX (hb.trans Hm)
  ·have hb:(k==NameKind.local)=false:=by simpa using hk
   simp only[hb,AsM,if_false];exact AzX (ih s m hr hn hQ)
def DP(M:Auw)(A:Ar4)(E:ArR->ArT->Prop)(use:Option (ArR->Sem Unit))(Q:ArR->ArT->Prop)(acc:ArR)(cenv:Env)(r:Auh)(s':ArT):Prop:=
 match r,use with
 | .ok _,none=>∃m,s'.heap.Ns cenv.locals m∧∀h',CO cenv.locals s'.heap h'->Q acc {s' with heap:=h'} | .ok _,some u=>Ar5 M A (u acc) (λz YY=>∃m,YY.heap.Ns cenv.locals m∧∀h',CO cenv.locals YY.heap h'->Q .none {YY with heap:=h'}) E s' | .error x,_=>∃m,s'.heap.Ns cenv.locals m∧∀h',CO cenv.locals s'.heap h'->Ar5 M A (passOn "comprehension.variables-let-go" x cenv:Sem ArR) (λz z=>False) E {s' with heap:=h'}
theorem GI{e:Expr}{scope:Asv}{pos:Pos}{WO first:Sem ArR}{g:AuW}{gs:List AuW}{cl:List (Str×Ar0)}{use:Option (ArR->Sem Unit)}
  {Q:ArR->ArT->Prop}
  (MU:clausesOf e=g::gs)(hs:∀x,AyZ g.iter env x=pure x)(IB:closureFor scope env=pure cl)
  (Hn:scope.kind= .function)(oA:∀x∈scope.names,x.2= .local->scope.names.lookup x.1=some .local)
  (h:Ar5 M A first (λx s₁=>Ar5 M A (Azk x) (λit s₂=>Ar5 M A WO (λacc s₃=>
   Ar5 M A (Aze scope env.globals cl [] env.qual none .none<|some env) (λcenv s₄=>
    Asu M A (.compStart e 0 it acc {cenv with scope:=Azm scope env}) (DP M A E use Q acc {cenv with scope:=Azm scope env}) s₄) E s₃) E s₂) E s₁) E s):
  Ar5 M A (AyR e scope env pos WO false first use) Q E s:=by
 unfold AyR;refine IB.symm▸?_;refine MU.symm▸?_;refine Az h (λx s₁ h₁=>Bm (bEq (hs x) (Dz (Az h₁ (λit s₂ h₂=>
  wpAny_standIf (Az h₂ (λacc s₃ h₃=>AA (Az h₃ (λcenv s₄ h₄=>?_) λz z h'=>h')) λz z h'=>h'))
   λz z h'=>h')))) λz z h'=>h'
 dsimp only;have hv:∀x∈(scope.names.filter λx=>(x.2== .local||x.2== .cell)&&x.1 != (".0":Str)).reverse,x.2= .local->
   Atx {cenv with scope:=Azm scope env} x.1=some .local:=λx hx hl=>lookup_relabel_local (oA x (AwU.mp<|List.mem_reverse.mp hx).1 hl)
 have Jv:∀x∈(scope.names.filter λx=>(x.2== .local||x.2== .cell)&&x.1 != (".0":Str)).reverse.drop 1++(scope.names.filter λx=>(x.2== .local||x.2== .cell)&&x.1 != (".0":Str)).reverse.take 1,
   x.2= .local->Atx {cenv with scope:=Azm scope env} x.1=some .local:=λx hx hl=>by
  rcases AsA.mp hx with h1 |h1
  ·exact hv x (List.mem_of_mem_drop h1) hl
  ·exact hv x (List.mem_of_mem_take h1) hl
 refine Aso (R2<|Aso<|wpAny_run (Aub h₄ λr s' hr=>?_))
 induction r with
 |ok f=>
  induction use with
  |none=>obtain⟨m,hn,hr⟩:=hr;exact Dz (ArQ (IP (cenv:={cenv with scope:=Azm scope env}) Hn _ s' m hv hn λh' N8=>ArS (hr h' N8)))
  |some u=>refine DA (Dz (Az hr (λz YY TS=>?_) λz z h'=>h'));obtain⟨m,hn,TS⟩:=TS;exact ArQ (IP (cenv:={cenv with scope:=Azm scope env}) Hn _ YY m Jv hn λh' N8=>ArS (TS h' N8))
 |error x=>
  have TS:∃m,s'.heap.Ns cenv.locals m∧∀h',CO cenv.locals s'.heap h'->Ar5 M A (passOn "comprehension.variables-let-go" x {cenv with scope:=Azm scope env}:Sem ArR) (λz z=>False) E {s' with heap:=h'}:=by induction use<;>exact hr
  obtain⟨m,hn,hr⟩:=TS;exact Dz (ArQ (IP (cenv:={cenv with scope:=Azm scope env}) Hn _ s' m hv hn λh' N8=>ArY (hr h' N8) (λz z f=>f.elim) λz z y=>y))
end
noncomputable def JF(env:Env)(ifs:List Expr)(r:Bool):Sem Bool:=forIn ifs r λc r=>if r=true then do let ok ←isTrue c env (eval c env);pure (AsG ok) else pure (AsG r)
noncomputable def Jq(target:Expr)(ifs:List Expr)(p:Pos)(emit:Sem Unit)(ag:Sem Fin)(it:ArR)(env:Env):Sem Fin:=do
 standAt p
 match←Azl it with
 |none=>pure (.done .next)
 |some v=>
  Aux target it v
  AyF target env v
  let mut ok:=true
  for c in ifs do
   if ok then ok ←isTrue c env (eval c env)
  if ok then
   emit
  ag
section
variable{prog:AsR}{w:ArV}{A:Ar4}{E:ArR->ArT->Prop}{s:ArT}
theorem Sm{R:Auh->ArT->Prop}{elt target:Expr}{gens:List AuW}{scope:Asv}{pos p:Pos}{d:Nat}{it acc:ArR}{env:Env}{ifs:List Expr}{emit:Sem Unit}
  (hT:AyQ (.ListComp elt gens scope pos) d it acc env=Jq target ifs p emit (again<|.compLoop (.ListComp elt gens scope pos) d it acc env) it env)
  (turn:H7 (model prog w) A target it (λr s₁=>match r with
   |none=>R (.ok .next) s₁
   |some v=>Ar5 (model prog w) A (AyF target env v) (λz s₂=>Ar5 (model prog w) A (JF env ifs true) (λok s₃=>
      if ok=true then Ar5 (model prog w) A emit (λz s₄=>Asu (model prog w) A (.compLoop (.ListComp elt gens scope pos) d it acc env) R s₄) (AtK (model prog w) A env λe s'=>R (.error e) s') s₃
      else Asu (model prog w) A (.compLoop (.ListComp elt gens scope pos) d it acc env) R s₃) (AtK (model prog w) A env λe s'=>R (.error e) s') s₂) (AtK (model prog w) A env λe s'=>R (.error e) s') s₁) (AtK (model prog w) A env λe s'=>R (.error e) s') s):
  Asu (model prog w) A (.compLoop (.ListComp elt gens scope pos) d it acc env) R s:=by
 refine Auy ?_;show Ar5 _ A ((AyQ (.ListComp elt gens scope pos) d it acc env).onRaise (λx=>do Azg x env;AzA x)) _ _ s;refine AzU ?_;rw[hT];unfold Jq;refine Bm (Az turn (λr s₁ h₁=>?_) λz z h'=>h')
 induction r with
 |none=>exact ArS h₁
 |some v=>
  refine Az h₁ (λz s₁' h₁'=>?_) λz z h'=>h'
  refine Az h₁' (λz s₂ h₂=>Az h₂ (λok s₃ h₃=>?_) λz z h'=>h') λz z h'=>h'
  induction ok with
  |false=>exact ArS ⟨rfl,h₃⟩
  |true=>exact Az h₃ (λz s₄ h₄=>ArS ⟨rfl,h₄⟩) λz z h'=>h'
theorem DR{R:Auh->ArT->Prop}{elt target iter:Expr}{gens:List AuW}{scope:Asv}{pos:Pos}{d:Nat}{ifs:List Expr}{it acc:ArR}{env:Env}
  (hg:gens[d]?=some ⟨target,iter,ifs,0⟩)(h0:Asu (model prog w) A (.compLoop (.ListComp elt gens scope pos) d it acc env) R s)
  (h:Ar5 (model prog w) A (Azk it) (λit' s'=>Asu (model prog w) A (.compLoop (.ListComp elt gens scope pos) d it' acc env) R s')
   (AtK (model prog w) A env λx s'=>R (.error x) s') s):
  Asu (model prog w) A (.compStart (.ListComp elt gens scope pos) d it acc env) R s:=by
 refine Auy ?_;show Ar5 _ _ ((AuY (.ListComp elt gens scope pos) d it acc env).onRaise (λx=>do Azg x env;standAt theWindowsPlace)) _ _ s;refine wpAny_notedAt ?_;unfold AuY;have hc:=hg;refine hc.symm▸?_;show Ar5 _ _ (ask>>=_) _ _ s;refine ArQ<|AzJ<|wpAny_ite ?_;split
 ·first
   |exact AA (ArS (And.intro rfl h0))
   |exact ArS (And.intro rfl h0)
 ·first
   |exact DA (Bm (Az h (λit' s' h'=>ArS (And.intro rfl h')) λz z x=>x))
   |(refine DA ?_;show Ar5 _ _ (standAt iter.pos>>=_) _ _ s;exact Bm (Az h (λit' s' h'=>ArS (And.intro rfl h')) λz z x=>x))
theorem J8{Q:Bool->ArT->Prop}(h:Q false s):∀ifs:List Expr,Ar5 (model prog w) A (JF env ifs false) Q E s
 | []=>by unfold JF;rw[AtN];exact ArS h
 |c::r=>by unfold JF;rw[Atp];simp only[AsM,if_false];exact AA (J8 h r)
end
section
variable{X:CX}{n:Nat}{sc:Asv}
theorem Sp.ifs{l:List Cb}(h:TQ C X n true sc l es)(f:BQ n true A):∀{σ:St} {W:Wd} {s:ArT},Inv C W σ s->AD C A W sc E env->
  Sp C A σ W s (JF env es true) (λk ke=>allB .And l X E σ k ke) RB:=by
 induction h with
 |nil=>intro σ W s I e;unfold JF;rw[AtN];exact .pure I (λz z h=>h) rfl
 | @cons c1 e1 l es h1 hs ih=>
  intro σ W s I e k ke q;unfold JF;rw[Atp];simp only[if_true];refine ArQ (Az (h1 A σ W s E env f I e _ ke q) (λb s1 q=>ArS ?_) λz z q=>q);obtain⟨a,σ1,W1,q1,X1,I1,r1⟩:=q;cases(show a=b from r1)
  induction b with
  |false=>exact J8 (⟨false,σ1,W1,q1,X1,I1,rfl⟩) es
  |true=>exact ArY (ih I1 (e.up X1.up) k ke q1) (λz z q=>q.base X1) λz z q=>q.base X1
def CR(C:Cx)(k:K Fl)(ke:K AV)(σ:St)(W:Wd)(s:ArT):Auh->ArT->Prop:=λr s'=>match r with
 | .ok _=>Ah C k σ W s (λ_ _ (f:Fl) (_:Unit)=>f= .next) () s' | .error e=>Ba C ke σ W s e s'
theorem CR.base{k:K Fl}(x:Ext σ W s σ' W' s')(h:CR C k ke σ' W' s' r s2):CR C k ke σ W s r s2:=by
 induction r with
 |ok f=>exact Ah.base (R:=λ_ _ (f:Fl) (_:Unit)=>f= .next) (b:=()) x h
 |error e=>exact Ba.base x h
theorem Cg{t:Ct}{ifs:List Cb}{own:Bool}{elt target:Expr}{gens:List AuW}{scope:Asv}{pos p0:Pos}{d:Nat}{acc:ArR}{eifs:List Expr}{emit:St->M Unit}{U9:Sem Unit}
  (ow:Fq own target)(ht:ST C X n true sc t target)(hi:TQ C X n true sc ifs eifs){A:Ar4}{E:AZ}{env:Env}(f:BQ n true A){j na:Nat}{p pa:Ar0×Ar0}{k:K Fl}{ke:K AV}
  (em:∀(σ:St) (W:Wd) (s:ArT),Inv C W σ s->AD C A W sc E env->W.τ[na]?=some pa->Sp C A σ W s U9 (λk ke=>emit σ k ke) RU)
  (hT:AyQ (.ListComp elt gens scope pos) d (.ref p.1) acc env=Jq target eifs p0 U9 (again<|.compLoop (.ListComp elt gens scope pos) d (.ref p.1) acc env) (.ref p.1) env):
  ∀(m:Nat) (σ:St) (W:Wd) (s:ArT) (R:Auh->ArT->Prop),Inv C W σ s->AD C A W sc E env->W.τ[j]?=some p->W.τ[na]?=some pa->BB own (Gx X E t ifs emit) j m σ k ke=true->(∀r s',CR C k ke σ W s r s'->R r s')->
   Asu (model C.prog C.w) A (.compLoop (.ListComp elt gens scope pos) d (.ref p.1) acc env) R s
 |0,σ,W,s,R,I,e,hj,n9,h,hR=>by cases h
 |m+1,σ,W,s,R,I,e,hj,n9,h,hR=>by
  rw[Hq] at h;have nx:=Kk (X:=AtK (model C.prog C.w) A env λe s'=>R (.error e) s') ow (f.hand rfl) I hj h;refine Sm hT (ArY nx (λr s1 q=>?_) λz z q=>q);have fin:∀(r:Option ArR) (s1:ArT),Ah C (λr σ=>OR (k .next σ) (λv=>Gx X E t ifs emit v σ (λf σ=>turned f k (λσ=>BB own (Gx X E t ifs emit) j m σ k ke) σ) ke) r) σ W s (RO C) r s1->(match r with
   |none=>R (.ok .next) s1
   |some v=>Ar5 (model C.prog C.w) A (AyF target env v) (λz s₂=>Ar5 (model C.prog C.w) A (JF env eifs true) (λok s₃=>
      if ok=true then Ar5 (model C.prog C.w) A U9 (λz s₄=>Asu (model C.prog C.w) A (.compLoop (.ListComp elt gens scope pos) d (.ref p.1) acc env) R s₄) (AtK (model C.prog C.w) A env λe s'=>R (.error e) s') s₃
      else Asu (model C.prog C.w) A (.compLoop (.ListComp elt gens scope pos) d (.ref p.1) acc env) R s₃) (AtK (model C.prog C.w) A env λe s'=>R (.error e) s') s₂) (AtK (model C.prog C.w) A env λe s'=>R (.error e) s') s1):=by
   intro r s1 q;obtain⟨a,σ1,W1,h1,X1,I1,r1⟩:=q
   induction r with
   |none=>
    induction a with
    |some _=>exact r1.elim
    |none=>exact hR _ _ ⟨.next,σ1,W1,h1,X1,I1,rfl⟩
   |some cv=>
    induction a with
    |none=>exact r1.elim
    |some v=>
     have e1:=e.up X1.up;have er:∀{σ2:St} {W2:Wd} {s2 s3:ArT} {x:ArR},Ext σ W s σ2 W2 s2->AD C A W2 sc E env->Ac C ke σ2 W2 s2 x s3->AtK (model C.prog C.w) A env (λe s'=>R (.error e) s') x s3:=by intro σ2 W2 s2 s3 x X2 e2 q;exact ArY (DG q e2 (Er:=λe s'=>R (.error e) s')) (λz z q=>hR _ _ (Ba.base X2 q)) λz z q=>q
     refine ArY (ht A σ1 W1 s1 E env v cv f I1 e1 r1 _ ke h1) (λz s2 q=>?_) λz z q=>er X1 e1 q
     obtain⟨_,σ2,W2,h2,X2,I2,_⟩:=q;have e2:=e1.up X2.up;have GD:=X1.trans X2;have again:∀{σ3:St} {W3:Wd} {s3:ArT},Ext σ W s σ3 W3 s3->Inv C W3 σ3 s3->BB own (Gx X E t ifs emit) j m σ3 k ke=true->Asu (model C.prog C.w) A (.compLoop (.ListComp elt gens scope pos) d (.ref p.1) acc env) R s3:=λX3 I3 h=>
      Cg ow ht hi f em hT m _ _ _ R I3 (e.up X3.up) (Ab X3.τ hj) (Ab X3.τ n9) h λr s' q=>hR r s' (q.base X3)
     refine ArY (Sp.ifs hi f I2 e2 _ ke h2) (λok s3 q=>?_) λz z q=>er GD e2 q
     obtain⟨a,σ3,W3,h3,X3,I3,r3⟩:=q;cases(show a=ok from r3);have EI:=GD.trans X3
     induction ok with
     |false=>rw[if_neg (by decide)];exact again EI I3 h3
     |true=>
      rw[if_pos rfl];refine ArY (em σ3 W3 s3 I3 (e2.up X3.up) (Ab EI.τ n9) _ ke h3) (λz s4 q=>?_) λz z q=>er EI (e2.up X3.up) q
      obtain⟨_,σ4,W4,h4,X4,I4,_⟩:=q;exact again (EI.trans X4) I4 h4
  induction r with
  |none=>exact fin none s1 q
  |some v=>exact ArY q (λz s2 q=>fin (some v) s2 q) λz z q=>q
end
theorem Inv.congr{σ':St}(I:Inv C W σ s)(hn:σ'.n=σ.n)(hk:σ'.k=σ.k)(hr:σ'.rng=σ.rng)(h1:σ'.neg=σ.neg)(h2:σ'.BM=σ.BM)(ho:∀i y,σ'.obj i=some y->σ.obj i=some y):Inv C W σ' s:=by refine⟨I.nτ.trans hn.symm,I.kρ.trans hk.symm,by refine hr.symm▸?_;refine hk.symm▸?_;exact I.rl,λa x h=>?_,by refine h1.symm▸?_;exact I.neg,by refine h2.symm▸?_;exact I.BM,λi o h=>I.obj i o (ho i o h),I.apart,I.new,I.live,I.HQ,I.base,I.gens,I.os,I.fo⟩;have:=I.rng a x h;unfold St.rg at this ⊢;refine hr.symm▸?_;refine hk.symm▸?_;exact this
section
variable{σ σ2:St}{W W2:Wd}{s s2 s1:ArT}{ke:K AV}{f:Nat}{pf:Ar0×Ar0}{e:ArR}
theorem FV{k:St->Bool}(h:MD f σ k=true):∃m,σ.obj f=some (.frame m)∧k (σ.put f .dead)=true:=by exact FR (P:=λo=>∃m,o=some (.frame m)∧k (σ.put f .dead)=true) h (λm h=>⟨m,rfl,h⟩) ff
theorem Inv.EM(I:Inv C W σ s)(hf:W.τ[f]?=some pf)(h:σ.obj f=some (.frame m)):pf.2=pf.1∧∃mm,s.heap.Ns pf.1 mm:=by
 refine hide λAx Aa=>?_
 obtain⟨p,hp,ep,mm,hn,_⟩:=I.obj _ _ h;refine Aa ?_;rw[hf] at hp;cases hp;exact⟨ep,mm,hn⟩
theorem Inv.BW(I:Inv C W σ s)(hf:W.τ[f]?=some pf)(h:σ.obj f=some (.frame m))(nb:CO pf.1 s.heap h'):Inv C W (σ.put f .dead) {s with heap:=h'}∧Ext σ W s (σ.put f .dead) W {s with heap:=h'}:=by
 refine hide λAx Aa=>?_
 obtain⟨ep,_⟩:=I.EM hf h;obtain⟨mm,o,es,n,ho,_⟩:=nb.ns;refine Aa ?_;refine I.put (o:=.dead) (s':={s with heap:=h'}) hf (λb x n1 z e=>nb.but.extBut b x n1 e) (λz=>trivial) ⟨o,ho,trivial⟩ ⟨o,by rw[ep];exact ho,trivial⟩ (λa ha x hx fr=>?_) rfl rfl;have:a=pf.1:=ha.elim id (λe=>e.trans ep);subst this;exact nb.fr x hx fr
theorem Ba.BW(P:Ba C (λe σ'=>MD f σ' λσ'=>ke e σ') σ2 W2 s2 e s1)(X:Ext σ W s σ2 W2 s2)(hf:W2.τ[f]?=some pf)(AeW:s.heap.get? pf.1=none):
  (∃m,s1.heap.Ns pf.1 m)∧∀h',CO pf.1 s1.heap h'->Ba C ke σ W s e {s1 with heap:=h'}:=by
 refine hide λAx Aa=>?_
 obtain⟨⟨j,D,l,σ',W',p,h1,h0,h2,h3,rfl,h5,h6,h7⟩,y,ey,o,fs,T,oT,ts,mm,he,hd,hfs,hC,cL,hT,QI,hm⟩:=P;refine Aa ?_;have ey:p.1=y:=by simpa using ey
 subst ey;refine hide λAx Aa=>?_
 obtain⟨m,hO,hke⟩:=FV h1;refine Aa ?_;have hf':W'.τ[f]?=some pf:=Ab h6.τ hf;have jf:j≠f:=λe=>by subst e;rw[h2] at hO;cases hO
 have n4:(σ'.after j D l).obj f=some (.frame m):=St.CQ (AuD jf) hO;refine hide λAx Aa=>?_
 obtain⟨ep,HB⟩:=h7.EM hf' n4;refine Aa ?_;refine⟨HB,λh' nb=>?_⟩;have ap:=h7.apart j f p pf h3 hf' jf;have dat:∀{a:Ar0} {o:Obj} {fs:Array ArR},s1.heap.get? a=some o->o.data= .fields fs->a≠pf.1:=by
  rintro a o fs ho hd rfl;refine hide λAx Aa=>?_
  obtain⟨_,o',es,n,Ho,K7,_⟩:=HB;refine Aa ?_;rw[ho] at Ho;cases Ho;rw[hd] at K7;cases K7
 have g1:=nb.but.extBut _ _ ap.1 he;have gT:=nb.but.extBut _ _ (dat hT QI) hT;have tr:Traced C h' p.1:=⟨o,fs,T,oT,ts,mm,g1,hd,hfs,hC,cL,gT,QI,hm⟩;refine hide λAx Aa=>?_
 obtain⟨J,Y⟩:=h7.BW hf' n4 nb;refine Aa ?_;have hv:((σ'.put f .dead).after j D l).A8=(σ'.put f .dead).A8+1:=rfl;have hv2:(σ'.after j D l).A8=σ'.A8+1:=rfl;have pv:σ'.A8≤(σ'.put f .dead).A8:=by
  rw[St.Ly];cases AtP f σ'.low
  ·exact As0 _
  ·exact Axp _
 have XX:=X.trans h6;refine⟨⟨j,D,l,σ'.put f .dead,W',p,hke,AtH (AtH X.A8 h0) pv,St.PF jf h2,h3,rfl,.inr tr,?_,?_⟩,p.1,rfl,tr⟩
 ·have ne:∀{a:Ar0} {o:Obj},s.heap.get? a=some o->a≠pf.1:=λe q=>by rw[q,AeW] at e;cases e
  have same:∀{a:Ar0} {o o':Obj},s.heap.get? a=some o->s1.heap.get? a=some o'->h'.get? a=some o':=λe e'=>nb.but.extBut _ _ (ne e) e'
  refine⟨XX.τ,XX.ρ,XX.q,XX.ls,XX.low,by rw[hv];have:=X.A8;omega,λa o e nf no=>?_,λv=>?_,XX.fresh,λa o e=>?_,λa o e q=>?_,XX.fs,XX.fo⟩
  ·refine hide λAx Aa=>?_
   obtain⟨sl,q1,q2⟩:=XX.keep a o e nf no;refine Aa ?_;exact⟨sl,same e q1,q2⟩
  ·exfalso;have:=X.A8;rw[hv] at v;omega
  ·obtain⟨o',q⟩:=XX.alive a o e;exact⟨o',same e q⟩
  ·obtain⟨o',q,r⟩:=XX.fr a o e q;exact⟨o',same e q,r⟩
 ·refine J.congr rfl rfl rfl rfl rfl λi y hy=>?_
  rcases St.G1 hy with⟨rfl,rfl⟩|⟨n,o,ho,rfl⟩
  ·exact St.PF jf (St.Ft h2)
  ·rcases St.Q9 ho with⟨rfl,rfl⟩|⟨n2,ho⟩
   ·exact St.Nx n4
   ·exact St.PF n2 (St.CQ n ho)
end
noncomputable def LG(sc:Asv)(n:Str)(k:Atk):Atk:=match k,sc.kind,sc.names.lookup n with
 | .free,.function,some .cell=>.cell |k,_,_=>k
def JJ(sc:Asv):List (Str×Atk)->List (Str×Atk)
 | []=>[] |(n,k)::r=>(n,LG sc n k)::JJ sc r
def Bp(scope sc:Asv):Asv:={scope with names:=JJ sc scope.names}
theorem Ro{env:Env}{sc:Asv}(h:env.scope=sc):∀l:List (Str×Atk),(l.map λ(n,k)=>if(k==As8&&env.scope.kind== .function&&env.kindOf n==some .cell) then(n,AuC) else(n,k))=JJ sc l
 | []=>rfl
 |(n,k)::r=>by
  have hd:(if(k==As8&&env.scope.kind== .function&&env.kindOf n==some .cell)=true then(n,AuC) else(n,k))=(n,LG sc n k):=by
   unfold Atx LG;rw[h];generalize sc.names.lookup n=q;generalize sc.kind=sk
   induction k<;>induction sk<;>first |rfl |(rcases q with _ |kk<;>first |rfl |(induction kk<;>rfl))
  show(if(k==As8&&env.scope.kind== .function&&env.kindOf n==some .cell)=true then(n,AuC) else(n,k))::_=(n,LG sc n k)::JJ sc r;rw[hd,Ro h r]
theorem PM{env:Env}{sc:Asv}(h:env.scope=sc)(scope:Asv):Azm scope env=Bp scope sc:=by unfold Azm Bp;rw[Ro h]
theorem Xs{k:Atk}(h:k≠ .free):LG sc n k=k:=by
 induction k with
 |free=>exact absurd rfl h
 |_=>rfl
theorem pX{k:Atk}(h:LG sc n k= .cell):k= .cell∨k= .free:=by
 by_cases q:k= .free
 ·exact .inr q
 ·exact .inl ((Xs q).symm.trans h)
theorem pY{k:Atk}(h:LG sc n k= .free):k= .free:=by
 by_cases q:k= .free
 ·exact q
 ·exact(Xs q).symm.trans h
theorem Kq{nm:Str}:∀{l:List (Str×Atk)},(JJ sc l).lookup nm=some .cell∨(JJ sc l).lookup nm=some .free->∃k,(nm,k)∈l∧(k= .cell∨k= .free)
 | [],h=>by rcases h with h |h<;>cases h
 |(n,k)::r,h=>by
  by_cases e:nm=n
  ·subst e;have l:(JJ sc ((nm,k)::r)).lookup nm=some (LG sc nm k):=List.lookup_cons_self;rw[l] at h;refine⟨k,.head _,h.elim (λe=>pX (Ase e)) λe=>.inr (pY<|Ase e)⟩
  ·have l:(JJ sc ((n,k)::r)).lookup nm=(JJ sc r).lookup nm:=by
    show AtX nm ((n,LG sc n k)::JJ sc r)=_;rw[Asm,beq_eq_false_iff_ne.mpr e]
   rw[l] at h;obtain⟨k',m,q⟩:=Kq h;exact⟨k',.tail _ m,q⟩
noncomputable def CH(scope sc:Asv):Bool:=(scope.kind== .function)&&scope.names.all λx=>(x.2 != .cell)&&(x.2 != .free||(sc.names.lookup x.1==some .cell||sc.names.lookup x.1==some .free))&&(x.2 != .local||scope.names.lookup x.1==some .local)
structure Ky(scope sc:Asv):Prop where
 kind:scope.kind= .function
 cell:∀x∈scope.names,x.2≠ .cell
 free:∀x∈scope.names,x.2= .free->sc.names.lookup x.1=some .cell∨sc.names.lookup x.1=some .free
 l:∀x∈scope.names,x.2= .local->scope.names.lookup x.1=some .local
theorem Uv{α:Type}[BEq α][LawfulBEq α]{a b:α}(h:(a != b)=true):a≠b:=bne_iff_ne.mp h
theorem Uw{α:Type}[BEq α][LawfulBEq α]{a b:α}{c:Bool}(h:(a != b||c)=true)(e:a=b):c=true:=(Avb.mp h).elim (λq=>absurd e (Uv q)) id
theorem DQ(h:CH scope sc=true):Ky scope sc:=
 have h1:=Asw.mp h;have h2:=List.all_eq_true.mp h1.2
 ⟨AyV h1.1,λx hx=>Uv (Asw.mp (Asw.mp<|h2 x hx).1).1,
  λx hx e=>(Avb.mp<|Uw (Asw.mp (Asw.mp<|h2 x hx).1).2 e).imp AyV AyV,
  λx hx e=>AyV (Uw (Asw.mp<|h2 x hx).2 e)⟩
theorem Fw{env:Env}:∀{l:List (Str×Atk)} (cs:List (Str×Ar0)),(∀x∈l,x.2= .free->∃a,env.cells.lookup x.1=some a)->
  ∃cl,(forIn l cs λ(x:Str×Atk) r=>match x with |(name,kind)=>if(kind==As8)=true then do let a ←cellOf env name;Asl (AsG ((name,a)::r)) else Asl (AsG r):Sem (List<|Str×Ar0))=Asl cl∧
   (∀nm,(nm,As8)∈l->cl.lookup nm=env.cells.lookup nm)∧∀nm,(nm,As8)∉l->cl.lookup nm=cs.lookup nm
 | [],cs,h=>⟨cs,rfl,λz q=>(nomatch q),λz z=>rfl⟩
 |(n,k)::r,cs,h=>by
  rw[Atp];by_cases hk:k= .free
  ·subst hk;obtain⟨a,ha⟩:=h (n,.free) (.head _) rfl;obtain⟨cl,e1,e2,e3⟩:=Fw (l:=r) ((n,a)::cs) λx hx=>h x (.tail _ hx)
   refine⟨cl,?_,λnm q=>?_,λnm q=>?_⟩
   ·rw[←e1];simp only[beq_self_eq_true,if_true];unfold cellOf;rw[ha];rfl
   ·by_cases m:(nm,As8)∈r
    ·exact e2 nm m
    ·rcases Ar3.mp q with q |q
     ·cases q;rw[e3 _ m];simp[Asm,ha]
     ·exact absurd q m
   ·have q1:nm≠n:=λe=>q (by rw[e];exact .head _)
    rw[e3 nm λm=>q (.tail _ m)];have:(nm==n)=false:=by simpa using q1
    simp[Asm,this]
  ·obtain⟨cl,e1,e2,e3⟩:=Fw (l:=r) cs λx hx=>h x (.tail _ hx)
   refine⟨cl,?_,λnm q=>?_,λnm q=>?_⟩
   ·rw[←e1];have:(k==As8)=false:=by simpa using hk
    simp only[this,AsM,if_false];rfl
   ·rcases Ar3.mp q with q |q
    ·cases q;exact absurd rfl hk
    ·exact e2 nm q
   ·exact e3 nm λm=>q (.tail _ m)
theorem Dr(e:AD C A W sc E env)(cs:Ky scope sc):∃cl,closureFor scope env=Asl cl∧∀nm,(nm,As8)∈scope.names->cl.lookup nm=env.cells.lookup nm:=by
 obtain⟨cl,e1,e2,_⟩:=Fw (env:=env) (l:=scope.names) [] λx hx q=>e.full _ (cs.free x hx q)
 refine⟨cl,?_,e2⟩;unfold closureFor;exact(congrArg (λm=>m>>=λcs=>Asl cs) e1).trans rfl
theorem Fx(e:AD C A W sc E env)(cs:Ky scope sc){cl:List (Str×Ar0)}(MU:∀nm,(nm,As8)∈scope.names->cl.lookup nm=env.cells.lookup nm){L:Ar0}{f:Nat}(hf:W.τ[f]?=some (L,L)):
  AD C A W (Bp scope sc) ⟨f,E.cells⟩ (AyP scope cl L env):=by
 have fr:∀nm,((Bp scope sc).names.lookup nm=some .cell∨(Bp scope sc).names.lookup nm=some .free)->(nm,As8)∈scope.names:=by
  intro nm h;obtain⟨k,m,q⟩:=Kq h;rcases q with rfl |rfl
  ·exact absurd rfl (cs.cell _ m)
  ·exact m
 refine⟨PM e.scope scope,cs.kind,e.glob,e.bi,⟨_,hf,rfl⟩,λx j nm hx hn hk=>?_,λnm hk=>?_,e.around⟩
 ·have m:=fr nm hk;obtain⟨p,hp,hl⟩:=e.cells x j nm hx hn (cs.free _ m rfl);exact⟨p,hp,(MU nm m).trans hl⟩
 ·have m:=fr nm hk;obtain⟨a,ha⟩:=e.full nm (cs.free _ m rfl);exact⟨a,(MU nm m).trans ha⟩
theorem G4{M:Auw}{A:Ar4}{Af3:String}{env:Env}{Q:ArR->ArT->Prop}(P:Ba C ke σ W s e s'):Ar5 M A (PySem.passOn Af3 e env:Sem ArR) Q (Ac C ke σ W s) s':=by
 refine hide λAx Aa=>?_
 obtain⟨y,rfl,o,fs,T,oT,ts,m,he,hd,h1,r⟩:=id P.2;refine Aa ?_;unfold PySem.passOn;refine AB he hd h1 ?_;refine GQ (by simp) ?_;exact Az (EL P) (λz z q=>AzZ q.1) λz z q=>q
theorem Il{A:Ar4}{W:Wd}{σ:St}{s:ArT}{sc scope:Asv}{E:AZ}{env:Env}(I:Inv C W σ s)(e:AD C A W sc E env)(cs:Ky scope sc){cl:List (Str×Ar0)}(MU:∀nm,(nm,As8)∈scope.names->cl.lookup nm=env.cells.lookup nm)
  {Q:ArR->Env->ArT->Prop}{Er:ArR->ArT->Prop}
  (h:∀(W':Wd) (s':ArT) (D L:Ar0),Ext σ W s ((σ.new<|.list none [] none).new<|.frame []) W' s'->Inv C W' ((σ.new<|.list none [] none).new<|.frame []) s'->W'.τ[σ.n]?=some (D,D)->W'.τ[σ.n+1]?=some (L,L)->s.heap.get? L=none->
   Q (.ref D) (AyP scope cl L env) s'):
  Ar5 (model C.prog C.w) A (Ayj []) (λacc s1=>Ar5 (model C.prog C.w) A (Aze scope env.globals cl [] env.qual none .none<|some env) (λcenv s2=>Q acc {cenv with scope:=Azm scope env} s2) Er s1) Er s:=by
 refine hide λAx Aa=>?_
 obtain⟨I1,X1⟩:=I.list (l:=[]) .nil s.toks;refine Aa ?_;refine AzS ?_ (by simp);refine wpAny_newFunctionEnv cs.cell (λx hx=>nomatch hx) (λh' HB hsb=>?_) cs.kind;dsimp only at HB hsb ⊢;generalize hH:s.heap.push {cls:=.type "list",data:=.seq ([]:List ArR).toArray}=H at HB hsb I1 X1 ⊢;refine hide λAx Aa=>?_
 obtain⟨o,es,nn,ho,r⟩:=id HB;refine Aa ?_;obtain⟨I2,X2⟩:=I1.make (o:=.frame []) (s':={s with heap:=h',toks:=s.toks+0}) (p:=(H.objs.size,H.objs.size)) (λb x q=>(hsb.2 b<|AtI<|As2 q).trans (ArW _ q)) (Ag _) (Ag _)
  (λS=>⟨rfl,_,HB,λx v q=>(by cases q),λnm cv q=>(by cases q)⟩) ⟨o,ho,trivial⟩ ⟨o,ho,trivial⟩ rfl rfl
 refine h _ {s with heap:=h',toks:=s.toks+0} s.heap.objs.size H.objs.size (X1.trans X2) I2 (Ab X2.τ<|St.A5 I _) (St.A5 I1 _) ?_;cases q:s.heap.get? H.objs.size with
 |none=>rfl
 |some o=>
  refine hide λAx Aa=>?_
  obtain⟨o',q'⟩:=X1.alive _ _ q;refine Aa ?_;rw[Ag] at q';cases q'
section
variable{X:CX}{n:Nat}
theorem KX(he:SE C X n true sc elt Ds)(f:BQ n true A){na:Nat}:
  ∀(σ:St) (W:Wd) (s:ArT),Inv C W σ s->AD C A W sc E env->W.τ[na]?=some pa->
   Sp C A σ W s (do let _ ←call (.builtin "list.append") [.ref pa.1,←eval Ds env]) (λk ke=>elt X E σ (λv σ=>BJ na v σ k) ke) RU:=λσ W s I e n9 k ke h=>by
 refine Az (he A σ W s E env f I e _ ke h) (λx s1 q=>?_) λz z q=>q
 obtain⟨v,σ1,W1,h1,X1,I1,r1⟩:=q;refine Az (Sp.BJ (A:=A) I1 (Ab X1.τ n9) r1 _ ke h1) (λx s2 q=>?_) λz z q=>q.base X1
 obtain⟨_,σ2,W2,h2,X2,I2,_⟩:=q;exact ArS ⟨(),σ2,W2,h2,X1.trans X2,I2,trivial⟩
theorem Dg{own:Bool}{j m:Nat}{k:K Fl}(h:BB own turn j (m+1) σ k ke=true):∃it,σ.obj j=some (.iter it):=Nq (k:=λr σ=>OR (k .next σ) (λv=>turn v σ (λf σ=>turned f k (λσ=>BB own turn j m σ k ke) σ) ke) r) h
theorem FU(elt target iter:Expr)(ifs:List Expr)(scope:Asv)(pos:Pos)(it acc:ArR)(env:Env):
  AyQ (.ListComp elt [⟨target,iter,ifs,0⟩] scope pos) 0 it acc env=Jq target ifs iter.pos (do let _ ←call (.builtin "list.append") [acc,←eval elt env]) (again (.compLoop (.ListComp elt [⟨target,iter,ifs,0⟩] scope pos) 0 it acc env)) it env:=rfl
theorem SE.comp{sc scope:Asv}{own:Bool}{elt ci:Cd}{t:Ct}{ifs:List Cb}{Ds target iter:Expr}{eifs:List Expr}{pos:Pos}(hc:CH scope sc=true)(ow:Fq own target)(hs:C0 iter=true)(hi:SE C X n true sc ci iter)
  (ht:ST C X n true (Bp scope sc) t target)(n5:TQ C X n true (Bp scope sc) ifs eifs)(he:SE C X n true (Bp scope sc) elt Ds):SE C X n true sc (gF own elt t ci ifs) (.ListComp Ds [⟨target,iter,eifs,0⟩] scope pos):=λA σ W s0 E env f I e k ke h=>by
 have cs:=DQ hc;obtain⟨cl,IB,MU⟩:=Dr e cs;rw[eval_ListComp];refine GI (gs:=[]) rfl (BX hs env) IB cs.kind cs.l ?_;refine ArY (hi A σ W s0 E env f I e _ ke h) (λx s1 q=>?_) λz z q=>q
 obtain⟨v,σ1,W1,h1,X1,I1,r1⟩:=q;refine ArY (Sp.A4 (A:=A) I1 r1 _ ke h1) (λcv s2 q=>?_) λz z q=>q.base X1
 obtain⟨j,σ2,W2,h2,X2,I2,p,hj,rfl⟩:=q;have GD:=X1.trans X2;refine Il I2 (e.up GD.up) cs MU (Q:=λacc cenv s=>Asu (model C.prog C.w) A (.compStart (.ListComp Ds [⟨target,iter,eifs,0⟩] scope pos) 0 (.ref p.1) acc cenv) (DP (model C.prog C.w) A (Ac C ke σ W s0) none (Ah C k σ W s0<|RV C) acc cenv) s) λW3 s3 D L X3 I3 hD hL hn=>?_
 have EI:=GD.trans X3;have e3:=Fx (e.up EI.up) cs MU hL;have hU:=Ab X3.τ hj;have rM:s0.heap.get? L=none:=by
  cases q:s0.heap.get? L with
  |none=>rfl |some o=>obtain⟨o',q'⟩:=GD.alive _ _ q;rw[hn] at q';cases q'
 have loop:=Cg ow ht n5 f (j:=j) (na:=σ2.n) (pa:=(D,D)) (E:=⟨σ2.n+1,E.cells⟩) (KX he f) (FU Ds target iter eifs scope pos (.ref p.1) (.ref D)<|AyP scope cl L env) ON _ W3 s3
  (DP (model C.prog C.w) A (Ac C ke σ W s0) none (Ah C k σ W s0<|RV C) (.ref D)<|AyP scope cl L env) I3 e3 hU hD h2 (λr s' q=>by
   induction r with
   |ok fl=>obtain⟨a,σ4,W4,h4,X4,I4,_⟩:=q;obtain⟨m,ZT,hk⟩:=FV h4;have vL:=Ab X4.τ hL;obtain⟨_,mm,HB⟩:=I4.EM vL ZT;refine⟨mm,HB,λh' nb=>?_⟩;obtain⟨J,Y⟩:=I4.BW vL ZT nb;exact⟨_,_,W4,hk,(EI.trans X4).trans Y,J,.obj (Ab X4.τ hD)⟩
   |error x=>
    obtain⟨⟨mm,HB⟩,g⟩:=Ba.BW q EI hL rM;exact⟨mm,HB,λh' nb=>G4 (g h' nb)⟩)
 refine DR (iter:=iter) (ifs:=eifs) (target:=target) rfl loop ?_;obtain⟨it0,oj⟩:=Dg (m:=63) h2;exact pyIter_self I3 hU oj loop
end
section
variable{X:CX}{n:Nat}
noncomputable def Le(e:Expr)(i2:Expr)(acc:ArR)(env:Env):Sem Unit:=do
 let x ←eval i2 env
 standAt i2.pos
 let x ←AyZ i2 env x
 let _ ←runOwn (.compStart e 1 (←holding [x] (Azk x)) acc env) env
theorem Im(elt t1 i1 t2 i2:Expr)(scope:Asv)(pos:Pos)(it acc:ArR)(env:Env):
  AyQ (.ListComp elt [⟨t1,i1,[],0⟩,⟨t2,i2,[],0⟩] scope pos) 0 it acc env=(do
   standAt i1.pos
   match←Azl it with
   |none=>pure (.done .next)
   |some v=>
    Aux t1 it v
    AyF t1 env v
    let ok ←JF env [] true
    if ok then do
     let x ←eval i2 env
     standAt i2.pos
     let x ←AyZ i2 env x
     let y ←holding [x] (Azk x)
     let _ ←runOwn (.compStart (.ListComp elt [⟨t1,i1,[],0⟩,⟨t2,i2,[],0⟩] scope pos) 1 y acc env) env
     again (.compLoop (.ListComp elt [⟨t1,i1,[],0⟩,⟨t2,i2,[],0⟩] scope pos) 0 it acc env)
    else again (.compLoop (.ListComp elt [⟨t1,i1,[],0⟩,⟨t2,i2,[],0⟩] scope pos) 0 it acc env)):=rfl
theorem JA(elt t1 i1 t2 i2:Expr)(scope:Asv)(pos:Pos)(it acc:ArR)(env:Env):
  AyQ (.ListComp elt [⟨t1,i1,[],0⟩,⟨t2,i2,[],0⟩] scope pos) 0 it acc env=Jq t1 [] i1.pos (Le (.ListComp elt [⟨t1,i1,[],0⟩,⟨t2,i2,[],0⟩] scope pos) i2 acc env) (again<|.compLoop (.ListComp elt [⟨t1,i1,[],0⟩,⟨t2,i2,[],0⟩] scope pos) 0 it acc env) it env:=by
 rw[Im];unfold Jq Le JF;refine bind_congr λz=>bind_congr λr=>?_
 induction r with
 |none=>rfl
 |some v=>
  refine bind_congr λz=>bind_congr λz=>bind_congr λok=>?_
  induction ok with
  |false=>rfl |true=>simp only[if_true,bind_assoc,pure_bind]
theorem JB(elt t1 i1 t2 i2:Expr)(scope:Asv)(pos:Pos)(it acc:ArR)(env:Env):
  AyQ (.ListComp elt [⟨t1,i1,[],0⟩,⟨t2,i2,[],0⟩] scope pos) 1 it acc env=Jq t2 [] i2.pos (do let _ ←call (.builtin "list.append") [acc,←eval elt env]) (again (.compLoop (.ListComp elt [⟨t1,i1,[],0⟩,⟨t2,i2,[],0⟩] scope pos) 1 it acc env)) it env:=rfl
theorem VV{sc scope:Asv}{Pz:Bool}{elt c2:Cd}{t2:Ct}{Ds Z0 i1 TV i2:Expr}{pos:Pos}(ow:Fq Pz TV)(hs:C0 i2=true)(hi:SE C X n true sc c2 i2)(ht:ST C X n true sc t2 TV)(he:SE C X n true sc elt Ds)
  {A:Ar4}{E:AZ}{env:Env}(f:BQ n true A){na:Nat}{pa:Ar0×Ar0}:∀(σ:St) (W:Wd) (s:ArT),Inv C W σ s->AD C A W sc E env->W.τ[na]?=some pa->
   Sp C A σ W s (Le (.ListComp Ds [⟨Z0,i1,[],0⟩,⟨TV,i2,[],0⟩] scope pos) i2 (.ref pa.1) env) (λk ke=>c2 X E σ (λx σ'=>A4 x σ' λi σ'=>
    BB Pz (Gx X E t2 [] (λσ' k' ZW=>elt X E σ' (λv σ'=>BJ na v σ' k') ZW)) i ON σ' (λz σ'=>k () σ') ke) ke) RU:=λσ W s I e n9 k ke h=>by
 unfold Le;refine Az (hi A σ W s E env f I e _ ke h) (λx s1 q=>?_) λz z q=>q
 obtain⟨v,σ1,W1,h1,X1,I1,r1⟩:=q;refine Bm ?_;rw[BX hs];refine AA<|Dz (Az (Sp.A4 (A:=A) I1 r1 _ ke h1) (λcv s2 q=>?_) λz z q=>q.base X1);obtain⟨j,σ2,W2,h2,X2,I2,p,hj,rfl⟩:=q;have GD:=X1.trans X2;have e2:=e.up GD.up;have loop:=Cg ow ht (ifs:=[]) (eifs:=[]) .nil f (j:=j) (na:=na) (pa:=pa) (KX he f) (JB Ds Z0 i1 TV i2 scope pos (.ref p.1) (.ref pa.1) env) ON σ2 W2 s2
  (λr s'=>match r with | .ok _=>Ah C k σ W s RU () s' | .error x=>AyL (model C.prog C.w) A env (Ac C ke σ W s) x s') I2 e2 hj (Ab GD.τ n9) h2 (λr s' q=>by
   induction r with
   |ok fl=>obtain⟨a,σ4,W4,h4,X4,I4,_⟩:=q;exact⟨(),σ4,W4,h4,GD.trans X4,I4,trivial⟩
   |error x=>exact Et (Ba.base GD q))
 obtain⟨it0,oj⟩:=Dg (m:=63) h2;refine ArQ<|wpAny_runOwn (Q:=λz s'=>Ar5 (model C.prog C.w) A (Asl ()) (Ah C k σ W s RU) (Ac C ke σ W s) s') ?_;refine Aub (R:=λr s'=>match r with | .ok _=>Ah C k σ W s RU () s' | .error x=>AyL (model C.prog C.w) A env (Ac C ke σ W s) x s') ?_ (λr s' q=>?_)
 ·exact DR (target:=TV) (iter:=i2) (ifs:=[]) rfl loop (pyIter_self I2 hj oj loop)
 ·induction r with
  |ok fl=>exact ArS q
  |error x=>exact q
theorem SE.Qu{sc scope:Asv}{own Pz:Bool}{elt ci c2:Cd}{t t2:Ct}{Ds Z0 i1 TV i2:Expr}{pos:Pos}(hc:CH scope sc=true)(ow:Fq own Z0)(hs:C0 i1=true)(hi:SE C X n true sc ci i1)(ht:ST C X n true (Bp scope sc) t Z0)
  (ow2:Fq Pz TV)(hs2:C0 i2=true)(OX:SE C X n true (Bp scope sc) c2 i2)(ht2:ST C X n true (Bp scope sc) t2 TV)(he:SE C X n true (Bp scope sc) elt Ds):
  SE C X n true sc (UP own Pz elt t ci t2 c2) (.ListComp Ds [⟨Z0,i1,[],0⟩,⟨TV,i2,[],0⟩] scope pos):=λA σ W s0 E env f I e k ke h=>by
 have cs:=DQ hc;obtain⟨cl,IB,MU⟩:=Dr e cs;rw[eval_ListComp];refine GI (g:=⟨Z0,i1,[],0⟩) (gs:=[⟨TV,i2,[],0⟩]) rfl (BX hs env) IB cs.kind cs.l ?_;refine ArY (hi A σ W s0 E env f I e _ ke h) (λx s1 q=>?_) λz z q=>q
 obtain⟨v,σ1,W1,h1,X1,I1,r1⟩:=q;refine ArY (Sp.A4 (A:=A) I1 r1 _ ke h1) (λcv s2 q=>?_) λz z q=>q.base X1
 obtain⟨j,σ2,W2,h2,X2,I2,p,hj,rfl⟩:=q;have GD:=X1.trans X2;refine Il I2 (e.up GD.up) cs MU (Q:=λacc cenv s=>Asu (model C.prog C.w) A (.compStart (.ListComp Ds [⟨Z0,i1,[],0⟩,⟨TV,i2,[],0⟩] scope pos) 0 (.ref p.1) acc cenv) (DP (model C.prog C.w) A (Ac C ke σ W s0) none (Ah C k σ W s0<|RV C) acc cenv) s) λW3 s3 D L X3 I3 hD hL hn=>?_
 have EI:=GD.trans X3;have e3:=Fx (e.up EI.up) cs MU hL;have hU:=Ab X3.τ hj;have rM:s0.heap.get? L=none:=by
  cases q:s0.heap.get? L with
  |none=>rfl |some o=>obtain⟨o',q'⟩:=GD.alive _ _ q;rw[hn] at q';cases q'
 have loop:=Cg ow ht (ifs:=[]) (eifs:=[]) .nil f (j:=j) (na:=σ2.n) (pa:=(D,D)) (E:=⟨σ2.n+1,E.cells⟩) (VV ow2 hs2 OX ht2 he f) (JA Ds Z0 i1 TV i2 scope pos (.ref p.1) (.ref D)<|AyP scope cl L env) ON _ W3 s3
  (DP (model C.prog C.w) A (Ac C ke σ W s0) none (Ah C k σ W s0<|RV C) (.ref D)<|AyP scope cl L env) I3 e3 hU hD h2 (λr s' q=>by
   induction r with
   |ok fl=>obtain⟨a,σ4,W4,h4,X4,I4,_⟩:=q;obtain⟨m,ZT,hk⟩:=FV h4;have vL:=Ab X4.τ hL;obtain⟨_,mm,HB⟩:=I4.EM vL ZT;refine⟨mm,HB,λh' nb=>?_⟩;obtain⟨J,Y⟩:=I4.BW vL ZT nb;exact⟨_,_,W4,hk,(EI.trans X4).trans Y,J,.obj (Ab X4.τ hD)⟩
   |error x=>
    obtain⟨⟨mm,HB⟩,g⟩:=Ba.BW q EI hL rM;exact⟨mm,HB,λh' nb=>G4 (g h' nb)⟩)
 refine DR (iter:=i1) (ifs:=[]) (target:=Z0) rfl loop ?_;obtain⟨it0,oj⟩:=Dg (m:=63) h2;exact pyIter_self I3 hU oj loop
noncomputable def Um(scope sc:Asv)(nm:Str)(tp vp sp:Pos):Bool:=
 (match sc.names.lookup nm with |some .local=>true |_=>false)&&(tp.line==vp.line&& !(scope.names.any λ(n,k)=>n==nm&&(k== .local||k== .cell)))
theorem GK{env:Env}{elt:Expr}{gens:List AuW}{scope:Asv}{pos:Pos}{u:ArR->Sem Unit}:evalThenUse (.ListComp elt gens scope pos) env u=(do
  let _ ←AyR (.ListComp elt gens scope pos) scope env (firstIterPos gens pos) (Ayj []) (firstAsync gens) (firstIter gens env) (some u)):=rfl
theorem SS.asc{sc scope:Asv}{own:Bool}{elt ci:Cd}{t:Ct}{ifs:List Cb}{nm:Str}{tg:Ct}{Ds target iter:Expr}{eifs:List Expr}{pos tp sp:Pos}(hw:Um scope sc nm tp pos sp=true)(htg:ST C X n true sc tg (.Name nm tp))(hc:CH scope sc=true)(ow:Fq own target)(hs:C0 iter=true)(hi:SE C X n true sc ci iter)
  (ht:ST C X n true (Bp scope sc) t target)(n5:TQ C X n true (Bp scope sc) ifs eifs)(he:SE C X n true (Bp scope sc) elt Ds):SS C X n true sc (sV own tg elt t ci ifs) (.Assign [.Name nm tp] (.ListComp Ds [⟨target,iter,eifs,0⟩] scope pos) sp):=λA σ W s0 E env f I e k ke h=>by
 have cs:=DQ hc;obtain⟨cl,IB,MU⟩:=Dr e cs;unfold Um at hw;simp only[AsW] at hw;obtain⟨w1,w2,w3⟩:=hw;rw[AyD];have hb:env.blockKind= .function:=by unfold Env.blockKind;rw[e.scope,e.kind];rfl
 have hk:env.kindOf nm=some .local:=by
  unfold Atx;refine e.scope.symm▸?_;split at w1
  ·assumption
  ·cases w1
 have sw:Azz [.Name nm tp] (.ListComp Ds [⟨target,iter,eifs,0⟩] scope pos) sp.line env=Asl true:=by show(Asl (env.blockKind== .function&&env.kindOf nm==some .local&&tp.line==pos.line&& !(scope.names.any λ(n,k)=>n==nm&&(k== .local||k== .cell))):Sem Bool)=_;refine hb.symm▸?_;refine hk.symm▸?_;refine w2.symm▸?_;refine w3.symm▸?_;rfl
 refine sw.symm▸?_;refine Bm<|AA ?_;refine(if_pos rfl).symm▸?_;refine GK.symm▸?_;refine ArQ<|ArQ ?_;refine GI (gs:=[]) rfl (BX hs env) IB cs.kind cs.l ?_;refine ArY (hi A σ W s0 E env f I e _ ke h) (λx s1 q=>?_) λz z q=>q
 obtain⟨v,σ1,W1,h1,X1,I1,r1⟩:=q;refine ArY (Sp.A4 (A:=A) I1 r1 _ ke h1) (λcv s2 q=>?_) λz z q=>q.base X1
 obtain⟨j,σ2,W2,h2,X2,I2,p,hj,rfl⟩:=q;have GD:=X1.trans X2;refine Il I2 (e.up GD.up) cs MU (Q:=λacc cenv s=>Asu (model C.prog C.w) A (.compStart (.ListComp Ds [⟨target,iter,eifs,0⟩] scope pos) 0 (.ref p.1) acc cenv) (DP (model C.prog C.w) A (Ac C ke σ W s0)
  (some λv=>assignAll v ((AuM [.Name nm tp] env).map (·.2))) (λz s=>Ar5 (model C.prog C.w) A (Asl ():Sem Unit) (λz s=>Ar5 (model C.prog C.w) A (Asl AvI) (Ah C k σ W s0<|RF C) (Ac C ke σ W s0) s) (Ac C ke σ W s0) s) acc cenv) s) λW3 s3 D L X3 I3 hD hL hn=>?_
 have EI:=GD.trans X3;have e3:=Fx (e.up EI.up) cs MU hL;have hU:=Ab X3.τ hj;have rM:s0.heap.get? L=none:=by
  cases q:s0.heap.get? L with
  |none=>rfl |some o=>obtain⟨o',q'⟩:=GD.alive _ _ q;rw[hn] at q';cases q'
 have loop:=Cg ow ht n5 f (j:=j) (na:=σ2.n) (pa:=(D,D)) (E:=⟨σ2.n+1,E.cells⟩) (KX he f) (FU Ds target iter eifs scope pos (.ref p.1) (.ref D)<|AyP scope cl L env) ON _ W3 s3
  (DP (model C.prog C.w) A (Ac C ke σ W s0) (some λv=>assignAll v ((AuM [.Name nm tp] env).map (·.2)))
   (λz s=>Ar5 (model C.prog C.w) A (Asl ():Sem Unit) (λz s=>Ar5 (model C.prog C.w) A (Asl AvI) (Ah C k σ W s0<|RF C) (Ac C ke σ W s0) s) (Ac C ke σ W s0) s) (.ref D) (AyP scope cl L env)) I3 e3 hU hD h2 (λr s' q=>by
   induction r with
   |ok fl=>
    obtain⟨a,σ4,W4,h4,X4,I4,_⟩:=q;have rE:=EI.trans X4;show Ar5 _ _ (AyF (.Name nm tp) env<|.ref D) _ _ s';refine ArY (htg A σ4 W4 s' E env _ _ f I4 (e.up rE.up) (.obj<|Ab X4.τ hD) _ ke h4) (λz s5 q=>?_) λz z q=>q.base rE
    obtain⟨_,σ5,W5,h5,X5,I5,_⟩:=q;obtain⟨m,ZT,hk⟩:=FV h5;have hf5:=Ab X5.τ (Ab X4.τ hL);obtain⟨_,mm,HB⟩:=I5.EM hf5 ZT;refine⟨mm,HB,λh' nb=>?_⟩;obtain⟨J,Y⟩:=I5.BW hf5 ZT nb;exact ArS (ArS ⟨.next,_,W5,hk,(rE.trans X5).trans Y,J,.next⟩)
   |error x=>
    obtain⟨⟨mm,HB⟩,g⟩:=Ba.BW q EI hL rM;exact⟨mm,HB,λh' nb=>G4 (g h' nb)⟩)
 refine DR (iter:=iter) (ifs:=eifs) (target:=target) rfl loop ?_;obtain⟨it0,oj⟩:=Dg (m:=63) h2;exact pyIter_self I3 hU oj loop
end
inductive Uc(C:Cx)(W:Wd)(h:Asb):List (AV×AV)->List (ArR×ArR)->Prop
 |nil:Uc C W h [] []
 |cons {a b l ca cb cl}:VR C W h a ca->VR C W h b cb->Uc C W h l cl->Uc C W h ((a,b)::l) ((ca,cb)::cl)
section
variable{W:Wd}{σ:St}{s:ArT}{A:Ar4}
theorem Uc.up(I:Inv C W σ s)(x:Ext σ W s σ' W' s'){l cl}(h:Uc C W s.heap l cl):Uc C W' s'.heap l cl:=
 Uc.rec (motive:=λl cl z=>Uc C W' s'.heap l cl) .nil (λa b z r=>.cons (I.vr x a) (I.vr x b) r) h
theorem Sp.dictPut(I:Inv C W σ s){j:Nat}(hj:W.τ[j]?=some p)(hi:VR C W s.heap i ci)(hv:VR C W s.heap v cv):
  Sp C A σ W s (dictSet p.1 ci cv) (λk z=>putD j i v σ k) RU:=λk ke h=>by
 cases Aw I hi h with
 |mk i' σ1 n1 cH _ h=>
  refine n1.1.DC hj h (λl Bk h z ep hd hl=>?_) ff;refine hide λAx Aa=>?_
  obtain⟨K0,hk,hc⟩:=ES cH (bl<|bl h);refine Aa ?_;have hz:=ble_iff.mp (br<|bl h);have vV:=hd.elim λo q=>q.elim λes q=>q.elim λen q=>q.2.2.2.2.2
  cases Qy hk hv (d:=[]) n1.1 .nil hl (λp hp=>absurd hp AwY) vV (br h) with
  |mk l' σ3 n3 n7 h=>
   refine hide λAx Aa=>?_
   obtain⟨o',ZP,n',h1,hx,_⟩:=id hd;refine Aa ?_;refine wpAny_dictSet_pairs (knd:=AF C.prog C.w) hc hd (λh' K7 N8=>?_) (by refine hl.length.symm▸?_;exact AtH hz (by refine Ast.symm▸?_;decide));have nt:∃x,h'.get? p.1=some x∧Be x:=K7.elim λo q=>q.elim λz q=>q.elim λz q=>⟨o,q.1,.Rb q.2.2.1⟩
   obtain⟨J,X⟩:=n3.1.put (s':={s with heap:=h',toks:=s.toks+1}) (o:=.dict l') hj (λb o h1 z hb=>(N8.2 b h1).trans hb)
    (λT=>⟨ep,_,K7,n7.AS ⟨ArZ _,ArZ _,λz z=>rfl,λz z=>rfl,T⟩⟩) nt (by refine ep.symm▸?_;exact nt)
    (λa ha o ho TR=>IX (ha.elim id λe=>e.trans ep) h1 ho TR (by refine hx.1.symm▸?_;decide)) rfl rfl
   exact⟨(),_,W,h,(n1.trans n3).ext.trans X,J,trivial⟩
theorem Sp.EF{j:Nat}(r0:Uc C W0 h0 ps cps):∀{σ:St} {W:Wd} {s:ArT},Inv C W σ s->W.τ[j]?=some p->Uc C W s.heap ps cps->
  Sp C A σ W s (forIn cps Aus λ(x:ArR×ArR) (_:PUnit)=>(do dictSet p.1 x.1 x.2;Asl (AsG Aus):Sem (ForInStep PUnit))) (λk z=>Mine.Internal.EF j ps σ k) (λz z (z:Unit) (z:PUnit)=>True):=by
 induction r0 with
 |nil=>intro σ W s I hj _ k ke h;rw[AtN];exact ArS ⟨(),σ,W,h,.refl _ _ _,I,trivial⟩
 |cons _ _ _ ih=>
  intro σ W s I hj r k ke h;rw[Atp];cases r with
  |cons a b r=>
   refine ArQ (Az (Sp.dictPut (A:=A) I hj a b _ ke h) (λz s1 q=>ArS ?_) λz z q=>q)
   induction q with
   |mk _ σ1 W1 h1 X1 I1 _=>exact ArY (ih I1 (Ab X1.τ hj) (r.up I X1) k ke h1) (λz z q=>q.base X1) λz z q=>q.base X1
theorem Inv.uD(I:Inv C W σ s):Inv C (W.more (s.heap.objs.size,s.heap.objs.size)) (σ.new (.dict [])) {s with heap:=s.heap.push {cls:=.type "dict",data:=.dict #[]}}∧
  Ext σ W s (σ.new (.dict [])) (W.more (s.heap.objs.size,s.heap.objs.size)) {s with heap:=s.heap.push {cls:=.type "dict",data:=.dict #[]}}:=by
 have g:(s.heap.push {cls:=.type "dict",data:=.dict #[]}).get? s.heap.objs.size=some {cls:=.type "dict",data:=.dict #[]}:=Ar9 _ rfl;exact I.make (s':={s with heap:=s.heap.push {cls:=.type "dict",data:=.dict #[]}}) (p:=(s.heap.objs.size,s.heap.objs.size)) (λz z h=>ArW _ h) (Ag _) (Ag _)
  (λS=>⟨rfl,[],Heap.DictOf.new _,.nil⟩) ⟨_,g,trivial⟩ ⟨_,g,trivial⟩ rfl rfl
end
theorem LQ{prog:AsR}{w:ArV}{A:Ar4}{E:ArR->ArT->Prop}{s:ArT}{pairs:List (Sem ArR×Sem ArR)}{Q:Ar0->ArT->Prop}(hlen:pairs.length≤15)
  (h:Ar5 (model prog w) A (evalPairs pairs) (λvs s₁=>Ar5 (model prog w) A (forIn vs Aus λ(x:ArR×ArR) (_:PUnit)=>(do dictSet s.heap.objs.size x.1 x.2;Asl (AsG Aus):Sem (ForInStep PUnit))) (λz s₂=>Q s.heap.objs.size s₂) E s₁) E
   {s with heap:=s.heap.push {cls:=.type "dict",data:=.dict #[]}}):
  Ar5 (model prog w) A (subDict pairs) Q E s:=by
 unfold subDict;refine ArQ<|AzI ?_;refine Dz<|ArQ ?_;refine ZV hlen ?_;refine Az h (λvs s₁ h₁=>?_) λz z e=>e
 refine Aso ?_;exact Az h₁ (λz s₂ h₂=>ArS (ArS h₂)) λz z e=>e
section
variable{X:CX}{n:Nat}{b:Bool}{sc:Asv}
inductive ZM(C:Cx)(X:CX)(n:Nat)(b:Bool)(sc:Asv):List Cd->List Cd->List (Option Expr)->List Expr->Prop
 |nil:ZM C X n b sc [] [] [] []
 |cons {c d e v cs ds es vs}:SE C X n b sc c e->SE C X n b sc d v->ZM C X n b sc cs ds es vs->ZM C X n b sc (c::cs) (d::ds) (some e::es) (v::vs)
noncomputable def G2(pos:Pos)(env:Env):List (Option Expr)->List Expr->List (Sem ArR×Sem ArR)
 |some e::es,v::vs=>(eval e env,do let x ←eval v env;standAt pos;Asl x)::G2 pos env es vs |_,_=>[]
theorem ZM.shape(h:ZM C X n b sc cs ds es vs)(pos:Pos)(env:Env):
  (evalEachOpt es env).zip ((AyW vs env).map λv=>do let x ←v;standAt pos;Asl x)=(G2 pos env es vs).map (λp=>(some p.1,p.2))∧(G2 pos env es vs).length=B5 ds:=by
 induction h with
 |nil=>exact⟨rfl,rfl⟩
 | @cons c d e v cs ds es vs _ _ _ ih=>refine⟨?_,congrArg Auv ih.2⟩;show(some (eval e env),_)::(evalEachOpt es env).zip ((AyW vs env).map λv=>do let x ←v;standAt pos;Asl x)=_;refine ih.1.symm▸?_;rfl
theorem Sp.pairs(h:ZM C X n b sc cs ds es vs)(f:BQ n b A):∀{σ:St} {W:Wd} {s:ArT},Inv C W σ s->AD C A W sc E env->
  Sp C A σ W s (evalPairs<|G2 pos env es vs) (λk ke=>KZ X E cs ds σ k ke) (Uc C):=by
 induction h with
 |nil=>intro σ W s I e k ke h;exact evalPairs_nil ⟨[],σ,W,h,.refl _ _ _,I,.nil⟩
 | @cons c d e1 v cs ds es vs h1 h2 _ ih=>
  intro σ W s I e k ke h;refine evalPairs_cons (ArY (h1 A σ W s E env f I e _ ke h) (λca s1 q=>?_) λz z q=>q);obtain⟨a,σ1,W1,q1,X1,I1,r1⟩:=q;refine Az (h2 A σ1 W1 s1 E env f I1 (e.up X1.up) _ ke q1) (λcb s2 q=>?_) λz z q=>q.base X1
  obtain⟨b,σ2,W2,q2,X2,I2,r2⟩:=q;refine Bm<|ArS ?_;have GD:=X1.trans X2;refine ArY (ih I2 (e.up GD.up) _ ke q2) (λcr s3 q=>?_) λz z q=>q.base GD
  obtain⟨r,σ3,W3,q3,X3,I3,r3⟩:=q;exact⟨_,σ3,W3,q3,GD.trans X3,I3,.cons (I2.vr X3<|I1.vr X2 r1) (I2.vr X3 r2) r3⟩
theorem SE.dict{pos:Pos}(h:ZM C X n b sc cs ds es vs):SE C X n b sc (Hk cs ds) (.Dict es vs pos):=λA σ W s E env f I e k ke q=>by
 have ql:=bl q
 replace q:=br q
 obtain⟨I0,X0⟩:=I.uD;have hj:(W.more (s.heap.objs.size,s.heap.objs.size)).τ[σ.n]?=some (s.heap.objs.size,s.heap.objs.size):=St.A5 I _;have body:Ar5 (model C.prog C.w) A (evalPairs<|G2 pos env es vs) (λvs s₁=>Ar5 (model C.prog C.w) A (forIn vs Aus λ(x:ArR×ArR) (_:PUnit)=>(do dictSet s.heap.objs.size x.1 x.2;Asl (AsG Aus):Sem (ForInStep PUnit))) (λz s₂=>Ah C k σ W s (RV C) (.ref s.heap.objs.size) s₂) (Ac C ke σ W s) s₁) (Ac C ke σ W s)
   {s with heap:=s.heap.push {cls:=.type "dict",data:=.dict #[]}}:=by
  refine ArY (Sp.pairs h f I0 (e.up X0.up) _ ke q) (λcps s1 q=>?_) λz z q=>q.base X0
  obtain⟨ps,σ1,W1,q1,X1,I1,r1⟩:=q;have X01:=X0.trans X1;refine ArY (Sp.EF (A:=A) r1 I1 (Ab X1.τ hj) r1 _ ke q1) (λz s2 q=>?_) λz z q=>q.base X01
  obtain⟨_,σ2,W2,q2,X2,I2,_⟩:=q;exact⟨_,σ2,W2,q2,X01.trans X2,I2,.obj<|Ab (X1.trans X2).τ hj⟩
 induction h with
 |nil=>rw[eval_Dict_empty];refine Bm ?_;exact AsF ⟨_,_,_,q,X0,I0,.obj hj⟩
 |cons h1 h2 hr=>
  have hh:=ZM.cons h1 h2 hr;obtain⟨s1,s2⟩:=hh.shape pos env;rw[arm_eval_Dict,s1,dictDisplay_pairs (G2 pos env (some _::_) (_::_)) (List.cons_ne_nil _ _) (by rw[s2];exact Axs (ble_iff.mp ql) (by decide))];exact Bm (ArQ (LQ (Q:=λd s'=>Ar5 (model C.prog C.w) A (Asl<|Ati d) (Ah C k σ W s<|RV C) (Ac C ke σ W s) s') (by rw[s2];exact ble_iff.mp ql)
   (ArY body (λvs s₁ h₁=>ArY h₁ (λz z q=>ArS q) λz z q=>q) λz z q=>q)))
inductive mH(C:Cx)(sc:Asv):List Ct->List Str->Prop
 |nil:mH C sc [] []
 |cons {x nm ts ns}:A9 x=some nm->sc.names.lookup nm=some .local->mH C sc ts ns->mH C sc (S7 x::ts) (nm::ns)
theorem Sp.asN{ns:List Str}(h:mH C sc ts ns):∀{σ:St} {W:Wd} {s:ArT} {vs:List AV} {cvs:List ArR},Inv C W σ s->AD C A W sc E env->Ae C W s.heap vs cvs->
  Sp C A σ W s (AyG (ns.map λn=>Ayg env n) cvs) (λk ke=>Mine.Internal.R1 X E ts vs σ k ke) RU:=by
 induction h with
 |nil=>
  intro σ W s vs cvs I e hv k ke h
  induction vs with
  |nil=>exact Ae.inv (P:=λcvs=>Ar5 (model C.prog C.w) A (AyG [] cvs) (Ah C k σ W s RU) (Ac C ke σ W s) s) hv (ArS ⟨(),σ,W,h,.refl _ _ _,I,trivial⟩)
  |cons=>exact ff h
 | @cons x nm ts ns hx hk _ ih=>
  intro σ W s vs cvs I e hv
  induction vs with
  |nil=>exact λk ke h=>ff h
  |cons v vs=>
   refine Ae.inv (P:=λcvs=>Sp C A σ W s (AyG ((nm::ns).map λn=>Ayg env n) cvs) (λk ke=>Mine.Internal.R1 X E (S7 x::ts) (v::vs) σ k ke) RU) hv λcv cvs a r=>?_
   show Sp C A σ W s (Auz cvs (Ayg env nm cv)>>=λz=>AyG (ns.map λn=>Ayg env n) cvs) _ _;refine Sp.bind (m:=λk ke=>S7 x X E v σ k ke) (g:=λz σ k ke=>Mine.Internal.R1 X E ts vs σ k ke) (Sp.holding<|De<|Sp.DW I e hx hk a) λz z σ1 W1 s1 X1 I1 z=>?_
   exact ih I1 (e.up X1.up) (I.qZ X1 r)
theorem SS.swp{k1 k2 p1 p2}{ns:List Str}{pos:Pos}(hw:OC sc ns OH ZQ=true)(hn:mH C sc ts ns.reverse)(hl:B5 ts=ns.length)(h:SE C X n true sc c (.Tuple ZQ k2 p2)):SS C X n true sc (Aap (B5 ts) ts c) (.Assign [.Tuple OH k1 p1] (.Tuple ZQ k2 p2) pos):=λA σ W s E env f I e k ke q=>by
 obtain⟨w1,w2⟩:=Sr e (k1:=k1) (k2:=k2) (p1:=p1) (p2:=p2) hw;rw[AyD];rw[show Azz [.Tuple OH k1 p1] (.Tuple ZQ k2 p2) pos.line env=Asl false from rfl,w1];refine Bm<|AA ?_;refine GQ (by decide) ?_;refine Az (h A σ W s E env f I e _ ke q) (λv s1 q=>?_) λz z q=>q
 induction q with
 |mk a σ1 W1 h1 X1 I1 r1=>
  refine AA ?_;unfold assignStores;refine DA ?_;cases Js I1 r1 h1 with
  |mk vs cvs ad σ2 n2 sq vr h2=>
   have hb:=ArU (bl h2);rw[←hl,hb,Ca,←vr.length];refine ArQ (Ef (f.hand rfl) sq λh' he=>?_);obtain⟨J,Y⟩:=n2.1.grow (s':={s1 with heap:=h'}) (ExtBut.grow he) rfl rfl;have GD:=(X1.trans n2.ext).trans Y;refine Az (Sp.asN (X:=X) (A:=A) hn J (e.up GD.up) (n2.1.qZ Y vr).rev _ ke<|br h2) (λz s3 q=>ArS ?_) λz z q=>q.base GD
   induction q with
   |mk _ σ3 W3 h3 X3 I3 _=>exact⟨.next,σ3,W3,h3,GD.trans X3,I3,.next⟩
end
section
variable{prog:AsR}{w:ArV}{A:Ar4}{E:ArR->ArT->Prop}{s:ArT}
theorem dE{l:List ArR}{Q:ArR->ArT->Prop}(hs:Qe s.heap a l)(cG:(l.length:Int)<2^63)(h:Q (.int l.length<|s.toks+1) {s with toks:=s.toks+1+1}):
  Ar5 (model prog w) A (call (.builtin "len") [.ref a]) Q E s:=by
 rcases hs with ht |hl
 ·refine hide λAx Aa=>?_
  obtain⟨o,ho,hc,n,hd⟩:=id ht;refine Aa ?_;refine call_function_entry PySem.kind_len PySem.plain_len PySem.entry_len (PySem.args_len1 _) ?_;unfold Builtin.«len»;refine ArQ (m:=oneArg "len" _) (ArS ?_);refine ArQ (m:=callSpecial? (.ref a) (ArP "__len__")) (AsN (name:=ArP "__len__") ht.typeIs Ayf
   (Ata Ayf ht.typeIs PySem.F.entry_tuple_len ?_<|PySem.F.args_tuple_len_1 _))
  show Ar5 _ _ (do retInt (←Avo (.ref a)).size) _ _ s;unfold Avo;refine ArQ<|GF ho hd ?_;refine ArS<|aI<|ArS ⟨_,rfl,?_⟩;refine Dz<|AA ?_;refine Oi ?_;have e:l.toArray.size=l.length:=by simp
  show Ar5 _ _ (if((l.toArray.size:Nat):Int)<0 then _ else _) _ _ _;refine GQ (by omega) ?_;show Ar5 _ _ (if((l.toArray.size:Nat):Int)≥2^63 then _ else _) _ _ _;refine GQ (by rw[e];omega) ?_;rw[e];exact aI (ArS ⟨_,rfl,h⟩)
 ·refine call_len_list hl (by simpa using cG) ?_;simpa using h
end
section
variable{W:Wd}{σ:St}{s:ArT}{A:Ar4}
theorem eR{n:Nat}(h:n≤1008000):(n:Int)<2^63:=Av7 (Awi.mpr h) (by decide)
theorem Vk{p:Nat}(lo:Fj W (some p))(n:Nat):((Ad.at p).add<|.k<|Ar6 n).ev W.ρ=some (Ar6<|(W.ls p).length+n):=
 Ad.OI (show(Ad.at p).ev W.ρ=some (Ar6 (W.ls p).length) by have q:W.ρ[p]?=some (Ar6 (W.ls p).length):=lo;simp[Ad.ev,Ad.at,EK,q]) (Ad.Ci _)
theorem len_list(n1:Bg C W s σ σ1){x:Ad}(hs:Qe s.heap a vs)(z:vs.length≤1008000)(hx:x.ev W.ρ=some (Ar6 vs.length)){k:K AV}(h:k (.int x) σ1=true)(ke:K AV):
  Ar5 (model C.prog C.w) A (call (.builtin "len") [.ref a]) (Ah C k σ W s (RV C)) (Ac C ke σ W s) s:=dE hs (eR z) (n1.Bc h (.int hx))
theorem gR{l:List AV}{n:Nat}(f:fits l=true)(e:n=l.length):n≤1008000:=e▸AtH (DS f) (by decide)
theorem Sp.len(I:Inv C W σ s)(hv:VR C W s.heap v cv):Sp C A σ W s (call (.builtin "len") [cv]) (λk z=>xZ v σ k) (RV C):=λk ke h=>by
 obtain⟨v',σ1,n1,Jv,_,h⟩:=Aw I hv h;refine VR.AU (P:=λcv=>Ar5 (model C.prog C.w) A (call (.builtin "len") [cv]) (Ah C k σ W s (RV C)) (Ac C ke σ W s) s) Jv h (λl vs a h ht vv=>len_list n1 (.inl ht.Af) (gR (bl h) vv.length) (vv.length▸Ad.Ci _) (br h) ke)
  λh=>VR.CS (P:=λcv=>Ar5 (model C.prog C.w) A (call (.builtin "len") [cv]) (Ah C k σ W s (RV C)) (Ac C ke σ W s) s) Jv h (λl t h=>?_) λh=>VR.Ay (P:=λcv=>Ar5 (model C.prog C.w) A (call (.builtin "len") [cv]) (Ah C k σ W s (RV C)) (Ac C ke σ W s) s) Jv h (λj p h hj=>?_) ff
 ·exact PySem.W.len_bytes (AtH (Bn<|bl h) (by decide)) (n1.Bc (br h)<|.int<|Ad.Ci _)
 ·refine n1.1.A7 hj h (λl vs h z b=>len_list n1 (.inr b.il) (gR (bl h) b.v.length) (b.v.length▸Ad.Ci _) (br h) ke) λh=>n1.1.Fc hj h (λp0 l vs h z b=>?_) λh=>n1.1.GH hj h (λl p0 m vs ws h z b=>?_) ff
  ·have e:(W.ls p0++vs).length=(W.ls p0).length+l.length:=by rw[Ar1,b.v.length]
   exact len_list n1 (.inr b.pre) (e▸AtH (Axa (DE n1.1 b.k1<|br<|bl h)<|DS<|bl<|bl h) (by decide)) (e▸Vk b.k1 _) (br h) ke
  ·have e:(vs++W.ls p0++ws).length=(W.ls p0).length+(l.length+m.length):=by rw[Ar1,Ar1,b.v.length,b.w.length,Aw9 l.length,Aw8]
   exact len_list n1 (.inr b.il) (e▸Axa (DE n1.1 b.k1<|br<|bl h) (Axa (DS<|bl<|bl<|bl h)<|DS<|br<|bl<|bl h)) (e▸Vk b.k1 _) (br h) ke
noncomputable def Kv:Nat->String
 |0=>"NoneType" |1=>"bool" |2=>"int" |3=>"str" |4=>"bytes" |_=>"tuple"
structure Fg(T:String)(L:List Nat):Prop where
 ty:AzG (.type T)=Asl (.type "type")
 sub:∀t,t<6->Ay6 (.type<|Kv t) (.type T)=Asl (isIn t L)
 ne:∀t,t<6->isIn t L=false->(AtS (Kv t)==AtS T)=false
theorem kinds{T:String}(h0:AzG (.type T)=Asl (.type "type"))(h1:∀t:Fin 6,Ay6 (.type (Kv t)) (.type T)=Asl (isIn t L))(h2:∀t:Fin 6,isIn t L=false->(AtS (Kv t)==AtS T)=false):Fg T L:=
 ⟨h0,λt h=>h1 ⟨t,h⟩,λt h=>h2 ⟨t,h⟩⟩
theorem S4:Fg "bool" [1]:=kinds (by kernel_rfl) (λt=>by rw[Ay7];match t with |0=>kernel_rfl |1=>kernel_rfl |2=>kernel_rfl |3=>kernel_rfl |4=>kernel_rfl |5=>kernel_rfl) (by decide +kernel)
theorem We:Fg "int" [1,2]:=kinds (by kernel_rfl) (λt=>by rw[Ay7];match t with |0=>kernel_rfl |1=>kernel_rfl |2=>kernel_rfl |3=>kernel_rfl |4=>kernel_rfl |5=>kernel_rfl) (by decide +kernel)
theorem O8:Fg "bytes" [4]:=kinds (by kernel_rfl) (λt=>by rw[Ay7];match t with |0=>kernel_rfl |1=>kernel_rfl |2=>kernel_rfl |3=>kernel_rfl |4=>kernel_rfl |5=>kernel_rfl) (by decide +kernel)
theorem O9:Fg "tuple" [5]:=kinds (by kernel_rfl) (λt=>by rw[Ay7];match t with |0=>kernel_rfl |1=>kernel_rfl |2=>kernel_rfl |3=>kernel_rfl |4=>kernel_rfl |5=>kernel_rfl) (by decide +kernel)
theorem GR{prog:AsR}{w:ArV}{A:Ar4}{E:ArR->ArT->Prop}{h:Asb}{g:Array GenState}{d:Drawn}{t:Nat}{os:Atn}{x:Array UInt8}{u:Tok}{T:String}{dep:Int}{tk:Tok}{Q:Fin->ArT->Prop}(cL:(AtS "bytes"==AtS T)=false)(hty:AzG (.type T)=Asl (.type "type"))
  (IC:Ay6 (.type "bytes") (.type T)=Asl false)(hq:Q (.done (.ret (.bool false))) ⟨h,g,d,t+1,os⟩):
  Ar5 (model prog w) A (Builtin.«isinstance.nested» ⟨[.bytes x u,.type T,.int dep tk],[]⟩) Q E ⟨h,g,d,t,os⟩:=by
 have hT:(⟨h,g,d,t,os⟩:ArT).TypeIs (.bytes x u) "bytes":=rfl
 repeat (any_goals (first |assumption |with_reducible apply class_attr_bytes |wp_step))
theorem HC{x:Array UInt8}{u:Tok}{T:String}(cL:(AtS "bytes"==AtS T)=false)(hty:AzG (.type T)=Asl (.type "type"))(IC:Ay6 (.type "bytes") (.type T)=Asl false):
  Meets (Builtin.«isinstance» ⟨[.bytes x u,.type T],[]⟩) (λz R s=>R (.ok<|.ret<|.bool false) {s with toks:=s.toks+1}):=
 λz z z z s hs=>by obtain⟨h,g,d,t,os⟩:=s;exact isinstance_outer (GR cL hty IC hs)
theorem IK{t:Nat}{k:K AV}(h:Lh t L σ k=true):t<6∧k (.bool<|isIn t L) σ=true:=by
 refine B9 h (λz=>ff) λe h=>⟨Nat.lt_of_not_le λq=>Bool.noConfusion ((ble_iff.mpr q).symm.trans e),B9 h (λe h=>?_) λe h=>?_⟩
 ·refine e.symm▸?_;exact h
 ·refine e.symm▸?_;exact h
theorem Fg.sf{T:String}(H:Fg T L){t:Nat}(lt:t<6)(q:isIn t L=false):Ay6 (.type<|Kv t) (.type T)=Asl false:=q▸H.sub t lt
theorem ET{σ1:St}(n1:Bg C W s σ σ1){cv:ArR}{T:String}{L:List Nat}(H:Fg T L){k:K AV}{Er:ArR->ArT->Prop}{t:Nat}(h:Lh t L σ1 k=true)(hT:s.TypeIs cv (Kv t))
  (no:isIn t L=false->Ah C k σ W s (RV C) (.bool false) {s with toks:=s.toks+1}->Ar5 (model C.prog C.w) A (call (.builtin "isinstance") [cv,.type T]) (Ah C k σ W s (RV C)) Er s):
  Ar5 (model C.prog C.w) A (call (.builtin "isinstance") [cv,.type T]) (Ah C k σ W s (RV C)) Er s:=by
 obtain⟨lt,h1⟩:=IK h;cases q:isIn t L with
 |true=>exact At7 (isinstance_true H.ty (q▸H.sub t lt)) ⟨hT,n1.post (q▸h1) .bool⟩
 |false=>exact no q (n1.Bc (q▸h1) .bool)
theorem oJ(n1:Bg C W s σ σ1)(hv:VR C W s.heap v cv){T:String}(H:Fg T L){k:K AV}{Er:ArR->ArT->Prop}(h:Lh (i8 v) L σ1 k=true):
  Ar5 (model C.prog C.w) A (call (.builtin "isinstance") [cv,.type T]) (Ah C k σ W s (RV C)) Er s:=by
 have lt:=(IK h).1;cases v with
 |AR=>exact VR.inv (P:=λcv=>Ar5 (model C.prog C.w) A (call (.builtin "isinstance") [cv,.type T]) (Ah C k σ W s (RV C)) Er s) hv (ET n1 H h rfl λq P=>At7 (isinstance_false_none (H.ne 0 lt q) H.ty (H.sf lt q)) P)
 |bool b=>exact VR.inv (P:=λcv=>Ar5 (model C.prog C.w) A (call (.builtin "isinstance") [cv,.type T]) (Ah C k σ W s (RV C)) Er s) hv (ET n1 H h rfl λq P=>At7 (isinstance_false_bool (H.ne 1 lt q) H.ty (H.sf lt q)) P)
 |int l=>exact VR.inv (P:=λcv=>Ar5 (model C.prog C.w) A (call (.builtin "isinstance") [cv,.type T]) (Ah C k σ W s (RV C)) Er s) hv λzz zz zz=>ET n1 H h rfl λq P=>At7 (isinstance_false_int (H.ne 2 lt q) H.ty (H.sf lt q)) P
 |str z=>exact VR.inv (P:=λcv=>Ar5 (model C.prog C.w) A (call (.builtin "isinstance") [cv,.type T]) (Ah C k σ W s (RV C)) Er s) hv λzz zz zz=>ET n1 H h rfl λq P=>At7 (isinstance_false_str (H.ne 3 lt q) H.ty (H.sf lt q)) P
 |BG b=>exact VR.inv (P:=λcv=>Ar5 (model C.prog C.w) A (call (.builtin "isinstance") [cv,.type T]) (Ah C k σ W s (RV C)) Er s) hv λzz=>ET n1 H h rfl λq P=>At7 (HC (H.ne 4 lt q) H.ty (H.sf lt q)) P
 |Af l=>exact VR.inv (P:=λcv=>Ar5 (model C.prog C.w) A (call (.builtin "isinstance") [cv,.type T]) (Ah C k σ W s (RV C)) Er s) hv λzz zz ht zz=>ET n1 H h ht.Af.typeIs λq P=>At7 (isinstance_false_tuple (H.ne 5 lt q) H.ty (H.sf lt q)) ⟨ht.Af.imp λzz q=>⟨q.1,q.2.1⟩,P⟩
 |obj _=>exact absurd lt (show¬(6<6) by decide)
 |Bd _=>exact absurd lt (show¬(7<6) by decide)
 |sel _ _=>exact absurd lt (show¬(8<6) by decide)
 |Ee _=>exact absurd lt (show¬(9<6) by decide)
 |any=>exact absurd lt (show¬(10<6) by decide)
theorem wV{t:String}{P:Prop}(h:iI t f=true)(k:∀L,Fg t L->f L=true->P):P:=
 B9 h (λe h=>k _ (of_decide_eq_true e▸S4) h) λz h=>B9 h (λe h=>k _ (of_decide_eq_true e▸We) h) λz h=>B9 h (λe h=>k _ (of_decide_eq_true e▸O8) h) λz h=>B9 h (λe h=>k _ (of_decide_eq_true e▸O9) h) λz=>ff
theorem Sp.oL(I:Inv C W σ s)(hv:VR C W s.heap v cv){t:String}:Sp C A σ W s (call (.builtin "isinstance") [cv,.type t]) (λk z=>isI v t σ k) (RV C):=λk ke h=>
 (Aw I hv h).elim λv' σ1 n1 Jv z h=>wV h λL H h=>oJ n1 Jv H h
inductive T2(C:Cx)(W:Wd)(s:ArT)(σ:St)(k:K (List AV)):ArR->Prop
 |Af (a:Ar0) (l:List AV) (vs:List ArR) (σ':St) (n:Bg C W s σ σ') (v:Ae C W s.heap l vs) (h:k l σ'=true) (t:IsT W s.heap a vs.toArray):T2 C W s σ k (.ref a)
 |lst (a:Ar0) (l:List AV) (vs:List ArR) (σ':St) (n:Bg C W s σ σ') (v:Ae C W s.heap l vs) (h:k l σ'=true) (t:s.heap.IsList a vs.toArray):T2 C W s σ k (.ref a)
theorem M8(I:Inv C W σ s)(hv:VR C W s.heap v cv){k:K (List AV)}(h:items v σ k=true):T2 C W s σ k cv:=
 (Aw I hv h).elim λv' σ1 n1 Jv z h=>VR.AU (P:=T2 C W s σ k) Jv h (λl vs a h ht vv=>.Af a l vs σ1 n1 vv h ht) λh=>VR.Ay (P:=T2 C W s σ k) Jv h (λj p h hj=>n1.1.A7 hj h (λl vs h z b=>.lst p.1 l vs σ1 n1 b.v h b.il) ff) ff
theorem Ws{l:List AV}(f:fits l=true)(v:Ae C W' h' l vs):vs.toArray.size≤AtY:=Li (show vs.length≤4000 from v.length▸DS f)
theorem Sp.tuple(I:Inv C W σ s)(hv:VR C W s.heap v cv):Sp C A σ W s (call (.type "tuple") [cv]) (λk zz=>items v σ λl σ=>Mine.Internal.B6 l σ k) (RV C):=λk ke h=>by
 cases M8 I hv h with
 |Af a l vs σ1 n1 vv h ht=>exact call_tuple_same ht.Af (LW n1 ht vv h)
 |lst a l vs σ1 n1 vv h hl=>refine call_tuple_list hl (λh' hk=>?_) (Ws (bl h) vv);obtain⟨J,Y⟩:=n1.1.grow (s':={s with heap:=h'}) hk rfl rfl;obtain⟨_,z⟩:=H2 (.refl J) (n1.1.qZ Y vv) s.toks h;exact z.base (n1.ext.trans Y)
theorem Nf{σ1:St}(n1:Bg C W s σ σ1){l:List AV}{vs:List ArR}(vv:Ae C W s.heap l vs){k:K AV}(h:Mine.Internal.newList l σ1 k=true){h':Asb}{c':Nat}(hk:∀b o',s.heap.get? b=some o'->h'.get? b=some o')
  (hn:h'.get? s.heap.objs.size=some {cls:=.type "list",dict:=none,data:=.seq vs.toArray c',slots:= #[]}):Ah C k σ W s (RV C) (.ref s.heap.objs.size) {s with heap:=h'}:=by
 obtain⟨J,Y⟩:=n1.1.make (o:=.list none l none) (s':={s with heap:=h'}) (p:=(s.heap.objs.size,s.heap.objs.size)) hk (Ag _) (Ag _)
  (λS=>⟨vs,rfl,vv.keep S.ρ S.τ S.q S.Af,(Ar7 vs).symm▸⟨_,hn,rfl,_,rfl⟩,trivial,trivial,⟨_,hn,rfl,rfl⟩⟩) ⟨_,hn,trivial⟩ ⟨_,hn,trivial⟩ rfl rfl
 exact⟨_,_,_,br h,n1.ext.trans Y,J,.obj<|St.A5 n1.1 _⟩
theorem Sp.list(I:Inv C W σ s)(hv:VR C W s.heap v cv):Sp C A σ W s (call (.type "list") [cv]) (λk z=>items v σ λl σ=>Mine.Internal.newList l σ k) (RV C):=λk ke h=>by
 cases M8 I hv h with
 |Af a l vs σ1 n1 vv h ht=>
  refine hide λAx Aa=>?_
  obtain⟨o,ho,hc,n,hd⟩:=ht.Af;refine Aa ?_;exact call_list_seq a (.inr rfl) ho hc hd (λh' c'=>Nf n1 vv h) (Ws (bl h) vv)
 |lst a l vs σ1 n1 vv h hl=>
  refine hide λAx Aa=>?_
  obtain⟨o,ho,hc,n,hd⟩:=hl;refine Aa ?_;exact call_list_seq a (.inl rfl) ho hc hd (λh' c'=>Nf n1 vv h) (Ws (bl h) vv)
inductive T8(C:Cx)(W:Wd)(s:ArT)(σ:St)(k:K Int):ArR->Prop
 |mk (x:Int) (t:Tok) (σ':St) (n:Bg C W s σ σ') (h:k x σ'=true):T8 C W s σ k (.int x t)
theorem E8(I:Inv C W σ s)(hv:VR C W s.heap v cv){k:K Int}(h:rint v σ k=true):T8 C W s σ k cv:=
 (Aw I hv h).elim λv' σ1 n1 Jv z h=>VR.cInt (P:=T8 C W s σ k) Jv h (λl x t h hx=>(Ck n1.1 hx h).elim λσ2 q=>.mk x t σ2 (n1.trans q.1) q.2) ff
theorem Jd(n1:Bg C W s σ σ1){a b st:Int}{t u v:Tok}{k:K AV}(tk:Tok)(h:newObj (.Gr a b st) σ1 k=true):
  Ah C k σ W s (RV C) (.ref s.heap.objs.size) {s with heap:=s.heap.push {cls:=.type "range",data:=.fields #[.int a t,.int b u,.int st v]},toks:=tk}:=by
 have g:(s.heap.push {cls:=.type "range",data:=.fields #[.int a t,.int b u,.int st v]}).get? s.heap.objs.size=some {cls:=.type "range",data:=.fields #[.int a t,.int b u,.int st v]}:=Ar9 _ rfl;obtain⟨J,Y⟩:=n1.1.make (o:=.Gr a b st) (s':={s with heap:=s.heap.push {cls:=.type "range",data:=.fields #[.int a t,.int b u,.int st v]},toks:=tk}) (p:=(s.heap.objs.size,s.heap.objs.size)) (λz z e=>ArW _ e) (Ag _) (Ag _)
  (λS=>⟨rfl,t,u,v,g⟩) ⟨_,g,trivial⟩ ⟨_,g,trivial⟩ rfl rfl
 exact⟨_,_,_,h,n1.ext.trans Y,J,.obj<|St.A5 n1.1 _⟩
theorem Sp.range(I:Inv C W σ s)(hv:Ae C W s.heap vs cvs):Sp C A σ W s (call (.type "range") cvs) (λk zz=>Xq vs σ k) (RV C):=λk ke h=>by
 cases vs with
 |nil=>exact ff h
 |cons a r=>
  refine Ae.inv (P:=λcvs=>Ar5 (model C.prog C.w) A (call (.type "range") cvs) (Ah C k σ W s (RV C)) (Ac C ke σ W s) s) hv λca cr va hv=>?_
  cases r with
  |nil=>
   refine Ae.inv (P:=λcr=>Ar5 (model C.prog C.w) A (call (.type "range") (ca::cr)) (Ah C k σ W s (RV C)) (Ac C ke σ W s) s) hv ?_;cases E8 I va h with
   |mk x t σ1 n1 h=>exact call_range_1 (Jd n1 _ h)
  |cons b r=>
   refine Ae.inv (P:=λcr=>Ar5 (model C.prog C.w) A (call (.type "range") (ca::cr)) (Ah C k σ W s (RV C)) (Ac C ke σ W s) s) hv λcb cr vb hv=>?_
   cases r with
   |nil=>
    refine Ae.inv (P:=λcr=>Ar5 (model C.prog C.w) A (call (.type "range") (ca::cb::cr)) (Ah C k σ W s (RV C)) (Ac C ke σ W s) s) hv ?_;cases E8 I va h with
    |mk x t σ1 n1 h=>
     cases E8 n1.1 vb h with
     |mk y u σ2 n2 h=>exact call_range_2 (Jd (n1.trans n2) _ h)
   |cons c r=>
    refine BZ h (λe h=>?_) ff;subst e;refine Ae.one (P:=λcr=>Ar5 (model C.prog C.w) A (call (.type "range") (ca::cb::cr)) (Ah C k σ W s (RV C)) (Ac C ke σ W s) s) hv λcc vc=>?_
    cases E8 I va h with
    |mk x t σ1 n1 h=>
     cases E8 n1.1 vb h with
     |mk y u σ2 n2 h=>
      cases E8 n2.1 vc h with
      |mk z v σ3 n3 h=>have hr:=bl h;have q1:=EX (bl hr);have q2:=EX (bl (br hr));have q3:=EX (bl (br (br hr)));exact call_range_3 (NF hr).2 (Jd ((n1.trans n2).trans n3) _ (br h)) (.inl (Ax2 (by omega)))
end
section
variable{W:Wd}{σ:St}{s:ArT}{A:Ar4}
theorem Hr{j:Nat}{l:List AV}(hj:σ.obj j=some (.list none l none))(k:K Nat):A4 (.obj j) σ k=k σ.n (σ.new<|.iter<|.lst j 0):=by show A7 (σ.obj j) _ _=_;rw[hj];rfl
theorem VZ{b:Bool}{P:Prop}(h:M5 v σ b=true)(k:∀j l,v= .obj j->σ.obj j=some (.list none l none)->b=true->P):P:=
 AV.Pw (Q:=λw=>v=w->P) h (λj h e=>Qq (P:=λo=>σ.obj j=o->P) h (λl h q=>k j l e q h) (λh z=>ff h) rfl) (λz h z=>ff h) rfl
theorem M9(I:Inv C W σ s){j:Nat}(hj:W.τ[j]?=some p){o:Obj}(of:o.isFreed=false)(hc:o.cls= .type "list_iterator")(hd:o.data= .fields #[.ref p.1,.int 0 0]):
  Inv C (W.more (s.heap.objs.size,s.heap.objs.size)) (σ.new<|.iter<|.lst j 0) {s with heap:=s.heap.push o}∧Ext σ W s (σ.new<|.iter<|.lst j 0) (W.more (s.heap.objs.size,s.heap.objs.size)) {s with heap:=s.heap.push o}:=by
 have g1:(s.heap.push o).get? s.heap.objs.size=some o:=Ar9 _ of;exact I.make (o:=.iter (.lst j 0)) (s':={s with heap:=s.heap.push o}) (p:=(s.heap.objs.size,s.heap.objs.size)) (λz z e=>ArW _ e) (Ag _) (Ag _)
   (λS=>⟨.inl rfl,_,Ab S.τ hj,o,g1,hc,hd⟩) ⟨_,g1,trivial⟩ ⟨_,g1,trivial⟩ rfl rfl
theorem Sp.enum(I:Inv C W σ s)(hv:VR C W s.heap v cv):Sp C A σ W s (call (.type "enumerate") [cv]) (λk z=>M5 v σ (Mine.Internal.A4 v σ λi σ=>newObj (.iter (.Vc i 0)) σ k)) (RV C):=λk ke h=>by
 refine VZ h λj l e oj h=>?_
 subst e;rw[Hr oj] at h;refine VR.inv (P:=λcv=>Ar5 (model C.prog C.w) A (call (.type "enumerate") [cv]) (Ah C k σ W s (RV C)) (Ac C ke σ W s) s) hv λp hj=>?_
 refine(I.at hj oj).elim λvs b=>?_
 refine call_enumerate_list b.one.il λh' he hi hz hk=>?_
 refine hide λAx Aa=>?_
 obtain⟨o,ho,hc,hd⟩:=hi;have of:o.isFreed=false:=At4 hd;have g1:(s.heap.push o).get? s.heap.objs.size=some o:=Ar9 _ of;obtain⟨I1,X1⟩:=M9 I hj of hc hd;refine Aa ?_;have hY:(s.heap.push o).objs.size=s.heap.objs.size+1:=Att ..;have k1:∀b x,(s.heap.push o).get? b=some x->h'.get? b=some x:=λb x e=>by
  by_cases q:b=s.heap.objs.size
  ·subst q;exact uniq e g1▸ho
  ·exact hk _ _ ((AvN _ _ _ q).symm.trans e)
 obtain⟨I2,X2⟩:=I1.make (o:=.iter (.Vc σ.n 0)) (s':={s with heap:=h'}) (p:=(s.heap.objs.size+1,s.heap.objs.size+1)) k1 (hY▸Ag _) (hY▸Ag _)
  (λS=>⟨.inl rfl,_,_,Ab S.τ<|St.A5 I _,he⟩) ⟨_,he,trivial⟩ ⟨_,he,trivial⟩ rfl rfl
 exact⟨_,_,_,h,X1.trans X2,I2,.obj<|St.A5 I1 _⟩
noncomputable abbrev q9(h:Asb)(a:Ar0):Asb:=h.push {cls:=.type "tuple_iterator",data:=.fields #[.ref a,.int 0 0]}
abbrev Z3(h:Asb)(a b:Ar0):Asb:=(q9 h a).push {cls:=.type "list_iterator",data:=.fields #[.ref b,.int 0 0]}
abbrev Z4(h:Asb)(a b:Ar0):Asb:=(Z3 h a b).push {cls:=.type "tuple",data:=.seq #[.ref h.objs.size,.ref (q9 h a).objs.size]}
abbrev mD(h:Asb)(a b:Ar0):Asb:=(Z4 h a b).push {cls:=.type "tuple",data:=.seq #[.none,.none]}
abbrev rA(h:Asb)(a b:Ar0):Asb:=(mD h a b).push {cls:=.type "zip",data:=.fields #[.none,.bool false,.bool false,.ref (Z3 h a b).objs.size,.ref (Z4 h a b).objs.size]}
theorem S8(a b:Ar0)(xs ys:Array ArR):
  Meets (Builtin.«zip.__new__» ⟨[.type "zip",.ref a,.ref b],[]⟩) (λz R s=>s.heap.IsTuple a xs∧s.heap.IsList b ys∧
   R (.ok<|.ret<|.ref (mD s.heap a b).objs.size) {s with heap:=rA s.heap a b}):=
 .of_wp λprog w A R s h=>by
  obtain⟨hp,g,d,tk,os⟩:=s;obtain⟨hl1,hl2,h⟩:=h;have IC:=sub_zip;have hL1:=hl1;have hL2:AvM (Shared.heap ⟨hp.push {cls:=.type "tuple_iterator",data:=.fields #[.ref a,.int 0 0]},g,d,tk,os⟩) b ys:=Heap.IsList.push hl2 _
  wp_walk using wpAny_pyIter_tuple hL1,wpAny_pyIter_list hL2
  exact⟨_,rfl,h⟩
theorem fP(I:Inv C W σ s){vu:List ArR}(ht:IsT W s.heap a vu.toArray)(vvu:Ae C W s.heap lu vu){j:Nat}(hj:W.τ[j]?=some p){k:K AV}(h:k (.obj ((σ.new<|.iter<|.seq lu).new<|.iter<|.lst j 0).n) (((σ.new<|.iter<|.seq lu).new<|.iter<|.lst j 0).new<|.iter<|.zip σ.n (σ.new<|.iter<|.seq lu).n)=true):
  ∃g5:(rA s.heap a p.1).get? (mD s.heap a p.1).objs.size=some {cls:=.type "zip",data:=.fields #[.none,.bool false,.bool false,.ref (Z3 s.heap a p.1).objs.size,.ref (Z4 s.heap a p.1).objs.size]},Ah C k σ W s (RV C) (.ref (mD s.heap a p.1).objs.size) {s with heap:=rA s.heap a p.1}:=by
 have g1:(q9 s.heap a).get? s.heap.objs.size=some _:=Ar9 _ rfl;obtain⟨I1,X1⟩:=I.make (o:=.iter (.seq lu)) (s':={s with heap:=q9 s.heap a}) (p:=(s.heap.objs.size,s.heap.objs.size)) (λz z e=>ArW _ e) (Ag _) (Ag _)
  (λS=>⟨.inl rfl,a,0,_,⟨_,g1,rfl,rfl⟩,S.Af _ _ ht,vvu.keep S.ρ S.τ S.q S.Af⟩) ⟨_,g1,trivial⟩ ⟨_,g1,trivial⟩ rfl rfl
 have z2:(Z3 s.heap a p.1).objs.size=(q9 s.heap a).objs.size+1:=Att ..;have z3:(Z4 s.heap a p.1).objs.size=(Z3 s.heap a p.1).objs.size+1:=Att ..;have z4:(mD s.heap a p.1).objs.size=(Z4 s.heap a p.1).objs.size+1:=Att ..;have n42:(mD s.heap a p.1).objs.size≠(Z3 s.heap a p.1).objs.size:=by refine z4.symm▸?_;refine z3.symm▸?_;exact AtJ (Axp _)
 have n32:(Z4 s.heap a p.1).objs.size≠(Z3 s.heap a p.1).objs.size:=z3▸AxJ _;obtain⟨I2,X2⟩:=M9 I1 (Ab X1.τ hj) (o:={cls:=.type "list_iterator",data:=.fields #[.ref p.1,.int 0 0]}) rfl rfl rfl;have Afy:=I2.Pr (Ag _);have notF:=I2.WX (Ag _);have g3:(Z4 s.heap a p.1).get? (Z3 s.heap a p.1).objs.size=some _:=Ar9 _ rfl;obtain⟨I3,X3⟩:=I2.grow (s':={s with heap:=Z4 s.heap a p.1}) (λz z e=>ArW _ e) rfl rfl;have g4:(rA s.heap a p.1).get? (Z4 s.heap a p.1).objs.size=some _:=ArW _ (Ar9 _ rfl);have g5:(rA s.heap a p.1).get? (mD s.heap a p.1).objs.size=some _:=Ar9 _ rfl;have gT:(rA s.heap a p.1).get? (Z3 s.heap a p.1).objs.size=some _:=ArW _ (ArW _ g3);obtain⟨I4,X4⟩:=I3.make (o:=.iter (.zip σ.n (σ.new (.iter (.seq lu))).n)) (s':={s with heap:=rA s.heap a p.1}) (p:=((mD s.heap a p.1).objs.size,(Z4 s.heap a p.1).objs.size)) (λz z e=>ArW _ (ArW _ e)) (AuO (z4▸Axp _)) (Ag _)
  (λS=>⟨.inr ⟨_,_,rfl⟩,(Z3 s.heap a p.1).objs.size,(s.heap.objs.size,s.heap.objs.size),((q9 s.heap a).objs.size,(q9 s.heap a).objs.size),.none,.none,g5,
   ⟨HZ (λq hq=>(AsA.mp hq).imp id λhq=>by refine(Ash.mp hq).symm▸?_;exact⟨n42,n32⟩) Afy,notF,⟨_,gT,rfl,_,rfl⟩,_,gT,rfl⟩,
   Ab S.τ (Ab X2.τ<|St.A5 I _),Ab S.τ<|St.A5 I1 _,g4⟩) ⟨_,g5,trivial⟩ ⟨_,g4,trivial⟩ rfl rfl
 exact⟨g5,_,_,_,h,((X1.trans X2).trans X3).trans X4,I4,.obj<|St.A5 I3 _⟩
theorem Sp.zip(I:Inv C W σ s)(hu:VR C W s.heap u cu)(hv:VR C W s.heap v cv):Sp C A σ W s (call (.type "zip") [cu,cv])
  (λk zz=>wC u<|M5 v σ (Mine.Internal.A4 u σ λi σ=>Mine.Internal.A4 v σ λj σ=>newObj (.iter<|.zip i j) σ k)) (RV C):=λk ke h=>by
 cases u with
 |Af lu=>
  refine VZ h λj l e oj h=>?_
  subst e;refine VR.inv (P:=λcv=>Ar5 (model C.prog C.w) A (call (.type "zip") [cu,cv]) (Ah C k σ W s (RV C)) (Ac C ke σ W s) s) hv λp hj=>?_
  refine(I.at hj oj).elim λvs b=>?_
  refine VR.inv (P:=λcu=>Ar5 (model C.prog C.w) A (call (.type "zip") [cu,.ref p.1]) (Ah C k σ W s (RV C)) (Ac C ke σ W s) s) hu λvu a ht vvu=>?_
  have oj1:(σ.new<|.iter<|.seq lu).obj j=some (.list none l none):=PA.OV _ _ _ _ _ (AtI<|I.nτ▸(Ar2.mp hj).1) oj
  replace h:Mine.Internal.A4 (.obj j) (σ.new<|.iter<|.seq lu) (λj' σ'=>newObj (.iter<|.zip σ.n j') σ' k)=true:=h
  rw[Hr oj1] at h;obtain⟨g5,z⟩:=fP I ht vvu hj h;exact callType_new PySem.F.called_zip (by decide) (PySem.F.typeCall_zip_2 _ _) (PySem.F.newCall_zip_2 _ _) (λobj=>PySem.F.args_object_init_3 obj _ _) PySem.F.entry_zip_new
   (S8 a p.1 _ _) ⟨ht.Af,b.one.il,⟨_,g5,rfl⟩,z⟩
 |_=>exact ff h
end
theorem Ob.kill:∀{o:AO},Ob C W h p o->Ob C W h p (Cn o)
 | .list ..,q=>q | .dict _,q=>q | .inst ..,q=>q | .exc ..,_=>trivial
 | .old ..,_=>trivial
 | .ed _,q=>q | .frame _,q=>q | .cell none,q=>q | .cell (some _),q=>q | .iter _,_=>trivial
 | .Gr ..,_=>trivial
 | .Ao _,q=>q | .mid ..,q=>q | .dead,_=>trivial
section
variable{W:Wd}{σ:St}{s:ArT}
theorem Inv.after(I:Inv C W σ s){j Cl:Nat}(h:σ.obj j=some (.old Cl d)):Inv C W (σ.after j Cl d) s∧Ext σ W s (σ.after j Cl d) W s:=by
 refine⟨⟨I.nτ,I.kρ,I.rl,I.rng,I.neg,I.BM,λi y hy=>?_,I.apart,I.new,I.live,I.HQ,I.base,I.gens,I.os,I.fo⟩,?_⟩
 ·rcases St.G1 hy with⟨rfl,rfl⟩|⟨n,o,ho,rfl⟩
  ·exact I.obj _ _ h
  ·obtain⟨p,hp,hb⟩:=I.obj _ _ ho;exact⟨p,hp,hb.kill⟩
 ·exact⟨ArZ _,ArZ _,λz z=>rfl,λz z=>rfl,rfl,Axp _,λa o e z z=>⟨o.slots,e,λz=>rfl⟩,λz a o e z=>e,λp h=>.inl h,λa o e=>⟨o,e⟩,λa o e d=>⟨o,e,d⟩,ArZ _,rfl⟩
theorem Ew{M:Auw}{h:Asb}{a:Ar0}(ho:h.get? a=some o):AtV M h (AzG<|.ref a) o.cls:=by unfold AzG;exact(Aw6 ho).andThen .now
theorem OM{M:Auw}{h:Asb}{a:Ar0}{c:ArR}{dd:Option Ar0}{fs:Array ArR}{sl}(ho:h.get? a=some ⟨c,dd,.fields fs,sl⟩):AtV M h (Ayi<|.ref a) false:=by unfold Ayi loadHead;exact(Aw6 ho).andThen .now
theorem Vn{M:Auw}{Cl:Ar0}(hx:Ff C Cl){h:Asb}(B:∀a o,C.h1.get? a=some o->h.get? a=some o){a:Ar0}{dd:Option Ar0}{fs:Array ArR}{sl}(ho:h.get? a=some ⟨.ref Cl,dd,.fields fs,sl⟩):
  AtV M h (AuL (.ref a) (.type "BaseException")) true:=by
 obtain⟨K,hK,_,hb,_⟩:=hx;unfold AuL;exact(Ew ho).andThen (Azc (hK.keeps B) hb)
theorem PI{A:Ar4}{env:Env}{x:Sem ArR}{Q:Flow->ArT->Prop}{Er:ArR->ArT->Prop}{M:Auw}(hh:A.handled=none)
  (h:Ar5 M A x (λv s1=>∃a Cl dd fs sl,v= .ref a∧Ff C Cl∧(∀b o,C.h1.get? b=some o->s1.heap.get? b=some o)∧s1.heap.get? a=some ⟨.ref Cl,dd,.fields fs,sl⟩∧fs[1]?=some .none∧Er (.ref a) s1) Er s):
  Ar5 M A (raiseStmt env (some x) none) Q Er s:=by
 unfold raiseStmt;refine Az h (λv s1 q=>?_) λz z q=>q
 refine hide λAx Aa=>?_
 obtain⟨a,Cl,dd,fs,sl,rfl,hx,B,ho,hf,hE⟩:=q;refine Aa ?_;have noT:=OM (M:=M) ho;have isI:=Vn (M:=M) hx B ho;refine AA<|Dz<|ArQ ?_;refine Looks.here (r:=.ref a) ?_ ?_
 ·have LE:AtV M s1.heap (Ay5<|.ref a) false:=by
   unfold Ay5;refine noT.andThen ?_;rw[if_neg (by decide)];exact .now
  unfold excFromValue;refine LE.andThen ?_;rw[if_neg (by decide)];refine isI.andThen ?_;rw[if_pos rfl];exact .now
 refine ArQ<|noT.here ?_;refine GQ (by decide) ?_;refine ArQ (Looks.here (r:=.ref a) ?_ ?_)
 ·unfold raisedInstance;refine hide λAx Aa=>?_
  obtain⟨K,hK,_,_,oc,hoc,hcc,_⟩:=hx;refine Aa ?_;refine(Ew ho).andThen<|(Ew<|B _ _ hoc).andThen ?_;rw[hcc,if_pos (by decide)];exact .now
 refine ArQ ?_;unfold Azr;refine AB ho rfl hf ?_;refine GQ (by decide) ?_;exact ArS (wpAny_raiseNew_none hh hE)
end
section
variable{X:CX}{n:Nat}{sc:Asv}
theorem SS.rse{pos:Pos}(h:SE C X n true sc c e):SS C X n true sc (Aab c) (.Raise (some e) none pos):=λA σ W s E env f I ev k ke q=>by
 rw[arm_exec_Raise];refine Bm<|PI (C:=C) (f.hand rfl) ?_;refine Az (h A σ W s E env f I ev _ ke q) (λv s1 q=>Bm (ArS ?_)) λz z q=>q
 induction q with
 |mk a σ1 W1 h1 X1 I1 r1=>
  refine VR.Ay (P:=λv=>∃a Cl dd fs sl,v= .ref a∧Ff C Cl∧(∀b o,C.h1.get? b=some o->s1.heap.get? b=some o)∧s1.heap.get? a=some ⟨.ref Cl,dd,.fields fs,sl⟩∧fs[1]?=some .none∧Ac C ke σ W s (.ref a) s1) r1 h1 (λj p h1 hj=>I1.KL hj h1 (λCl l h1 oj b=>?_) ff) ff;refine hide λAx Aa=>?_
  obtain⟨ep,hx,dd,fs,sl,hd,ho,hf⟩:=b;obtain⟨I2,X2⟩:=I1.put (i:=j) (o:=.old Cl l) (s':=s1) hj (λz z z z e=>e) (λz=>⟨ep,hx,dd,fs,sl,hd,ho⟩) ⟨_,ho,trivial⟩ ⟨_,ep▸ho,trivial⟩ (λa ha o e f=>⟨o,e,f⟩) rfl rfl;have o2:(σ1.put j<|.old Cl l).obj j=some (.old Cl l):=St.Nx oj;obtain⟨I3,X3⟩:=I2.after o2;refine Aa ?_;exact⟨p.1,Cl,dd,fs,sl,rfl,hx,I1.base,ho,hf,j,Cl,l,_,W1,p,h1,AtH X1.A8 X2.A8,o2,hj,rfl,.inl ⟨_,fs,ho,rfl,hf⟩,(X1.trans X2).trans X3,I3⟩
def Ua(C:Cx)(T:Tab):Prop:=∀D G,T.P5 D G=true->Ff C G∧∃K:Atw,K.In C.h1∧subIn K (.ref D) (.ref G)=some true
theorem LZ:subIn [] (.type "type") (.type "tuple")=some false:=by decide +kernel
theorem Pf{M:Auw}{A:Ar4}{E:ArR->ArT->Prop}{s:ArT}{Q:Bool->ArT->Prop}{D G:Ar0}(B:∀a o,C.h1.get? a=some o->s.heap.get? a=some o)(hG:Ff C G){K:Atw}(hK:K.In C.h1)(hs:subIn K (.ref D) (.ref G)=some true){a:Ar0}{o:Obj}(ho:s.heap.get? a=some o)(hc:o.cls= .ref D)
  (hq:Q true s):Ar5 M A (excMatches (.ref a)<|.ref G) Q E s:=by
 refine hide λAx Aa=>?_
 obtain⟨KG,hKG,_,hb,⟨gc,gd,gdt,gs⟩,hog,hgc,cd,hgd⟩:=hG;refine Aa ?_;cases(show gc= .type "type" from hgc);cases(show gdt= .cls cd from hgd);have tG:AtV M s.heap (AzG (.ref G)) (.type "type"):=Ew (B _ _ hog);have noT:AtV M s.heap (AuL (.ref G) (.type "tuple")) false:=by unfold AuL;exact tG.andThen (Azc (K:=[]) (λa o e=>nomatch e) LZ)
 have isC:AtV M s.heap (Ay5<|.ref G) true:=by
  unfold Ay5;refine(?_:AtV M s.heap (Ayi<|.ref G) true).andThen ?_
  ·unfold Ayi loadHead;exact(Aw6<|B _ _ hog).andThen .now
  ·refine(if_pos rfl).symm▸?_;exact Azc (hKG.keeps B) hb
 have tE:AtV M s.heap (AzG<|.ref a) (.ref D):=hc▸Ew ho;have sub:AtV M s.heap (Ay6 (.ref D)<|.ref G) true:=Azc (hK.keeps B) hs;unfold excMatches;refine ArQ<|noT.here ?_;refine GQ (by decide) ?_;refine AA ?_;simp only[Atp,AtN];refine ArQ<|ArQ<|ArQ<|isC.here ?_;refine GQ (by decide) ?_;refine ArS<|ArS<|ArQ<|tE.here<|ArQ<|ArQ<|ArQ<|sub.here ?_;refine(if_pos rfl).symm▸?_;exact ArS (ArS<|ArS hq)
theorem AD.mark{sc E env}(ev:AD C A W sc E env)(h:Option ArR):AD C (A.mark h) W sc E env:=⟨ev.scope,ev.kind,ev.glob,ev.bi,ev.fr,ev.cells,ev.full,ev.around⟩
theorem BQ.mark(f:BQ n true A)(h:Option ArR):BQ n false (A.mark h):=⟨f.depth,f.units,λe=>nomatch e⟩
theorem nP{nm:Str}{G:Ar0}(hk:sc.names.lookup nm=some .globalImplicit)(hd:(nm==("__debug__":Str))=false)(hv:TZ C nm (.Bd (.ref G))){E env}(I:Inv C W σ s)(e:AD C A W sc E env){pos:Pos}{Q:ArR->ArT->Prop}{Er:ArR->ArT->Prop}(h:Q (.ref G) s):
  Ar5 (model C.prog C.w) A (eval (.Name nm pos) env) Q Er s:=by
 refine hide λAx Aa=>?_
 obtain⟨cv,hr,hg⟩:=hv;refine Aa ?_;have q:=hr W s.heap I.based;cases q;refine Name_function_global (by refine e.scope.symm▸?_;exact e.kind) (by unfold Atx;refine e.scope.symm▸?_;exact hk) ?_ hd;rcases hg with⟨mg,h1,h2⟩|⟨mg,mb,h1,h2,h3,h4⟩
 ·exact loadGlobal_global (by refine e.glob.symm▸?_;exact Ns.keep h1 I.base) h2 h
 ·exact loadGlobal_builtin (by refine e.glob.symm▸?_;exact Ns.keep h1 I.base) h2 (by refine e.bi.symm▸?_;exact Ns.keep h3 I.base) h4 h
theorem IA{prog:AsR}{w:ArV}{A:Ar4}{s:ArT}{R:Auh->ArT->Prop}{e:ArR}{nm:Str}{body:List Auj}{pos:Pos}{env:Env}
  (h:Ar5 (model prog w) A (Azr e none) (λz s1=>Ar5 (model prog w) A (bindName env nm e) (λz s2=>Ar5 (model prog w) A (execs body env) (λf s3=>R (.ok f) s3) (λz z=>False) s2) (λz z=>False) s1) (λz z=>False) s):
  Asu (model prog w) A (.handlers e [.ExceptHandler none (some nm) body pos] env) R s:=by
 refine Auy ?_;show Ar5 _ A (do return Fin.done (←(handleWith e env [.ExceptHandler none (some nm) body pos]).onRaise (λx=>do Azg x env;AzA x))) _ _ s;refine ArQ<|AzU ?_;unfold handleWith;refine Bm (Az h (λz s1 h1=>?_) λz z x=>x.elim);refine Az h1 (λz s2 h2=>?_) λz z x=>x.elim
 exact R2 (ArY h2 (λf s3 h3=>ArS (ArS h3)) λz z x=>x.elim)
theorem zZ{fn:Bool}{P:Fl->Prop}(h:eH f fr fn=true)(k:∀v,fr v=true->P (.ret v))(k0:fn=true->P .next):P f:=by
 induction f with
 |ret v=>exact k v h
 |next=>exact k0 h
 |_=>exact ff h
theorem Ac.no{P:Prop}(q:Ac C (λz z=>false) σ W s e s'):P:=by
 induction q with
 |mk _ _ _ _ _ _ h=>exact ff h
theorem Vb{k:K Fl}(h:uG E f σ k=true):∃v m,f= .ret v∧σ.obj E.fr=some (.frame m)∧k (.ret v) (σ.put E.fr .dead)=true:=by exact zZ (P:=λf=>∃v m,f= .ret v∧σ.obj E.fr=some (.frame m)∧k (.ret v) (σ.put E.fr .dead)=true) h (λv h=>FR (P:=λo=>∃w m,Fl.ret v= .ret w∧o=some (.frame m)∧k (.ret w) (σ.put E.fr .dead)=true) h (λm h=>⟨v,m,rfl,rfl,h⟩) ff) ff
theorem TP{A:Ar4}{W:Wd}{σ:St}{s:ArT}{E:AZ}{env:Env}{nm:Str}{pos:Pos}{m:List (Nm×AV)}{Q:Unit->ArT->Prop}{Er:ArR->ArT->Prop}(I:Inv C W σ s)(e:AD C A W sc E env)(hk:sc.names.lookup nm=some .local)(hf:σ.obj E.fr=some (.frame m))
  (h:∀s',Inv C W (σ.put E.fr .dead) s'->Ext σ W s (σ.put E.fr .dead) W s'->Q () s'):
  Ar5 (model C.prog C.w) A (do Ayg env nm .none;unbindBehindTheSuite env nm pos) Q Er s:=by
 refine hide λAx Aa=>?_
 obtain⟨p,hp,hl⟩:=e.fr;obtain⟨ep,mm,HB⟩:=I.EM hp hf;refine Aa ?_;have hkn:env.kindOf nm=some .local:=by unfold Atx;refine e.scope.symm▸?_;exact hk
 have Hn:env.scope.kind= .function:=by refine e.scope.symm▸?_;exact e.kind
 refine ArQ<|wpAny_bindName<|Gv (m:=mm) hkn (by refine hl.symm▸?_;exact HB) (λh1 hn hs hc=>?_) (by refine Hn.symm▸?_;rfl);rw[hl] at hn hs hc;unfold unbindBehindTheSuite;refine AzW ?_;unfold unbindName deleteName;refine Up<|ArQ ?_;simp only[hkn,Hn];refine ArQ (m:=nsDel env.locals nm) (Nu (by rw[hl];exact hn) λh2 hb=>?_);rw[if_pos rfl];refine ArS<|AzX ?_;rw[hl] at hb;have nb:CO p.1 s.heap h1:=⟨hs,⟨_,hn⟩,hc⟩;refine hide λAx Aa=>?_
 obtain⟨J,Y⟩:=I.BW hp hf (nb.trans hb);obtain⟨J2,Y2⟩:=J.tok (s.toks+1);refine Aa ?_;exact h _ J2 (Y.trans Y2)
theorem SS.AfY{b h:Cs}{x:Nm}{nm gn:Str}{G:Ar0}{bx hx:List Auj}{Aew SP pos:Pos}(SO:Ua C X.T)(hb:SL C X n true sc b bx)(hxn:A9 x=some nm)(hk:sc.names.lookup nm=some .local)
  (gk:sc.names.lookup gn=some .globalImplicit)(gd:(gn==("__debug__":Str))=false)(gv:TZ C gn (.Bd (.ref G)))(hh:SL C X n false sc h hx):
  SS C X n true sc (Aay b (CA<|.Bd<|.ref G) x h) (.Try bx [.ExceptHandler (some<|.Name gn Aew) (some nm) hx SP] [] [] pos):=λA σ W s E env f I e k ke q=>by
 refine wpAny_Try_except (ArY (hb A σ W s E env f I e _ _ q) (λfl s1 q=>?_) λev s1 q=>?_)
 ·induction q with
  |mk a σ1 W1 h1 X1 I1 r1=>
   induction r1 with
   |next=>rw[AyE];exact ArS ⟨.next,σ1,W1,h1,X1,I1,.next⟩
   |brk=>exact⟨.brk,σ1,W1,h1,X1,I1,.brk⟩
   |cont=>exact⟨.cont,σ1,W1,h1,X1,I1,.cont⟩
   |ret v=>exact⟨_,σ1,W1,h1,X1,I1,.ret v⟩
 ·refine ArY (DG q e (Er:=Ac C ke σ W s)) (λz s2 q=>?_) λz z q=>q
  refine ArY (EL (f:=none) (Er:=Ac C ke σ W s) q) (λz s3 q=>?_) λz z q=>q
  refine hide λAx Aa=>?_
  obtain⟨⟨j,D,l,σ',W',p,h1,h0,h2,h3,rfl,h5,h6,h7⟩,y,ey,tr⟩:=q;refine Aa ?_;have ey:=Ayy ey;subst ey;have h1:nY X E (CA<|.Bd<|.ref G) x h j D (σ'.after j D l) k ke=true:=by have h1:Jz (σ'.obj j) (λD l=>nY X E (CA<|.Bd<|.ref G) x h j D (σ'.after j D l) k ke) false=true:=h1;rw[h2] at h1;exact h1
  have h1:=h1;refine B9 h1 (λhs h1=>?_) λz=>ff
  refine hide λAx Aa=>?_
  obtain⟨hG,K,hK,IC⟩:=SO _ _ hs;have oj:(σ'.after j D l).obj j=some (.old D l):=St.Ft h2;obtain⟨_,_,dd,fs,sl,_,ho⟩:=h7.at h3 oj;refine Aa ?_;have e':=(e.up h6.up).mark (some<|.ref p.1);refine wpAny_handleBy_cons (codeAny_handlers_test<|nP gk gd gv h7 e' ?_) (by intro q;cases q);refine Pf h7.base hG hK IC ho rfl ?_;dsimp only;refine(if_pos rfl).symm▸?_;refine IA (Gs (fsl:=W'.fs) tr λh' N tr'=>?_);have I8:=h7.note h3 N;have X8:=h6.note h0 h7 N;have e8:=e.up X8.up;refine ArY (De (Sp.DW (A:=A.mark (some<|.ref p.1)) I8 (e8.mark _) hxn hk<|.obj h3) _ (λz z=>false) h1) (λz s4 q4=>?_) λz z q=>q.no
  induction q4 with
  |mk _ σ9 W9 h9 X9 I9 _=>
   have e9:=e8.up X9.up;refine ArY (hh (A.mark<|some<|.ref p.1) σ9 W9 s4 E env (f.mark _) I9 (e9.mark _) _ _ h9) (λfl s5 q5=>?_) λz z q=>q.no
   induction q5 with
   |mk a σ10 W10 h10 mL I10 r10=>
    refine hide λAx Aa=>?_
    obtain⟨v,m,rfl,ZT,ZU⟩:=Vb h10;refine Aa ?_;refine RF.inv r10 λcv hv=>?_
    have X0:=(X8.trans X9).trans mL;exact TP (A:=A) I10 (e9.up mL.up) hk ZT λs' J Y=>⟨.ret v,_,W10,ZU,X0.trans Y,J,.ret<|I10.vr Y hv⟩
end
noncomputable def Wd.ext(W:Wd)(ex:List Int):Wd:={W with ρ:=W.ρ++ex}
theorem Wd.Vp(W:Wd)(ex:List Int)(h:Asb):Cr W (W.ext ex) h h:=
 ⟨Asf _ _,ArZ _,λz z=>rfl,λz z=>rfl,λa items q=>⟨q.un,q.fo,q.Af,q.nd⟩⟩
theorem F6{α:Type}{l m:List α}{i:Nat}{x:α}(h:(l++m)[i]?=some x):l[i]?=some x∨(l.length≤i∧m[i-l.length]?=some x):=
 (Nat.lt_or_ge i l.length).imp (λq=>(Asn q).symm.trans h) λq=>⟨q,(Asc q).symm.trans h⟩
theorem Xz{er rng:List BN}{d:Nat}:Bx (er++rng) (er.length+d)=Bx rng d:=by unfold Bx;rw[AI,AI,Asc<|Axl _ _,Axg]
theorem Xy{er rng:List BN}{d:Nat}(h:d<er.length):Bx (er++rng) d=Bx er d:=by unfold Bx;rw[AI,AI,Asn h]
theorem Gq{er:List BN}{ρ ex:List Int}{k:Nat}(hρ:ρ.length=k)(h0:∀a x,ρ[a]?=some x->inR (Bx rng<|k-1-a) x)(rl:er.length=ex.length)(rr:∀i x,ex[i]?=some x->inR (Bx er<|ex.length-1-i) x){a:Nat}{x:Int}(h:(ρ++ex)[a]?=some x):
  inR (Bx (er++rng)<|k+ex.length-1-a) x:=by
 rcases F6 h with h |⟨hl,h⟩
 ·have q:=h0 a x h;obtain⟨d,hd⟩:=Axk (Ar2.mp h).1;rw[←hρ,hd,Axf,Axg] at q;rw[←hρ,hd,Axd,Axf,Aw8,Axg,←rl,Aw9,Xz];exact q
 ·obtain⟨i,rfl⟩:=Axj hl;rw[Axg] at h;have lt:=(Ar2.mp h).1;have pos:=Axs (Auo i) lt;rw[←hρ,Nat.add_sub_assoc pos,Axe,Xy<|Axt (Axs (AxF _ _)<|Nat.sub_lt pos Nat.one_pos) rl.symm];exact rr i x h
theorem Inv.atoms(I:Inv C W σ s){ex:List Int}{er:List BN}(hl:er.length=ex.length)(hr:∀i x,ex[i]?=some x->inR (Bx er<|ex.length-1-i) x):
  Inv C (W.ext ex) (σ.atoms er) s∧Ext σ W s (σ.atoms er) (W.ext ex) s:=by
 have S:=W.Vp ex s.heap;refine⟨⟨I.nτ,?_,?_,λa x h=>?_,λp hp=>?_,λp hp=>?_,λi o h=>?_,I.apart,I.new,I.live,I.HQ,I.base,I.gens,I.os,I.fo⟩,?_⟩
 ·show(W.ρ++ex).length=σ.k+er.length;rw[Ar1,I.kρ,hl]
 ·show(er++σ.rng).length=σ.k+er.length;rw[Ar1,I.rl,Aw9]
 ·show inR (Bx (er++σ.rng)<|σ.k+er.length-1-a) x;exact hl.symm▸Gq I.kρ I.rng hl hr h
 ·obtain⟨x,h,r⟩:=I.neg p hp;exact⟨x,Ad.Cv (Asf _ _) h,r⟩
 ·obtain⟨x,h,r⟩:=I.BM p hp;exact⟨x,Ad.Cv (Asf _ _) h,r⟩
 ·obtain⟨p,hp,hb⟩:=I.obj i o h;exact⟨p,hp,hb.AS S rfl rfl⟩
 ·exact⟨S.τ,S.ρ,S.q,S.ls,rfl,As0 _,λa o e z z=>⟨o.slots,e,λz=>rfl⟩,λz a o e z=>e,λp h=>.inl h,λa o e=>⟨o,e⟩,λa o e d=>⟨o,e,d⟩,ArZ _,rfl⟩
section
variable{X:CX}{n:Nat}{b:Bool}{sc:Asv}
theorem Inv.lower(I:Inv C W σ s):Inv C W σ.lower s:=
 ⟨I.nτ,I.kρ,I.rl,I.rng,I.neg,I.BM,I.obj,I.apart,I.new,I.live,I.HQ,I.base,I.gens,I.os,I.fo⟩
theorem SE.mark{m:Nat}(h:SE C X n b sc c e):SE C X n b sc (iN m c) e:=λA σ W s E env f I ev k ke q=>by
 have kept:∀{σ1:St} {W1:Wd} {s1:ArT},σ1.A8=σ.lower.A8->Ext σ.lower W s σ1 W1 s1->Inv C W1 σ1 s1->Inv C W σ s1∧Ext σ W s σ W s1:=by
  intro σ1 W1 s1 hv X1 I1;refine I.grow (s':=s1) (λb x hb=>?_) (I1.gens.trans I.gens.symm)<|I1.os.trans I.os.symm;refine X1.exact hv b x hb ?_;by_cases o:own W.τ b
  ·refine .inr ?_;have:W.τ.take σ.lower.low=W.τ:=AsT (by rw[I.nτ];exact As0 _);rw[this];exact o
  ·exact .inl o
 refine B9 q (λz q=>B9 q (λz q=>?_) λz q=>?_) λz q=>h A σ W s E env f I ev k ke q
 ·refine ArY (h A σ.lower W s E env f I.lower ev _ _<|bl q) (λcv s1 p=>?_) λz z p=>p.no
  induction p with
  |mk a σ1 W1 h1 X1 I1 r=>
   refine VR.cBool (P:=λcv=>Ah C k σ W s (RV C) cv s1) r h1 (λv h1=>?_) ff;obtain⟨J,Y⟩:=kept (ArU h1) X1 I1;obtain⟨J2,Y2⟩:=J.atoms (ex:=[bt v 1 0]) (er:=[(some 0,some 1)]) rfl (λi x e=>by
    induction i with
    |zero=>cases e;exact⟨λa e=>by cases e;induction v<;>decide,λa e=>by cases e;induction v<;>decide⟩
    |succ i=>exact ns e)
   have ek:(W.ρ++ [bt v (1:Int) 0])[σ.k]?=some (bt v 1 0):=by rw[←I.kρ,Asc<|As0 _,AxG];rfl
   refine⟨_,_,_,br q,Y.trans Y2,J2,?_⟩
   induction v with
   |false=>exact .sel (j:=0) ek rfl .bool
   |true=>exact .sel (j:=1) ek rfl .bool
 ·refine ArY (h A σ.lower W s E env f I.lower ev _ _<|bl q) (λcv s1 p=>?_) λz z p=>p.no
  induction p with
  |mk a σ1 W1 h1 X1 I1 _=>obtain⟨J,Y⟩:=kept (ArU h1) X1 I1;exact⟨.any,σ,W,br q,Y,J,.any⟩
end
inductive DY(C:Cx)(W:Wd):List (Nm×Nat)->List (Str×Ar0)->Prop
 |nil:DY C W [] []
 |cons {x j nm p c cs}:A9 x=some nm->W.τ[j]?=some p->DY C W c cs->DY C W ((x,j)::c) ((nm,p.1)::cs)
theorem DY.up{W W':Wd}(t:W.τ<+:W'.τ){c cs}(h:DY C W c cs):DY C W' c cs:=DY.rec (motive:=λc cs z=>DY C W' c cs) .nil (λa b z r=>.cons a (Ab t b) r) h
theorem lookup_hit{β:Type}(n:Str)(v:β)(l:List (Str×β)):((n,v)::l).lookup n=some v:=by rw[Asm,beq_self_eq_true]
theorem lookup_miss{β:Type}{n m:Str}(h:n≠m)(v:β)(l:List (Str×β)):((m,v)::l).lookup n=l.lookup n:=by rw[Asm,beq_eq_false_iff_ne.mpr h]
theorem DY.get{j:Nat}{nm:Str}(hx:A9 x=some nm){c cs}(h:DY C W c cs):AW c x=some j->∃p,W.τ[j]?=some p∧cs.lookup nm=some p.1:=by
 induction h with
 |nil=>exact λh=>ns h
 | @cons y i ny p c cs a b r ih=>
  intro h;rw[CJ] at h;by_cases q:x=y
  ·subst q;obtain rfl:=uniq hx a;rw[DB,Sg] at h;exact⟨p,Ase h▸b,lookup_hit _ _ _⟩
  ·rw[GG q,Om] at h;have ne:nm≠ny:=λe=>q (HW hx<|e▸a)
   exact(ih h).imp λp' w=>⟨w.1,(lookup_miss ne _ _).trans w.2⟩
inductive Dp(C:Cx):List (Str×Atk)->List Nm->Prop
 |nil:Dp C [] []
 |skip {n k l r}:(k==AuC)=false->Dp C l r->Dp C ((n,k)::l) r
 |cell {n x l r}:A9 x=some n->Dp C l r->Dp C ((n,.cell)::l) (x::r)
theorem Dp.has{l:List (Str×Atk)}(h:Dp C l r){nm:Str}:l.lookup nm=some .cell->∃x∈r,A9 x=some nm:=by
 induction h with
 |nil=>exact λh=>ns h
 | @skip n k l r hk _ ih=>
  intro hm;by_cases e:nm=n
  ·subst e;rw[lookup_hit] at hm;rw[Ase hm] at hk;exact ff hk.symm
  ·exact ih ((lookup_miss e _ _).symm.trans hm)
 | @cell n x l r hx _ ih=>
  intro hm;by_cases e:nm=n
  ·subst e;exact⟨x,.head _,hx⟩
  ·exact(ih<|(lookup_miss e _ _).symm.trans hm).imp λy q=>⟨.tail _ q.1,q.2⟩
theorem Nc{A:Ar4}{M:Auw}{Er:ArR->ArT->Prop}(hn:Dp C names cn):∀{σ:St} {W:Wd} {s:ArT} {c:List (Nm×Nat)} {cs:List (Str×Ar0)} {f:St->List (Nm×Nat)->Bool} {Q:List (Str×Ar0)->ArT->Prop},
  Inv C W σ s->DY C W c cs->IS cn σ c f=true->
  (∀σ' W' s' c' t9,f σ' c'=true->Ext σ W s σ' W' s'->Inv C W' σ' s'->DY C W' c' t9->(∀nm,(∃a,cs.lookup nm=some a)∨(∃x∈cn,A9 x=some nm)->∃a,t9.lookup nm=some a)->Q t9 s')->
  Ar5 M A (forIn names cs λ(x:Str×Atk) (r:List (Str×Ar0))=>match x with |(name,kind)=>if(kind==AuC)=true then(do let a ←alloc {cls:=.type "cell",data:=.cell none};Asl (AsG ((name,a)::r))) else Asl (AsG r)) Q Er s:=by
 induction hn with
 |nil=>intro σ W s c cs f Q I L h hQ;rw[AtN];exact ArS (hQ σ W s c cs h (.refl _ _ _) I L λnm q=>q.elim id λ⟨x,hx,_⟩=>nomatch hx)
 | @skip n k l r hk _ ih=>intro σ W s c cs f Q I L h hQ;rw[Atp];simp only[hk,AsM,if_false];exact AA (ih I L h hQ)
 | @cell n x l r hx _ ih=>
  intro σ W s c cs f Q I L h hQ;rw[Atp];simp only[beq_self_eq_true,if_true];refine ArQ (ArQ (AzI (ArS ?_)));have g:(s.heap.push {cls:=.type "cell",data:=.cell none}).get? s.heap.objs.size=some {cls:=.type "cell",data:=.cell none}:=Ar9 _ rfl;obtain⟨J,Y⟩:=I.make (o:=.cell none) (s':={s with heap:=s.heap.push {cls:=.type "cell",data:=.cell none}}) (p:=(s.heap.objs.size,s.heap.objs.size)) (λz z e=>ArW _ e) (Ag _) (Ag _)
   (λS=>⟨rfl,_,g,rfl⟩) ⟨_,g,trivial⟩ ⟨_,g,trivial⟩ rfl rfl
  refine ih (c:=(x,σ.n)::c) J (.cons hx (St.A5 I _)<|L.up Y.τ) h λσ' W' s' c' t9 h1 X1 I1 L1 q1=>?_
  refine hQ σ' W' s' c' t9 h1 (Y.trans X1) I1 L1 λnm q=>q1 nm ?_
  refine q.elim (λq=>?_) λq=>?_
  ·by_cases e:nm=n
   ·subst e;exact .inl ⟨_,lookup_hit _ _ _⟩
   ·exact .inl (q.imp λa ha=>(lookup_miss e _ _).trans ha)
  ·obtain⟨y,hy,hn⟩:=q;refine(Ar3.mp hy).elim (λe=>?_) λhy=>.inr ⟨y,hy,hn⟩
   rw[e] at hn;obtain rfl:=uniq hx hn;exact .inl ⟨_,lookup_hit _ _ _⟩
inductive DX(C:Cx)(W:Wd)(h:Asb)(sc:Asv):List ((Nm×Bool)×AV)->List (Str×ArR)->Prop
 |nil:DX C W h sc [] []
 |cons {x b v nm cv l r}:A9 x=some nm->sc.names.lookup nm=some (if b then .cell else .local)->VR C W h v cv->DX C W h sc l r->DX C W h sc (((x,b),v)::l) ((nm,cv)::r)
theorem DX.up(I:Inv C W σ s)(x:Ext σ W s σ' W' s'){l r}(h:DX C W s.heap sc l r):DX C W' s'.heap sc l r:=
 DX.rec (motive:=λl r z=>DX C W' s'.heap sc l r) .nil (λa b v z r=>.cons a b (I.vr x v) r) h
theorem NT{l:List ((Nm×Bool)×AV)}(b0:DX C W0 h0 sc l r):∀{σ:St} {W:Wd} {s:ArT},Inv C W σ s->Jw C W sc E env->DX C W s.heap sc l r->
  Sp C A σ W s (forIn r Aus λ(x:Str×ArR) (_:PUnit)=>match x with |(name,v)=>(do Azv env name v;Asl (AsG Aus):Sem (ForInStep PUnit))) (λk z=>storeAll E l σ k) (λz z (z:Unit) (z:PUnit)=>True):=by
 induction b0 with
 |nil=>intro σ W s I e _ k ke h;rw[AtN];exact ArS ⟨(),σ,W,h,.refl _ _ _,I,trivial⟩
 | @cons x b v nm cv l r _ _ _ _ ih=>
  intro σ W s I e br k ke h;rw[Atp];cases br with
  |cons hx hk hv hr=>
   have go:∀{s1:ArT},Ah C (λz σ=>storeAll E l σ k) σ W s RU () s1->Ar5 (model C.prog C.w) A (forIn r Aus λ(x:Str×ArR) (_:PUnit)=>match x with |(name,v)=>(do Azv env name v;Asl (AsG Aus):Sem (ForInStep PUnit))) (Ah C k σ W s (λz z (z:Unit) (z:PUnit)=>True)) (Ac C ke σ W s) s1:=by
    intro s1 q
    induction q with
    |mk _ σ1 W1 h1 X1 I1 _=>exact ArY (ih I1 (e.up X1.τ) (hr.up I X1) k ke h1) (λz z q=>q.base X1) λz z q=>q.base X1
   induction b with
   |true=>exact ArQ (Az (Sp.Rx (A:=A) I e hx hk hv (λz σ=>storeAll E l σ k) ke h) (λz s1 q=>ArS (go q)) λz z q=>q)
   |false=>exact ArQ (Az (Sp.Ry (A:=A) I e hx hk hv (λz σ=>storeAll E l σ k) ke h) (λz s1 q=>ArS (go q)) λz z q=>q)
theorem HU{n:Str}{p:Str×ArR}{l:List (Str×ArR)}:AtX n (p::l)=if n=p.1 then some p.2 else AtX n l:=by
 rw[show p=(p.1,p.2) from rfl,Asm];by_cases e:n=p.1
 ·rw[if_pos e,beq_iff_eq.mpr e]
 ·rw[if_neg e,beq_eq_false_iff_ne.mpr e]
theorem dH{n:Str}{l:List (Str×ArR)}(h:n∉l.map (·.1)):l.lookup n=none:=by
 induction l with
 |nil=>rfl |cons p l ih=>exact HU.trans ((if_neg λe=>h (Ar3.mpr (.inl e))).trans (ih λm=>h (.tail _ m)))
theorem QX{n:Str}{l:List (Str×ArR)}(h:n∈l.map (·.1)):(l.lookup n).isNone=false:=by
 induction l with
 |nil=>exact absurd h AwY
 |cons p l ih=>
  rw[HU];by_cases e:n=p.1
  ·rw[if_pos e];rfl
  ·rw[if_neg e];exact ih ((Ar3.mp h).elim (λq=>absurd q e) id)
theorem o3{l r:List (Str×ArR)}{n:Str}(h:n∉l.map (·.1)):(l++r).lookup n=r.lookup n:=by
 induction l with
 |nil=>rfl |cons p l ih=>exact HU.trans ((if_neg λe=>h (Ar3.mpr (.inl e))).trans (ih λm=>h (.tail _ m)))
theorem Xi{l:List (Str×ArR)}:∀{pre:List (Str×ArR)},((pre++l).map (·.1)).Nodup->(l.map (·.1)).filterMap (λn=>((pre++l).lookup n).map (λv=>(n,v)))=l:=by
 induction l with
 |nil=>exact λz=>rfl
 |cons p l ih=>intro pre nd;have iQ:=nd;rw[AwT] at nd;have a:(pre++p::l).lookup p.1=some p.2:=(o3 λm=>(AwX.mp nd).2.2 _ m _ (.head _) rfl).trans (HU.trans (if_pos rfl));rw[Aww] at iQ;rw[AsZ,AwE,a,Aww];exact congrArg (p:: ·) (ih iQ)
def H4(h:Asb)(d:ArR)(ds:List ArR):Prop:=(d= .none∧ds= [])∨∃T,d= .ref T∧h.IsTuple T ds.toArray
structure KH(p:Au3)(ns:List Str):Prop where
 po:p.posonlyargs= []
 ar:p.args.map (·.arg)=ns
 va:p.vararg=none
 ko:p.kwonlyargs= []
 kw:p.kwarg=none
 nd:ns.Nodup
theorem bB{M:Auw}{A:Ar4}{E:ArR->ArT->Prop}{s:ArT}{Q:Option (Array ArR)->ArT->Prop}(hd:H4 s.heap d ds)(h:∀r:Option (Array ArR),(r.getD #[]).toList=ds->Q r s):Ar5 M A (Azo d) Q E s:=by
 rcases hd with⟨rfl,rfl⟩|⟨T,rfl,o,ho,hc,n,hdt⟩
 ·exact ArS (h none rfl)
 ·exact At1 ho hdt (h _ (by simp))
theorem GN:∀(L:List (Str×ArR)) (acc:List (Str×ArR)),(forIn L acc λ(x:Str×ArR) (r:List (Str×ArR))=>if(AtX x.fst r).isNone=true then Asl (AsG<|r++ [(x.fst,x.snd)]) else Asl (AsG r):Sem (List<|Str×ArR)) =
  Asl (L.foldl (λr x=>if(AtX x.fst r).isNone=true then r++ [x] else r) acc)
 | [],acc=>by rw[AtN];rfl
 |x::L,acc=>by
  rw[Atp,AwI];by_cases q:(AtX x.fst acc).isNone=true
  ·rw[if_pos q,if_pos q,pure_bind];exact GN L _
  ·rw[if_neg q,if_neg q,pure_bind];exact GN L _
theorem Sx{acc:List (Str×ArR)}{L:List (Str×ArR)}(h:∀x∈L,x.1∈acc.map (·.1)):L.foldl (λr x=>if(AtX x.fst r).isNone=true then r++ [x] else r) acc=acc:=by
 induction L with
 |nil=>rfl |cons x L ih=>rw[AwI,if_neg (λe=>AsJ ((QX (h x (.head _))).symm.trans e))];exact ih λy m=>h y (.tail _ m)
theorem Vq{L:List (Str×ArR)}:∀{acc:List (Str×ArR)},((acc++L).map (·.1)).Nodup->L.foldl (λr x=>if(AtX x.fst r).isNone=true then r++ [x] else r) acc=acc++L:=by
 induction L with
 |nil=>exact λ{acc} _=>(Ar7 acc).symm
 |cons x L ih=>
  intro acc nd;have iQ:=nd;rw[AwT] at iQ;have a:=dH λm=>(AwX.mp iQ).2.2 _ m _ (.head _) rfl
  rw[Aww] at nd ⊢;rw[AwI,if_pos (show(AtX x.1 acc).isNone=true by rw[a];rfl)];exact ih nd
structure Eg(ns:List Str)(vs ds:List ArR)(n0 c n2:List Str)(d1 d2:List ArR):Prop where
 ns:ns=(n0++c)++n2
 ds:ds=d1++d2
 v:vs.length=(n0++c).length
 c:c.length=d1.length
 n:n2.length=d2.length
theorem uC{n d b:Nat}(h1:b≤n)(h2:n-b≤d)(h3:d≤n):b-(n-d)=d-(n-b):=by obtain⟨k,rfl⟩:=Axj h1;rw[Axg] at h2 ⊢;obtain⟨j,rfl⟩:=Axj h2;rw[Axg,Aw9 b k,Axe,AxH<|Nat.le_of_add_le_add_left<|Aw9 b k▸h3]
theorem Aee{ns:List Str}{vs ds:List ArR}(h1:vs.length≤ns.length)(h2:ns.length-vs.length≤ds.length)(h3:ds.length≤ns.length):∃n0 c n2 d1 d2,Eg ns vs ds n0 c n2 d1 d2:=by
 have l:=AwS h1;refine⟨(ns.take vs.length).take<|ns.length-ds.length,(ns.take vs.length).drop<|ns.length-ds.length,ns.drop vs.length,ds.take<|ds.length-(ns.length-vs.length),ds.drop<|ds.length-(ns.length-vs.length),?_,(As5 ..).symm,?_,?_,?_⟩
 ·rw[As5,As5]
 ·rw[As5,l]
 ·rw[AwQ,l,AwS<|AxF _ _,uC h1 h2 h3]
 ·rw[AwQ,AwQ,AxH h2]
section
variable{ns n0 c n2:List Str}{vs ds d1 d2:List ArR}
theorem Eg.some(K:Eg ns vs ds n0 c n2 d1 d2):ns.zip vs=(n0++c).zip vs:=by have e:=Aw5 (r₁:=n2) (r₂:=([]:List ArR)) K.v.symm;rw[Ar7,List.zip_nil_right,Ar7] at e;exact K.ns▸e
theorem Eg.fst(K:Eg ns vs ds n0 c n2 d1 d2):((n0++c).zip vs).map (·.1)=n0++c:=List.map_fst_zip (Axm K.v.symm)
theorem Eg.gK(K:Eg ns vs ds n0 c n2 d1 d2):ns.length-ds.length=n0.length:=by rw[K.ns,K.ds,Ar1,Ar1,Ar1,K.c,K.n,Aw8,Axf]
theorem Eg.uF(K:Eg ns vs ds n0 c n2 d1 d2):ds.drop (ds.length-(ns.length-vs.length))=d2:=by rw[K.v,K.ns,Ar1,Axg,K.ds,Ar1,K.n,Axf,List.drop_left]
theorem Eg.all(K:Eg ns vs ds n0 c n2 d1 d2):ns.zip (vs++d2)=(n0++c).zip vs++n2.zip d2:=K.ns▸Aw5 K.v.symm
theorem Eg.Ue(K:Eg ns vs ds n0 c n2 d1 d2):(ns.zip<|vs++d2).map (·.1)=ns:=by rw[K.all,AwT,K.fst,List.map_fst_zip<|Axm K.n];exact K.ns.symm
theorem Eg.miss(K:Eg ns vs ds n0 c n2 d1 d2):(List.filter (λn=>(AtX n<|ns.zip vs).isNone)<|List.take (ns.length-ds.length) ns)= []:=by rw[List.filter_eq_nil_iff,K.gK,K.some,K.ns,AsE,List.take_left];exact λn m e=>AsJ ((QX<|K.fst.symm▸AtL _ m).symm.trans e)
theorem Eg.fin(K:Eg ns vs ds n0 c n2 d1 d2)(nd:ns.Nodup):List.filterMap (λn=>Option.map (λx=>(n,x)) (AtX n<|AwH (λr x=>if(AtX x.fst r).isNone=true then r++ [x] else r) (ns.zip vs)<|(AuZ (ns.length-ds.length) ns).zip ds)) ns=ns.zip (vs++d2):=by
 have iQ:=K.Ue.symm▸nd;have e:(AuZ (ns.length-ds.length) ns).zip ds=c.zip d1++n2.zip d2:=by rw[K.gK,K.ns,K.ds,AsE,List.drop_left];exact Aw5 K.c
 have fh:=Sx (acc:=(n0++c).zip vs) (L:=c.zip d1) λx m=>by refine K.fst.symm▸?_;exact AtC n0 (List.of_mem_zip m).1
 refine e.symm▸?_;refine List.foldl_append.symm▸?_;refine K.some.symm▸?_;refine fh.symm▸?_;refine(Vq<|K.all▸iQ).symm▸?_;refine K.all▸?_;have q:=Xi (l:=ns.zip (vs++d2)) (pre:=[]) iQ;rw[K.Ue] at q;exact q
end
theorem pdE{p:Au3}(a:p.posonlyargs= [])(b:p.vararg=none)(c:p.kwonlyargs= [])(d:p.kwarg=none):p=⟨[],p.args,none,[],p.kw_defaults,none,p.defaults⟩:=by obtain⟨a1,a2,a3,a4,a5,a6,a7⟩:=p;exact congr (congr (congrArg (λa b c d=>Arguments.mk a a2 b c a5 d a7) a) b) c |> λe=>congr e d
theorem Sf{M:Auw}{A:Ar4}{E:ArR->ArT->Prop}{s:ArT}{fn q:Str}{ar:List Arg}{kd:List (Option Expr)}{df:List Expr}{bd:FuncBody}{sc:Asv}{g:Ar0}{cl:List (Str×Ar0)}{dv kv doc pm:ArR}{an:Option Ar0}{cd ct:ArR}{bi:Ar0}
  {n0 c n2:List Str}{vs d1 d2 ds:List ArR}{Q:List (Str×ArR)->ArT->Prop}(K:Eg (ar.map (·.arg)) vs ds n0 c n2 d1 d2)(nd:(ar.map (·.arg)).Nodup)(hd:H4 s.heap dv ds)
  (h1:vs.length≤(ar.map (·.arg)).length)(h3:ds.length≤(ar.map (·.arg)).length)(h:Q ((ar.map (·.arg)).zip<|vs++d2) s):Ar5 M A (bindArgs ⟨fn,q,⟨[],ar,none,[],kd,none,df⟩,bd,sc,g,cl,dv,kv,doc,pm,an,cd,ct,bi⟩ ⟨vs,[]⟩) Q E s:=by
 show Ar5 M A (Azo dv>>=_) Q E s;refine ArQ (bB hd λr hr=>?_);subst hr;refine GQ (λe=>absurd (of_decide_eq_true (Asw.mp e).1) (Nat.not_lt.mpr h1)) ?_;refine(show AuZ ((r.getD #[]).toList.length-(List.map (·.arg) ar).length) (r.getD #[]).toList=(r.getD #[]).toList by rw[Nat.sub_eq_zero_of_le h3];rfl).symm▸?_;refine GQ (λe=>AsJ ((congrArg (λl=> !List.isEmpty l) K.miss).symm.trans e)) ?_;refine bEq (GN _ _) ?_;have e:=(congrArg (List.filterMap _) (Ar7 (ar.map (·.arg)))).trans (K.fin nd);exact(ArS (e.symm▸h):Ar5 M A (Asl _) Q E s)
theorem Mp{M:Auw}{A:Ar4}{E:ArR->ArT->Prop}{s:ArT}{fd:AvK}{ns:List Str}{vs ds:List ArR}{Q:List (Str×ArR)->ArT->Prop}(P:KH fd.params ns)(hd:H4 s.heap fd.defaults ds)
  (h1:vs.length≤ns.length)(h2:ns.length-vs.length≤ds.length)(h3:ds.length≤ns.length)(h:Q (ns.zip<|vs++ds.drop (ds.length-(ns.length-vs.length))) s):Ar5 M A (bindArgs fd ⟨vs,[]⟩) Q E s:=by
 obtain⟨n0,c,n2,d1,d2,K⟩:=Aee h1 h2 h3;have e:fd= {fd with params:=⟨[],fd.params.args,none,[],fd.params.kw_defaults,none,fd.params.defaults⟩}:=congrArg (λp=>{fd with params:=p}) (pdE P.po P.va P.ko P.kw);have q:=P.ar;subst q;exact e.symm▸Sf K P.nd hd h1 h3 (K.uF▸h)
inductive Jx(C:Cx)(sc:Asv):List (Nm×Bool)->List Str->Prop
 |nil:Jx C sc [] []
 |cons {x b nm l r}:A9 x=some nm->sc.names.lookup nm=some (if b then .cell else .local)->Jx C sc l r->Jx C sc ((x,b)::l) (nm::r)
theorem Jx.length{l r}(h:Jx C sc l r):l.length=r.length:=Jx.rec (motive:=λl r z=>l.length=r.length) rfl (λz z z e=>congrArg Auv e) h
theorem Jx.bind{l r}(p:Jx C sc l r):∀{vs cvs},Ae C W h vs cvs->DX C W h sc (l.zip vs) (r.zip cvs):=by
 induction p with
 |nil=>exact λz=>.nil
 |cons a b _ ih=>
  intro vs cvs q;cases q with
  |nil=>exact .nil
  |cons v q=>exact .cons a b v (ih q)
structure FnAt(C:Cx)(T:Tab)(n:Nat)(cf:CF)(fd:AvK)(body:List Auj)(ns:List Str)(ds:List ArR):Prop where
 bd:fd.body= .stmts body
 clo:fd.closure= []
 co:fd.scope.isCoroutine=false
 gen:fd.scope.isGenerator=false
 kind:fd.scope.kind= .function
 glob:fd.globals=AuS
 bi:fd.builtins=Atu
 code:C.h1.CodeRec fd.code fd.qualname
 ps:KH fd.params ns
 par:Jx C fd.scope cf.params ns
 dfl:H4 C.h1 fd.defaults ds
 dvr:∀(W:Wd) (h:Asb),Based C W h->Ae C W h cf.defs ds
 dle:ds.length≤ns.length
 Sk:Dp C fd.scope.names cf.cells
 fre:∀nm,fd.scope.names.lookup nm≠some .free
 run:∀cl,Cq C n cl->SL C ⟨T,cl⟩ n true fd.scope cf.body body
def Oc(C:Cx)(T:Tab)(n:Nat)(cf:CF)(a:Ar0):Prop:=∃o fd body ns ds,C.h1.get? a=some o∧o.data= .func fd∧FnAt C T n cf fd body ns ds
theorem Se(h:Mo ps ds vs=some bs):vs.length≤ps.length∧ps.length-vs.length≤ds.length∧bs=ps.zip (vs++ds.drop (ds.length-(ps.length-vs.length))):=by
 unfold Mo at h;cases q:both (AsO vs.length ps.length) (AsO (ps.length-vs.length) ds.length) with
 |true=>rw[q] at h;exact⟨ble_iff.mp (bl q),ble_iff.mp (br q),(Ase h).symm⟩
 |false=>rw[q] at h;exact ns h
theorem BQ.deeper{n:Nat}(f:BQ (n+1) true A)(env:Env):BQ n true (A.deeper env):=⟨FY (by decide:1≤2) f.depth,FY (by decide:3≤14) f.units,f.hand⟩
theorem AQ.sp{A:Ar4}{cvs:List ArR}{k:K AV}(h:Asu (model C.prog C.w) A (.call cf ⟨cvs,[]⟩) (AQ C k ke σ W s) s):Ar5 (model C.prog C.w) A (call cf cvs) (Ah C k σ W s<|RV C) (Ac C ke σ W s) s:=
 AzK (Aub h λr s' q=>by
  induction r with
  |error e=>exact q
  |ok f=>induction f<;>first |exact q |exact q.elim)
theorem JS(NL:C.h1.NoLimit){T:Tab}{n:Nat}{cf:CF}{a:Ar0}{cl:CL}(FO:Oc C T n cf a)(ok:Cq C n cl){A:Ar4}{W:Wd}{σ:St}{s:ArT}(f:BQ (n+1) true A)(I:Inv C W σ s)(ar:As A W)
  {vs:List AV}{cvs:List ArR}(hv:Ae C W s.heap vs cvs){bs:List ((Nm×Bool)×AV)}(hb:Mo cf.params cf.defs vs=some bs){k ke:K AV}(h:qD T cl cf bs σ k ke=true):Asu (model C.prog C.w) A (.call (.ref a) ⟨cvs,[]⟩) (AQ C k ke σ W s) s:=by
 obtain⟨o,fd,body,ns,ds,ho,hd,F⟩:=FO;obtain⟨b1,b2,rfl⟩:=Se hb;have dv:=F.dvr W s.heap I.based;have l1:=hv.length;have l2:=dv.length;have l3:=F.par.length;have vY:A.depth<recursionLimit:=Axs (AtH (Axl _ _) f.depth) (by decide:980<1000);refine codeAny_call_function vY (I.base _ _ ho) hd F.co F.gen F.bd (F.code.keeps I.base) (Mp (ds:=ds) F.ps ?_ (by refine l1.symm▸?_;refine l3▸?_;exact b1) (by refine l1.symm▸?_;refine l2.symm▸?_;refine l3▸?_;exact b2) F.dle ?_)
 ·rcases F.dfl with⟨e1,e2⟩|⟨Td,e1,od,e2,e3⟩
  ·exact .inl ⟨e1,e2⟩
  ·exact .inr ⟨Td,e1,od,I.base _ _ e2,e3⟩
 have bind:DX C W s.heap fd.scope (cf.params.zip<|vs++cf.defs.drop (cf.defs.length-(cf.params.length-vs.length))) (ns.zip<|cvs++ds.drop (ds.length-(ns.length-cvs.length))):=by refine l3▸?_;refine l1.symm▸?_;refine l2.symm▸?_;exact F.par.bind (hv.app<|dv.drop _)
 generalize hbs:cf.params.zip (vs++cf.defs.drop (cf.defs.length-(cf.params.length-vs.length)))=bs at h bind;generalize hbd:ns.zip (cvs++ds.drop (ds.length-(ns.length-cvs.length)))=bd at bind ⊢;refine F.clo.symm▸?_;unfold Aze;simp only[Option.isSome_none,AsM,if_false];refine ArQ (AzI ?_);have g:(s.heap.push {cls:=.type "frame",data:=.dict #[]}).get? s.heap.objs.size=some {cls:=.type "frame",data:=.dict #[]}:=Ar9 _ rfl;have hC:C.h1.get? s.heap.objs.size=none:=by
  cases q:C.h1.get? s.heap.objs.size with
  |none=>rfl |some o=>have:=I.base _ _ q;rw[Ag] at this;cases this
 obtain⟨I1,X1⟩:=I.iM (o:=.frame []) (s':={s with heap:=s.heap.push {cls:=.type "frame",data:=.dict #[]}}) (p:=(s.heap.objs.size,s.heap.objs.size)) (fl:=[s.heap.objs.size]) (λz z e=>ArW _ e) (Ag _) (Ag _)
  (λS=>⟨rfl,_,Heap.Ns.new s.heap (.type "frame"),λx v q=>(by cases q),λnm cv q=>(by cases q)⟩) ⟨_,g,trivial⟩ ⟨_,g,trivial⟩ rfl rfl (λb hb=>by refine(Ash.mp hb).symm▸?_;exact⟨hC,_,g,rfl,_,_,rfl⟩)
 have hL:(W.more (s.heap.objs.size,s.heap.objs.size) [s.heap.objs.size]).τ[σ.n]?=some (s.heap.objs.size,s.heap.objs.size):=by show(W.τ++ [_])[σ.n]?=_;refine I.nτ▸?_;simp
 have hLf:s.heap.objs.size∈(W.more (s.heap.objs.size,s.heap.objs.size) [s.heap.objs.size]).fs:=AtC _ (.head _);refine ArQ (Nc F.Sk I1 .nil h λσ2 W2 s2 c2 cs2 h2 X2 I2 L2 u4=>?_);have e2:Jw C W2 fd.scope ⟨σ.n,c2⟩ {scope:=fd.scope,locals:=s.heap.objs.size,globals:=fd.globals,cells:=cs2,qual:=fd.qualname++".<locals>.",func:=some a,code:=fd.code,frame:=some s.heap.objs.size,builtins:=fd.builtins}:=
  ⟨rfl,F.kind,⟨_,Ab X2.τ hL,rfl⟩,λx j nm hx hn z=>L2.get hn hx⟩
 refine Az (NT (A:=A.in1) bind I2 e2 (bind.up I<|X1.trans X2) _ ke h2) (λz s3 q=>ArS ?_) λz z q=>q.base (X1.trans X2)
 obtain⟨_,σ3,W3,h3,X3,I3,_⟩:=q;refine⟨NL.keeps I3.base,codeAny_func ?_⟩;have EI:=(X1.trans X2).trans X3;have ev:AD C (A.deeper {scope:=fd.scope,locals:=s.heap.objs.size,globals:=fd.globals,cells:=cs2,qual:=fd.qualname++".<locals>.",func:=some a,code:=fd.code,frame:=some s.heap.objs.size,builtins:=fd.builtins}) W3 fd.scope ⟨σ.n,c2⟩
   {scope:=fd.scope,locals:=s.heap.objs.size,globals:=fd.globals,cells:=cs2,qual:=fd.qualname++".<locals>.",func:=some a,code:=fd.code,frame:=some s.heap.objs.size,builtins:=fd.builtins}:=by
  refine⟨rfl,F.kind,F.glob,F.bi,(e2.up X3.τ).fr,(e2.up X3.τ).cells,λnm hk=>?_,?_⟩
  ·rcases hk with hk |hk
   ·exact u4 nm (.inr<|F.Sk.has hk)
   ·exact absurd hk (F.fre nm)
  ·obtain⟨l,hl,ha⟩:=ar.up ⟨EI.τ,EI.fs⟩;refine⟨_::l,by show A.frames.map _=_;refine hl.symm▸?_;rfl,λe he=>?_,_,.head _,rfl⟩;rcases Ar3.mp he with rfl |he
   ·exact⟨by show fd.scope.kind≠ .module;refine F.kind.symm▸?_;decide,_,(X2.trans X3).fs.subset hLf,rfl⟩
   ·exact ha e he
 refine ArY (F.run cl ok _ σ3 W3 s3 ⟨σ.n,c2⟩ _ (f.deeper _) I3 ev _ ke h3) (λfl s4 q=>?_) λx s4 q=>?_
 ·obtain⟨fa,σ4,W4,h4,X4,I4,r4⟩:=q;have rE:=EI.trans X4
  induction r4 with
  |next=>exact⟨.AR,σ4,W4,h4,rE,I4,.AR⟩
  |brk=>exact ff h4
  |cont=>exact ff h4
  |ret hv=>exact⟨_,σ4,W4,h4,rE,I4,hv⟩
 ·exact ArY (Pb (Er:=Ac C ke σ3 W3 s3) q ev) (λz z q=>q.base EI) λz z q=>q.base EI
structure ClsAt(C:Cx)(Cl i:Ar0):Prop where
 kin:∃K:Atw,K.In C.h1∧makesIn K Cl=true∧AuU K (.ref Cl) "__init__"=some (some (.ref i))∧typeIn K (.ref i)=some (.type "function")
 fn:H5 C i
theorem J9{r:AV}{b:Bool}(h:r.Bo b false=true):r= .AR∧b=true:=by
 cases r with
 |AR=>exact⟨rfl,h⟩
 |_=>exact ff h
noncomputable abbrev tcA(A:Ar4)(Cl:Ar0)(cvs:List ArR):Ar4:=A.under (.builtin "type.__call__" ⟨.ref Cl::cvs,[]⟩)
theorem BQ.tc{n:Nat}(f:BQ (n+1) true A)(Cl:Ar0)(cvs:List ArR):BQ n true (tcA A Cl cvs):=⟨FY (by decide:1≤2) f.depth,FY (by decide:1≤14) f.units,f.hand⟩
theorem As.tc(h:As A W)(Cl:Ar0)(cvs:List ArR):As (tcA A Cl cvs) W:=by obtain⟨l,a,b⟩:=h;refine⟨l,?_,b⟩;show pushEnvs [] A.frames=some l;refine a.symm▸?_;rfl
theorem WC{n:Nat}{cl:CL}{Cl i:Ar0}(K0:ClsAt C Cl i)(ok:Cq C n cl){A:Ar4}{W:Wd}{σ:St}{s:ArT}(f:BQ (n+1) true A)(I:Inv C W σ s)(ar:As A W)
  {vs:List AV}{cvs:List ArR}(hv:Ae C W s.heap vs cvs){k ke:K AV}(h:cl (.Bd<|.ref i) (.obj σ.n::vs) (σ.new<|.inst Cl []) (λr σ'=>r.Bo (k (.obj σ.n) σ') false) ke=true):
  Asu (model C.prog C.w) A (.call (.ref Cl) ⟨cvs,[]⟩) (AQ C k ke σ W s) s:=by
 obtain⟨⟨K,hK,hm,hi,hf⟩,fo⟩:=K0;obtain⟨hp,g,d,t,os⟩:=s;have X:K.In hp:=hK.keeps I.base;refine make_core (makes_of X hm) (Azb X hi) (λself=>bind_fn X self hf) (.inl rfl) ?_;have gd:((hp.push AyU).push<|instObj Cl hp.objs.size).get? hp.objs.size=some AyU:=ArW _ (Ar9 _ rfl);have gx:((hp.push AyU).push<|instObj Cl hp.objs.size).get? (hp.objs.size+1)=some (instObj Cl hp.objs.size):=by
  have:=Ar9 (hp.push AyU) (o:=instObj Cl hp.objs.size) rfl
  rwa [Att] at this
 obtain⟨I1,X1⟩:=I.make (o:=.inst Cl []) (s':=⟨(hp.push AyU).push<|instObj Cl hp.objs.size,g,d,t,os⟩) (p:=(hp.objs.size+1,hp.objs.size)) (λz z e=>ArW _ (ArW _ e)) (AuO<|Axp _) (Ag _)
  (λS=>⟨⟨_,gx⟩,#[],0,#[],gd,λe he=>by simp at he,As0 _,λx v q=>(by cases q),λnm cv q=>(by simp[Auc,AyY] at q)⟩) ⟨_,gx,trivial⟩ ⟨_,gd,trivial⟩ rfl rfl
 refine Aub (ok.code (tcA A Cl cvs) _ _ _ i _ (.ref (hp.objs.size+1)::cvs) _ ke (f.tc Cl cvs) I1 ((ar.up ⟨X1.τ,X1.fs⟩).tc Cl cvs) fo (.cons (.obj (p:=(hp.objs.size+1,hp.objs.size))<|St.A5 I _)<|I.qZ X1 hv) h) λr s' q=>?_
 induction r with
 |error e=>exact Ac.base X1 q
 |ok fl=>
  induction fl with
  |ret v=>obtain⟨a,σ2,W2,h2,X2,I2,r2⟩:=q;obtain⟨rfl,h2⟩:=J9 h2;refine VR.inv r2 ?_;exact⟨rfl,_,σ2,W2,h2,X1.trans X2,I2,.obj (p:=(hp.objs.size+1,hp.objs.size)) (Ab X2.τ (St.A5 I _))⟩
  |next=>exact q.elim
  |brk=>exact q.elim
  |cont=>exact q.elim
structure GC(B:String)(bm:List ArR):Prop where
 hasB:bm.contains (.type B)=true
 noAttr:bm.contains (.type "AttributeError")=false
 noName:bm.contains (.type "NameError")=false
section
variable{prog:AsR}{w:ArV}{A:Ar4}{E:ArR->ArT->Prop}{R:Auh->ArT->Prop}{h:Asb}{g:Array GenState}{d:Drawn}{t:Nat}{os:Atn}
variable{nm q:Str}{Cl N:Ar0}{bs bm bmB:List ArR}{MV:Bool}{sn:List Str}{sub:List ArR}{ab:Bool}{col:Option Bool}{dd:Option Ar0}{k0 k1 k2 k3 k5:Option ArR}{B newId O2:String}
theorem Oq(F:ExcBaseFacts B newId O2 bmB)(T:GC B bm){M:Auw}{rest:List ArR}{Q:Unit->ArT->Prop}(hC:h.get? Cl=some (AyX nm q Cl N bs bm MV sn sub ab col dd k0 k1 k2 k3 k5 newId))
  (hq:Q () ⟨h,g,d,t,os⟩):Ar5 M A (AyM newId ⟨.ref Cl::rest,[]⟩) Q E ⟨h,g,d,t,os⟩:=by
 have vJ:(Ati Cl::bm).contains (.type B)=true:=by rw[AtZ,T.hasB,Avc]
 have Ag0:=F.noStar;unfold AyM;have e1:=F.newKind;have e2:=F.newSplit;have e3:=F.newRow
 revert e1 e2 e3
 generalize builtinKind newId=k1,splitId newId=k2,Manifest.signature? newId=k3;intro e1 e2 e3;subst e1;subst e2;subst e3;dsimp only
 repeat (first |refine AuH hC ?_ |(refine AzQ hC ?_;refine vJ.symm▸?_)|refine wpAny_staticBase_exc hC ?_ |refine wpAny_madeBy_exc hC ?_ |unfold bne_self_eq_false AsM if_false |wp_step)
 exact hq
theorem Afw(F:ExcBaseFacts B newId O2 bmB)(T:GC B bm){rest:List ArR}(hC:h.get? Cl=some (AyX nm q Cl N bs bm MV sn sub ab col dd k0 k1 k2 k3 k5 newId))
  (hq:R (.ok (.ret (.ref (h.objs.size+1)))) ⟨(h.push {cls:=.type "tuple",data:=.seq rest.toArray}).push
   {cls:=.ref Cl,data:=.fields #[.ref h.objs.size,.none,.none,.none,.bool false,.none]},g,d,t,os⟩)(hW:rest.length≤AtY:=by size_fits):
  Asu (model prog w) A (.builtin newId ⟨.ref Cl::rest,[]⟩) R ⟨h,g,d,t,os⟩:=by
 have AgR:=F.ends;have hcB:(Ati Cl::bm).contains (.type B)=true:=by rw[AtZ,T.hasB,Avc]
 have hcA:(Ati Cl::bm).contains (.type "AttributeError")=false:=by rw[AtZ,T.noAttr];rfl
 have hcN:(Ati Cl::bm).contains (.type "NameError")=false:=by rw[AtZ,T.noName];rfl
 refine codeAny_builtinAt F.entry ?_;unfold Builtin.«BaseException.__new__»;refine PySem.wpAt_bind ?_;show PySem.wpAt _ _ _ (stack>>=_) _ _ _;refine PySem.wpAt_bind (PySem.wpAt_stack λp below=>Ayl ?_)
 wp_walk
 refine Ayl ?_;refine F.owner.symm▸?_
 repeat (first |with_reducible refine wpAny_madeHere_exc F.canon hC ?_ |with_reducible refine AuH hC ?_ |(with_reducible refine AzQ hC ?_;first |rw[hcB] |rw[hcA] |rw[hcN])|wp_step)
 show R _ _;rw[Att];exact hq
theorem Pe(F:ExcBaseFacts B newId O2 bmB)(T:GC B bm){rest:List ArR}{init:ArR}(hC:h.get? Cl=some (AyX nm q Cl N bs bm MV sn sub ab col dd k0 k1 k2 k3 k5 newId))
  (hi:AtV (model prog w) h (AzF (.ref Cl) "__init__") (some init))(hb:∀self,AtV (model prog w) h (bindSpecial init self) (init,[self]))(hW:rest.length≤AtY)
  (hq:Asu (model prog w) (tcA A Cl rest) (.call init ⟨.ref (h.objs.size+1)::rest,[]⟩) (InitBack (h.objs.size+1) R) ⟨(h.push {cls:=.type "tuple",data:=.seq rest.toArray}).push
   {cls:=.ref Cl,data:=.fields #[.ref h.objs.size,.none,.none,.none,.bool false,.none]},g,d,t,os⟩):
  Asu (model prog w) A (.call (.ref Cl) ⟨rest,[]⟩) R ⟨h,g,d,t,os⟩:=by
 have f1:=PySem.tc_lookup;have f2:=PySem.tc_bind (.ref Cl);have hT:(⟨h,g,d,t,os⟩:ArT).TypeIs (.ref Cl) "type":=⟨_,hC,rfl⟩;refine Auy ?_;show Ar5 _ _ (callAny (.ref Cl) _) _ _ _
 repeat (any_goals (first |assumption |with_reducible refine AuH hC ?_ |wp_step))
 refine⟨rfl,?_⟩;refine codeAny_call_builtin_at (Avr _ (by decide +kernel)) entry_typeCall (wpAny_check_type_call_sub hC ?_)
 repeat (first |with_reducible refine AuH hC ?_ |with_reducible refine wpAny_madeBy_exc hC ?_ |wp_step)
 refine codeAny_call_builtin_code (Avr _ F.quiet) (Oq F T hC ?_);refine Afw F T hC ?_ hW;show Ar5 _ _ _ _ _ _;have up:∀b o,h.get? b=some o->((h.push {cls:=.type "tuple",data:=.seq rest.toArray}).push {cls:=.ref Cl,data:=.fields #[.ref h.objs.size,.none,.none,.none,.bool false,.none]}).get? b=some o:=λb o e=>ArW _ (ArW _ e)
 have hC₁:=up _ _ hC;have vN:((h.push {cls:=.type "tuple",data:=.seq rest.toArray}).push
   {cls:=.ref Cl,data:=.fields #[.ref h.objs.size,.none,.none,.none,.bool false,.none]}).get? (h.objs.size+1)=some
   {cls:=.ref Cl,data:=.fields #[.ref h.objs.size,.none,.none,.none,.bool false,.none]}:=by heap_get
 have hcC:(Ati Cl::bm).contains (.ref Cl)=true:=by simp
 unfold AuL
 repeat (first |with_reducible refine AuH vN ?_ |(with_reducible refine AzQ hC₁ ?_;refine hcC.symm▸?_)|wp_step)
 refine PySem.wpAny_isSubtype_exc hC₁ ?_;refine hcC.symm▸?_;rw[if_neg (by decide)];unfold callSpecial? specialOf;have t1:AtV (model prog w) ((h.push {cls:=.type "tuple",data:=.seq rest.toArray}).push {cls:=.ref Cl,data:=.fields #[.ref h.objs.size,.none,.none,.none,.bool false,.none]}) (AzG (.ref (h.objs.size+1))) (.ref Cl):=(Aw6 vN).andThen .now;have i1:=hi.keeps up;have b1:=(hb (.ref (h.objs.size+1))).keeps up;refine ArQ (Aso (ArQ (ArQ (t1.at (i1.at ?_)))));refine Aso (ArQ (b1.at ?_));refine ArQ (AzK (Aub hq λr s' z=>?_));rcases r with e |(v |_ |_ |_)<;>first |exact z |exact z.elim |skip
 obtain⟨rfl,z⟩:=z;exact ArS (ArS z)
end
structure ExcAt(C:Cx)(Cl i:Ar0):Prop where
 cls:Ff C Cl
 obj:∃nm q N bs bm MV sn sub ab col dd k0 k1 k2 k3 k5,C.h1.get? Cl=some (AyX nm q Cl N bs bm MV sn sub ab col dd k0 k1 k2 k3 k5 "Exception.__new__")∧GC "Exception" bm
 kin:∃K:Atw,K.In C.h1∧AuU K (.ref Cl) "__init__"=some (some (.ref i))∧typeIn K (.ref i)=some (.type "function")
 fn:H5 C i
theorem WD{n:Nat}{cl:CL}{Cl i:Ar0}(K0:ExcAt C Cl i)(ok:Cq C n cl){A:Ar4}{W:Wd}{σ:St}{s:ArT}(f:BQ (n+1) true A)(I:Inv C W σ s)(ar:As A W)
  {vs:List AV}{cvs:List ArR}(hl:cvs.length≤4000)(hv:Ae C W s.heap vs cvs){k ke:K AV}(h:cl (.Bd<|.ref i) (.obj σ.n::vs) (σ.new<|.exc Cl none) (λr σ'=>r.Bo (k (.obj σ.n) σ') false) ke=true):
  Asu (model C.prog C.w) A (.call (.ref Cl) ⟨cvs,[]⟩) (AQ C k ke σ W s) s:=by
 refine hide λAx Aa=>?_
 obtain⟨hx,⟨nm,q,N,bs,bm,MV,sn,sub,ab,col,dd,k0,k1,k2,k3,k5,ho,T⟩,⟨K,hK,hi,hf⟩,fo⟩:=K0;obtain⟨hp,g,d,t,os⟩:=s;refine Aa ?_;have X:=hK.keeps I.base;refine Pe PySem.F.excBase_Exception T (I.base _ _ ho) (Azb X hi) (λself=>bind_fn X self hf) (Li hl) ?_;have gt:((hp.push {cls:=.type "tuple",data:=.seq cvs.toArray}).push {cls:=.ref Cl,data:=.fields #[.ref hp.objs.size,.none,.none,.none,.bool false,.none]}).get? (hp.objs.size+1)=some {cls:=.ref Cl,data:=.fields #[.ref hp.objs.size,.none,.none,.none,.bool false,.none]}:=by
  have:=Ar9 (hp.push {cls:=.type "tuple",data:=.seq cvs.toArray}) (o:={cls:=.ref Cl,data:=.fields #[.ref hp.objs.size,.none,.none,.none,.bool false,.none]}) rfl
  rwa [Att] at this
 obtain⟨I1,X1⟩:=I.make (o:=.exc Cl none) (s':=⟨(hp.push {cls:=.type "tuple",data:=.seq cvs.toArray}).push {cls:=.ref Cl,data:=.fields #[.ref hp.objs.size,.none,.none,.none,.bool false,.none]},g,d,t,os⟩) (p:=(hp.objs.size+1,hp.objs.size+1)) (λz z e=>ArW _ (ArW _ e)) (AuO (Axp _)) (AuO (Axp _))
  (λS=>⟨rfl,hx,none,_,_,rfl,gt,rfl⟩) ⟨_,gt,trivial⟩ ⟨_,gt,trivial⟩ rfl rfl
 refine Aub (ok.code (tcA A Cl cvs) _ _ _ i _ (.ref (hp.objs.size+1)::cvs) _ ke (f.tc Cl cvs) I1 ((ar.up ⟨X1.τ,X1.fs⟩).tc Cl cvs) fo (.cons (.obj (p:=(hp.objs.size+1,hp.objs.size+1))<|St.A5 I _)<|I.qZ X1 hv) h) λr s' q=>?_
 induction r with
 |error e=>exact Ac.base X1 q
 |ok fl=>
  induction fl with
  |ret v=>
   refine hide λAx Aa=>?_
   obtain⟨a,σ2,W2,h2,X2,I2,r2⟩:=q;obtain⟨rfl,h2⟩:=J9 h2;refine Aa ?_;refine VR.inv r2 ?_;exact⟨rfl,_,σ2,W2,h2,X1.trans X2,I2,.obj (p:=(hp.objs.size+1,hp.objs.size+1))<|Ab X2.τ<|St.A5 I _⟩
  |next=>exact q.elim
  |brk=>exact q.elim
  |cont=>exact q.elim
def Qf(C:Cx):Prop:=∀(A:Ar4) (σ:St) (W:Wd) (s:ArT) (v:AV) (cv:ArR),A.handled=none->Inv C W σ s->VR C W s.heap v cv->Sp C A σ W s (call (.builtin "sorted") [cv]) (λk z=>i6 v σ k) (RV C)
def FN(C:Cx)(T:Tab)(n:Nat):Prop:=∀(A:Ar4) (σ:St) (W:Wd) (s:ArT) (a:Ar0) (vs:List AV) (cvs:List ArR) (k ke:K AV),BQ n true A->Inv C W σ s->As A W->Ae C W s.heap vs cvs->T.sum a vs σ k=some true->
 Asu (model C.prog C.w) A (.call (.ref a) ⟨cvs,[]⟩) (AQ C k ke σ W s) s
def Kept(C:Cx)(a:Ar0):Prop:=∃K:Atw,K.In C.h1∧keepIn K (.ref a)=true
theorem Kept.rG(h:Kept C a):Dd C (.ref a):=λM hp B=>by obtain⟨K,hK,e⟩:=h;obtain⟨k,hk,l⟩:=looks_keep (M:=M) e (hK.keeps B);exact⟨k,hk.elim .inl (λq=>.inr (.inl q)),l⟩
structure HI(C:Cx)(T:Tab)(fn:Nat->Option CF)(lo:Nat):Prop where
 fns:∀a cf,fn a=some cf->∀n,lo≤n->Oc C T n cf a
 cls:∀a i,T.init a=some i->T.isExc a=false->ClsAt C a i
 exc:∀a i,T.init a=some i->T.isExc a=true->ExcAt C a i
 kf:∀a cf,fn a=some cf->Kept C a
 ki:∀a i,T.init a=some i->Kept C a
 ks:∀a vs σ k r,T.sum a vs σ k=some r->Kept C a
 lim:C.h1.NoLimit
section
variable{A:Ar4}{σ:St}{W:Wd}{s:ArT}{T:Tab}{n:Nat}{cl:CL}{fn:Nat->Option CF}{lo:Nat}
theorem Ms(CT:HI C T fn lo)(J6:lo≤n)(SU:FN C T (n+1))(ok:Cq C n cl)(f:BQ (n+1) true A)(I:Inv C W σ s)(ar:As A W)(hv:Ae C W s.heap vs cvs){k:K AV}(h:gA T fn cl a vs σ k ke=true):
  Asu (model C.prog C.w) A (.call (.ref a) ⟨cvs,[]⟩) (AQ C k ke σ W s) s:=by
 refine Ti h (λr q h=>SU A σ W s a vs cvs k ke f I ar hv (h▸q)) λh=>Ti h (λcf q h=>Cp h λbs qb h=>JS CT.lim (CT.fns a cf q n J6) ok f I ar hv qb h) λh=>Cp h λi q h=>?_
 have hl:=hv.length▸Bn (bl h)
 replace h:=br h
 cases e:T.isExc a with
 |true=>rw[e] at h;exact WD (CT.exc a i q e) ok f I ar hl hv h
 |false=>rw[e] at h;exact WC (CT.cls a i q e) ok f I ar hv h
theorem CG{α:Type}{l:List α}{f:α->α->Bool}{P:List α->Prop}(h:ZC l f=true)(k:∀a b,f a b=true->P [a,b]):P l:=by
 induction l with
 |nil=>exact ff h
 |cons a r=>obtain⟨b,rfl,h⟩:=Gk h;exact k a b h
theorem EE{α:Type}{l:List α}{f:α->Bool}{P:List α->Prop}(h:FG l f=true)(k:∀a,f a=true->P [a]):P l:=by obtain⟨b,rfl,h⟩:=Gk h;exact k b h
theorem Z1{P:ArR->Prop}(h:vC v fr fb ft=true)(k1:∀a,fr a=true->P (.ref a))(k2:∀a,fb a=true->P (.builtin a))(k3:∀a,ft a=true->P (.type a)):P v:=by
 cases v with
 |ref a=>exact k1 a h
 |builtin a=>exact k2 a h
 |type a=>exact k3 a h
 |_=>exact ff h
theorem pA(hh:A.handled=none)(I:Inv C W σ s)(hu:VR C W s.heap u ca)(hv:VR C W s.heap v cb){k:K AV}(ke:K AV)(h:(two u v σ λx y σ=>isNeg (x.sub y) σ λc σ=>bt c (k (.int y) σ) (k (.int x) σ))=true):
  Ar5 (model C.prog C.w) A (call (.builtin "max") [ca,cb]) (Ah C k σ W s (RV C)) (Ac C ke σ W s) s:=by
 refine Jr (P:=λca cb=>Ar5 (model C.prog C.w) A (call (.builtin "max") [ca,cb]) (Ah C k σ W s (RV C)) (Ac C ke σ W s) s) I hu hv h λx y i j t u σ1 n1 hx hy h=>?_
 obtain⟨σ2,n2,h⟩:=Ez n1.1 (Ad.Dv hx hy) h;refine max_two_ints hh λh' tk hk=>?_
 have N:=n1.trans n2;obtain⟨J,Y⟩:=N.1.grow (s':={s with heap:=h',toks:=tk}) hk rfl rfl;by_cases q:j>i
 ·rw[if_pos q];rw[show decide (i-j<0)=true from decide_eq_true (by lia)] at h;exact⟨_,σ2,W,h,N.ext.trans Y,J,.int hy⟩
 ·rw[if_neg q];rw[show decide (i-j<0)=false from decide_eq_false (by lia)] at h;exact⟨_,σ2,W,h,N.ext.trans Y,J,.int hx⟩
theorem Si(SH:Qf C)(hh:A.handled=none)(I:Inv C W σ s){f:String}(hv:Ae C W s.heap vs cvs):Sp C A σ W s (call (.builtin f) cvs) (λk z=>UC f vs σ k) (RV C):=λk ke h=>by
 refine B9 h (λe h=>?_) λz h=>B9 h (λe h=>?_) λz h=>B9 h (λe h=>?_) λz h=>B9 h (λe h=>?_) λz=>ff
 ·refine(of_decide_eq_true e).symm▸?_;exact EE (P:=λvs=>Ae C W s.heap vs cvs->_) h (λa h hv=>Ae.one (P:=λcvs=>Ar5 (model C.prog C.w) A (call (.builtin "len") cvs) (Ah C k σ W s (RV C)) (Ac C ke σ W s) s) hv λca va=>Sp.len I va k ke h) hv
 ·refine(of_decide_eq_true e).symm▸?_;exact CG (P:=λvs=>Ae C W s.heap vs cvs->_) h (λa b h hv=>Ae.two (P:=λcvs=>Ar5 (model C.prog C.w) A (call (.builtin "isinstance") cvs) (Ah C k σ W s (RV C)) (Ac C ke σ W s) s) hv λca cb va vb=>
   VR.AL (P:=λcb=>Ar5 (model C.prog C.w) A (call (.builtin "isinstance") [ca,cb]) (Ah C k σ W s (RV C)) (Ac C ke σ W s) s) vb h (λh=>Z1 (P:=λv=>Ar5 (model C.prog C.w) A (call (.builtin "isinstance") [ca,v]) (Ah C k σ W s (RV C)) (Ac C ke σ W s) s) h (λz=>ff) (λz=>ff) λt h=>Sp.oL I va k ke h) ff) hv
 ·refine(of_decide_eq_true e).symm▸?_;exact EE (P:=λvs=>Ae C W s.heap vs cvs->_) h (λa h hv=>Ae.one (P:=λcvs=>Ar5 (model C.prog C.w) A (call (.builtin "sorted") cvs) (Ah C k σ W s (RV C)) (Ac C ke σ W s) s) hv λca va=>SH A σ W s _ _ hh I va k ke h) hv
 ·refine(of_decide_eq_true e).symm▸?_;exact CG (P:=λvs=>Ae C W s.heap vs cvs->_) h (λa b h hv=>Ae.two (P:=λcvs=>Ar5 (model C.prog C.w) A (call (.builtin "max") cvs) (Ah C k σ W s (RV C)) (Ac C ke σ W s) s) hv λca cb va vb=>pA hh I va vb ke h) hv
theorem Sj(I:Inv C W σ s){f:String}(hv:Ae C W s.heap vs cvs):Sp C A σ W s (call (.type f) cvs) (λk z=>UE f vs σ k) (RV C):=λk ke h=>by
 refine B9 h (λe h=>?_) λz h=>B9 h (λe h=>?_) λz h=>B9 h (λe h=>?_) λz h=>B9 h (λe h=>?_) λz h=>B9 h (λe h=>?_) λz=>ff
 ·refine(of_decide_eq_true e).symm▸?_;exact EE (P:=λvs=>Ae C W s.heap vs cvs->_) h (λa h hv=>Ae.one (P:=λcvs=>Ar5 (model C.prog C.w) A (call (.type "tuple") cvs) (Ah C k σ W s (RV C)) (Ac C ke σ W s) s) hv λca va=>Sp.tuple I va k ke h) hv
 ·refine(of_decide_eq_true e).symm▸?_;exact EE (P:=λvs=>Ae C W s.heap vs cvs->_) h (λa h hv=>Ae.one (P:=λcvs=>Ar5 (model C.prog C.w) A (call (.type "list") cvs) (Ah C k σ W s (RV C)) (Ac C ke σ W s) s) hv λca va=>Sp.list I va k ke h) hv
 ·refine(of_decide_eq_true e).symm▸?_;exact Sp.range I hv k ke h
 ·refine(of_decide_eq_true e).symm▸?_;exact EE (P:=λvs=>Ae C W s.heap vs cvs->_) h (λa h hv=>Ae.one (P:=λcvs=>Ar5 (model C.prog C.w) A (call (.type "enumerate") cvs) (Ah C k σ W s (RV C)) (Ac C ke σ W s) s) hv λca va=>Sp.enum I va k ke h) hv
 ·refine(of_decide_eq_true e).symm▸?_;exact CG (P:=λvs=>Ae C W s.heap vs cvs->_) h (λa b h hv=>Ae.two (P:=λcvs=>Ar5 (model C.prog C.w) A (call (.type "zip") cvs) (Ah C k σ W s (RV C)) (Ac C ke σ W s) s) hv λca cb va vb=>Sp.zip I va vb k ke h) hv
theorem UD(CT:HI C T fn lo)(J6:lo≤n)(SH:Qf C)(SU:FN C T (n+1))(ok:Cq C n cl):Cq C (n+1) (f9 T fn cl):=by
 refine⟨λf vs σ k ke h=>?_,λA σ W s f vs cf cvs ft I ar hf hv k ke h=>?_,λA σ W s a vs cvs k ke ft I ar z hv h=>Ms CT J6 SU ok ft I ar hv h⟩
 ·exact AV.TM (Q:=λf=>∃v,f= .Bd v∧Dd C v) h (λv h=>⟨v,rfl,Z1 (P:=Dd C) h (λa h=>Ti h (λr q z=>(CT.ks _ _ _ _ _ q).rG) λh=>Ti h (λcf q z=>(CT.kf _ _ q).rG) λh=>Cp h λi q z=>(CT.ki _ _ q).rG) (λa z=>Br a) λa z=>UI a⟩) λz=>ff
 ·exact VR.AL (P:=λcf=>Ar5 (model C.prog C.w) A (call cf cvs) (Ah C k σ W s<|RV C) (Ac C ke σ W s) s) hf h (λh=>Z1 (P:=λv=>Ar5 (model C.prog C.w) A (call v cvs) (Ah C k σ W s<|RV C) (Ac C ke σ W s) s) h
   (λa h=>AQ.sp (Ms CT J6 SU ok ft I ar hv h)) (λa h=>Si SH (ft.hand rfl) I hv k ke h) λa h=>Sj I hv k ke h) ff
end
section
variable{prog:AsR}{w:ArV}{K:Type}[DecidableEq K]{knd:KeyKind prog w K}{A:Ar4}{E:ArR->ArT->Prop}{s:ArT}
def H6(knd:KeyKind prog w K)(Bk:List (K×ArR))(i:Nat)(v:ArR):Prop:=∃k x,Bk[i]?=some (k,x)∧knd.is k v=true
theorem KQ{d:Ar0}{Bk:List (K×ArR)}{ep:Nat}{Q:List ArR->ArT->Prop}(hh:A.handled=none)(hd:(d==AuK)=false)(hm:s.heap.DictAt knd d Bk ep)(hn:Bk.length≤15)
  (hQ:∀s' acc,(∀b o,s.heap.get? b=some o->s'.heap.get? b=some o)->s'.gens=s.gens->s'.os=s.os->Awr (H6 knd Bk) acc Bk.length->Q acc.toList s'):Ar5 (model prog w) A (collect<|.ref d) Q E s:=by
 unfold collect;refine ArQ (wpAny_runValue (AtR PySem.F.entry_proto_collect ?_));rw[As6 PySem.F.plain_proto_collect _];show Ar5 _ A.in1 (Ayj []>>=λl=>again (.builtin "list.__iadd__" ⟨[l,.ref d],[]⟩)) _ _ s;refine ArQ (AsF ?_);refine ArS ⟨Aue Ax9 _,AtR PySem.F.entry_list_iadd ?_⟩;rw[As6 Ax9 _];have hm₁:(s.heap.push {cls:=.type "list",data:=.seq ([]:List ArR).toArray}).DictAt knd d Bk ep:=hm.at' λo e=>ArW _ e
 have SJ:d<s.heap.objs.size:=by obtain⟨o,es,ho,_⟩:=hm;exact As2 ho
 show Ar5 _ A.in1 (Avg (.ref s.heap.objs.size) (.ref d) (.ref s.heap.objs.size)) _ _ _;unfold Avg;have hT:=hm₁.dictOf.typeIs (s:={s with heap:=s.heap.push {cls:=.type "list",data:=.seq ([]:List ArR).toArray}});refine JP hT ?_;have h1:Avi (.ref s.heap.objs.size) (.ref d)=false:=by simp[Avi,AtJ SJ]
 refine GQ (by rw[h1];decide) ?_;refine ArQ (wpAny_pyIter_dict hd hm₁ ?_);refine Dz (ArQ ?_);unfold Builtin.List.listLengthHint;have hT2:Shared.TypeIs {s with heap:=(s.heap.push {cls:=.type "list",data:=.seq ([]:List ArR).toArray}).push {cls:=.type "dict_keyiterator",data:=.fields #[.ref d,.int 0 0,.int Bk.length 0,.int ep 0]}} (.ref d) "dict":=by obtain⟨o,ho,hc⟩:=hT;exact⟨o,ArW _ ho,hc⟩
 refine ArQ (AzY hT2 PySem.F.slot_dict_len.lookup ?_);dsimp only;rw[show splitId "dict.__len__"=some ("dict","__len__") from by decide +kernel];dsimp only;refine ArQ (AzP (b:=true) hT2 (by rw[Ay7];kernel_rfl) ?_);refine GQ (by decide) ?_;refine ZV (by decide +kernel) ?_;refine JP hT2 ?_;refine ArS ?_;refine ZV (by decide +kernel) ?_;have hz:(s.heap.push {cls:=.type "list",data:=.seq ([]:List ArR).toArray}).objs.size=s.heap.objs.size+1:=Att ..;rw[hz];refine DA (ArQ ?_);generalize hH:(s.heap.push {cls:=.type "list",data:=.seq ([]:List ArR).toArray}).push {cls:=.type "dict_keyiterator",data:=.fields #[.ref d,.int 0 0,.int Bk.length 0,.int ep 0]}=H;have hS:H.get? s.heap.objs.size=some {cls:=.type "list",data:=.seq ([]:List ArR).toArray}:=by rw[←hH];exact ArW _ (Ar9 _ rfl)
 have hI:H.get? (s.heap.objs.size+1)=some {cls:=.type "dict_keyiterator",data:=.fields #[.ref d,.int 0 0,.int Bk.length 0,.int ep 0]}:=by rw[←hH,←hz];exact Ar9 _ rfl
 have hD:H.DictAt knd d Bk ep:=by rw[←hH];exact hm₁.at' λo e=>ArW _ e
 have old:∀b o,s.heap.get? b=some o->H.get? b=some o:=λb o e=>by rw[←hH];exact ArW _ (ArW _ e)
 show Ar5 _ A.in1 (updateSeq s.heap.objs.size (·.push .none)>>=λz=>updateSeq s.heap.objs.size (·.pop)) _ _ {s with heap:=H};refine ArQ<|Az2 hS rfl ?_;have hS₂:=Asa (Ate (·.push Atd)) hS rfl;refine Az2 hS₂ rfl ?_;have hS₃:=Asa (Ate (·.pop)) hS₂ rfl;have oth:∀b o,b≠s.heap.objs.size->H.get? b=some o->((H.update s.heap.objs.size (Ate (·.push Atd))).update s.heap.objs.size (Ate (·.pop))).get? b=some o:=
  λb o hb e=>(Asj _ _<|AuD hb).trans ((Asj _ _<|AuD hb).trans e)
 have W:=(Walks.dictKeys (prog:=prog) (w:=w) (knd:=knd) (A:=A.in1) hh (s.heap.objs.size+1) d (AtI<|AuG SJ) Bk ep).toS;refine ArS ⟨Aue PySem.F.plain_extend_loop _,codeAny_extend_loopS W (by rw[Ast];omega) s.heap.objs.size (by simp;exact AtJ SJ) _ Bk.length 0 _ _ _ rfl (Auo _) ⟨⟨_,oth _ _ (AxJ _) hI,rfl,rfl⟩,hD.at' λo e=>oth _ _ (AtI SJ) e⟩ hS₃ (ItemsOf.nil _) λs' AdP c' hm hS' AeC=>?_⟩;show Ar5 _ A (load s.heap.objs.size>>=_) _ _ s';refine fY hS' ?_;refine ArS<|hQ s' AdP (λb o e=>?_) hm.gens hm.os AeC;have lt:=As2 e;exact hm.heap b o (by simp;exact⟨AtI lt,AtI<|AuG lt⟩) (oth _ _ (AtI lt)<|old _ _ e)
theorem P0{a:Ar0}{vs:List ArR}{n:Nat}{P:Fin->ArT->Prop}(ho:s.heap.get? a=some (Azp "list" vs.toArray n))(h2:vs.length<2)
  (h:P (.done<|.ret .none) {s with heap:=sortedHeap s.heap a vs vs.toArray}):Ar5 (model prog w) A (Builtin.«list.sort» ⟨[.ref a],[]⟩) P E s:=by
 rw[list_sort_plain];have ha:=As2 ho;refine ArQ (listItems_at ho rfl ?_);refine ArQ (listUpdate_at ho rfl ?_ (by simp[Ast];omega));obtain⟨e1,ho1⟩:∃e1,(s.heap.update a (Ate λz=> #[])).get? a=some (Azp "list" #[] e1):=⟨_,Ay0 ho (λz=> #[])⟩;refine ArQ (seqEpoch_at ho1 rfl ?_);refine ArQ (AzT ?_ (by simp[Ast];omega));refine ArQ (AzS ?_);refine Aso ?_;have ho6:(((s.heap.update a (Ate λz=> #[])).push (Azp "tuple" vs.toArray 0)).push (Azp "list" #[] 0)).get? a=some (Azp "list" #[] e1):=by rw[AvN _ _ _ (by rw[size_push',Heap.size_update];exact AtI (AuG ha)),AvN _ _ _ (by rw[Heap.size_update];exact AtI ha)];exact ho1
 show Ar5 (model prog w) A _ P E {s with heap:=((s.heap.update a (Ate λz=> #[])).push (Azp "tuple" vs.toArray 0)).push (Azp "list" #[] 0)};dsimp only;have En:vs.toArray.size=vs.length:=by simp
 refine ZV (by omega) ?_;rw[if_pos (by omega)];refine AA ?_;rw[StateT.run_pure];refine AA ?_;dsimp only;refine ArQ<|seqEpoch_at ho6 rfl ?_;have out:(arrOf<|SortSt.mk' general' (vs.toArray.zip vs.toArray) #[] 7 none).map (·.2)=vs.toArray:=by show(vs.toArray.zip vs.toArray).map (·.2)=vs.toArray;simp;exact List.map_snd_zip (As0 _)
 refine ArQ<|listUpdate_at ho6 rfl ?_ (hsz2:=by rw[out,En,Ast];omega);simp only[bne_self_eq_false,AsM,if_false];refine ArS ?_;rw[out];exact h
theorem LM{d:Ar0}{Bk:List (K×ArR)}{ep:Nat}{Q:ArR->ArT->Prop}(hh:A.handled=none)(hd:(d==AuK)=false)(hm:s.heap.DictAt knd d Bk ep)(hn:Bk.length<2)
  (hQ:∀s' vs L,s.heap.get? L=none->(∀b o,s.heap.get? b=some o->s'.heap.get? b=some o)->s'.gens=s.gens->s'.os=s.os->Awr (H6 knd Bk) (Aw4 vs) Bk.length->(∃n,s'.heap.get? L=some (Azp "list" vs.toArray n))->Q (.ref L) s'):
  Ar5 (model prog w) A (call (.builtin "sorted") [.ref d]) Q E s:=by
 refine Calls.call_function_entry kind_sorted plain_sorted entry_sorted (args_sorted1 _) ?_;unfold Builtin.«sorted»;refine ArQ (m:=checkCount "sorted" 1 1 _) (ArS ?_);refine ArQ (KQ hh hd hm (by omega) λs1 acc hk hg Hp hit=>?_);have hl:acc.toList.length<2:=by have:=hit.1;simp;omega
 refine ArQ (AzS ?_ (by rw[Ast];omega));have hoL:(s1.heap.push (Azp "list" acc.toList.toArray 0)).get? s1.heap.objs.size=some (Azp "list" acc.toList.toArray 0):=Ar9 _ rfl;refine Dz (ArQ (Ata slot_list_sort ⟨_,hoL,rfl⟩ entry_list_sort (P0 hoL hl ⟨_,rfl,?_⟩) (args_list_sort _)));refine ArS ⟨_,rfl,hQ _ acc.toList s1.heap.objs.size ?_ (λb o e=>?_) hg Hp (by simpa using hit) ?_⟩
 ·cases q:s.heap.get? s1.heap.objs.size with
  |none=>rfl |some o=>have:=As2 (hk _ _ q);exact absurd this (Nat.lt_irrefl _)
 ·have lt:=As2 (hk _ _ e);unfold sortedHeap;rw[Asj _ _ (AtJ lt)];refine ArW _<|ArW _ ?_;rw[Asj _ _ (AtJ lt)];exact ArW _ (hk _ _ e)
 ·unfold sortedHeap;have g1:=Ay0 hoL (λz=>(#[]:Array ArR));have g2:=ArW (Azp "list" #[] 0) (ArW (Azp "tuple" acc.toList.toArray 0) g1);exact⟨_,Ay0 g2 λz=>acc.toList.toArray⟩
end
theorem Hw{l:List (AV×AV)}(h:EG (keysOf l)=some m):(l= []∧m= [])∨∃a v,l= [(.str a,v)]∧m= [.str a]:=by
 cases l with
 |nil=>exact .inl ⟨rfl,(Ase h).symm⟩
 |cons q r=>
  obtain⟨k,v⟩:=q;cases r with
  |nil=>cases k with
   |str a=>exact .inr ⟨a,v,rfl,(Ase h).symm⟩
   |_=>exact ns h
  |cons q r=>have h:EG (k::q.1::keysOf r)=some m:=h;cases k<;>exact ns h
theorem cY{x:Str}{i:Int}{P:Prop}(h:(.inl x:KK)= .inr i):P:=nomatch h
theorem Zf{l:List (AV×AV)}(hm:EG (keysOf l)=some m)(n6:Co C W h l Bk){vs:List ArR}(hi:Awr (H6 (AF C.prog C.w) Bk) (Aw4 vs) Bk.length):Bk.length<2∧Ae C W' h' m vs:=by
 rcases Hw hm with⟨rfl,rfl⟩|⟨a,v,rfl,rfl⟩
 ·exact n6.inv (P:=λBk=>Awr (H6 (AF C.prog C.w) Bk) (Aw4 vs) Bk.length->Bk.length<2∧Ae C W' h' [] vs) (λhi=>⟨by decide,by rw[show vs= [] from Aup hi.1];exact .nil⟩) hi
 ·refine n6.inv (P:=λBk=>Awr (H6 (AF C.prog C.w) Bk) (Aw4 vs) Bk.length->Bk.length<2∧Ae C W' h' [.str a] vs) (λK V n kr z r=>r.inv (P:=λn=>Awr (H6 (AF C.prog C.w) ((K,V)::n)) (Aw4 vs) (n.length+1)->n.length+1<2∧Ae C W' h' [.str a] vs) λhi=>
   kr.inv (P:=λK=>Awr (H6 (AF C.prog C.w) [(K,V)]) (Aw4 vs) 1->0+1<2∧Ae C W' h' [.str a] vs) (λx hx hi=>?_) hi) hi
  obtain⟨v0,rfl⟩:=List.length_eq_one_iff.mp hi.1;obtain⟨k0,x0,e0,e1⟩:=hi.2 0 v0 rfl;obtain⟨rfl,rfl⟩:=Asy (Ase e0);rcases Bu (show JH (.inl x) v0=true from e1) with⟨y,t,e,rfl⟩|⟨i,t,e,rfl⟩
  ·exact⟨by decide,.cons (Ayr e▸ .str hx) .nil⟩
  ·exact cY e
theorem eS{l:List (AV×AV)}(hm:EG (keysOf l)=some m)(n6:Co C W h l Bk):Bk.length<2:=by
 rw[n6.length];rcases Hw hm with⟨rfl,_⟩|⟨a,v,rfl,_⟩
 ·exact Nat.zero_lt_two
 ·exact Nat.one_lt_two
theorem Rv(hs:∃o,C.h1.get? AuK=some o):Qf C:=λA σ W s v cv hh I hv k ke h=>by
 refine VR.Ay (P:=λcv=>Ar5 (model C.prog C.w) A (call (.builtin "sorted") [cv]) (Ah C k σ W s (RV C)) (Ac C ke σ W s) s) hv h (λj p h hj=>I.DC hj h (λl Bk h oj ep hd n6=>Cp h λm hm h=>?_) ff) ff;refine hide λAx Aa=>?_
 obtain⟨o,es,ep2,ho,hc,hd,hk,hp,hn⟩:=hd;refine Aa ?_;refine LM (knd:=AF C.prog C.w) hh (I.Qm hj hs) ⟨o,es,ho,hc,hd,hk,hp,hn⟩ (eS hm n6) λs' vs L hL hkp hg Hp hi ⟨n,hn⟩=>?_
 have J:=I.make (o:=.list none m none) (s':=s') (p:=(L,L)) hkp hL hL
  (λS=>⟨vs,rfl,(Zf hm n6 hi).2,(Ar7 vs).symm▸⟨_,hn,rfl,_,rfl⟩,trivial,trivial,⟨_,hn,rfl,rfl⟩⟩) ⟨_,hn,trivial⟩ ⟨_,hn,trivial⟩ hg Hp
 exact⟨_,_,_,br h,J.2,J.1,.obj<|St.A5 I _⟩
section
set_option genSizeOf false
set_option genInjectivity false
def allR{α:Type}(f:α->Bool)(l:List α):Bool:=LR true (λa z ih=>both (f a) ih) l
theorem AN{α:Type}{f:α->Bool}{l:List α}(h:allR f l=true)(a:α)(m:a∈l):f a=true:=by
 induction l with
 |nil=>exact absurd m AwY
 |cons b l ih=>exact(Ar3.mp m).elim (λe=>e▸bl h) (ih (br h))
def all2{α β:Type}(f:α->β->Bool)(l:List α):List β->Bool:=LR (λm=>LC true (λz z=>false) m) (λa z ih m=>LC false (λb r=>both (f a b) (ih r)) m) l
theorem Hd{α β:Type}{f:α->β->Bool}{P:List α->List β->Prop}(h0:P [] [])(h1:∀a b l m,f a b=true->P l m->P (a::l) (b::m)){l:List α}:∀{m:List β},all2 f l m=true->P l m:=by
 induction l with
 |nil=>intro m h;induction m with
  |nil=>exact h0
  |cons _ _=>exact ff h
 |cons a l ih=>intro m h;induction m with
  |nil=>exact ff h
  |cons b m=>exact h1 a b l m (bl h) (ih (br h))
def Sv:List Nat->List Nat->Bool:=all2 ArX
theorem OE{l:List Nat}(h:Sv l m=true):l=m:=Hd (P:=λl m=>l=m) rfl (λa b l m e q=>(ArU e:a=b)▸q▸rfl) h
theorem MG(l:List Nat):Sv l l=true:=by
 induction l with
 |nil=>rfl |cons a l ih=>exact(congrArg (λb=>both b (Sv l l)) (Auq a)).trans ih
def Iu(a b:Str):Bool:=Sv a.cps.toList b.cps.toList
theorem Vg(h:Iu a b=true):a=b:=congrArg Str.mk (Array.ext'<|OE h)
theorem Iv(a b:Str):(a==b)=Iu a b:=Ato.mpr (beq_iff_eq.trans ⟨λh=>h▸MG _,Vg⟩)
def iL{α:Type}(l:List (Str×α))(s:Str):Option α:=LR none (λp z ih=>bt (Iu s p.1) (some p.2) ih) l
theorem Ll{α:Type}(l:List (Str×α)):iL l s=l.lookup s:=by
 induction l with
 |nil=>rfl |cons p l ih=>show bt (Iu s p.1) (some p.2) (iL l s)=_;rw[Asm,←Iv,ih];cases s==p.1<;>rfl
def Km(s:Str):Bool:=Sv (deL 99 (HN s)) s.cps.toList
theorem BD(h:Km s=true):A9 (HN s)=some s:=by unfold A9;refine(OE h).symm▸?_;exact(congrArg (λb=>bt b (some _) none)<|Auq _).trans rfl
def pH(s t:Str):Bool:=bt (Iu s t) false true
theorem Gf(h:pH s t=true):(s==t)=false:=(Iv s t).trans (B9 (b:=Iu s t) h (λz=>ff) λe z=>e)
structure ZL where
 gl:Nm->Option AV
 ms:List (Pos×Nat)
structure Y(α:Type) where
 g:Bool
 c:α
structure mK where
 e:Bool->Asv->Expr->Y Cd
 b:Bool->Asv->Expr->Y Cb
 t:Bool->Asv->Expr->Y Ct
def tC:Cb:=λz z z z z=>bad "test"
def tD:Cs:=λz z z z z=>bad "statement"
def BS{α β:Type}(f:α->Y β)(l:List α):Bool:=LR true (λa z ih=>both (f a).g ih) l
def codes{α β:Type}(f:α->Y β)(l:List α):List β:=o9 (λa=>(f a).c) l
def HE(l:List Expr):Bool:=LR true (λe z ih=>bt (isStar e) false ih) l
def Bv{α:Type}(l:List α):Bool:=LC true (λz z=>false) l
def y7(p q:Pos):Bool:=both (ArX p.line q.line) (both (ArX p.col q.col) (both (ArX p.endLine q.endLine) (ArX p.endCol q.endCol)))
def WG(l:List (Pos×Nat))(p:Pos):Nat:=LR 0 (λq z ih=>bt (y7 q.1 p) q.2 ih) l
def iO(A:ZL)(p:Pos)(y:Y Cd):Y Cd:=⟨y.g,bt (ArX (WG A.ms p) 0) y.c (iN (WG A.ms p) y.c)⟩
def Ic:Y Cd:=⟨true,R4⟩
def UX(c:Const):Y Cd:=match c with
 | .none=>⟨true,CA .AR⟩ | .bool b=>⟨true,CA (.bool b)⟩ | .int i=>⟨true,CA (.int (.k i))⟩ | .str s=>⟨Km s,CA (.str (HN s))⟩ | .bytes l=>⟨true,CA (.BG l)⟩ |_=>Ic
def dbg(s:Str):Bool:=pH s ("__debug__":Str)
def m3(s:Str):Y Cd:=⟨both (Km s) (both (pH s ("__classdict__":Str)) (dbg s)),tS (HN s)⟩
def iK(A:ZL)(s:Str)(k:Atk):Y Cd:=match k with
 | .local=>⟨both (Km s) (dbg s),x8 (HN s)⟩ | .cell=>m3 s | .free=>m3 s | .globalImplicit=>⟨both (Km s) (dbg s),OR R4 CA (A.gl (HN s))⟩ | .globalExplicit=>Ic
def iJ(s:Str)(k:Atk):Y Ct:=match k with
 | .local=>⟨Km s,S7 (HN s)⟩ | .cell=>⟨Km s,tT (HN s)⟩ |_=>⟨true,R5⟩
noncomputable def fX{α:Type}(d:α)(k:Expr->Str->Pos->α)(e:Expr):α:=match e with
 | .Attribute o s p=>k o s p |_=>d
noncomputable def Zd{α:Type}(d:α)(k:Option Expr->Option Expr->Option Expr->α)(e:Expr):α:=match e with
 | .Slice x y z _=>k x y z |_=>d
noncomputable def WM{α:Type}(d:α)(k:Str->Pos->α)(e:Expr):α:=match e with
 | .Name s p=>k s p |_=>d
noncomputable def tgX(e:Expr):Bool:=match e with
 | .Tuple .. =>true | .Name .. =>true | .Attribute .. =>true | .Subscript .. =>true |_=>false
noncomputable def PB(e:Expr):Bool:=match e with
 | .Tuple .. =>true |_=>false
def unY(op:UnaryOp)(y:Y Cd):Y Cd:=match op with
 | .Not=>⟨y.g,yV y.c⟩ | .USub=>⟨y.g,yQ y.c⟩ |_=>Ic
def Hv(f:Expr->Y Cd)(o:Option Expr):Y Cd:=OR ⟨true,CA .AR⟩ f o
def QS(f:Expr->Y Cd)(o:Option Expr):Y Cd:=OR ⟨false,R4⟩ f o
section
variable(A:ZL)(r:mK)(b:Bool)(sc:Asv)
def Qv(scope:Asv)(elt:Expr)(g:AuW):Bool:=both (CH scope sc)<|both (tgX g.target)<|both (C0 g.iter)<|both (Eb g.is_async 0)<|both (r.e true sc g.iter).g<|
 both (r.t true (Bp scope sc) g.target).g<|both (BS (r.b true<|Bp scope sc) g.ifs) (r.e true (Bp scope sc) elt).g
def gE(scope:Asv)(elt:Expr)(g:AuW):Y Cd:=
 ⟨Qv r sc scope elt g,gF (PB g.target) (r.e true (Bp scope sc) elt).c (r.t true (Bp scope sc) g.target).c (r.e true sc g.iter).c<|codes (r.b true<|Bp scope sc) g.ifs⟩
def Qu(scope:Asv)(elt:Expr)(g h:AuW):Y Cd:=
 ⟨both (Qv r sc scope elt g)<|both (Bv g.ifs)<|both (Bv h.ifs)<|both (Eb h.is_async 0)<|both (tgX h.target)<|both (C0 h.iter)<|both (r.e true (Bp scope sc) h.iter).g (r.t true (Bp scope sc) h.target).g,
  UP (PB g.target) (PB h.target) (r.e true (Bp scope sc) elt).c (r.t true (Bp scope sc) g.target).c (r.e true sc g.iter).c (r.t true (Bp scope sc) h.target).c (r.e true (Bp scope sc) h.iter).c⟩
def gG(scope:Asv)(elt:Expr)(gs:List AuW):Y Cd:=
 LC Ic (λg l=>LC (gE r sc scope elt g) (λh l=>LC (Qu r sc scope elt g h) (λz z=>Ic) l) l) gs
def yG(o:Expr)(s:Str)(ap p:Pos)(es:List Expr):Y Cd:=
 ⟨both (Gg o)<|both (HE es)<|both (AtP (B5 es) 30)<|both (ArX ap.endLine p.line)<|both (Km s)<|both (r.e true sc o).g (BS (r.e true sc) es),iP (r.e true sc o).c (HN s)<|codes (r.e true sc) es⟩
def gB(f:Expr)(es:List Expr)(p:Pos):Y Cd:=
 fX ⟨both (HE es)<|both (r.e true sc f).g<|BS (r.e true sc) es,callC (r.e true sc f).c<|codes (r.e true sc) es⟩ (λo s ap=>yG r sc o s ap p es) f
def xE(ex:Expr):Y Cd:=iO A ex.pos<|match ex with
 | .Constant c _ _=>UX c | .Name s _=>OR Ic (iK A s) (iL sc.names s) | .BoolOp op es _=>⟨both (HE es) (BS (r.e b sc) es),JQ op (codes (r.e b sc) es)⟩ | .BinOp x op y _=>⟨both (r.e b sc x).g (r.e b sc y).g,tH op (r.e b sc x).c (r.e b sc y).c⟩ | .UnaryOp op x _=>unY op (r.e b sc x) | .IfExp t x y _=>⟨both (r.b b sc t).g (both (r.e b sc x).g (r.e b sc y).g),wG (r.b b sc t).c (r.e b sc x).c (r.e b sc y).c⟩ | .Dict ks vs _=>⟨both (ArX (B5 ks) (B5 vs)) (both (BS (QS (r.e b sc)) ks) (BS (r.e b sc) vs)),Hk (codes (QS (r.e b sc)) ks) (codes (r.e b sc) vs)⟩ | .List es _=>⟨both (HE es) (BS (r.e b sc) es),Ed (codes (r.e b sc) es)⟩ | .Tuple es _ _=>⟨both (HE es) (BS (r.e b sc) es),AaA (codes (r.e b sc) es)⟩ | .ListComp elt gs scope _=>bt b (gG r sc scope elt gs) Ic | .Compare x ops es _=>⟨both (both (HE es) (both (EZ ops es) (ArX (B5 ops) (B5 es)))) (both (r.e b sc x).g (BS (r.e b sc) es)),t7 (r.e b sc x).c ops (codes (r.e b sc) es)⟩ | .Call f es ks p=>bt (both b (Bv ks)) (gB r sc f es p) Ic | .Attribute o s _=>⟨both (Gg o) (both (Km s) (r.e b sc o).g),fV (r.e b sc o).c (HN s)⟩
 | .Subscript o i _=>Zd ⟨both (r.e b sc o).g (r.e b sc i).g,Aaj (r.e b sc o).c (r.e b sc i).c⟩ (λx y z=>
   ⟨both (r.e b sc o).g<|both (Hv (r.e b sc) x).g<|both (Hv (r.e b sc) y).g (Hv (r.e b sc) z).g,Aag (r.e b sc o).c (Hv (r.e b sc) x).c (Hv (r.e b sc) y).c (Hv (r.e b sc) z).c⟩) i
 |_=>Ic
def qY(ex:Expr):Y Cb:=⟨(r.e b sc ex).g,AaG (r.e b sc ex).c⟩
def xB(ex:Expr):Y Cb:=match ex with
 | .UnaryOp op x p=>(match op with | .Not=>⟨(r.b b sc x).g,yT (r.b b sc x).c⟩|op=>qY r b sc (.UnaryOp op x p)) | .BoolOp op es _=>⟨BS (r.b b sc) es,allB op (codes (r.b b sc) es)⟩ | .IfExp t x y _=>⟨both (r.b b sc t).g (both (r.b b sc x).g (r.b b sc y).g),wF (r.b b sc t).c (r.b b sc x).c (r.b b sc y).c⟩ | .Compare x ops es _=>⟨both (both (HE es) (both (EZ ops es) (ArX (B5 ops) (B5 es)))) (both (r.e b sc x).g (BS (r.e b sc) es)),t6 (r.e b sc x).c ops (codes (r.e b sc) es)⟩ |ex=>qY r b sc ex
def xT(ex:Expr):Y Ct:=match ex with
 | .Name s _=>OR ⟨true,R5⟩ (iJ s) (iL sc.names s) | .Attribute o s _=>⟨both (Km s) (r.e b sc o).g,fW (r.e b sc o).c (HN s)⟩ | .Subscript o i _=>⟨both (r.e b sc o).g (r.e b sc i).g,Aal (r.e b sc o).c (r.e b sc i).c⟩ | .Tuple es _ _=>bt b ⟨both (HE es) (BS (r.t b sc) es),ZA (codes (r.t b sc) es)⟩ ⟨true,R5⟩ |_=>⟨true,R5⟩
end
def tri(A:ZL)(n:Nat):mK:=NR ⟨λz z z=>Ic,λz z z=>⟨true,tC⟩,λz z z=>⟨true,R5⟩⟩ (λz r=>⟨xE A r,xB r,xT r⟩) n
def DO:Y Cs:=⟨true,tD⟩
def UW(e:Expr):Bool:=match e with
 | .Constant c _ _=>UU c |_=>false
def namesOf(l:List Expr):List Str:=LR [] (λe z ih=>WM ih (λs z=>s::ih) e) l
def Wv(sc:Asv)(s:Str):Y Ct:=⟨both (Km s) (OR false (λk=>match k with | .local=>true |_=>false) (iL sc.names s)),S7 (HN s)⟩
section
variable(A:ZL)(r:mK)(b:Bool)(sc:Asv)
def Aaq(v:Expr)(OH ZQ:List Expr):Y Cs:=⟨both (OC sc (namesOf OH) OH ZQ) (both (BS (Wv sc) (namesOf OH).reverse) (r.e true sc v).g),Aap (B5 (codes (Wv sc) (namesOf OH).reverse)) (codes (Wv sc) (namesOf OH).reverse) (r.e true sc v).c⟩
def sW(et v:Expr)(sp:Pos):Y Cs:=WM DO (λs tp=>match v with
 | .ListComp elt gs scope p=>LC DO (λg l=>LC ⟨both (Um scope sc s tp p sp) (both (r.t true sc (.Name s tp)).g (Qv r sc scope elt g)),
   sV (PB g.target) (r.t true sc<|.Name s tp).c (r.e true (Bp scope sc) elt).c (r.t true (Bp scope sc) g.target).c (r.e true sc g.iter).c (codes (r.b true<|Bp scope sc) g.ifs)⟩ (λz z=>DO) l) gs
 |_=>DO) et
def sY(et v:Expr)(sp:Pos):Y Cs:=bt (Gh v) (bt (Lr et v) ⟨both (bt (isStar et) false true) (both (r.e b sc v).g (r.t b sc et).g),sX (r.t b sc et).c (r.e b sc v).c⟩
 (bt b (OR DO (λOH=>OR DO (Aaq r sc v OH) (B1 v))<|B1 et) DO)) (bt b (sW r sc et v sp) DO)
def xS(f:Bool->Asv->Auj->Y Cs)(st:Auj):Y Cs:=match st with
 | .Expr v _=>bt (UW v) ⟨true,Cj .next⟩ ⟨both (Gh v) (r.e b sc v).g,gO (r.e b sc v).c⟩ | .Pass _=>⟨true,Cj .next⟩ | .Break _=>⟨true,Cj .brk⟩ | .Continue _=>⟨true,Cj .cont⟩ | .Return o _=>OR ⟨true,retS (CA .AR)⟩ (λv=>⟨(r.e b sc v).g,retS (r.e b sc v).c⟩) o | .Assign ts v p=>LC DO (λet l=>LC (sY r b sc et v p) (λz z=>DO) l) ts | .If t x y _=>⟨both (r.b b sc t).g (both (BS (f b sc) x) (BS (f b sc) y)),wH (r.b b sc t).c (LJ (codes (f b sc) x)) (LJ (codes (f b sc) y))⟩ | .While t x y _=>bt (Bv y) ⟨both (r.b b sc t).g (BS (f b sc) x),q6 0 (r.b b sc t).c (LJ (codes (f b sc) x))⟩ DO | .For t i x y _=>bt b (bt (Bv y) ⟨both (both (tgX t) (C0 i)) (both (r.e true sc i).g (both (r.t true sc t).g (BS (f true sc) x))),uU (PB t) (r.t true sc t).c (r.e true sc i).c (LJ (codes (f true sc) x))⟩ DO) DO | .Raise e c _=>bt b (OR DO (λv=>OR ⟨(r.e true sc v).g,Aab (r.e true sc v).c⟩ (λz=>DO) c) e) DO |_=>DO
end
def stm(A:ZL)(n:Nat):Bool->Asv->Auj->Y Cs:=NR (λz z z=>DO) (λz f b sc st=>xS (tri A 40) b sc f st) n
end
section
variable{A:ZL}{X:CX}{m:Nat}{b:Bool}{sc:Asv}
theorem SE.bad:SE C X m b sc R4 e:=λz z z z z z z z z z z q=>ff q
theorem SB.bad:SB C X m b sc tC e:=λz z z z z z z z z z z q=>ff q
theorem ST.bad:ST C X m b sc R5 e:=λz z z z z z z z z z z z z z q=>ff q
theorem SS.bad:SS C X m b sc tD e:=λz z z z z z z z z z z q=>ff q
abbrev YE(C:Cx)(X:CX)(m:Nat)(b:Bool)(sc:Asv)(e:Expr)(y:Y Cd):Prop:=y.g=true->SE C X m b sc y.c e
abbrev YB(C:Cx)(X:CX)(m:Nat)(b:Bool)(sc:Asv)(e:Expr)(y:Y Cb):Prop:=y.g=true->SB C X m b sc y.c e
abbrev YT(C:Cx)(X:CX)(m:Nat)(b:Bool)(sc:Asv)(e:Expr)(y:Y Ct):Prop:=y.g=true->ST C X m b sc y.c e
abbrev YS(C:Cx)(X:CX)(m:Nat)(b:Bool)(sc:Asv)(e:Auj)(y:Y Cs):Prop:=y.g=true->SS C X m b sc y.c e
theorem YE.bad:YE C X m b sc e Ic:=λz=>.bad
theorem YS.bad:YS C X m b sc e DO:=λz=>.bad
theorem E0{e:Expr}{es:List Expr}(h:HE (e::es)=true):isStar e=false∧HE es=true:=B9 (b:=isStar e) h (λz=>ff) λa c=>⟨a,c⟩
theorem KI.of{f:Expr->Y Cd}(h:∀e,YE C X m b sc e<|f e)(es:List Expr)(h1:HE es=true)(h2:BS f es=true):KI C X m b sc (codes f es) es:=by
 induction es with
 |nil=>exact .nil
 |cons e es ih=>exact .cons (h e (bl h2)) (E0 h1).1 (ih (E0 h1).2 (br h2))
theorem TQ.of{f:Expr->Y Cb}(h:∀e,YB C X m b sc e<|f e)(es:List Expr)(h2:BS f es=true):TQ C X m b sc (codes f es) es:=by
 induction es with
 |nil=>exact .nil
 |cons e es ih=>exact .cons (h e (bl h2)) (ih (br h2))
theorem ZN.of{f:Expr->Y Ct}(h:∀e,YT C X m b sc e<|f e)(es:List Expr)(h1:HE es=true)(h2:BS f es=true):ZN C X m b sc (codes f es) es:=by
 induction es with
 |nil=>exact .nil
 |cons e es ih=>exact .cons (h e (bl h2)) (E0 h1).1 (ih (E0 h1).2 (br h2))
theorem ZM.of{f:Expr->Y Cd}(h:∀e,YE C X m b sc e<|f e)(ks:List (Option Expr)):∀vs:List Expr,B5 ks=B5 vs->BS (QS f) ks=true->BS f vs=true->ZM C X m b sc (codes (QS f) ks) (codes f vs) ks vs:=by
 induction ks with
 |nil=>intro vs h1 _ _;induction vs with
  |nil=>exact .nil
  |cons _ _=>exact nomatch h1
 |cons k ks ih=>intro vs h1 h2 h3;induction vs with
  |nil=>exact nomatch h1
  |cons v vs=>induction k with
   |none=>exact ff h2
   |some k=>exact .cons (h k (bl h2)) (h v (bl h3)) (ih vs (Auv.inj h1) (br h2) (br h3))
theorem JV{α β:Type}(f:α->Y β)(l:List α):B5 (codes f l)=B5 l:=by
 induction l with
 |nil=>rfl |cons a l ih=>exact congrArg Auv ih
theorem Rh{α β γ:Type}{l:List γ}{f:α->Y β}{es:List α}(h:ArX (B5 l) (B5 es)=true):l.length=(codes f es).length:=by rw[←Ca,←Ca,JV];exact ArU h
structure Ub(C:Cx)(X:CX)(m:Nat)(r:mK):Prop where
 e:∀b sc ex,YE C X m b sc ex (r.e b sc ex)
 b:∀b sc ex,YB C X m b sc ex (r.b b sc ex)
 t:∀b sc ex,YT C X m b sc ex (r.t b sc ex)
structure FL(C:Cx)(X:CX)(m:Nat):Prop where
 TK:CP C X.T
 AK:CN C X.T
 MO:DM C X.T
 SO:Ua C X.T
 cl:Cq C m X.cl
def N9(C:Cx)(A:ZL):Prop:=∀s v,A9 (HN s)=some s->A.gl (HN s)=some v->TZ C s v
theorem P7(h:tgX e=true):Fq (PB e) e:=by
 cases e with
 |Tuple=>exact⟨_,_,_,rfl⟩
 |Name=>exact λz z=>rfl
 |Attribute=>exact λz z=>rfl
 |Subscript=>exact λz z=>rfl
 |_=>exact ff h
theorem mR{α:Type}{P:Expr->α->Prop}{d:α}{k:Expr->Str->Pos->α}(e:Expr)(h0:notAttr e=true->P e d)(h1:∀o s p,P (.Attribute o s p)<|k o s p):P e (fX d k e):=by
 cases e with
 |Attribute o s p=>exact h1 o s p
 |_=>exact h0 rfl
theorem eQ{α:Type}{P:Expr->α->Prop}{d:α}{k:Option Expr->Option Expr->Option Expr->α}(e:Expr)(h0:Gm e=true->P e d)(h1:∀x y z p,P (.Slice x y z p)<|k x y z):P e (Zd d k e):=by
 cases e with
 |Slice x y z p=>exact h1 x y z p
 |_=>exact h0 rfl
theorem pG{α:Type}{P:Expr->α->Prop}{d:α}{k:Str->Pos->α}(e:Expr)(h0:∀e,P e d)(h1:∀s p,P (.Name s p)<|k s p):P e (WM d k e):=by
 cases e with
 |Name s p=>exact h1 s p
 |_=>exact h0 _
theorem So{c:Const}{k p}:YE C X m b sc (.Constant c k p) (UX c):=by
 induction c with
 |none=>exact λz=>.AR
 |bool=>exact λz=>.bool
 |int=>exact λz=>.int
 |str=>exact λh=>.str (BD h)
 |bytes=>exact λz=>.BG
 |_=>exact .bad
theorem Qr{s:Str}{p}(hk:sc.names.lookup s=some .cell∨sc.names.lookup s=some .free):YE C X m b sc (.Name s p) (m3 s):=λh=>.Sk (BD<|bl h) hk (Gf<|bl<|br h) (Gf<|br<|br h)
theorem Wb(K:N9 C A){s:Str}{p}{k:Atk}(hk:sc.names.lookup s=some k):YE C X m b sc (.Name s p) (iK A s k):=by
 induction k with
 | «local» =>exact λh=>.l (BD (bl h)) hk (Gf (br h))
 |cell=>exact Qr (.inl hk)
 |free=>exact Qr (.inr hk)
 |globalImplicit=>
  intro h;show SE C X m b sc (OR R4 CA<|A.gl<|HN s) _;cases q:A.gl (HN s) with
  |none=>exact .bad
  |some v=>exact .glo hk (Gf (br h)) (K s v (BD (bl h)) q)
 |globalExplicit=>exact .bad
theorem T4{α β:Type}{n:β}{f:α->β}{P:β->Prop}{o:Option α}(h0:P n)(h1:∀a,o=some a->P (f a)):P (OR n f o):=by
 induction o with
 |none=>exact h0
 |some a=>exact h1 a rfl
theorem Od{α β:Type}{n:β}{f:α->List α->β}{P:List α->β->Prop}(l:List α)(h0:P [] n)(h1:∀a r,P (a::r)<|f a r):P l (LC n f l):=by
 induction l with
 |nil=>exact h0
 |cons a r=>exact h1 a r
theorem A6{α:Type}{l:List α}(h:Bv l=true):l= []:=by
 induction l with
 |nil=>rfl |cons=>exact ff h
theorem WH(h:YE C X m b sc e y):YE C X m b sc e (iO A p y):=λq=>Df (P:=λc=>SE C X m b sc c e) (λz=>h q) λz=>.mark (h q)
theorem Lw{f:Expr->Y Cd}(h:∀e,YE C X m b sc e<|f e)(q:(Hv f o).g=true):Fs C X m b sc (Hv f o).c o:=by
 induction o with
 |none=>exact .AR
 |some e=>exact .some (h e q)
section
variable{r:mK}(R:Ub C X m r)
include R
omit R in
theorem aY(g:AuW):g=⟨g.target,g.iter,g.ifs,g.is_async⟩:=by cases g;rfl
structure rW(C:Cx)(X:CX)(m:Nat)(sc scope:Asv)(elt:Expr)(g:AuW)(r:mK):Prop where
 hc:CH scope sc=true
 ow:Fq (PB g.target) g.target
 hs:C0 g.iter=true
 as:g=⟨g.target,g.iter,g.ifs,0⟩
 hi:SE C X m true sc (r.e true sc g.iter).c g.iter
 ht:ST C X m true (Bp scope sc) (r.t true (Bp scope sc) g.target).c g.target
 hf:TQ C X m true (Bp scope sc) (codes (r.b true<|Bp scope sc) g.ifs) g.ifs
 he:SE C X m true (Bp scope sc) (r.e true (Bp scope sc) elt).c elt
theorem Ik(h:Qv r sc scope elt g=true):rW C X m sc scope elt g r:=
 have h2:=br h;have h3:=br h2;have h4:=br h3;have h5:=br h4;have h6:=br h5;have h7:=br h6
 ⟨bl h,P7<|bl h2,bl h3,(aY g).trans<|congrArg (Comprehension.mk _ _ _)<|Bj<|bl h4,R.e _ _ _<|bl h5,R.t _ _ _<|bl h6,.of (R.b _ _) _<|bl h7,R.e _ _ _<|br h7⟩
theorem UO{scope:Asv}{elt:Expr}{g:AuW}{p}:YE C X m true sc (.ListComp elt [g] scope p) (gE r sc scope elt g):=λh=>
 have q:=Ik R h
 q.as▸SE.comp q.hc q.ow q.hs q.hi q.ht q.hf q.he
theorem UQ{scope:Asv}{elt:Expr}{g k:AuW}{p}:YE C X m true sc (.ListComp elt [g,k] scope p) (Qu r sc scope elt g k):=λh=>by obtain⟨t1,i1,f1,a1⟩:=g;obtain⟨t2,i2,f2,a2⟩:=k;have q:=Ik R (bl h);have h2:=br h;have h3:=br h2;have h4:=br h3;have h5:=br h4;have h6:=br h5;have h7:=br h6;obtain rfl:f1= []:=A6 (bl h2);obtain rfl:f2= []:=A6 (bl h3);obtain rfl:a1=0:=congrArg Comprehension.is_async q.as;obtain rfl:a2=0:=Bj (bl h4);exact SE.Qu q.hc q.ow q.hs q.hi q.ht (P7<|bl h5) (bl h6) (R.e _ _ _<|bl h7) (R.t _ _ _<|br h7) q.he
theorem UR{scope:Asv}{elt:Expr}{gs:List AuW}{p}:YE C X m true sc (.ListComp elt gs scope p) (gG r sc scope elt gs):=
 Od (P:=λgs y=>YE C X m true sc (.ListComp elt gs scope p) y) gs .bad λg l=>Od (P:=λl y=>YE C X m true sc (.ListComp elt (g::l) scope p) y) l (UO R) λk l=>
  Od (P:=λl y=>YE C X m true sc (.ListComp elt (g::k::l) scope p) y) l (UQ R) λz z=>.bad
theorem UG(G:FL C X m){f:Expr}{es:List Expr}{p}:YE C X m true sc (.Call f es [] p) (gB r sc f es p):=
 mR (P:=λf y=>YE C X m true sc (.Call f es [] p) y) f (λhf h=>.call G.cl hf (R.e _ _ f<|bl<|br h) (.of (R.e _ _) _ (bl h)<|br<|br h)) λo s ap h=>
  have h2:=br h;have h3:=br h2;have h4:=br h3;have h5:=br h4
  .FF G.AK G.MO G.cl (BD<|bl h5) (bl h) (R.e _ _ _<|bl<|br h5) (.of (R.e _ _) _ (bl h2)<|br<|br h5) (Ca es▸Asp (bl h3)) (beq_iff_eq.mpr<|ArU<|bl h4)
theorem AcT(K:N9 C A)(G:FL C X m)(b:Bool)(sc:Asv)(ex:Expr):YE C X m b sc ex (xE A r b sc ex):=WH (by
 cases ex with
 |Constant c k p=>exact So
 |Name s p=>exact T4 (P:=YE C X m b sc (.Name s p)) .bad λk q=>Wb K (Ll _▸q)
 |BoolOp op es p=>exact λh=>.Ol (.of (R.e b sc) es (bl h) (br h))
 |BinOp x op y p=>exact λh=>.bin (R.e _ _ _ (bl h)) (R.e _ _ _ (br h))
 |UnaryOp op x p=>induction op with
  |Not=>exact λh=>.not (R.e _ _ _ h)
  |USub=>exact λh=>.neg (R.e _ _ _ h)
  |_=>exact .bad
 |IfExp t x y p=>exact λh=>.wD (R.b _ _ _ (bl h)) (R.e _ _ _ (bl (br h))) (R.e _ _ _ (br (br h)))
 |Dict ks vs p=>exact λh=>.dict (.of (R.e b sc) ks vs (ArU (bl h)) (bl (br h)) (br (br h)))
 |List es p=>exact λh=>.list (.of (R.e b sc) es (bl h) (br h))
 |Tuple es k p=>exact λh=>.Af (.of (R.e b sc) es (bl h) (br h))
 |ListComp elt gs scope p=>induction b with
  |true=>exact UR R
  |false=>exact .bad
 |Compare x ops es p=>exact λh=>.cmp G.TK (R.e _ _ _ (bl (br h))) (.of (R.e b sc) es (bl (bl h)) (br (br h))) (bl (br (bl h))) (Rh (br (br (bl h))))
 |Call f es ks p=>exact Df (P:=YE C X m b sc (.Call f es ks p)) (λq=>(show b=true from bl q)▸A6 (br q)▸UG R G) λzz=>.bad
 |Attribute o s p=>exact λh=>.attr G.AK (BD (bl (br h))) (bl h) (R.e _ _ _ (br (br h)))
 |Subscript o i p=>exact eQ (P:=λi y=>YE C X m b sc (.Subscript o i p) y) i (λq h=>.sub G.TK q (R.e _ _ _ (bl h)) (R.e _ _ i (br h))) λx y z p h=>SE.slc (R.e _ _ _ (bl h)) (Lw (R.e b sc) (bl (br h))) (Lw (R.e b sc) (bl (br (br h)))) (Lw (R.e b sc) (br (br (br h))))
 |_=>exact .bad)
theorem RM(h:G5 ex=true):YB C X m b sc ex (qY r b sc ex):=λq=>.val (R.e _ _ _ q) h
theorem AcS(G:FL C X m)(b:Bool)(sc:Asv)(ex:Expr):YB C X m b sc ex (xB r b sc ex):=by
 cases ex with
 |UnaryOp op x p=>induction op with
  |Not=>exact λh=>.not (R.b _ _ _ h)
  |_=>exact RM R rfl
 |BoolOp op es p=>exact λh=>.Ol (.of (R.b b sc) es h)
 |IfExp t x y p=>exact λh=>.wD (R.b _ _ _ (bl h)) (R.b _ _ _ (bl (br h))) (R.b _ _ _ (br (br h)))
 |Compare x ops es p=>exact λh=>.cmp G.TK (R.e _ _ _ (bl (br h))) (.of (R.e b sc) es (bl (bl h)) (br (br h))) (bl (br (bl h))) (Rh (br (br (bl h))))
 |_=>exact RM R rfl
omit R in
theorem Wa{s:Str}{p}{k:Atk}(hk:sc.names.lookup s=some k):YT C X m b sc (.Name s p) (iJ s k):=by
 induction k with
 | «local» =>exact λh=>.l (BD h) hk
 |cell=>exact λh=>.Sk (BD h) hk
 |_=>exact λz=>.bad
theorem AcV(G:FL C X m)(b:Bool)(sc:Asv)(ex:Expr):YT C X m b sc ex (xT r b sc ex):=by
 cases ex with
 |Name s p=>exact T4 (P:=YT C X m b sc (.Name s p)) (λz=>.bad) λk q=>Wa (Ll _▸q)
 |Attribute o s p=>exact λh=>.attr G.AK (BD (bl h)) (R.e _ _ _ (br h))
 |Subscript o i p=>exact λh=>.sub (R.e _ _ _ (bl h)) (R.e _ _ _ (br h))
 |Tuple es k p=>induction b with
  |true=>exact λh=>.Af (.of (R.t true sc) es (bl h) (br h))
  |false=>exact λz=>.bad
 |_=>exact λz=>.bad
end
theorem P8(K:N9 C A)(G:FL C X m)(n:Nat):Ub C X m (tri A n):=by
 induction n with
 |zero=>exact⟨λz z z=>.bad,λz z z z=>.bad,λz z z z=>.bad⟩
 |succ n ih=>exact⟨AcT ih K G,AcS ih G,AcV ih G⟩
end
section
variable{A:ZL}{X:CX}{m:Nat}{b:Bool}{sc:Asv}
theorem SL.of{f:Auj->Y Cs}(h:∀s,YS C X m b sc s<|f s)(l:List Auj)(q:BS f l=true):SL C X m b sc (LJ<|codes f l) l:=by
 induction l with
 |nil=>exact .nil
 |cons s l ih=>exact .cons (h s (bl q)) (ih (br q))
theorem mH.of(l:List Str)(q:BS (Wv sc) l=true):mH C sc (codes (Wv sc) l) l:=by
 induction l with
 |nil=>exact .nil
 |cons s l ih=>
  have q1:=bl q;exact .cons (BD<|bl q1) (T4 (P:=λx=>x=true->sc.names.lookup s=some .local) ff (λk e h=>by
   rw[←Ll,e]
   induction k with
   | «local» =>rfl
   |_=>exact ff h) (br q1)) (ih (br q))
theorem Sn{p}(h:UW e=true):SS C X m b sc (Cj .next) (.Expr e p):=by
 cases e with
 |Constant c k q=>exact .const h
 |_=>exact ff h
section
variable{r:mK}(R:Ub C X m r)
include R
theorem eW{OH ZQ:List Expr}{k1 p1 k2 p2 p}:YS C X m true sc (.Assign [.Tuple OH k1 p1] (.Tuple ZQ k2 p2) p) (Aaq r sc (.Tuple ZQ k2 p2) OH ZQ):=λh=>
 have h2:=br h
 .swp (ns:=namesOf OH) (bl h) (.of _<|bl h2) (by rw[JV,Ca,AwR]) (R.e _ _ _<|br h2)
theorem aG{et v:Expr}{p}:YS C X m true sc (.Assign [et] v p) (sW r sc et v p):=
 pG (P:=λet y=>YS C X m true sc (.Assign [et] v p) y) et (λz=>.bad) λs tp=>by
  cases v with
  |ListComp elt gs scope q=>
   exact Od (P:=λgs y=>YS C X m true sc (.Assign [.Name s tp] (.ListComp elt gs scope q) p) y) gs .bad λg l=>Od (P:=λl y=>YS C X m true sc (.Assign [.Name s tp] (.ListComp elt (g::l) scope q) p) y) l
    (λh=>
     have c:=Ik R (br<|br h)
     c.as▸SS.asc (bl h) (R.t _ _ _<|bl<|br h) c.hc c.ow c.hs c.hi c.ht c.hf c.he) λz z=>.bad
  |_=>exact .bad
theorem aH{et v:Expr}{p}:YS C X m b sc (.Assign [et] v p) (sY r b sc et v p):=
 Df (P:=YS C X m b sc (.Assign [et] v p)) (λn=>Df (P:=YS C X m b sc (.Assign [et] v p))
  (λw h=>.asg n w (B9 (b:=isStar et) (bl h) (λz=>ff) λe z=>e) (R.e _ _ _<|bl<|br h) (R.t _ _ _<|br<|br h))
  λz=>Df (P:=YS C X m b sc (.Assign [et] v p)) (λe=>T4 (P:=YS C X m b sc (.Assign [et] v p)) .bad λOH q1=>T4 (P:=YS C X m b sc (.Assign [et] v p)) .bad λZQ q2=>by
   obtain⟨k1,p1,rfl⟩:=CE q1;obtain⟨k2,p2,rfl⟩:=CE q2;exact e▸eW R) λz=>.bad)
  λz=>Df (P:=YS C X m b sc (.Assign [et] v p)) (λe=>e▸aG R) λz=>.bad
theorem AcU(H0:∀b sc et bx,Hook C X m b sc 0 et bx){f:Bool->Asv->Auj->Y Cs}(hf:∀b sc st,YS C X m b sc st<|f b sc st)(b:Bool)(sc:Asv)(st:Auj):YS C X m b sc st (xS r b sc f st):=by
 cases st with
 |Expr v p=>exact Df (P:=YS C X m b sc (.Expr v p)) (λq z=>Sn q) λz h=>.expr (bl h) (R.e _ _ _ (br h))
 |Pass p=>exact λz=>.pass
 |Break p=>exact λz=>.brk
 |Continue p=>exact λz=>.cont
 |Return o p=>induction o with
  |none=>exact λz=>.AfK
  |some v=>exact λh=>.ret (R.e _ _ _ h)
 |Assign ts v p=>exact Od (P:=λts y=>YS C X m b sc (.Assign ts v p) y) ts .bad λet l=>Od (P:=λl y=>YS C X m b sc (.Assign (et::l) v p) y) l (aH R) λz z=>.bad
 |If t x y p=>exact λh=>.wD (R.b _ _ _ (bl h)) (.of (hf b sc) x (bl (br h))) (.of (hf b sc) y (br (br h)))
 |While t x y p=>exact Df (P:=YS C X m b sc (.While t x y p)) (λq h=>A6 q▸ .whl (H0 _ _ _ _) (R.b _ _ _ (bl h)) (.of (hf b sc) x (br h))) λz=>.bad
 |For t i x y p=>induction b with
  |true=>exact Df (P:=YS C X m true sc (.For t i x y p)) (λq h=>A6 q▸ .Aes (P7 (bl (bl h))) (br (bl h)) (R.e _ _ _ (bl (br h))) (R.t _ _ _ (bl (br (br h)))) (.of (hf true sc) x (br (br (br h))))) λz=>.bad
  |false=>exact .bad
 |Raise e c p=>induction b with
  |true=>induction e with
   |some v=>induction c with
    |none=>exact λh=>.rse (R.e _ _ _ h)
    |some _=>exact .bad
   |none=>exact .bad
  |false=>exact .bad
 |_=>exact .bad
end
theorem Jl(K:N9 C A)(G:FL C X m)(H0:∀b sc et bx,Hook C X m b sc 0 et bx)(n:Nat):∀b sc st,YS C X m b sc st (stm A n b sc st):=by
 induction n with
 |zero=>exact λz z z=>.bad
 |succ n ih=>exact AcU (P8 K G 40) H0 ih
end
def pJ(x:Nm)(s:Str):Bool:=both (Km s) (ArX x (HN s))
theorem Q5(h:pJ x s=true):A9 x=some s:=(ArU (br h):x=HN s)▸BD (bl h)
noncomputable def i4(d:Ax6):Option (List ArR):=match d with
 | .seq items _=>some items.toList |_=>none
noncomputable def gU(d:Ax6):Option AvK:=match d with
 | .func fd=>some fd |_=>none
noncomputable def oK(v:ArR)(s:String):Bool:=match v with
 | .type t=>decide (t=s)
 |_=>false
theorem V3{s:String}(h:oK v s=true):v= .type s:=by
 induction v with
 |type t=>exact congrArg _ (of_decide_eq_true h)
 |_=>exact ff h
theorem eO{l:List ArR}(h:i4 d=some l):∃n,d= .seq l.toArray n:=by
 induction d with
 |seq items n=>exact⟨n,by rw[←Ase h]⟩
 |_=>exact ns h
theorem QC(h:gU d=some fd):d= .func fd:=by
 induction d with
 |func f=>exact congrArg _ (Ase h)
 |_=>exact ns h
def RJ(K:Atw)(a:Ar0):Option (List ArR):=OR none (λo=>bt (both (oK o.cls "tuple") (OR true (λz=>false) o.dict)) (i4 o.data) none) (K.lookup a)
theorem Ak{α β:Type}{o:Option α}{n:Option β}{f:α->Option β}{b:β}(h:OR n f o=some b)(hn:n=none):∃a,o=some a∧f a=some b:=by
 induction o with
 |none=>exact ns (hn.symm.trans h)
 |some a=>exact⟨a,rfl,h⟩
theorem BK{α:Type}{b:Bool}{o:Option α}{v:α}(h:bt b o none=some v):b=true∧o=some v:=by
 induction b with
 |true=>exact⟨rfl,h⟩
 |false=>exact ns h
theorem Pq{α:Type}{o:Option α}(h:OR true (λz=>false) o=true):o=none:=by
 induction o with
 |none=>rfl |some _=>exact ff h
theorem NY{K:Atw}(hK:K.In C.h1){l:List ArR}(h:RJ K a=some l):C.h1.IsTuple a l.toArray∧∃o,C.h1.get? a=some o∧o.dict=none:=by
 refine hide λAx Aa=>?_
 obtain⟨o,e,h⟩:=Ak h rfl;obtain⟨q,h⟩:=BK h;obtain⟨n,d⟩:=eO h;refine Aa ?_;exact⟨⟨o,hK _ _ e,V3<|bl q,n,d⟩,o,hK _ _ e,Pq<|br q⟩
def mT(f:AV->ArR->Bool):List AV->List ArR->Bool:=all2 f
def avS(a:AV)(v:ArR)(K:Atw)(f:AV->ArR->Bool):Bool:=match v with
 | .none=>a.Bo true false | .bool y=>a.cBool (λx=>decide (x=y)) false | .int i _=>a.cInt (λl=>both (Eb l.c i) (Bv l.t)) false | .str s _=>a.cStr (λx=>pJ x s) false | .builtin y=>a.AL (λu=>vC u (λz=>false) (λx=>decide (x=y)) (λz=>false)) false | .type y=>a.AL (λu=>vC u (λz=>false) (λz=>false) (λx=>decide (x=y))) false | .ref r=>a.AL (λu=>vC u (λx=>ArX x r) (λz=>false) (λz=>false)) (a.AU (λl=>oS (RJ K r) λm=>mT f l m) false) |_=>false
def mS(K:Atw)(n:Nat):AV->ArR->Bool:=NR (λz z=>false) (λz f a v=>avS a v K f) n
theorem Qk{f:AV->ArR->Bool}(ih:∀a v,f a v=true->VR C W h a v){l:List AV}(q:mT f l m=true):Ae C W h l m:=Hd (P:=λl m=>Ae C W h l m) .nil (λa v l m e r=>.cons (ih a v e) r) q
theorem Ib{K:Atw}(hK:K.In C.h1)(B:Based C W h)(n:Nat):∀(a:AV) (v:ArR),mS K n a v=true->VR C W h a v:=by
 induction n with
 |zero=>exact λz z=>ff
 |succ n ih=>
  intro a v q;have q:=q
  induction v with
  |none=>exact AV.dR (Q:=λa=>VR C W h a .none) q (λz=>.AR) λz=>ff
  |bool y=>exact AV.He (Q:=λa=>VR C W h a (.bool y)) q (λx e=>of_decide_eq_true e▸ .bool) λz=>ff
  |int i t=>exact AV.FC (Q:=λa=>VR C W h a (.int i t)) q (λl e=>by
    obtain⟨c,t⟩:=l;obtain rfl:=A6 (br e);obtain rfl:=Bj (bl e);exact .int<|Ad.Ci _) λz=>ff
  |str s t=>exact AV.Hb (Q:=λa=>VR C W h a (.str s t)) q (λx e=>.str (Q5 e)) λz=>ff
  |builtin y=>exact AV.TM (Q:=λa=>VR C W h a (.builtin y)) q (λu e=>Z1 (P:=λu=>VR C W h (.Bd u) (.builtin y)) e (λz=>ff) (λx e=>of_decide_eq_true e▸ .Bd) λz=>ff) λz=>ff
  |type y=>exact AV.TM (Q:=λa=>VR C W h a (.type y)) q (λu e=>Z1 (P:=λu=>VR C W h (.Bd u) (.type y)) e (λz=>ff) (λz=>ff) λx e=>of_decide_eq_true e▸ .Bd) λz=>ff
  |ref r=>
   cases a with
   |Bd u=>exact Z1 (P:=λu=>VR C W h (.Bd u) (.ref r)) q (λx e=>(ArU e:x=r)▸ .Bd) (λz=>ff) λz=>ff
   |Af l=>exact Cp (q:oS (RJ K r) _=true) λm e q=>(NY hK e).elim λt d=>.Af (B.Af t d) (Qk ih q)
   |_=>exact ff q
  |_=>exact ff q
noncomputable def cellK(k:Atk):Bool:=match k with | .cell=>true |_=>false
noncomputable def Afm(k:Atk):Bool:=match k with | .cell=>true | .local=>true |_=>false
def tW(sc:Asv)(ps:List Arg):List (Nm×Bool):=LR [] (λp z ih=>(HN p.arg,OR false cellK (iL sc.names p.arg))::ih) ps
def tV(l:List (Str×Atk)):List Nm:=LR [] (λp z ih=>bt (cellK p.2) (HN p.1::ih) ih) l
def aT(ps:List Arg)(sc:Asv)(ds:List AV)(c:Cs):CF:=⟨tW sc ps,ds,tV sc.names,c⟩
def y5(sc:Asv)(ps:List Arg):Bool:=LR true (λp z ih=>both (both (Km p.arg) (OR false Afm (iL sc.names p.arg))) ih) ps
theorem d0(h:y5 sc ps=true):Jx C sc (tW sc ps) (ps.map (·.arg)):=by
 induction ps with
 |nil=>exact .nil
 |cons p ps ih=>
  refine .cons (BD<|bl<|bl h) ?_<|ih<|br h;have q:=br (bl h);rw[←Ll];cases e:iL sc.names p.arg with
  |none=>rw[e] at q;exact ff q
  |some k=>
   rw[e] at q
   induction k with
   | «local» =>rfl |cell=>rfl |_=>exact ff q
def yP(l:List (Str×Atk)):Bool:=LR true (λp z ih=>both (match p.2 with | .cell=>Km p.1 | .free=>false |_=>true) ih) l
theorem dQ{l:List (Str×Atk)}(h:yP l=true):Dp C l (tV l)∧∀nm,l.lookup nm≠some .free:=by
 induction l with
 |nil=>exact⟨.nil,λz e=>ns e⟩
 |cons p l ih=>
  obtain⟨a,b⟩:=ih (br h);obtain⟨n,k⟩:=p;have q:=bl h;refine⟨?_,λnm=>?_⟩
  ·induction k with
   |cell=>exact .cell (BD q) a
   |free=>exact ff q
   |_=>exact .skip rfl a
  ·rw[Asm];cases nm==n with
   |false=>exact b nm
   |true=>induction k with
    |free=>exact ff q
    |_=>exact λe=>nomatch e
def cW(s:Str)(l:List Str):Bool:=LR false (λb z ih=>bt (Iu s b) true ih) l
def Ki(l:List Str):Bool:=LR true (λa l ih=>bt (cW a l) false ih) l
theorem cX{a:Str}{l:List Str}(h:a∈l):cW a l=true:=by
 induction l with
 |nil=>exact absurd h AwY
 |cons b l ih=>
  show bt (Iu a b) true (cW a l)=true;cases q:Iu a b with
  |true=>rfl |false=>exact(Ar3.mp h).elim (λe=>by rw[e,show Iu b b=true from MG _] at q;exact ff q.symm) ih
theorem Nn{l:List Str}(h:Ki l=true):l.Nodup:=by
 induction l with
 |nil=>exact .nil
 |cons a l ih=>exact B9 (b:=cW a l) h (λz=>ff) λe q=>Atl.mpr ⟨λhm=>ff (e.symm.trans (cX hm)),ih q⟩
def iX(p:Au3):Bool:=both (Bv p.posonlyargs)<|both (OR true (λz=>false) p.vararg)<|both (Bv p.kwonlyargs)<|both (OR true (λz=>false) p.kwarg) (Ki (p.args.map (·.arg)))
theorem Xo(h:iX p=true):KH p (p.args.map (·.arg)):=
 have h2:=br h;have h3:=br h2;have h4:=br h3
 ⟨A6<|bl h,rfl,Pq<|bl h2,A6<|bl h3,Pq<|bl h4,Nn<|br h4⟩
def gI(K:Atw)(v:ArR):Option (List ArR):=match v with
 | .none=>some [] | .ref T=>RJ K T |_=>none
theorem UY{K:Atw}(hK:K.In C.h1)(h:gI K d=some ds):H4 C.h1 d ds:=by
 induction d with
 |none=>exact .inl ⟨rfl,(Ase h).symm⟩
 |ref T=>obtain⟨⟨o,g,c,n,e⟩,_⟩:=NY hK h;exact .inr ⟨T,rfl,o,g,c,n,e⟩
 |_=>exact ns h
noncomputable def fieldsOf(d:Ax6):Option (List ArR):=match d with
 | .fields vs=>some vs.toList |_=>none
theorem OO{l:List ArR}(h:fieldsOf d=some l):d= .fields l.toArray:=by
 induction d with
 |fields items=>rw[←Ase h]
 |_=>exact ns h
def V2(v:ArR)(q:Str):Bool:=match v with
 | .str s _=>Iu s q |_=>false
noncomputable def pW{α:Type}(d:α)(f:Ar0->α)(v:ArR):α:=match v with
 | .ref a=>f a |_=>d
def Qt(K:Atw)(cd:ArR)(q:Str):Bool:=pW false (λc=>OR false (λo=>OR false (λl=>OR false (λv=>V2 v q) (l[1]?)) (fieldsOf o.data)) (K.lookup c)) cd
theorem Fb{α:Type}{o:Option α}{f:α->Bool}(h:OR false f o=true):∃a,o=some a∧f a=true:=Cp h λa e q=>⟨a,e,q⟩
theorem Ov{K:Atw}(hK:K.In C.h1)(h:Qt K cd q=true):C.h1.CodeRec cd q:=by
 induction cd with
 |ref c=>
  refine hide λAx Aa=>?_
  obtain⟨o,e,h⟩:=Fb h;obtain⟨l,e2,h⟩:=Fb h;obtain⟨v,e3,h⟩:=Fb h;refine Aa ?_
  induction v with
  |str s t=>exact⟨c,o,l.toArray,t,rfl,hK _ _ e,OO e2,(AwO ..).trans (Vg h▸e3)⟩
  |_=>exact ff h
 |_=>exact ff h
def ML(K:Atw)(a:Ar0):Option AvK:=OR none (λo=>gU o.data) (K.lookup a)
noncomputable def fnK(fd:AvK):Bool:=match fd.scope.kind with | .function=>true |_=>false
def gS(K:Atw)(fd:AvK)(ds:List AV):Bool:=both (Bv fd.closure)<|both (bt fd.scope.isCoroutine false true)<|both (bt fd.scope.isGenerator false true)<|both (fnK fd)<|both (ArX fd.globals AuS)<|both (ArX fd.builtins Atu)<|
 both (Qt K fd.code fd.qualname)<|both (iX fd.params)<|both (y5 fd.scope fd.params.args)<|both (OR false (λvs=>both (mT (mS K 20) ds vs) (AsO (B5 vs)<|B5 fd.params.args))<|gI K fd.defaults) (yP fd.scope.names)
theorem Ht{b:Bool}(h:bt b false true=true):b=false:=B9 (b:=b) h (λz=>ff) λe z=>e
theorem uS(h:fnK fd=true):fd.scope.kind= .function:=by
 unfold fnK at h;cases q:fd.scope.kind with
 |function=>rfl |_=>rw[q] at h;exact ff h
theorem bO{K:Atw}{T:Tab}{n:Nat}{a:Ar0}{fd:AvK}{ds:List AV}{body:List Auj}{code:Cs}(hK:K.In C.h1)(e:ML K a=some fd)(eb:fd.body= .stmts body)(h:gS K fd ds=true)
  (run:∀cl,Cq C n cl->SL C ⟨T,cl⟩ n true fd.scope code body):Oc C T n (aT fd.params.args fd.scope ds code) a:=by
 refine hide λAx Aa=>?_
 obtain⟨o,e1,e2⟩:=Ak e rfl;have h2:=br h;have h3:=br h2;have h4:=br h3;have h5:=br h4;have h6:=br h5;have h7:=br h6;have h8:=br h7;have h9:=br h8;have h10:=br h9;obtain⟨vs,ed,d⟩:=Fb (bl h10);obtain⟨c1,c2⟩:=dQ (br h10);refine Aa ?_;exact⟨o,fd,body,_,vs,hK _ _ e1,QC e2,⟨eb,A6<|bl h,Ht<|bl h2,Ht<|bl h3,uS<|bl h4,ArU<|bl h5,ArU<|bl h6,Ov hK<|bl h7,Xo<|bl h8,d0<|bl h9,
  UY hK ed,λW h B=>Qk (Ib hK B 20) (bl d),by rw[AsQ,←Ca,←Ca];exact Asp<|br d,c1,c2,run⟩⟩
inductive Tr(α:Type) where
 |Ar
 |Ai(k:Nat)(v:α)(l r:Tr α)
noncomputable def Tr.fold{α β:Type}(n:β)(f:Nat->α->Tr α->Tr α->β->β->β)(t:Tr α):β:= @Tr.rec α (λz=>β) n f t
def Tr.get{α:Type}(t:Tr α)(x:Nat):Option α:=Tr.fold none (λk v z z l r=>bt (ArX x k) (some v) (bt (AtP x k) l r)) t
def Tr.Kw{α:Type}(t:Tr α):List (Nat×α):=Tr.fold [] (λk v z z l r=>(k,v)::(l++r)) t
@[irreducible] noncomputable def eN(s:String):Nm:=HN (ArP s)
structure TT where
 cl:Tr (Nat×Bool)
 at_:Tr (Tr<|Option Nat)
 bd:Tr (List<|AV×AV)
 ch:List (Nat×Nat)
 enc:List (Nat×List UInt8)
 whole:AV
 cC:Nat
 cF:Nat
 xG:Nat
def TT.iF(t:TT)(C:Nat):Bool:=OR false (λp=>p.2) (t.cl.get C)
def TT.tab(t:TT)(sum:Nat->List AV->St->K AV->Option Bool)(loop:Nat->AZ->St->Option (M Unit))(dc:Nat->Bool):Tab where
 init:=λC=>OR none (λp=>some p.1) (t.cl.get C)
 isExc:=t.iF
 attr:=λC x=>OR none (λu=>OR none (λo=>some (OR (bt (t.iF C) .Ea .data) .FF o)) (u.get x)) (t.at_.get C)
 UJ:=λC x=>bt (ArX C t.cC) (bt (ArX x (eN "__init__")) (some t.cF) none) none
 FP:=t.bd.get
 sum:=sum
 P5:=λD G=>bt (ArX D t.xG) (ArX G t.xG) false
 loop:=loop
 dc:=dc
 enc:=AW t.enc
 ch:=λs n=>NC (OR none some<|AW t.ch s) (λz=>none) n
 whole:=t.whole
 Di:=eN "append"
 S9:=eN "pop"
 EV:=eN "extend"
 GZ:=eN "index"
 EU:=eN "encode"
 Kh:=eN "__init__"
 GY:=eN "ascii"
theorem Tr.get_mem{α:Type}{x:Nat}{v:α}(t:Tr α):t.get x=some v->(x,v)∈t.Kw:=by
 induction t with
 |Ar=>exact ns
 |Ai k u l r il ir=>
  refine λh=>Df (P:=λo=>o=some v->(x,v)∈(k,u)::(l.Kw++r.Kw)) (b:=ArX x k) (λq e=>?_) (λz=>Df (P:=λo=>o=some v->(x,v)∈(k,u)::(l.Kw++r.Kw)) (b:=AtP x k)
   (λz e=>.tail _ (AtL _<|il e)) λz e=>.tail _ (AtC _<|ir e)) h
  rw[←Ase e,(ArU q:x=k)];exact .head _
noncomputable def gC(d:Ax6):Option ClassData:=match d with
 | .cls cd=>some cd |_=>none
theorem aX(h:gC d=some cd):d= .cls cd:=by
 induction d with
 |cls c=>exact congrArg _ (Ase h)
 |_=>exact ns h
def tY(K:Atw)(Cl:Ar0):Option (Obj×ClassData):=OR none (λo=>bt (oK o.cls "type") (OR none (λcd=>some (o,cd)) (gC o.data)) none) (K.lookup Cl)
theorem aV{K:Atw}(hK:K.In C.h1){Cl:Ar0}{o:Obj}{cd:ClassData}(h:tY K Cl=some (o,cd)):C.h1.get? Cl=some o∧o.cls= .type "type"∧o.data= .cls cd:=by
 refine hide λAx Aa=>?_
 obtain⟨o',e,h⟩:=Ak h rfl;obtain⟨q,h⟩:=BK h;obtain⟨cd',d,h⟩:=Ak h rfl;obtain⟨rfl,rfl⟩:=Asy (Ase h);refine Aa ?_;exact⟨hK _ _ e,V3 q,aX d⟩
def FX(K:Atw)(Cl:Ar0):Bool:=both (subIn K (.ref Cl) (.type "Exception")==some true)<|both (subIn K (.ref Cl) (.type "BaseException")==some true) (OR false (λz=>true) (tY K Cl))
theorem Hl{K:Atw}(hK:K.In C.h1){Cl:Ar0}(h:FX K Cl=true):Ff C Cl:=by obtain⟨p,e,_⟩:=Fb (br<|br h);obtain⟨a,b,c⟩:=aV hK e;exact⟨K,hK,beq_iff_eq.mp<|bl h,beq_iff_eq.mp<|bl<|br h,_,a,b,_,c⟩
def ZR(K:Atw)(a:Ar0):Bool:=OR false (λz=>true) (ML K a)
theorem Vx{K:Atw}(hK:K.In C.h1)(h:ZR K a=true):H5 C a:=by obtain⟨fd,e,_⟩:=Fb h;obtain⟨o,e1,e2⟩:=Ak e rfl;exact⟨o,fd,hK _ _ e1,QC e2⟩
def QL(K:Atw)(Cl i:Ar0):Bool:=both (AuU K (.ref Cl) "__init__"==some (some (.ref i)))<|both (typeIn K (.ref i)==some (.type "function")) (ZR K i)
theorem initFn{K:Atw}(hK:K.In C.h1){Cl:Ar0}(h:QL K Cl i=true):H5 C i:=Vx hK (br<|br h)
def Ou(K:Atw)(p:Nat×(Nat×Bool)):Bool:=both (both (keepIn K (.ref p.1)) (QL K p.1 p.2.1)) (bt p.2.2 (FX K p.1) (makesIn K p.1))
def KW(K:Atw)(Cl:Ar0)(nm:Str):Bool:=both (plainGet K Cl nm)<|both (Ay3 K Cl)<|both (AuU K (.ref Cl) nm==some none)<|both (AuU K (.ref Cl) "__setattr__"==some (some (.builtin "object.__setattr__")))<|both (plainOver K Cl) (takerIn K Cl nm==some none)
theorem OA{K:Atw}{Cl:Ar0}{nm:Str}(h:KW K Cl nm=true):Fn K Cl nm:=
 have h2:=br h;have h3:=br h2;have h4:=br h3;have h5:=br h4
 ⟨bl h,bl h2,beq_iff_eq.mp<|bl h3,beq_iff_eq.mp<|bl h4,bl h5,beq_iff_eq.mp<|br h5⟩
def Iq(K:Atw)(Cl:Ar0)(nm:Str):Bool:=both (Ay3 K Cl)<|both (AuU K (.ref Cl) nm==some none)<|both (AuU K (.ref Cl) "__getattribute__"==some (some (.builtin "BaseException.__getattribute__")))<|both (AuU K (.ref Cl) "__getattr__"==some none)<|
 both (AuU K (.ref Cl) "__setattr__"==some (some (.builtin "object.__setattr__")))<|both ((clsIn K Cl).any (λcd=>GL cd.mro)) (takerIn K Cl nm==some none)
theorem MC{K:Atw}{Cl:Ar0}{nm:Str}(h:Iq K Cl nm=true):B8 K Cl nm:=
 have h2:=br h;have h3:=br h2;have h4:=br h3;have h5:=br h4;have h6:=br h5
 ⟨bl h,beq_iff_eq.mp<|bl h2,beq_iff_eq.mp<|bl h3,beq_iff_eq.mp<|bl h4,beq_iff_eq.mp<|bl h5,bl h6,beq_iff_eq.mp<|br h6⟩
def Lo(K:Atw)(Cl f:Ar0)(nm:Str):Bool:=both (plainGet K Cl nm)<|both (Ay3 K Cl)<|both (AuU K (.ref Cl) nm==some (some (.ref f)))<|both (typeIn K (.ref f)==some (.type "function"))<|both (specialIn K (.ref f) "__get__"==some (some (.builtin "function.__get__")))<|
 both (takesIn K (.ref f)==some false) (bt (copiedNames.contains nm) false true)
theorem Pj{K:Atw}{Cl:Ar0}{nm:Str}(h:Lo K Cl f nm=true):MethAt K Cl f nm:=
 have h2:=br h;have h3:=br h2;have h4:=br h3;have h5:=br h4;have h6:=br h5
 ⟨bl h,bl h2,beq_iff_eq.mp<|bl h3,beq_iff_eq.mp<|bl h4,beq_iff_eq.mp<|bl h5,beq_iff_eq.mp<|bl h6,Ht<|br h6⟩
def tA(K:Atw)(x:Bool)(Cl:Nat)(p:Nat×Option Nat):Bool:=oS (A9 p.1) λs=>OR (bt x (Iq K Cl s) (KW K Cl s)) (λf=>bt x false (Lo K Cl f s)) p.2
def Un(K:Atw)(t:TT)(p:Nat×Tr (Option Nat)):Bool:=allR (tA K (t.iF p.1) p.1) p.2.Kw
def kvK(K:Atw):List (AV×AV)->List (Str×Nat×ArR)->Bool:=all2 λp q=>both (p.1.cStr (λx=>pJ x q.1) false) (mS K 20 p.2 q.2.2)
noncomputable def dEn(w:ArV)(l:List (Str×Nat×ArR)):List Ass:=l.map λp=>⟨Asi w.params p.1,.str p.1 p.2.1,p.2.2⟩
noncomputable def strOf:ArR->Str
 | .str s _=>s |_=>Ayq
noncomputable def tokOf:ArR->Nat
 | .str _ t=>t |_=>0
def Af0(l:List Ass):List (Str×Nat×ArR):=o9 (λe=>(strOf e.key,tokOf e.key,e.val)) l
def TY(C:Cx)(d:Ar0)(l:List (Str×Nat×ArR)):Prop:=∃n,C.h1.get? d=some {cls:=.type "dict",data:=.dict ⟨dEn C.w l⟩ n}
def rP(l:List (Str×Nat×ArR)):List (KK×ArR):=l.map λp=>(.inl p.1,p.2.2)
theorem oQ{K:Atw}(hK:K.In C.h1)(B:Based C W h){l:List (AV×AV)}{m}(q:kvK K l m=true):Co C W h l (rP m):=
 Hd (P:=λl m=>Co C W h l (rP m)) .nil (λa b l m q r=>.cons (AV.Hb (Q:=λa=>Bh W a (.inl b.1)) (bl q) (λx e=>.str (Q5 e)) λz=>ff) (Ib hK B 20 _ _<|br q) r) q
theorem Sq(w:ArV)(knd:KeyKind C.prog C.w KK)(hs:∀x t,knd.is (.inl x) (.str x t)=true)(l:List (Str×Nat×ArR)):Pairs knd (dEn w l) (rP l):=by
 induction l with
 |nil=>exact .nil
 |cons p l ih=>exact .cons (hs p.1 p.2.1) rfl ih
theorem TY.dictOf{l:List (Str×Nat×ArR)}(h:TY C d l)(nd:Ki (l.map (·.1))=true):C.h1.DictOf (AF C.prog C.w) d (rP l):=by
 obtain⟨n,ho⟩:=h;refine⟨_,_,n,ho,⟨rfl,rfl,rfl⟩,rfl,λe he=>?_,Sq _ _ (λx t=>IH x t) l,?_⟩
 ·obtain⟨p,_,rfl⟩:=At8.mp (AwW.mp he);exact⟨.inl p.1,IH p.1 p.2.1,rfl⟩
 ·have e:(rP l).map (·.1)=(l.map (·.1)).map Sum.inl:=by unfold rP;rw[List.map_map,List.map_map];rfl
  rw[e];exact List.Pairwise.map _ (λa b h q=>h (Ayr q)) (Nn nd)
def RA(l:List Ass):Bool:=LR true (λe z ih=>both (match e.key with | .str _ _=>true |_=>false) ih) l
theorem P4{l:List Ass}(h:RA l=true)(e:Ass)(m:e∈l):∃n t,e.key= .str n t:=by
 induction l with
 |nil=>exact absurd m AwY
 |cons a l ih=>
  rcases Ar3.mp m with rfl |m
  ·have q:=bl h;obtain⟨hh,key,val⟩:=e
   induction key with
   |str n t=>exact⟨n,t,rfl⟩
   |_=>exact ff q
  ·exact ih (br h) m
noncomputable def dictOf(d:Ax6):Option (List Ass):=match d with
 | .dict es _=>some es.toList |_=>none
theorem U0{l:List Ass}(h:dictOf d=some l):∃n,d= .dict l.toArray n:=by
 induction d with
 |dict es n=>exact⟨n,by rw[←Ase h]⟩
 |_=>exact ns h
def nsIn(K:Atw)(a:Ar0):Option (List Ass):=OR none (λo=>dictOf o.data) (K.lookup a)
def Vr(s:Str)(l:List Ass):Option ArR:=LR none (λe z ih=>bt (V2 e.key s) (some e.val) ih) l
theorem c5(s:Str)(v:ArR):v.isStr s=V2 v s:=by
 induction v with
 |str x t=>exact Iv _ _
 |_=>rfl
theorem Vs(s:Str)(l:List Ass):Vr s l=(l.find? (·.key.isStr s)).map (·.val):=by
 induction l with
 |nil=>rfl |cons e l ih=>show bt (V2 e.key s) (some e.val) (Vr s l)=_;rw[AwF,c5,ih];cases V2 e.key s<;>rfl
def Hu(K:Atw)(a:Ar0):Bool:=OR false RA (nsIn K a)
def Pu(K:Atw)(a:Ar0)(s:Str):Option ArR:=OR none (Vr s) (nsIn K a)
theorem IY{K:Atw}(hK:K.In C.h1)(h:Hu K a=true):∃m,C.h1.Ns a m∧∀s,m s=Pu K a s:=by
 refine hide λAx Aa=>?_
 obtain⟨l,e,h⟩:=Fb h;obtain⟨o,e1,e2⟩:=Ak e rfl;obtain⟨n,d⟩:=U0 e2;refine Aa ?_;refine⟨Auc l.toArray,⟨o,_,n,hK _ _ e1,d,λen he=>P4 h en (AwW.mp he),λz=>rfl⟩,λs=>?_⟩;unfold Pu Auc AyY;refine e.symm▸?_;refine Array.find?_toList▸?_;exact(Vs s l).symm
def VE(K:Atw)(p:Nat×AV):Bool:=oS (A9 p.1) λs=>OR (OR false (mS K 20 p.2) (Pu K Atu s)) (mS K 20 p.2) (Pu K AuS s)
theorem VF{K:Atw}(hK:K.In C.h1)(hm:Hu K AuS=true)(hb:Hu K Atu=true){x:Nm}{v:AV}(h:VE K (x,v)=true)(hs:A9 x=some s):TZ C s v:=by
 obtain⟨mg,g1,g2⟩:=IY hK hm;obtain⟨mb,b1,b2⟩:=IY hK hb;obtain⟨s',e,h⟩:=Fb h;obtain rfl:=uniq e hs;cases q:Pu K AuS s with
 |some u=>rw[q] at h;exact⟨u,λW hp B=>Ib hK B 20 _ _ h,.inl ⟨mg,g1,(g2 s).trans q⟩⟩
 |none=>rw[q] at h;obtain⟨u,q2,h⟩:=Fb h;exact⟨u,λW hp B=>Ib hK B 20 _ _ h,.inr ⟨mg,mb,g1,(g2 s).trans q,b1,(b2 s).trans q2⟩⟩
theorem gL{s:String}(h:Km (ArP s)=true):A9 (eN s)=some (ArP s):=by unfold eN;exact BD h
def UM(p:Nat×Nat):Bool:=oS (A9 p.1) λs=>oS (A9 p.2) λt=>LC false (λc z=>Sv [c] t.cps.toList) s.cps.toList
def fvX(f:CFound):Option Ar0:=match f with
 | .val v=>pW none some v |_=>none
theorem u5(h:fvX f=some a):f= .val (.ref a):=by
 induction f with
 |val v=>induction v with
  |ref b=>exact congrArg _ (congrArg _ (Ase h))
  |_=>exact ns h
 |_=>exact ns h
def Mu(K:Atw)(t:TT):Bool:=both (specialIn K (.ref t.cC) "__getattribute__"==some (some (.builtin "type.__getattribute__")))<|both (readsIn K t.cC (.type "type")) (OR false (λf=>OR false (λg=>ArX g t.cF) (fvX f)) (findCls K (.ref t.cC) (.type "type") (ArP "__init__")))
structure Ap(C:Cx)(K:Atw)(t:TT)(gl:Tr AV):Prop where
 hK:K.In C.h1
 sys:∃o,C.h1.get? AuK=some o
 at_:allR (Un K t) t.at_.Kw=true
 cl:allR (Ou K) t.cl.Kw=true
 bd:∀p∈t.bd.Kw,(p.1==AuK)=false∧∃m,TY C p.1 m∧Ki (m.map (·.1))=true∧kvK K p.2 m=true
 xo:∀Cl,t.iF Cl=true->∃nm q N bs bm MV sn sub ab col dd k0 k1 k2 k3 k5,C.h1.get? Cl=some (AyX nm q Cl N bs bm MV sn sub ab col dd k0 k1 k2 k3 k5 "Exception.__new__")∧GC "Exception" bm
 xc:FX K t.xG=true
 xs:subIn K (.ref t.xG) (.ref t.xG)=some true
 cm:Mu K t=true
 nms:allR (λs=>Km (ArP s)) ["append","pop","extend","index","encode","__init__","ascii"]=true
 ch:allR UM t.ch=true
 enc:∀p∈t.enc,∃X,A9 p.1=some X∧p.2.length≤1000∧∀s u,Gives (Builtin.«str.encode» ⟨[.str X s,.str (ArP "ascii") u],[]⟩) (.bytes p.2.toArray)
 mn:Hu K AuS=true
 bn:Hu K Atu=true
 gl:allR (VE K) gl.Kw=true
 lim:C.h1.NoLimit
 whole:∃v,mS K 20 t.whole v=true
 Hc:t.whole=C.whole
theorem MP{α:Type}{l:List (Nm×α)}{v:α}(h:AW l x=some v):(x,v)∈l:=by
 induction l with
 |nil=>exact ns h
 |cons p l ih=>exact Df (P:=λo=>o=some v->(x,v)∈p::l) (b:=ArX x p.1) (λq e=>(ArU q:x=p.1)▸Ase e▸ .head _) (λz e=>.tail _ (ih e)) h
section
variable{F:Atw}{t:TT}{gl:Tr AV}{sum:Nat->List AV->St->K AV->Option Bool}{loop:Nat->AZ->St->Option (M Unit)}{dc:Nat->Bool}
theorem Ap.nm(R:Ap C F t gl){s:String}(h:s∈["append","pop","extend","index","encode","__init__","ascii"]):A9 (eN s)=some (ArP s):=gL (AN R.nms s h)
theorem Ap.ag(R:Ap C F t gl)(ms:List (Pos×Nat)):N9 C ⟨gl.get,ms⟩:=λs v hs h=>VF R.hK R.mn R.bn (AN R.gl _<|Tr.get_mem _ h) hs
theorem tX{x y:Nm}(h:UM (x,y)=true):∃X c,A9 x=some X∧(0:Nat)<1000000∧X.cps[0]?=some c∧A9 y=some ⟨#[c]⟩:=by
 refine hide λAx Aa=>?_
 obtain⟨⟨⟨s⟩⟩,e1,h⟩:=Fb h;obtain⟨t,e2,h⟩:=Fb h;refine Aa ?_
 induction s with
 |nil=>exact ff h
 |cons c s=>exact⟨_,c,e1,by decide,rfl,e2.trans (congrArg some (congrArg Str.mk (Array.ext' (OE h).symm)))⟩
theorem Ap.tab(R:Ap C F t gl):CP C (t.tab sum loop dc) where
 FP:=λd l h=>(R.bd _<|Tr.get_mem _ h).imp id λq=>q.elim λm q=>⟨_,q.1.dictOf q.2.1,λW h B=>oQ R.hK B q.2.2⟩
 whole:=λW h B=>R.whole.elim λv q=>⟨v,R.Hc▸Ib R.hK B 20 _ _ q⟩
 Aar:=R.sys
 Hc:=R.Hc
 ch:=λx n y h=>by
  induction n with
  |succ n=>exact ns h
  |zero=>obtain⟨z,q,h⟩:=Ak (h:OR none some (AW t.ch x)=some y) rfl;exact tX (Ase h▸AN R.ch _ (MP q))
theorem Ap.attr(R:Ap C F t gl){Cl:Nat}{k:Fe}{nm:Str}(h:(t.tab sum loop dc).attr Cl x=some k)(hn:A9 x=some nm){P:Fe->Prop}(h1:Iq F Cl nm=true->P .Ea)(h2:KW F Cl nm=true->P .data)(h3:∀f,Lo F Cl f nm=true->P (.FF f)):P k:=by
 obtain⟨u,e1,h⟩:=Ak h rfl;obtain⟨o,e2,h⟩:=Ak h rfl;obtain⟨s,e,q⟩:=Fb (AN (AN R.at_ _<|Tr.get_mem _ e1) _<|Tr.get_mem _ e2);obtain rfl:=uniq e hn;refine(Ase h)▸?_
 revert q
 induction o with
 |none=>exact λq=>B9 (b:=t.iF Cl) q (λe q=>(e▸h1 q:P (bt (t.iF Cl) .Ea .data))) λe q=>(e▸h2 q:P (bt (t.iF Cl) .Ea .data))
 |some f=>exact λq=>B9 (b:=t.iF Cl) q (λz=>ff) λz q=>h3 f q
theorem Ap.mQ(R:Ap C F t gl):CN C (t.tab sum loop dc) where
 Ea:=λCl x nm h hn=>R.attr h hn (P:=λk=>k= .Ea->∃K:Atw,K.In C.h1∧B8 K Cl nm) (λq z=>⟨F,R.hK,MC q⟩) (λz e=>nomatch e) (λz z e=>nomatch e) rfl
 FF:=λCl x nm f h hn=>R.attr h hn (P:=λk=>k= .FF f->∃K:Atw,K.In C.h1∧MethAt K Cl f nm) (λz e=>nomatch e) (λz e=>nomatch e) (λg q e=>Fe.FF.inj e▸⟨F,R.hK,Pj q⟩) rfl
 data:=λCl x nm h hn=>R.attr h hn (P:=λk=>k= .data->∃K:Atw,K.In C.h1∧Fn K Cl nm) (λz e=>nomatch e) (λq z=>⟨F,R.hK,OA q⟩) (λz z e=>nomatch e) rfl
theorem Ap.FF(R:Ap C F t gl):DM C (t.tab sum loop dc) where
 S9:=R.nm (s:="pop") (by decide)
 Di:=R.nm (s:="append") (by decide)
 EV:=R.nm (s:="extend") (by decide)
 GZ:=R.nm (s:="index") (by decide)
 EU:=R.nm (s:="encode") (by decide)
 Kh:=R.nm (s:="__init__") (by decide)
 GY:=R.nm (s:="ascii") (by decide)
 gD:=λCl x nm g h hn=>by obtain⟨e1,hA⟩:=BK h;obtain⟨e2,hB⟩:=BK hA;obtain rfl:Cl=t.cC:=ArU e1;obtain rfl:=ArU e2;obtain rfl:=uniq (R.nm (s:="__init__") (by decide)) hn;obtain⟨f,q1,q2⟩:=Fb (br (br R.cm));obtain⟨g',q3,q4⟩:=Fb q2;obtain rfl:g'=t.cF:=ArU q4;obtain rfl:=Ase hB;exact⟨F,R.hK,beq_iff_eq.mp (bl R.cm),_,bl (br R.cm),q1.trans (congrArg some (u5 q3))⟩
 enc:=λs b h=>R.enc _ (MP h)
theorem Ap.Aak(R:Ap C F t gl):Ua C (t.tab sum loop dc):=λD G h=>by obtain rfl:D=t.xG:=ArU (bl h);obtain rfl:G=t.xG:=ArU (br h);exact⟨Hl R.hK R.xc,F,R.hK,R.xs⟩
theorem Ap.uH(R:Ap C F t gl){n:Nat}{cl:CL}(ok:Cq C n cl):FL C ⟨t.tab sum loop dc,cl⟩ n:=⟨R.tab,R.mQ,R.FF,R.Aak,ok⟩
theorem Ap.row(R:Ap C F t gl){a i:Nat}(h:(t.tab sum loop dc).init a=some i):Ou F (a,i,(t.tab sum loop dc).isExc a)=true:=by obtain⟨p,h1,h2⟩:=Ak h rfl;have q:=AN R.cl _ (Tr.get_mem _ h1);rw[show(t.tab sum loop dc).isExc a=p.2 by show OR false _ (t.cl.get a)=_;rw[h1];rfl,←Ase h2];exact q
theorem Ap.call(R:Ap C F t gl){lo:Nat}{fn:Nat->Option CF}(fns:∀a cf,fn a=some cf->∀n,lo≤n->Oc C (t.tab sum loop dc) n cf a)(kf:∀a cf,fn a=some cf->keepIn F (.ref a)=true)(ks:∀a vs σ k r,sum a vs σ k=some r->keepIn F (.ref a)=true):HI C (t.tab sum loop dc) fn lo where
 fns:=fns
 cls:=λa i h e=>by have q:=R.row h;rw[e] at q;exact⟨⟨F,R.hK,br q,beq_iff_eq.mp<|bl<|br<|bl q,beq_iff_eq.mp<|bl<|br<|br<|bl q⟩,initFn R.hK<|br<|bl q⟩
 exc:=λa i h e=>by have q:=R.row h;rw[e] at q;exact⟨Hl R.hK<|br q,R.xo a e,⟨F,R.hK,beq_iff_eq.mp<|bl<|br<|bl q,beq_iff_eq.mp<|bl<|br<|br<|bl q⟩,initFn R.hK<|br<|bl q⟩
 kf:=λa cf h=>⟨F,R.hK,kf a cf h⟩
 ki:=λa i h=>⟨F,R.hK,bl<|bl<|R.row h⟩
 ks:=λa vs σ k r h=>⟨F,R.hK,ks a vs σ k r h⟩
 lim:=R.lim
end
noncomputable abbrev nL{α:Type}(k:Nat)(v:α):Tr α:=.Ai k v .Ar .Ar
noncomputable abbrev nT{α:Type}(k:String)(v:α)(l r:Tr α):Tr α:=.Ai (eN k) v l r
noncomputable abbrev nS{α:Type}(k:String)(v:α):Tr α:=.Ai (eN k) v .Ar .Ar
noncomputable abbrev sN(k:String):AV:=.str (eN k)
noncomputable abbrev tR(k:Nat):AV:=.Bd (.ref k)
def MJ:Tr (FK×List AV):=(.Ai 896 (dT 99,[]) (.Ai 531 (dT 60,[]) (.Ai 361 (dM 42 0,[]) (.Ai 277 (dT 32,[]) (.Ai 124 (dT 9,[]) (.Ai 111 (dM 7 0,[]) (nL 36 (dM 2 0,[.int ⟨0,[]⟩])) .Ar) (.Ai 270 (dT 31,[]) (nL 261 (dT 27,[])) .Ar)) (.Ai 312 (dT 37,[]) (.Ai 305 (dT 36,[]) (nL 284 (dT 33,[])) .Ar) (.Ai 326 (dT 39,[]) (nL 319 (dT 38,[])) .Ar))) (.Ai 481 (dT 51,[.AR]) (.Ai 424 (dM 44 0,[]) (.Ai 375 (dM 42 2,[]) (nL 368 (dM 42 1,[])) .Ar) (.Ai 465 (dT 49,[]) (nL 458 (dT 48,[])) .Ar)) (.Ai 517 (dT 58,[]) (.Ai 510 (dT 57,[]) (nL 503 (dT 56,[])) .Ar) (nL 524 (dT 59,[]))))) (.Ai 646 (dM 62 9,[]) (.Ai 599 (dM 62 2,[]) (.Ai 559 (dM 61 2,[]) (.Ai 552 (dM 61 1,[]) (nL 545 (dM 61 0,[])) .Ar) (.Ai 592 (dM 62 1,[]) (nL 585 (dM 62 0,[])) .Ar)) (.Ai 620 (dM 62 5,[]) (.Ai 613 (dM 62 4,[]) (nL 606 (dM 62 3,[])) .Ar) (.Ai 632 (dM 62 7,[]) (nL 627 (dM 62 6,[])) .Ar))) (.Ai 738 (dT 67,[]) (.Ai 674 (dM 62 13,[]) (.Ai 667 (dM 62 12,[]) (nL 660 (dM 62 11,[])) .Ar) (.Ai 728 (dT 65,[]) (nL 681 (dM 62 14,[])) .Ar)) (.Ai 833 (dT 84,[]) (.Ai 826 (dT 83,[]) (nL 819 (dT 82,[])) .Ar) (nL 840 (dT 85,[])))))) (.Ai 1234 (dM 136 0,[]) (.Ai 972 (dT 115,[]) (.Ai 932 (dT 109,[]) (.Ai 915 (dT 106,[]) (.Ai 910 (dT 105,[]) (nL 903 (dT 104,[])) .Ar) (.Ai 925 (dT 108,[]) (nL 920 (dT 107,[])) .Ar)) (.Ai 953 (dT 112,[]) (.Ai 946 (dT 111,[]) (nL 939 (dT 110,[])) .Ar) (.Ai 965 (dT 114,[]) (nL 958 (dT 113,[])) .Ar))) (.Ai 1019 (dT 122,[]) (.Ai 1000 (dT 119,[]) (.Ai 993 (dT 118,[]) (nL 986 (dT 117,[])) .Ar) (.Ai 1014 (dT 121,[]) (nL 1007 (dT 120,[])) .Ar)) (.Ai 1068 (dM 128 0,[]) (.Ai 1047 (dM 126 0,[]) (nL 1026 (dT 123,[])) .Ar) (nL 1117 (dM 134 0,[]))))) (.Ai 1995 (dT 229,[]) (.Ai 1918 (dM 213 1,[]) (.Ai 1882 (dM 211 0,[]) (.Ai 1774 (dM 208 0,[]) (nL 1760 (dT 207,[])) .Ar) (.Ai 1911 (dM 213 0,[.AR]) (nL 1896 (dT 212,[])) .Ar)) (.Ai 1974 (dT 226,[]) (.Ai 1967 (dT 225,[]) (nL 1960 (dT 224,[])) .Ar) (.Ai 1988 (dT 228,[]) (nL 1981 (dT 227,[])) .Ar))) (.Ai 2035 (dT 235,[]) (.Ai 2014 (dT 232,[]) (.Ai 2007 (dT 231,[]) (nL 2000 (dT 230,[])) .Ar) (.Ai 2028 (dT 234,[]) (nL 2021 (dT 233,[])) .Ar)) (.Ai 2054 (dT 238,[]) (.Ai 2049 (dT 237,[]) (nL 2042 (dT 236,[])) .Ar) (nL 2061 (dT 239,[])))))))
noncomputable def Aea:Tr (Nat×Bool):=(.Ai 1050 (1047,false) (.Ai 446 (424,false) (.Ai 114 (111,true) (nL 39 (36,true)) (nL 385 (361,false))) (.Ai 691 (585,false) (nL 567 (545,false)) .Ar)) (.Ai 1861 (1774,false) (.Ai 1216 (1117,false) (nL 1078 (1068,false)) (nL 1263 (1234,false))) (.Ai 1928 (1911,false) (nL 1885 (1882,false)) .Ar)))
def AdR:Tr (Tr (Option Nat)):=(.Ai 1050 (nT "results" none (nT "locals" none (nT "body" none (nS "key" none) .Ar) (nS "params" none)) (nT "captured" none (nS "__init__" (some 1047)) (nS "literals" none))) (.Ai 446 (nT "answer" none (nT "here" none (nS "all" none) (nS "state" none)) (nT "__init__" (some 424) (nS "choices" none) .Ar)) (.Ai 114 (nT "value" none (nS "spot" none) (nS "message" none)) (nL 39 (nT "message" none (nS "spot" none) .Ar)) (nL 385 (nT "defers" none (nT "cells" none (nT "work" none (nS "take" (some 375)) .Ar) (nT "serves" none (nS "values" none) .Ar)) (nT "do_later" (some 368) (nT "function" none (nS "__init__" (some 361)) .Ar) (nS "is_deferred" none))))) (.Ai 691 (nT "put_key" (some 681) (nT "cells" none (nT "rows" none (nT "maps" none (nS "load" (some 606)) .Ar) (nS "store" (some 613))) (nT "new_map" (some 660) (nS "map_of" (some 667)) (nS "new_row" (some 599)))) (nT "may_compare" none (nT "looked_up" (some 674) (nT "new_cell" (some 592) (nS "__init__" (some 585)) .Ar) (nS "whole_slice" (some 620))) (nT "element_place" (some 627) (nS "slice_listed" (some 632)) (nS "part_of_slice" (some 646))))) (nL 567 (nT "entries" none (nT "coming" none (nS "put" (some 559)) .Ar) (nT "entry_of" (some 552) (nS "__init__" (some 545)) .Ar))) .Ar)) (.Ai 1861 (nT "outcome" none (nT "store" none (nT "typed" none (nS "fuel" none) (nS "world" none)) (nT "gates" none (nS "state" none) (nS "prints" none))) (nT "routines" none (nT "globals" none (nS "choices" none) (nS "__init__" (some 1774))) (nT "may_compare" (some 1781) (nS "channels" none) .Ar))) (.Ai 1216 (nT "channels" none (nT "__init__" (some 1117) (nS "waiting" none) .Ar) (nS "is_closed" none)) (nL 1078 (nT "taken" none (nS "row" none) (nS "__init__" (some 1068)))) (nL 1263 (nT "waiting" none (nT "counts" none (nS "held" none) .Ar) (nS "__init__" (some 1234))))) (.Ai 1928 (nT "consts" none (nT "inits" none (nT "order" none (nT "named" none (nS "want" none) .Ar) (nT "files" none (nS "funcs" none) .Ar)) (nT "scopes" none (nT "bodies" none (nS "settle" none) .Ar) (nT "starts" none (nS "values" none) .Ar))) (nT "packages" none (nT "__init__" (some 1911) (nT "globals" none (nS "base_of" (some 1918)) .Ar) (nT "is_whole" none (nS "measured" none) .Ar)) (nT "late_sizes" none (nT "late_keys" none (nS "mentions" none) .Ar) (nS "late_parts" none)))) (nL 1885 (nT "methods" none (nT "package" none (nS "path" none) .Ar) (nT "underlying" none (nS "__init__" (some 1882)) .Ar))) .Ar)))
def R7:Tr (List (AV×AV)):=(.Ai 1753 [((sN "value"),(tR 910)),((sN "load"),(tR 932)),((sN "pointer"),(tR 939)),((sN "second"),(tR 946)),((sN "made"),(tR 953)),((sN "call"),(tR 1033)),((sN "builtin"),(tR 1354)),((sN "send"),(tR 1415)),((sN "sent"),(tR 1436)),((sN "receive"),(tR 1422)),((sN "got"),(tR 1443)),((sN "rows"),(tR 1464)),((sN "run"),(tR 1471)),((sN "drop"),(tR 1499)),((sN "either"),(tR 1506)),((sN "behind"),(tR 1513)),((sN "assign"),(tR 1551)),((sN "before"),(tR 1558)),((sN "update"),(tR 1565)),((sN "let"),(tR 1572)),((sN "give"),(tR 1579)),((sN "given"),(tR 1586)),((sN "return"),(tR 1593)),((sN "go"),(tR 1607)),((sN "defer"),(tR 1614)),((sN "turn"),(tR 1621)),((sN "turned"),(tR 1628)),((sN "again"),(tR 1642)),((sN "walk"),(tR 1649)),((sN "item"),(tR 1670)),((sN "take"),(tR 1677)),((sN "taken"),(tR 1684)),((sN "ask"),(tR 1691)),((sN "asked"),(tR 1698)),((sN "typed"),(tR 1712)),((sN "select"),(tR 1731)),((sN "selected"),(tR 1738)),((sN "point"),(tR 1745)),((sN "defers"),(tR 1752))] (nL 262 [((sN "int"),(.int ⟨64,[]⟩)),((sN "int8"),(.int ⟨8,[]⟩)),((sN "int16"),(.int ⟨16,[]⟩)),((sN "int32"),(.int ⟨32,[]⟩)),((sN "int64"),(.int ⟨64,[]⟩)),((sN "uint"),(.int ⟨64,[]⟩)),((sN "uint8"),(.int ⟨8,[]⟩)),((sN "uint16"),(.int ⟨16,[]⟩)),((sN "uint32"),(.int ⟨32,[]⟩)),((sN "uint64"),(.int ⟨64,[]⟩))]) .Ar)
def chL:List (Nat×Nat):=[((eN "int"),(eN "i")),((eN "uint8"),(eN "u"))]
def encL:List (Nat×List UInt8):=[((eN "nil dereference"),[110,105,108,32,100,101,114,101,102,101,114,101,110,99,101]),((eN "index out of range"),[105,110,100,101,120,32,111,117,116,32,111,102,32,114,97,110,103,101]),((eN "interface conversion"),[105,110,116,101,114,102,97,99,101,32,99,111,110,118,101,114,115,105,111,110]),((eN "slice bounds out of range"),[115,108,105,99,101,32,98,111,117,110,100,115,32,111,117,116,32,111,102,32,114,97,110,103,101]),((eN "assignment to entry in nil map"),[97,115,115,105,103,110,109,101,110,116,32,116,111,32,101,110,116,114,121,32,105,110,32,110,105,108,32,109,97,112])]
def Bf:AV:=(.Af [sN "int",sN "int"])
def Bi:Tr AV:=(nT "MOST_PARTS" (.int ⟨1048576,[]⟩) (nT "_law_row" (.Af [sN "slice",.Af [sN "int",sN "int"]]) (nT "TypedFn" (tR 1050) (nT "World" (tR 1928) (nT "max" (.Bd (.builtin "max")) (nT "zip" (.Bd (.type "zip")) (nS "len" (.Bd (.builtin "len"))) (nS "int" (.Bd (.type "int")))) (nT "list" (.Bd (.type "list")) (nS "bool" (.Bd (.type "bool"))) (nS "PLAIN" (tR 1868)))) (nT "sorted" (.Bd (.builtin "sorted")) (nT "tuple" (.Bd (.type "tuple")) (nS "range" (.Bd (.type "range"))) (nS "bytes" (.Bd (.type "bytes")))) (nT "made_of" (tR 965) (nS "GoPanic" (tR 114)) .Ar))) (nT "_law_run" (tR 1988) (nT "runes_of" (tR 872) (nT "_law_at" (tR 2021) (nS "Choices" (tR 1078)) (nS "_law_one" (tR 1974))) (nT "PlainRun" (tR 1861) (nS "has_sign" (tR 270)) .Ar)) (nT "cut_text" (tR 896) (nT "_law_map" (tR 1944) (nS "PlainMap" (tR 567)) (nS "_law_cut" (tR 2035))) (nT "NamedRow" (tR 1885) (nS "need_few" (tR 458)) .Ar)))) (nT "_law_pair" (.Af [sN "struct",.Af [.Af [sN "p",.Af [sN "int",sN "int"],.bool false],.Af [sN "q",.Af [sN "int",sN "int"],.bool false]]]) (nT "_law_leaf" (tR 2014) (nT "_law_read" (tR 1995) (nT "KIND_BITS" (tR 262) (nS "_law_any" (tR 1937)) (nS "_law_func" (tR 1953))) (nT "enumerate" (.Bd (.type "enumerate")) (nS "_law_held" (tR 1981)) .Ar)) (nT "PlainCall" (tR 385) (nT "value_tag" (tR 465) (nS "octets_of" (tR 889)) (nS "new_thing" (tR 1019))) (nT "Exception" (.Bd (.type "Exception")) (nS "_law_bool" (tR 1935)) .Ar))) (nT "plain_cut" (tR 1014) (nT "TypeFault" (tR 64) (nT "face_fits" (tR 261) (nS "ChanError" (tR 39)) (nS "NameFault" (tR 52))) (nT "least_int" (tR 277) (nS "FuelFault" (tR 95)) .Ar)) (nT "OCTET_KIND" (tR 898) (nT "value_key" (tR 481) (nS "_law_text" (.Af [sN "string"])) (nS "int_unary" (tR 319))) (nT "LOOSE_TAGS" (.Af [sN "slice",sN "map",sN "func"]) (nS "TASK_DEEDS" (tR 1753)) .Ar))))) (nT "exact_result" (tR 305) (nT "known_rows" (tR 1896) (nT "part_along" (tR 503) (nT "PlainStore" (tR 691) (nT "_law_three" (.Af [sN "array",.int ⟨3,[]⟩,.Af [sN "int",sN "int"]]) (nS "isinstance" (.Bd (.builtin "isinstance"))) (nS "_law_whole" (.Af [sN "int",sN "int"]))) (nT "zero_value" (tR 738) (nS "told_value" (tR 915)) .Ar)) (nT "pointer_to" (tR 524) (nT "_law_drawn" (tR 1967) (nS "_law_spool" (tR 1960)) (nS "_law_shown" (tR 2000))) (nT "implements" (tR 254) (nS "PlainGates" (tR 1263)) .Ar))) (nT "SHIFTING_OPS" (.Af [sN "<<",sN ">>"]) (nT "is_place_at" (tR 819) (nT "inner_place" (tR 531) (nS "parts_asked" (tR 920)) (nS "_law_number" (tR 2028))) (nT "shifted_int" (tR 298) (nS "wrapped_int" (tR 284)) .Ar)) (nT "asked_values" (tR 903) (nT "way_of_place" (tR 826) (nS "bound_method" (tR 1026)) (nS "values_equal" (tR 473))) (nT "MachineFault" (tR 83) (nS "joined_texts" (tR 979)) .Ar)))) (nT "int_arithmetic" (tR 312) (nT "runtime_panic" (tR 124) (nT "plain_binary" (tR 986) (nT "begin_of_way" (tR 833) (nS "cut_quotient" (tR 291)) (nS "place_on_way" (tR 840))) (nT "POINTED_NAMES" (tR 739) (nS "RUNTIME_ERROR" (tR 117)) .Ar)) (nT "PlainRoutines" (tR 446) (nT "underlying_of" (tR 728) (nS "part_of_value" (tR 972)) (nS "is_ordered_so" (tR 326))) (nT "all_functions" (tR 1760) (nS "PlainChannels" (tR 1216)) .Ar))) (nT "COMPARING_SIGNS" (.Af [sN "==",sN "!=",sN "<",sN "<=",sN ">",sN ">="]) (nT "_law_told_form" (tR 2049) (nT "octets_of_rune" (tR 884) (nS "plain_asserted" (tR 1000)) (nS "parts_of_value" (tR 925))) (nT "count_of_parts" (tR 958) (nS "_law_made_form" (tR 2042)) .Ar)) (nT "_law_told_right" (tR 2007) (nT "with_part_along" (tR 510) (nS "plain_converted" (tR 993)) (nS "plain_looked_up" (tR 1007))) (nT "place_of_pointer" (tR 517) (nS "_law_form_right" (tR 2054)) .Ar))))))
def tt:TT:=⟨Aea,AdR,R7,chL,encL,Bf,39,36,114⟩
noncomputable def msL:List (Nat×List (Pos×Nat)):=[(2028,[(⟨1771,12,1771,66⟩,1003),(⟨1772,28,1772,74⟩,1000),(⟨1772,76,1772,139⟩,1001),(⟨1772,141,1772,192⟩,1002),(⟨1772,194,1772,264⟩,1003),(⟨1772,266,1772,314⟩,1004),(⟨1772,316,1772,422⟩,1005),(⟨1772,424,1772,492⟩,1006),(⟨1772,494,1772,550⟩,1007),(⟨1772,552,1772,640⟩,1008),(⟨1772,642,1772,685⟩,1009),(⟨1772,687,1772,747⟩,1010),(⟨1772,749,1772,840⟩,1011)]),(2042,[(⟨1781,11,1781,92⟩,1003),(⟨1782,11,1782,101⟩,1008),(⟨1783,28,1783,85⟩,1000),(⟨1783,87,1783,162⟩,1001),(⟨1783,164,1783,247⟩,1002),(⟨1783,249,1783,357⟩,1003),(⟨1783,359,1783,447⟩,1004),(⟨1783,449,1783,505⟩,1005),(⟨1783,507,1783,602⟩,1006),(⟨1783,604,1783,708⟩,1007),(⟨1783,710,1783,797⟩,1008),(⟨1783,799,1783,877⟩,1009)]),(2049,[(⟨1788,21,1788,44⟩,2003),(⟨1790,23,1790,74⟩,1004),(⟨1790,76,1790,111⟩,2005),(⟨1793,28,1793,127⟩,1000),(⟨1793,129,1793,230⟩,1001),(⟨1793,232,1793,302⟩,1002),(⟨1793,304,1793,415⟩,1003),(⟨1793,417,1793,518⟩,1004),(⟨1793,520,1793,593⟩,1005)])]
def KF(w:ArV):Atw:=[(3,rI w),(0,Atv w.params),(2,CM w),(39,x39),(114,q8),(385,Aba),(446,Abf),(567,AbF),(691,Ab7),(1050,jQ),(1078,jU),(1216,jY),(1263,j3),(1861,kA),(1885,kE),(1928,kN),(38,x38 w),(113,AaJ w),(262,JM w),(384,Aa9 w),(445,Abe w),(566,AbE w),(690,Ab6 w),(1049,jP w),(1077,jT w),(1215,jX w),(1262,j1 w),(1753,Fm w),(1860,j9 w),(1884,kD w),(1927,kM w),(36,x36),(111,AaI),(124,AaL),(261,AaN),(270,AaQ),(277,AaS),(284,AaU),(305,AaW),(312,AaY),(319,Aa0),(326,Aa2),(361,Aa4),(368,Aa6),(375,Aa8),(424,Abd),(458,Abi),(465,Abk),(481,Abn),(503,Abp),(510,Abr),(517,Abt),(524,Abv),(531,Abx),(545,Abz),(552,AbB),(559,AbD),(585,AbH),(592,AbJ),(599,AbL),(606,AbN),(613,AbP),(620,AbR),(627,AbT),(632,AbV),(646,AbX),(660,AbZ),(667,Ab1),(674,Ab3),(681,Ab5),(728,Ab9),(738,Acb),(819,Ace),(826,Acg),(833,Aci),(840,Ack),(896,Acm),(903,Acp),(910,Acr),(915,Acu),(920,Acw),(925,Acy),(932,AcA),(939,AcC),(946,AcE),(953,AcG),(958,AcI),(965,AcK),(972,AcM),(986,AcO),(993,AcQ),(1000,jE),(1007,jG),(1014,jI),(1019,jK),(1026,jM),(1047,jO),(1068,jS),(1117,jW),(1234,j0),(1760,j5),(1774,j7),(1781,j8),(1882,kC),(1896,kG),(1911,kJ),(1918,kL),(1960,k7),(1967,k9),(1974,lB),(1981,lD),(1988,lF),(1995,lI),(2000,lK),(2007,lM),(2014,lO),(2021,lR),(2028,lT),(2035,lV),(2042,lX),(2049,lZ),(2054,mB),(2061,ZJ),(29,x29),(35,x35),(110,AaH),(123,AaK),(260,AaM),(263,AaO),(269,AaP),(276,AaR),(283,AaT),(304,AaV),(311,AaX),(318,AaZ),(325,Aa1),(360,Aa3),(367,Aa5),(374,Aa7),(423,Abb),(451,Abg),(457,Abh),(464,Abj),(474,Abl),(480,Abm),(502,Abo),(509,Abq),(516,Abs),(523,Abu),(530,Abw),(544,Aby),(551,AbA),(558,AbC),(584,AbG),(591,AbI),(598,AbK),(605,AbM),(612,AbO),(619,AbQ),(626,AbS),(631,AbU),(645,AbW),(659,AbY),(666,Ab0),(673,Ab2),(680,Ab4),(727,Ab8),(737,Aca),(818,Acd),(825,Acf),(832,Ach),(839,Acj),(895,Acl),(897,Acn),(902,Aco),(909,Acq),(914,Acs),(919,Acv),(924,Acx),(931,Acz),(938,AcB),(945,AcD),(952,AcF),(957,AcH),(964,AcJ),(971,AcL),(985,AcN),(992,AcP),(999,AcR),(1006,jF),(1013,jH),(1018,jJ),(1025,jL),(1046,jN),(1067,jR),(1116,jV),(1233,jZ),(1759,j4),(1773,j6),(1881,kB),(1895,kF),(1904,kH),(1910,kI),(1917,kK),(1933,kO),(1934,kP),(1938,kQ),(1939,kR),(1940,kS),(1941,kT),(1945,kV),(1946,kW),(1947,kX),(1948,kY),(1949,kZ),(1950,k4),(1959,k6),(1966,k8),(1973,lA),(1980,lC),(1987,lE),(1994,lH),(1999,lJ),(2006,lL),(2013,lN),(2020,lQ),(2027,lS),(2034,lU),(2041,lW),(2048,lY),(2053,mA),(2060,mC)]
theorem kf_at(w:ArV):(KF w).map (λp=>Av (K1 w) p.1)=(KF w).map (λp=>some p.2):=by kernel_rfl
theorem WE{α β:Type}{f g:α->β}{l:List α}(e:l.map f=l.map g)(a:α)(m:a∈l):f a=g a:=by
 induction l with
 |nil=>exact absurd m AwY
 |cons b l ih=>rw[AsZ,AsZ,AwA] at e;exact(Ar3.mp m).elim (λq=>q▸e.1) (ih e.2)
theorem Ww{α:Type}{l:List (Nat×α)}{a:Nat}{o:α}(h:l.lookup a=some o):(a,o)∈l:=by
 induction l with
 |nil=>exact ns h
 |cons p l ih=>
  rw[Asm] at h;cases q:a==p.1 with
  |true=>rw[q] at h;rw[←Ase h,beq_iff_eq.mp q];exact .head _
  |false=>rw[q] at h;exact .tail _ (ih h)
theorem kf_in{h:Asb}(D:∀a o,Av (K1 w) a=some o->h.get? a=some o):(KF w).In h:=λa o e=>D a o (WE (kf_at w) _<|Ww e)
def AX(a:Nat):ZL:=⟨Bi.get,OR [] (λl=>l) (AW msL a)⟩
def stL(a:Nat)(d:FK):Cs:=LJ (codes (stm (AX a) 40 true d.scope) d.body)
def Dy:FK:=dT 229
def FJ(d:FK)(i:Nat):Auj:=OR (.Pass ⟨0,0,0,0⟩) (λs=>s) (BI d.body i)
noncomputable def AfV:Auj->List Auj | .Try b _ _ _ _=>b |_=>[]
noncomputable def AfW:Auj->List Avv | .Try _ h _ _ _=>h |_=>[]
noncomputable def AfX:Auj->Pos | .Try _ _ _ _ p=>p |_=>⟨0,0,0,0⟩
noncomputable def hdS:List Auj->Auj |s::_=>s | []=>.Pass ⟨0,0,0,0⟩
noncomputable def whT:Auj->Expr | .While t _ _ _=>t |_=>.Constant .none 0 ⟨0,0,0,0⟩
noncomputable def whX:Auj->List Auj | .While _ b _ _=>b |_=>[]
noncomputable def whP:Auj->Pos | .While _ _ _ p=>p |_=>⟨0,0,0,0⟩
noncomputable def vT:List Avv->Str | .ExceptHandler (some (.Name g _)) _ _ _::_=>g |_=>Ayq
noncomputable def hnP:List Avv->Pos | .ExceptHandler (some (.Name _ p)) _ _ _::_=>p |_=>⟨0,0,0,0⟩
noncomputable def vU:List Avv->Str | .ExceptHandler _ (some x) _ _::_=>x |_=>Ayq
noncomputable def hnX:List Avv->List Auj | .ExceptHandler _ _ b _::_=>b |_=>[]
noncomputable def hnQ:List Avv->Pos | .ExceptHandler _ _ _ p::_=>p |_=>⟨0,0,0,0⟩
def rdW:Auj:=hdS (AfV (FJ Dy 1))
def iY:Expr:=whT rdW
def eB:List Auj:=whX rdW
def PL:List Avv:=AfW (FJ Dy 1)
theorem zG:Dy.body= [FJ Dy 0,.Try [.While iY eB [] (whP rdW)] [.ExceptHandler (some<|.Name (vT PL)<|hnP PL) (some<|vU PL) (hnX PL) (hnQ PL)] [] []<|AfX<|FJ Dy 1,FJ Dy 2]:=by kernel_rfl
def eA:Bool->Asv->Auj->Y Cs:=stm (AX 1995) 40
def zD:Cb:=((tri (AX 1995) 40).b true Dy.scope iY).c
def pV:Cs:=LJ (codes (eA true Dy.scope) eB)
def rdC:Cs:=NI (eA true Dy.scope (FJ Dy 0)).c (NI (Aay (NI (q6 1 zD pV) (Cj .next)) (CA (.Bd (.ref 114))) (HN (vU PL)) (LJ (codes (eA false Dy.scope) (hnX PL)))) (NI (eA true Dy.scope (FJ Dy 2)).c (Cj .next)))
theorem eC:both (eA true Dy.scope<|FJ Dy 0).g (both (eA true Dy.scope<|FJ Dy 2).g<|both ((tri (AX 1995) 40).b true Dy.scope iY).g<|both (BS (eA true Dy.scope) eB)<|both (BS (eA false Dy.scope)<|hnX PL)<|both (Km<|vU PL)<|dbg<|vT PL)=true:=by kernel_rfl
theorem zL:Dy.scope.names.lookup (vU PL)=some .local:=by kernel_rfl
theorem zK:Dy.scope.names.lookup (vT PL)=some .globalImplicit:=by kernel_rfl
theorem zN:Bi.get (HN<|vT PL)=some (.Bd<|.ref 114):=by kernel_rfl
theorem zM:Km (vT PL)=true:=by kernel_rfl
def OP(a:Nat):Option CF:=OR none (λp=>some (aT p.1.params.args p.1.scope p.2 (bt (ArX a 1995) rdC (stL a p.1)))) (MJ.get a)
theorem zF:MJ.get 1995=some (Dy,[]):=by kernel_rfl
theorem Ad1(w:ArV):MJ.Kw.map (λp=>OR none (λfd=>some (fd.params,fd.scope,fd.body)) (ML (KF w) p.1))=MJ.Kw.map (λp=>some (p.2.1.params,p.2.1.scope,.stmts p.2.1.body)):=by kernel_rfl
theorem tP(w:ArV):allR (λp=>both (keepIn (KF w)<|.ref p.1) (OR false (λfd=>gS (KF w) fd p.2.2)<|ML (KF w) p.1)) MJ.Kw=true:=by kernel_rfl
theorem Ad2:allR (λp=>bt (ArX p.1 1995) true (BS (stm (AX p.1) 40 true p.2.1.scope) p.2.1.body)) MJ.Kw=true:=by kernel_rfl
theorem AdV(w:ArV):allR (Un (KF w) tt) tt.at_.Kw=true:=by kernel_rfl
theorem AdY(w:ArV):allR (Ou<|KF w) tt.cl.Kw=true:=by kernel_rfl
theorem Ad0:allR (λp=>bt p.2.2 (bt (ArX p.1 39) true<|ArX p.1 114) true) tt.cl.Kw=true:=by kernel_rfl
theorem Ad8(w:ArV):FX (KF w) tt.xG=true:=by kernel_rfl
theorem Ad9(w:ArV):subIn (KF w) (.ref tt.xG) (.ref tt.xG)=some true:=by kernel_rfl
theorem AdZ(w:ArV):Mu (KF w) tt=true:=by kernel_rfl
theorem tQ:allR (λs=>Km (ArP s)) ["append","pop","extend","index","encode","__init__","ascii"]=true:=by kernel_rfl
theorem AdX:allR UM tt.ch=true:=by kernel_rfl
theorem Ad6(w:ArV):Hu (KF w) AuS=true:=by kernel_rfl
theorem AdW(w:ArV):Hu (KF w) Atu=true:=by kernel_rfl
theorem Ad3(w:ArV):allR (VE<|KF w) Bi.Kw=true:=by kernel_rfl
def gJ(o:Obj):List (Str×Nat×ArR):=OR [] Af0 (dictOf o.data)
noncomputable def dnO(o:Obj):Nat:=match o.data with | .dict _ n=>n |_=>0
theorem Aef(w:ArV):[JM w,Fm w]= [{cls:=.type "dict",data:=.dict ⟨dEn w (gJ (JM w))⟩ (dnO (JM w))},{cls:=.type "dict",data:=.dict ⟨dEn w (gJ (Fm w))⟩ (dnO (Fm w))}]:=by kernel_rfl
theorem Aeg(w:ArV):both (both (Ki ((gJ<|JM w).map (·.1))) (Ki ((gJ<|Fm w).map (·.1)))) (both (kvK (KF w) ((R7.get 262).getD [])<|gJ<|JM w)<|kvK (KF w) ((R7.get 1753).getD [])<|gJ<|Fm w)=true:=by kernel_rfl
theorem Afh(w:ArV):[(KF w).lookup 262,(KF w).lookup 1753]= [some (JM w),some<|Fm w]:=by kernel_rfl
theorem mW:R7.Kw= [(1753,(R7.get 1753).getD []),(262,(R7.get 262).getD [])]:=by kernel_rfl
def C1(w:ArV)(h1:Asb)(os:Atn)(way:List Int->AV->AV->Prop)(up:∀{ρ ρ' t o},ρ<+:ρ'->way ρ t o->way ρ' t o):Cx:=⟨OL.prog,w,h1,os,Bf,way,up⟩
def whV(w:ArV):ArR:=OR .none (λv=>v) (Pu (KF w) AuS (ArP "_law_whole"))
theorem Ad7(w:ArV):mS (KF w) 20 Bf (whV w)=true:=by kernel_rfl
theorem Ad5(w:ArV):Hu (KF w) Auu=true:=by kernel_rfl
theorem Ad4(w:ArV):Pu (KF w) Auu "sys.recursionlimit"=none:=by kernel_rfl
theorem wU(w:ArV):Av (K1 w) AuK=some (AtT w.params):=by kernel_rfl
theorem Afg(w:ArV):(KF w).lookup 39=some x39:=by kernel_rfl
theorem wR(w:ArV):(KF w).lookup 114=some q8:=by kernel_rfl
abbrev rX(p:Nat×List UInt8):Prop:=∃X,A9 p.1=some X∧p.2.length≤1000∧∀s u,Gives (Builtin.«str.encode» ⟨[.str X s,.str (ArP "ascii") u],[]⟩) (.bytes p.2.toArray)
theorem Va{s:String}{b:List UInt8}(h:both (Km (ArP s)) (AsO b.length 1000)=true)(g:∀t u,Gives (Builtin.«str.encode» ⟨[.str (ArP s) t,.str (ArP "ascii") u],[]⟩) (.bytes b.toArray)):rX (eN s,b):=⟨_,gL (bl h),Asp (br h),g⟩
theorem nF:∀p∈encL,rX p:=by
 unfold encL;exact AwJ.mpr ⟨Va (by kernel_rfl) λt u=>.of_eq (by kernel_rfl),AwJ.mpr ⟨Va (by kernel_rfl) λt u=>.of_eq (by kernel_rfl),AwJ.mpr ⟨Va (by kernel_rfl) λt u=>.of_eq (by kernel_rfl),
  AwJ.mpr ⟨Va (by kernel_rfl) λt u=>.of_eq (by kernel_rfl),AwJ.mpr ⟨Va (by kernel_rfl) λt u=>.of_eq (by kernel_rfl),λz h=>absurd h AwY⟩⟩⟩⟩⟩
abbrev sO(bm:List ArR):Prop:=both (bm.contains (.type "Exception")) (both (bt (bm.contains (.type "AttributeError")) false true) (bt (bm.contains (.type "NameError")) false true))=true
theorem i9(h:sO bm):GC "Exception" bm:=⟨bl h,Ht (bl (br h)),Ht (br (br h))⟩
theorem XH{h:Asb}{os:Atn}{way:List Int->AV->AV->Prop}{up:∀{ρ ρ' t o},ρ<+:ρ'->way ρ t o->way ρ' t o}(D:∀a o,Av (K1 w) a=some o->h.get? a=some o):Ap (C1 w h os way up) (KF w) tt Bi where
 hK:=kf_in D
 sys:=⟨_,D _ _<|wU w⟩
 at_:=AdV w
 cl:=AdY w
 bd:=λp hp=>by
  rw[show tt.bd.Kw=_ from mW] at hp;have q:=Aeg w;have e:=Afh w;have d:=Aef w;rw[AwA,AwA] at e d;rcases Ar3.mp hp with rfl |hp
  ·exact⟨by decide,gJ<|Fm w,⟨dnO<|Fm w,(kf_in D _ _ e.2.1).trans<|congrArg some d.2.1⟩,br<|bl q,br<|br q⟩
  ·obtain rfl:=Ash.mp hp;exact⟨by decide,gJ<|JM w,⟨dnO<|JM w,(kf_in D _ _ e.1).trans<|congrArg some d.1⟩,bl<|bl q,bl<|br q⟩
 xo:=λCl h=>by
  obtain⟨p,e,h⟩:=Fb h;have q:=AN Ad0 _ (Tr.get_mem _ e);rw[show p.2=true from h] at q;refine B9 (b:=ArX Cl 39) q (λe z=>?_) λz e=>?_
  ·rw[(ArU e:Cl=39)];exact⟨_,_,_,_,_,_,_,_,_,_,_,_,_,_,_,_,kf_in D _ _<|Afg w,i9 (by kernel_rfl)⟩
  ·rw[(ArU e:Cl=114)];exact⟨_,_,_,_,_,_,_,_,_,_,_,_,_,_,_,_,kf_in D _ _<|wR w,i9 (by kernel_rfl)⟩
 xc:=Ad8 w
 xs:=Ad9 w
 cm:=AdZ w
 nms:=tQ
 ch:=AdX
 enc:=nF
 mn:=Ad6 w
 bn:=AdW w
 gl:=Ad3 w
 lim:=by obtain⟨m,a,b⟩:=IY (C:=C1 w h os way up) (kf_in D) (Ad5 w);exact⟨m,a,(b _).trans<|Ad4 w⟩
 whole:=⟨whV w,Ad7 w⟩
 Hc:=rfl
section
theorem zH:((tri (AX 1995) 40).b true Dy.scope iY).g=true:=bl (br<|br eC)
theorem zI:BS (eA true Dy.scope) eB=true:=bl (br<|br<|br eC)
variable{w:ArV}{h1:Asb}{os:Atn}{way:List Int->AV->AV->Prop}{up:∀{ρ ρ' t o},ρ<+:ρ'->way ρ t o->way ρ' t o}
variable{sum:Nat->List AV->St->K AV->Option Bool}{loop:Nat->AZ->St->Option (M Unit)}{dc:Nat->Bool}
theorem vQ{C:Cx}{X:CX}{n:Nat}(h0:∀E σ,X.T.loop 0 E σ=none)(b sc et bx):Hook C X n b sc 0 et bx:=Hook.none h0
theorem zE(R:Ap (C1 w h1 os way up) (KF w) tt Bi)(h0:∀E σ,loop 0 E σ=none){n:Nat}(ok:Cq (C1 w h1 os way up) n cl)(HK:Hook (C1 w h1 os way up) ⟨tt.tab sum loop dc,cl⟩ n true Dy.scope 1 iY eB):
  SL (C1 w h1 os way up) ⟨tt.tab sum loop dc,cl⟩ n true Dy.scope rdC Dy.body:=by
 have KA:N9 (C1 w h1 os way up) (AX 1995):=R.ag _;have G:FL (C1 w h1 os way up) ⟨tt.tab sum loop dc,cl⟩ n:=R.uH ok;have S:=Jl KA G (vQ h0) 40;have g2:=br eC;have g3:=br g2;have g4:=br g3;have g5:=br g4;have g6:=br g5;rw[zG];exact SL.cons (S true Dy.scope _<|bl eC) (SL.cons (SS.AfY (nm:=vU PL) (G:=114) G.SO (SL.cons (SS.whl HK ((P8 KA G 40).b true Dy.scope _<|bl g3)<|.of (S true Dy.scope) _<|bl g4) SL.nil) (BD<|bl g6) zL zK (Gf<|br g6) (KA _ _ (BD zM) zN)<|.of (S false Dy.scope) _<|bl g5)
  (SL.cons (S true Dy.scope _<|bl g2) SL.nil))
theorem QB(R:Ap (C1 w h1 os way up) (KF w) tt Bi){a:Nat}(e:MJ.get a=some p){T:Tab}{n:Nat}{c:Cs}(run:∀cl,Cq (C1 w h1 os way up) n cl->SL (C1 w h1 os way up) ⟨T,cl⟩ n true p.1.scope c p.1.body):
  Oc (C1 w h1 os way up) T n (aT p.1.params.args p.1.scope p.2 c) a:=by
 have m:=Tr.get_mem _ e;obtain⟨fd,e1,h1⟩:=Fb (br<|AN (tP w) _ m);have eq:=WE (Ad1 w) _ m;rw[show ML (KF w) (a,p).1=some fd from e1] at eq;obtain⟨e2,e3⟩:=Asy (Ase eq);obtain⟨e3,e4⟩:=Asy e3;refine(show fd.params=p.1.params from e2)▸?_;refine(show fd.scope=p.1.scope from e3)▸?_;rw[←show fd.scope=p.1.scope from e3] at run;exact bO R.hK e1 e4 h1 run
theorem K4{lo:Nat}(R:Ap (C1 w h1 os way up) (KF w) tt Bi)(h0:∀E σ,loop 0 E σ=none)(HK:∀n cl,lo≤n->Cq (C1 w h1 os way up) n cl->Hook (C1 w h1 os way up) ⟨tt.tab sum loop dc,cl⟩ n true Dy.scope 1 iY eB)(a:Nat)(cf:CF)(h:OP a=some cf)
  (n:Nat)(J6:lo≤n):Oc (C1 w h1 os way up) (tt.tab sum loop dc) n cf a:=by
 obtain⟨p,e,h⟩:=Ak h rfl;refine(Ase h)▸?_;refine QB R e λcl ok=>?_
 have g:=AN Ad2 _ (Tr.get_mem _ e);refine Df (P:=λc=>SL _ _ _ _ _ c p.1.body) (b:=ArX a 1995) (λq=>?_) λq=>?_
 ·have d:p.1=Dy:=by
   rw[ArU q] at e;exact congrArg AxZ (Ase<|e.symm.trans zF)
  refine d.symm▸?_;exact zE R h0 ok (HK n cl J6 ok)
 ·rw[show ArX (a,p).1 1995=false from q] at g;exact .of (Jl (R.ag _) (R.uH ok) (vQ h0) 40 true _) _ g
theorem QT(a:Nat)(cf:CF)(h:OP a=some cf):keepIn (KF w) (.ref a)=true:=by obtain⟨p,e,h⟩:=Ak h rfl;exact bl (AN (tP w) _<|Tr.get_mem _ e)
end
def Keeps(h h':Asb)(P:Ar0->Prop):Prop:=∀a o,h.get? a=some o->AG o->P a->∃sl,h'.get? a=some {o with slots:=sl}∧(o.cls≠ .type "frame"->sl=o.slots)
theorem Keeps.same(K:Keeps h h' P){a:Ar0}(ho:h.get? a=some o)(nf:AG o)(hp:P a)(hc:o.cls≠ .type "frame"):h'.get? a=h.get? a:=by obtain⟨sl,e,q⟩:=K a o ho nf hp;rw[e,ho,q hc]
theorem WV{o:Obj}(h:∃items n,o.data= .seq items n):AG o:=λvs q=>h.elim λi h=>h.elim λn h=>nomatch h.symm.trans q
theorem HV{o:Obj}{es n}(h:o.data= .dict es n):AG o:=λvs q=>nomatch h.symm.trans q
theorem Ij{o:Obj}{t:String}(h:o.cls= .type t)(ht:t≠"frame"):o.cls≠ .type "frame":=λe=>ht (Ayz (h.symm.trans e))
theorem Keeps.ob(K:Keeps h h' P)(S:Cr W W2 h h'){p:Ar0×Ar0}(h1:P p.1)(ep:p.2=p.1)(ho:h.get? p.1=some o)(nf:AG o)(hc:o.cls≠ .type "frame")(hb:Ob C W h p x):Ob C W2 h' p x:=
 have e1:=K.same ho nf h1 hc
 Ob.AS S e1 (ep.symm▸e1) hb
theorem Keeps.lst(K:Keeps h h' P)(S:Cr W W2 h h'){p:Ar0×Ar0}(h1:P p.1){l}(ep:p.2=p.1)(il:h.IsList p.1 l)(hb:Ob C W h p x):Ob C W2 h' p x:=
 il.elim λz q=>K.ob S h1 ep q.1 (WV ⟨_,q.2.2⟩) (Ij q.2.1 (by decide)) hb
theorem Ob.kept(S:Cr W W2 h h')(K:Keeps h h' P){p:Ar0×Ar0}(h1:P p.1)(h2:P p.2)(o:AO):Ob C W h p o->Ob C W2 h' p (Cn o):=by
 induction o with
 |list pre l Zn=>exact λhb=>hb.elim λvs b=>K.lst S h1 b.ep b.il hb
 |mid l a m=>exact λhb=>hb.elim λvs b=>b.elim λws b=>K.lst S h1 b.ep b.il hb
 |dict l=>exact λhb=>hb.2.elim λBk b=>b.1.elim λo q=>q.elim λes q=>q.elim λn q=>K.ob S h1 hb.1 q.1 (HV q.2.2.1) (Ij q.2.1.1 (by decide)) hb
 |inst Cl l=>exact λhb=>hb.1.elim λsl e=>hb.2.elim λes q=>q.elim λn q=>q.elim λCK q=>Ob.AS S (K.same e (λvs q=>nomatch q) h1 (λq=>nomatch q)) (K.same q.1 (HV rfl) h2 (Ij (o:=⟨.type "dict",_,_,_⟩) rfl (by decide))) hb
 |Ao f=>exact λhb=>hb.2.elim λx q=>q.elim λy q=>q.elim λt q=>q.elim λu q=>K.lst S h1 hb.1 q.1 hb
 |ed l=>exact λhb=>hb.2.elim λes q=>q.elim λn q=>q.elim λCK q=>K.ob S h1 hb.1 q.1 (HV rfl) (Ij (o:=⟨.type "dict",_,_,_⟩) rfl (by decide)) hb
 |cell v=>induction v with
  |none=>exact λhb=>hb.2.elim λo q=>(K _ _ q.1 (λvs e=>nomatch q.2.symm.trans e) h1).elim λsl e=>⟨hb.1,_,e.1,q.2⟩
  |some v=>exact λhb=>hb.2.elim λcv b=>b.1.elim λo q=>(K _ _ q.1 (λvs e=>nomatch q.2.symm.trans e) h1).elim λsl e=>⟨hb.1,cv,⟨_,e.1,q.2⟩,b.2.keep S.ρ S.τ S.q S.Af⟩
 |frame l=>exact λhb=>hb.2.elim λm b=>b.1.elim λo q=>q.elim λes q=>q.elim λn q=>(K _ _ q.1 (HV q.2.1) h1).elim λsl e=>⟨hb.1,m,⟨_,es,n,e.1,q.2⟩,b.2.AS S⟩
 |_=>exact λz=>trivial
structure Sub(C:Cx)(σ:St)(W Wg:Wd)(s:ArT)(σg σ':St)(W':Wd)(s':ArT):Prop where
 I:Inv C W σ s
 X:Ext σg Wg s σ' W' s'
 I':Inv C W' σ' s'
 pick:∀p∈Wg.τ,p∈W.τ
 fs:Wg.fs=W.fs
section
variable{σ σg σ':St}{W Wg W':Wd}{s s':ArT}
noncomputable def H3(W W':Wd)(nw:List (Ar0×Ar0))(ex:List Int)(q:Nat->AV×AV)(ls:Nat->List ArR):Wd:=⟨W.ρ++ex,W.τ++nw,q,ls,W'.fs,W.fo⟩
theorem Sub.keeps(B:Sub C σ W Wg s σg σ' W' s'):Keeps s.heap s'.heap (λa=>¬own Wg.τ a):=λa o h nf n=>B.X.keep a o h nf n
theorem Sub.away(B:Sub C σ W Wg s σg σ' W' s'){i:Nat}(hp:W.τ[i]?=some p)(hn:p∉Wg.τ):¬own Wg.τ p.1∧¬own Wg.τ p.2:=by
 have key:∀q∈Wg.τ,p.1≠q.1∧p.1≠q.2∧p.2≠q.1∧p.2≠q.2:=λq hq=>by
  obtain⟨j,hj⟩:=Dh (B.pick q hq);refine B.I.apart i j p q hp hj λe=>?_
  subst e;rw[hp] at hj;cases hj;exact hn hq
 exact⟨λ⟨q,hq,e⟩=>let⟨a,b,_,_⟩:=key q hq;e.elim a b,λ⟨q,hq,e⟩=>let⟨_,_,a,b⟩:=key q hq;e.elim a b⟩
theorem Sub.fresh(B:Sub C σ W Wg s σg σ' W' s'){p:Ar0×Ar0}(hp:p∈W'.τ)(hn:p∉W.τ):s.heap.get? p.1=none∧s.heap.get? p.2=none:=
 (B.X.fresh p hp).elim (λh=>absurd (B.pick p h) hn) id
theorem Sub.off(B:Sub C σ W Wg s σg σ' W' s'){p r:Ar0×Ar0}(hp:p∈W.τ)(hr:r∈W'.τ∧r∉W.τ):p.1≠r.1∧p.1≠r.2∧p.2≠r.1∧p.2≠r.2:=
 (B.I.live p hp).1.elim λz q1=>(B.I.live p hp).2.elim λz q2=>
  have f:=B.fresh hr.1 hr.2
  ⟨λe=>sn q1.1 (e▸f.1),λe=>sn q1.1 (e▸f.2),λe=>sn q2.1 (e▸f.1),λe=>sn q2.1 (e▸f.2)⟩
theorem Sub.Af(B:Sub C σ W Wg s σg σ' W' s'){nw:List (Ar0×Ar0)}{ls:Nat->List ArR}(N7:∀p∈nw,p∈W'.τ∧p∉W.τ):AJ W (H3 W W' nw ex q ls) s.heap s'.heap:=λa items t=>
 t.Af.elim λo d=>t.nd.elim λo' d'=>
  have e:=(B.keeps.same d.1 (WV ⟨_,d.2.2⟩) (λ⟨p,hp,e⟩=>t.un ⟨p,B.pick p hp,e⟩)<|Ij d.2.1 (by decide)).trans d.1
  ⟨HZ (λp hp=>(AsA.mp hp).imp id λhp=>have f:=B.fresh (N7 p hp).1 (N7 p hp).2;⟨λe=>sn d.1 (e▸f.1),λe=>sn d.1 (e▸f.2)⟩) t.un,t.fo,⟨o,e,d.2⟩,o',e.trans<|d.1.symm.trans d'.1,d'.2⟩
theorem Sub.AS(B:Sub C σ W Wg s σg σ' W' s'){nw:List (Ar0×Ar0)}{ex:List Int}{q:Nat->AV×AV}{ls:Nat->List ArR}(N7:∀p∈nw,p∈W'.τ∧p∉W.τ)
  (hq:∀a,a<W.ρ.length->q a=W.q a)(hl:∀a,a<W.ρ.length->ls a=W.ls a):Cr W (H3 W W' nw ex q ls) s.heap s'.heap:=
 ⟨Asf _ _,Asf _ _,hq,hl,B.Af N7⟩
structure Back(C:Cx)(σ:St)(W Wg W':Wd)(s s':ArT)(nw:List (Ar0×Ar0))(ex:List Int)(q:Nat->AV×AV)(ls:Nat->List ArR)(σ2:St):Prop where
 N7:∀p∈nw,p∈W'.τ∧p∉W.τ
 nd:nw.Nodup
 hq:∀a,a<W.ρ.length->q a=W.q a
 hl:∀a,a<W.ρ.length->ls a=W.ls a
 n:σ2.n=σ.n+nw.length
 k:σ2.k=σ.k+ex.length
 rng:∃er,σ2.rng=er++σ.rng∧er.length=ex.length∧∀i x,ex[i]?=some x->inR (Bx er<|ex.length-1-i) x
 neg:σ2.neg=σ.neg
 BM:σ2.BM=σ.BM
 A8:σ2.A8=σ.A8+1
 low:σ2.low=σ.low
 obj:∀i o,σ2.obj i=some o->(∃o0 p,σ.obj i=some o0∧o=Cn o0∧W.τ[i]?=some p∧p∉Wg.τ)∨∃p,(W.τ++nw)[i]?=some p∧Ob C (H3 W W' nw ex q ls) s'.heap p o
section
variable{nw:List (Ar0×Ar0)}{ex:List Int}{q:Nat->AV×AV}{ls:Nat->List ArR}{σ2:St}
theorem Sub.live(B:Sub C σ W Wg s σg σ' W' s'){p:Ar0×Ar0}(hp:p∈W.τ):(∃o,s'.heap.get? p.1=some o∧Be o)∧∃o,s'.heap.get? p.2=some o∧Be o:=
 (B.I.live p hp).imp (λq=>q.elim λz q=>(B.X.alive _ _ q.1).imp λz e=>⟨e,trivial⟩) λq=>q.elim λz q=>(B.X.alive _ _ q.1).imp λz e=>⟨e,trivial⟩
theorem Sub.apart(B:Sub C σ W Wg s σg σ' W' s')(N7:∀p∈nw,p∈W'.τ∧p∉W.τ)(nd:nw.Nodup){i j:Nat}(hp:(W.τ++nw)[i]?=some p)(hr:(W.τ++nw)[j]?=some r)(cJ:i≠j):p.1≠r.1∧p.1≠r.2∧p.2≠r.1∧p.2≠r.2:=by
 rcases F6 hp with hp |⟨li,hp⟩
 ·rcases F6 hr with hr |⟨lj,hr⟩
  ·exact B.I.apart i j p r hp hr cJ
  ·exact B.off (get_mem hp) (N7 r<|get_mem hr)
 ·rcases F6 hr with hr |⟨lj,hr⟩
  ·exact(B.off (get_mem hr)<|N7 p<|get_mem hp).imp AuD λa=>⟨a.2.1.symm,a.1.symm,a.2.2.symm⟩
  ·obtain⟨i',hi⟩:=Dh (N7 p<|get_mem hp).1;obtain⟨j',hj⟩:=Dh (N7 r<|get_mem hr).1;refine B.I'.apart i' j' p r hi hj λe=>?_
   obtain rfl:=uniq hi (e▸hj);have e:=(AwM (Ar2.mp hp).1 nd).mp (hp.trans hr.symm);exact cJ ((AxE li).symm.trans ((congrArg (· +W.τ.length) e).trans<|AxE lj))
theorem Sub.obj(B:Sub C σ W Wg s σg σ' W' s')(K:Back C σ W Wg W' s s' nw ex q ls σ2){i:Nat}(h:σ2.obj i=some o):∃p,(W.τ++nw)[i]?=some p∧Ob C (H3 W W' nw ex q ls) s'.heap p o:=by
 rcases K.obj i o h with⟨o0,p,h0,rfl,hp,hn⟩|h
 ·obtain⟨p',hp',hb⟩:=B.I.obj i o0 h0;obtain rfl:=uniq hp hp';have a:=B.away hp hn;exact⟨_,Ab (Asf _ _) hp,Ob.kept (B.AS K.N7 K.hq K.hl) B.keeps a.1 a.2 o0 hb⟩
 ·exact h
theorem Sub.back(B:Sub C σ W Wg s σg σ' W' s')(K:Back C σ W Wg W' s s' nw ex q ls σ2):Inv C (H3 W W' nw ex q ls) σ2 s'∧Ext σ W s σ2 (H3 W W' nw ex q ls) s' where
 left:=
  {nτ:=by show(W.τ++nw).length=_;rw[Ar1,B.I.nτ,K.n]
   kρ:=by show(W.ρ++ex).length=_;rw[Ar1,B.I.kρ,K.k]
   rl:=K.rng.elim λer r=>by rw[r.1,Ar1,r.2.1,B.I.rl,K.k,Aw9]
   rng:=λa x h=>K.rng.elim λer r=>by show inR (Bx σ2.rng<|σ2.k-1-a) x;refine K.k.symm▸?_;refine r.1.symm▸?_;exact Gq B.I.kρ B.I.rng r.2.1 r.2.2 h
   neg:=λp hp=>(B.I.neg p<|K.neg▸hp).imp λz=>Au1 (Ad.Cv<|Asf _ _)
   BM:=λp hp=>(B.I.BM p<|K.BM▸hp).imp λz=>Au1 (Ad.Cv<|Asf _ _)
   obj:=λi o h=>B.obj K h
   apart:=λi j p r hp hr cJ=>B.apart K.N7 K.nd hp hr cJ
   new:=λp hp=>(AsA.mp hp).elim (B.I.new p) λh=>B.I'.new p (K.N7 p h).1
   live:=λp hp=>(AsA.mp hp).elim B.live λh=>B.I'.live p (K.N7 p h).1
   HQ:=B.I'.HQ
   base:=B.I'.base
   gens:=B.I'.gens
   os:=B.I'.os
   fo:=λa ha=>(B.I.fo a ha).imp id λq=>q.elim (B.X.alive a)}
 right:=
  {τ:=Asf _ _
   ρ:=Asf _ _
   q:=K.hq
   ls:=K.hl
   low:=K.low
   A8:=K.A8▸Axp _
   keep:=λa o h nf n=>B.keeps a o h nf λ⟨p,hp,e⟩=>n ⟨p,B.pick p hp,e⟩
   exact:=λv=>absurd (K.A8.symm.trans v) (AxJ _)
   fresh:=λp hp=>(AsA.mp hp).imp id λh=>B.fresh (K.N7 p h).1 (K.N7 p h).2
   alive:=B.X.alive
   fr:=B.X.fr
   fs:=B.fs▸B.X.fs
   fo:=rfl}
end
end
section
variable{σ:St}{W:Wd}{s:ArT}
theorem Inv.pick(I:Inv C W σ s){ρ:List Int}{ps:List (Ar0×Ar0)}{q:Nat->AV×AV}{ls:Nat->List ArR}{fo:List Ar0}{σg:St}(hp:∀p∈ps,p∈W.τ)(nd:ps.Nodup)(hn:ps.length=σg.n)(hk:ρ.length=σg.k)(rl:σg.rng.length=σg.k)
  (rng:∀a x,ρ[a]?=some x->inR (σg.rg a) x)(neg:∀p∈σg.neg,∃x,p.1.ev ρ=some x∧(decide (x<0))=p.2)(BM:∀p∈σg.BM,∃x,p.1.ev ρ=some x∧(decide (x=0))=p.2)
  (vM:∀a∈fo,C.h1.get? a=none∧∃o,s.heap.get? a=some o)(obj:∀i o,σg.obj i=some o->∃p,ps[i]?=some p∧Ob C ⟨ρ,ps,q,ls,W.fs,fo⟩ s.heap p o):Inv C ⟨ρ,ps,q,ls,W.fs,fo⟩ σg s:=
 ⟨hn,hk,rl,rng,neg,BM,obj,λi j p r hi hj cJ=>(Dh<|hp p<|get_mem hi).elim λi' cH=>(Dh<|hp r<|get_mem hj).elim λj' hj'=>
   I.apart i' j' p r cH hj' λe=>cJ ((AwM (Ar2.mp hi).1 nd).mp<|hi.trans (uniq cH (e▸hj')▸hj).symm),
  λp h=>I.new p (hp p h),λp h=>I.live p (hp p h),I.HQ,I.base,I.gens,I.os,vM⟩
theorem PC{i:Nat}(h:(PA.Ai (some o) .nil .nil).get i=some o'):i=0∧o'=o:=by
 induction i with
 |zero=>exact⟨rfl,(Ase h).symm⟩
 |succ i=>exact Df (P:=λx=>x=some o'->i+1=0∧o'=o) (b:=ArX (AsV i 2) 0) (λz=>ns) (λz=>ns) h
theorem Inv.Xh(I:Inv C W σ s){p:Ar0×Ar0}(hp:p∈W.τ){ρ:List Int}{k:Nat}{rng:List BN}{q:Nat->AV×AV}{ls:Nat->List ArR}{fo:List Ar0}{A8 low:Nat}(hk:ρ.length=k)(rl:rng.length=k)(hr:∀a x,ρ[a]?=some x->inR (Bx rng<|k-1-a) x)
  (vM:∀a∈fo,C.h1.get? a=none∧∃o,s.heap.get? a=some o){o:AO}(ob:Ob C ⟨ρ,[p],q,ls,W.fs,fo⟩ s.heap p o):Inv C ⟨ρ,[p],q,ls,W.fs,fo⟩ ⟨1,.Ai (some o) .nil .nil,k,rng,[],[],A8,low⟩ s:=
 I.pick (λz h=>Ash.mp h▸hp) (Atl.mpr ⟨AwY,AtM⟩) rfl hk rl hr (λz h=>absurd h AwY) (λz h=>absurd h AwY) vM λi x h=>by obtain⟨rfl,rfl⟩:=PC h;exact⟨p,rfl,ob⟩
noncomputable def GO(W:Wd):List Ar0:=W.fo++(W.τ.map (·.1)++W.τ.map (·.2))
theorem Inv.GO(I:Inv C W σ s)(a:Ar0)(h:a∈GO W):C.h1.get? a=none∧∃o,s.heap.get? a=some o:=
 (AsA.mp h).elim (I.fo a) λh=>(AsA.mp h).elim (λh=>(At8.mp h).elim λp q=>q.2▸⟨(I.new p q.1).1,(I.live p q.1).1.imp λz=>And.left⟩) λh=>(At8.mp h).elim λp q=>q.2▸⟨(I.new p q.1).2,(I.live p q.1).2.imp λz=>And.left⟩
noncomputable def HD:K AV:=λz z=>false
theorem Ac.HD(h:Ac C HD σ W s e s'):False:=h.no
theorem As.fs{W':Wd}(h:As A W)(e:W'.fs=W.fs):As A W':=h.imp λz q=>⟨q.1,λx hx=>⟨(q.2 x hx).1,e.symm▸(q.2 x hx).2⟩⟩
theorem LP{A:Ar4}{m:Nat}{cl:CL}(ok:Cq C m cl)(f:BQ m true A)(I:Inv C W σ s)(ar:As A W){Wg:Wd}{σg:St}(Ig:Inv C Wg σg s)(pick:∀p∈Wg.τ,p∈W.τ)(fs:Wg.fs=W.fs){a:Ar0}(hf:H5 C a)
  {vs:List AV}{cvs:List ArR}(hv:Ae C Wg s.heap vs cvs){kg:K AV}(run:cl (.Bd<|.ref a) vs σg kg HD=true){R:Auh->ArT->Prop}
  (h:∀v cv σ' W' s',kg v σ'=true->Sub C σ W Wg s σg σ' W' s'->VR C W' s'.heap v cv->R (.ok<|.ret cv) s'):Asu (model C.prog C.w) A (.call (.ref a) ⟨cvs,[]⟩) R s:=by
 refine Aub (ok.code A σg Wg s a vs cvs kg HD f Ig (ar.fs fs) hf hv run) λr s' q=>?_
 induction r with
 |error e=>exact(Ac.HD q).elim
 |ok fl=>
  induction fl with
  |ret v=>obtain⟨av,σ',W',h1,X,I',r⟩:=q;exact h av v σ' W' s' h1 ⟨I,X,I',pick,fs⟩ r
  |next=>exact q.elim
  |brk=>exact q.elim
  |cont=>exact q.elim
end
theorem EJ{fn:Nat->Option CF}(m:Nat)(CT:HI C T fn m)(SH:Qf C)(SU:∀i,FN C T<|m+i+1)(n:Nat):Cq C (m+n) (Qs T fn n):=by
 induction n with
 |zero=>exact⟨λz z z z z=>ff,λz z z z z z z z z z z z z z z=>ff,λz z z z z z z z z z z z z z=>ff⟩
 |succ n ih=>exact UD CT (Axl _ _) SH (SU n) ih
theorem FN.none{T:Tab}{n:Nat}(h:∀a vs σ k,T.sum a vs σ k=none):FN C T n:=λz z z z z z z z z z z z z q=>sn q (h _ _ _ _)
theorem BQ.le{m n:Nat}{b:Bool}(f:BQ n b A)(h:m≤n):BQ m b A:=⟨AtH (Axb (AxA 2 h) _) f.depth,AtH (Axb (AxA 14 h) _) f.units,f.hand⟩
def St.GV(σ:St):St:=match σ with
 |⟨n,objs,k,rng,neg,BM,A8,low⟩=>⟨n,objs.kill,k,rng,neg,BM,A8+1,low⟩
def St.G7(σ:St)(i:Nat)(o:AO):St:=match σ with
 |⟨n,objs,k,rng,neg,BM,A8,low⟩=>⟨n,objs.set o i,k,rng,neg,BM,A8,low⟩
theorem St.dS{σ:St}{i:Nat}(h:σ.GV.obj i=some o):∃o0,σ.obj i=some o0∧o=Cn o0:=PA.Iz _ _ _ h
theorem St.W7{σ:St}{i j:Nat}(h:(σ.G7 i o).obj j=some y):(j=i∧y=o)∨(j≠i∧σ.obj j=some y):=PA.get_set _ _ _ _ _ h
section
variable{σ σg σ':St}{W Wg W':Wd}{s s':ArT}{p:Ar0×Ar0}{j:Nat}
theorem Inv.QU(I:Inv C W σ s){i:Nat}(h:σ.GV.obj i=some o):∃o0 p,σ.obj i=some o0∧o=Cn o0∧W.τ[i]?=some p:=(St.dS h).elim λo0 q=>(I.obj i o0 q.1).elim λp r=>⟨o0,p,q.1,q.2,r.1⟩
theorem Inv.pP(I:Inv C W σ s){i:Nat}(hi:W.τ[i]?=some q)(hj:W.τ[j]?=some p)(ne:i≠j):q∉[p]:=λh=>(I.apart i j p p (Ash.mp h▸hi) hj ne).1 rfl
theorem Sub.Uq(B:Sub C σ W Wg s σg σ' W' s')(hg:Wg.τ= [p])(hj:W.τ[j]?=some p){ex:List Int}{er:List BN}(e1:er.length=ex.length)(e2:∀i x,ex[i]?=some x->inR (Bx er<|ex.length-1-i) x){q:Nat->AV×AV}(hq:∀a,a<W.ρ.length->q a=W.q a){o:AO}
  (ob:Ob C (H3 W W' [] ex q W.ls) s'.heap p o):Inv C (H3 W W' [] ex q W.ls) ((σ.GV.atoms er).G7 j o) s'∧Ext σ W s ((σ.GV.atoms er).G7 j o) (H3 W W' [] ex q W.ls) s':=
 B.back ⟨λz h=>absurd h AwY,AtM,hq,λz z=>rfl,rfl,congrArg (σ.k+ ·) e1,⟨er,rfl,e1,e2⟩,rfl,rfl,rfl,rfl,λi x h=>(St.W7 h).elim (λh=>.inr ⟨p,(Ar7 _).symm▸h.1.symm▸hj,h.2.symm▸ob⟩)
  λh=>.inl ((B.I.QU h.2).elim λo0 r=>r.elim λp0 r=>⟨o0,p0,r.1,r.2.1,r.2.2,hg▸B.I.pP r.2.2 hj h.1⟩)⟩
end
def aJ(k:Nat)(t:List (Nat×Int)):Bool:=allR (λp=>AtP p.1 k) t
def bdS(n:Nat->Bool)(k:Nat)(f:AV->Bool)(v:AV):Bool:=match v with
 | .int l=>aJ k l.t | .Af l=>allR f l | .obj i=>n i | .sel a l=>both (AtP a k) (allR f l) | .Ee _=>false |_=>true
def bdV(n:Nat->Bool)(k:Nat)(d:Nat):AV->Bool:=NR (λz=>false) (λz f=>bdS n k f) d
structure Cut(W W2:Wd)(n:Nat->Bool)(k:Nat)(h:Asb):Prop where
 τ:∀i p,n i=true->W.τ[i]?=some p->W2.τ[i]?=some p
 ρ:∀a x,a<k->W.ρ[a]?=some x->W2.ρ[a]?=some x
 Af:AJ W W2 h h
theorem bI{ρ ρ2:List Int}{k:Nat}(h:∀a x,a<k->ρ[a]?=some x->ρ2[a]?=some x):∀{x:Int},aJ k t=true->EK ρ t=some x->EK ρ2 t=some x:=by
 induction t with
 |nil=>exact λz e=>e
 |cons p r ih=>exact λb e=>K3 e λu v hu hv ex=>(BH (h _ u (Asp (bl b)) hu) (ih (br b) hv)).trans (ex▸rfl)
theorem Ad.Vj{ρ ρ2:List Int}{k:Nat}(h:∀a x,a<k->ρ[a]?=some x->ρ2[a]?=some x){l:Ad}{x:Int}(b:aJ k l.t=true)(e:l.ev ρ=some x):l.ev ρ2=some x:=
 (AtW.mp e).elim λy q=>AtW.mpr ⟨y,bI h b q.1,q.2⟩
theorem Ae.map{f:AV->Bool}(ih:∀v cv,f v=true->VR C W h v cv->VR C W2 h2 v cv){l:List AV}:∀{vs:List ArR},allR f l=true->Ae C W h l vs->Ae C W2 h2 l vs:=by
 induction l with
 |nil=>exact λb r=>r.inv (P:=λvs=>Ae C W2 h2 [] vs) .nil
 |cons a l jh=>exact λb r=>r.inv (P:=λvs=>Ae C W2 h2 (a::l) vs) λcv cl x r=>.cons (ih _ _ (bl b) x) (jh (br b) r)
theorem VR.cut{k:Nat}(K:Cut W W2 n k h)(d:Nat):∀(v:AV) (cv:ArR),bdV n k d v=true->VR C W h v cv->VR C W2 h v cv:=by
 induction d with
 |zero=>exact λz z=>ff
 |succ d ih=>
  intro v cv b r;cases v with
  |AR=>exact r.inv (P:=VR C W2 h .AR) .AR
  |bool c=>exact r.inv (P:=VR C W2 h (.bool c)) .bool
  |int l=>exact r.inv (P:=VR C W2 h (.int l)) λi t e=>.int (Ad.Vj K.ρ b e)
  |str s=>exact r.inv (P:=VR C W2 h (.str s)) λx t e=>.str e
  |BG s=>exact r.inv (P:=VR C W2 h (.BG s)) λt=>.BG
  |Af l=>exact r.inv (P:=VR C W2 h (.Af l)) λvs a t q=>.Af (K.Af _ _ t) (Ae.map ih b q)
  |obj i=>exact r.inv (P:=VR C W2 h (.obj i)) λp e=>.obj (K.τ _ _ b e)
  |Bd u=>exact r.inv (P:=VR C W2 h (.Bd u)) .Bd
  |sel a l=>exact r.inv (P:=VR C W2 h (.sel a l)) λj v cv e1 e2 e3=>.sel (K.ρ _ _ (Asp (bl b)) e1) e2 (ih _ _ (AN (br b) _ (get_mem e2)) e3)
  |Ee q=>exact ff b
  |any=>exact .any
abbrev Ur(n:Nat->Bool)(k:Nat):AV->Bool:=bdV n k 12
def rF(n:Nat->Bool)(k:Nat)(l:List (Nm×AV)):Bool:=allR (λp=>Ur n k p.2) l
def bdD(n:Nat->Bool)(k:Nat)(l:List (AV×AV)):Bool:=allR (λp=>both (Ur n k p.1) (Ur n k p.2)) l
theorem bX{α:Type}{l:List (Nm×α)}{v:α}(h:AW l x=some v):(x,v)∈l:=by
 induction l with
 |nil=>exact ns h
 |cons p l ih=>exact Df (P:=λo=>o=some v->(x,v)∈p::l) (b:=ArX x p.1) (λq e=>(ArU q:x=p.1)▸Ase e▸ .head _) (λz e=>.tail _ (ih e)) h
theorem mV{k:Nat}{l:List (Nm×AV)}(b:rF n k l=true)(e:AW l x=some v):Ur n k v=true:=AN b _ (bX e)
def isDead(o:AO):Bool:=match o with
 | .dead=>true |_=>false
def bdO(n:Nat->Bool)(k:Nat)(o:AO):Bool:=match o with
 | .list a l b=>nC a (nC b (allR (Ur n k) l) false) false | .dict l=>bdD n k l | .inst _ l=>rF n k l | .frame l=>rF n k l | .ed l=>rF n k l | .Ao f=>Bv f | .dead=>true |_=>false
section
variable{W W2:Wd}{n:Nat->Bool}{k:Nat}{h:Asb}
theorem Ej.cut(K:Cut W W2 n k h){l:List (Nm×AV)}{m}(b:rF n k l=true)(N:Ej C W h l m):Ej C W2 h l m:=
 ⟨λx v e=>(N.1 x v e).imp λz=>Avw λz=>Au2 (Au2<|VR.cut K _ _ _<|mV b e),N.2⟩
theorem Bh.cut(K:Cut W W2 n k h)(b:Ur n k v=true)(r:Bh W v x):Bh W2 v x:=by
 induction r with
 |str e=>exact .str e
 |int e=>exact .int (Ad.Vj K.ρ b e)
theorem Co.cut(K:Cut W W2 n k h){l:List (AV×AV)}:∀{m},bdD n k l=true->Co C W h l m->Co C W2 h l m:=by
 induction l with
 |nil=>exact λb r=>r.inv (P:=λm=>Co C W2 h [] m) .nil
 |cons p l ih=>exact λb r=>r.inv (P:=λm=>Co C W2 h (p::l) m) λa b' m x y r=>.cons (x.cut K (bl (bl b))) (VR.cut K _ _ _ (br (bl b)) y) (ih (br b) r)
theorem Ob.cut(K:Cut W W2 n k h)(b:bdO n k o=true):Ob C W h p o->Ob C W2 h p o:=by
 induction o with
 |list x l y=>induction x with
  |some _=>exact ff b
  |none=>induction y with
   |some _=>exact ff b
   |none=>exact Avw λvs q=>⟨q.ep,Ae.map (VR.cut K _) b q.v,q.il,trivial,trivial,q.nd⟩
 |dict l=>exact Au2 (Avw λz=>Au2 (Co.cut K b))
 |inst Cl l=>exact Au2 (Avw λz=>Avw λz=>Avw λz=>Au2 (Au2 (Au2 (Ej.cut K b))))
 |frame l=>exact Au2 (Avw λz=>Au2 (Ej.cut K b))
 |ed l=>exact Au2 (Avw λz=>Avw λz=>Avw λz=>Au2 (Au2 (Au2 (Ej.cut K b))))
 |Ao f=>exact A6 b▸Au2 (Avw λz=>Avw λz=>Avw λz=>Avw λz=>Au2 (Au2 (Au1 λz=>trivial)))
 |dead=>exact id
 |_=>exact ff b
end
theorem UT{α β γ:Type}(f:α->β->γ){a b:α}{c d:β}(h:a=b)(k:c=d):f a c=f b d:=h▸k▸rfl
def B4{α:Type}(f:α->α->Bool):List α->List α->Bool:=all2 f
theorem CC{α:Type}{f:α->α->Bool}(h:∀a b,f a b=true->a=b){l m:List α}(q:B4 f l m=true):l=m:=Hd (P:=λl m=>l=m) rfl (λa b l m e q=>h a b e▸q▸rfl) q
def Vf(v w:ArR):Bool:=vC v (λx=>vC w (ArX x) (λz=>false) λz=>false) (λx=>vC w (λz=>false) (λy=>decide (x=y)) λz=>false) λx=>vC w (λz=>false) (λz=>false) λy=>decide (x=y)
theorem MH(h:Vf v w=true):v=w:=
 Z1 (P:=λv=>v=w) h (λx h=>Z1 (P:=λw=>.ref x=w) h (λy e=>congrArg _ (ArU e)) (λz=>ff) λz=>ff)
  (λx h=>Z1 (P:=λw=>.builtin x=w) h (λz=>ff) (λy e=>congrArg _ (of_decide_eq_true e)) λz=>ff) λx h=>Z1 (P:=λw=>.type x=w) h (λz=>ff) (λz=>ff) λy e=>congrArg _ (of_decide_eq_true e)
def isAny(v:AV):Bool:=match v with
 | .any=>true |_=>false
theorem c0(h:isAny v=true): .any=v:=by
 cases v with
 |any=>rfl |_=>exact ff h
theorem VX(h:isDead v=true): .dead=v:=by
 induction v with
 |dead=>rfl |_=>exact ff h
def eqB(x y:Bool):Bool:=bt x y (bt y false true)
theorem gM{x y:Bool}(h:eqB x y=true):x=y:=by
 induction x with
 |true=>exact h.symm
 |false=>exact(B9 (b:=y) h (λz=>ff) λe z=>e).symm
def eqW(f:AV->AV->Bool)(v w:AV):Bool:=match v with
 | .AR=>w.Bo true false | .bool x=>w.cBool (eqB x) false | .int x=>w.cInt (Ad.eq x) false | .str x=>w.cStr (ArX x) false | .BG x=>w.CS (Hg x) false | .Af l=>w.AU (B4 f l) false | .obj i=>w.Ay (ArX i) false | .Bd x=>w.AL (Vf x) false | .sel a l=>w.Oo (λb m=>both (ArX a b) (B4 f l m)) false | .Ee a=>w.KO (ArX a) false | .any=>isAny w
def eqX(d:Nat):AV->AV->Bool:=NR (λz z=>false) (λz f=>eqW f) d
theorem Ih{l:List UInt8}(h:Hg l m=true):l=m:=beq_iff_eq.mp ((JR l m).symm.trans h)
theorem CY{d:Nat}:∀{v w:AV},eqX d v w=true->v=w:=by
 induction d with
 |zero=>exact ff
 |succ d ih=>
  intro v w h;have all:= @CC AV (eqX d) λa b q=>ih q
  cases v with
  |AR=>exact AV.dR (Q:=λw=>.AR=w) h (λz=>rfl) λz=>ff
  |bool x=>exact AV.He (Q:=λw=>.bool x=w) h (λy e=>congrArg _ (gM e)) λz=>ff
  |int x=>exact AV.FC (Q:=λw=>.int x=w) h (λy e=>congrArg _ (Ad.eq_iff e)) λz=>ff
  |str x=>exact AV.Hb (Q:=λw=>.str x=w) h (λy e=>congrArg _ (ArU e)) λz=>ff
  |BG x=>exact AV.Sh (Q:=λw=>.BG x=w) h (λy e=>congrArg _ (Ih e)) λz=>ff
  |Af x=>exact AV.tupI (Q:=λw=>.Af x=w) h (λy e=>congrArg _ (all e)) λz=>ff
  |obj x=>exact AV.Pw (Q:=λw=>.obj x=w) h (λy e=>congrArg _ (ArU e)) λz=>ff
  |Bd x=>exact AV.TM (Q:=λw=>.Bd x=w) h (λy e=>congrArg _ (MH e)) λz=>ff
  |sel a x=>exact AV.YZ (Q:=λw=>.sel a x=w) h (λb y e=>UT _ (ArU (bl e)) (all (br e))) λz=>ff
  |Ee x=>exact AV.yY (Q:=λw=>.Ee x=w) h (λy e=>congrArg _ (ArU e)) λz=>ff
  |any=>exact c0 h
abbrev Fd:AV->AV->Bool:=eqX 14
def OF(p q:Nm×AV):Bool:=both (ArX p.1 q.1) (Fd p.2 q.2)
theorem KY(h:OF p q=true):p=q:=AxY (ArU<|bl h) (CY<|br h)
def uK(p q:AV×AV):Bool:=both (Fd p.1 q.1) (Fd p.2 q.2)
theorem bH(h:uK p q=true):p=q:=AxY (CY<|bl h) (CY<|br h)
def eqO(a b:AO):Bool:=match a with
 | .list x l y=>nC x (nC y (b.Ed (λx m y=>nC x (nC y (B4 Fd l m) false) false) false) false) false | .dict l=>b.Hk (B4 uK l) false | .inst A l=>b.M3 (λB m=>both (ArX A B) (B4 OF l m)) false | .frame l=>b.Iy (B4 OF l) false | .ed l=>b.edC (B4 OF l) false | .Ao f=>both (Bv f) (b.LO Bv false) | .dead=>isDead b |_=>false
theorem nH(h:eqO a b=true):a=b:=by
 have nv:= @CC _ OF λa b q=>KY q
 induction a with
 |list x l y=>exact Pk (P:=λx=>AO.list x l y=b) h (λh=>Pk (P:=λy=>AO.list none l y=b) h (λh=>AO.listI (Q:=λb=>AO.list none l none=b) h (λx m y h=>Pk (P:=λx=>AO.list none l none= .list x m y) h
   (λh=>Pk (P:=λy=>AO.list none l none= .list none m y) h (λh=>congrArg (λl=>AO.list none l none) (CC (λa b q=>CY q) h)) ff) ff) λz=>ff) ff) ff
 |dict l=>exact AO.UZ (Q:=λb=>.dict l=b) h (λm e=>congrArg _ (CC (λa b q=>bH q) e)) λz=>ff
 |inst A l=>exact AO.VW (Q:=λb=>.inst A l=b) h (λB m e=>UT _ (ArU (bl e)) (nv (br e))) λz=>ff
 |frame l=>exact AO.OS (Q:=λb=>.frame l=b) h (λm e=>congrArg _ (nv e)) λz=>ff
 |ed l=>exact AO.edI (Q:=λb=>.ed l=b) h (λm e=>congrArg _ (nv e)) λz=>ff
 |Ao f=>exact AO.Zg (Q:=λb=>.Ao f=b) (br h) (λm e=>congrArg _ ((A6 (bl h)).trans (A6 e).symm)) λz=>ff
 |dead=>exact VX h
 |_=>exact ff h
def AfR:Nat->List AV->St->K AV->Option Bool:=λz z z z=>none
def Q1:Nat->AZ->St->Option (M Unit):=λz z z=>none
noncomputable def Mw:Nat->Bool:=λz=>false
def mJ:Tab:=tt.tab AfR Q1 Mw
def e0:St:=⟨0,.nil,0,[],[],[],0,0⟩
def AfP(x y:Int):St:=⟨1,.Ai (some (.list none [.int ⟨x,[]⟩,.int ⟨y,[]⟩] none)) .nil .nil,0,[],[],[],0,0⟩
def Ga(v:AV)(x:Int):Bool:=v.cInt (λl=>both (Bv l.t) (Eb l.c x)) false
def Xa(r x y:Int)(v:AV)(o:Option AO):Bool:=both (Ga v r) (A7 o (λl=>ZC l λa b=>both (Ga a x) (Ga b y)) false)
def kDr(r x y:Int):K AV:=λv σ=>Xa r x y v (σ.obj 0)
noncomputable abbrev yy(y:Nat):Int:=Av1 (Int.add (Awb (Ar6 y) 39373) 7) 2147483647
abbrev U4(m x y r x' y':Int):Bool:=Qs mJ OP 3 (.Bd (.ref 1967)) [.obj 0,.int ⟨m,[]⟩] (AfP x y) (kDr r x' y') HD
def Fo(m:Int):Prop:=(∀(n y:Nat) (r x' y':Int),U4 m (Ar6 (n+1)) (Ar6 y) r x' y'=Xa r x' y' (.int ⟨Av1 (Ar6 (n+1)) m,[]⟩) (some (.list none [.int ⟨AvZ (Ar6 (n+1)) m,[]⟩,.int ⟨Ar6 y,[]⟩] none)))∧
 ∀(y:Nat) (r x' y':Int),U4 m (Ar6 0) (Ar6 y) r x' y'=both (word<|yy y) (Xa r x' y' (.int ⟨Av1 (AvZ (Av1 (Awb (yy y)<|yy y) 2147483629) 32) m,[]⟩)<|some<|.list none [.int ⟨Ar6 0,[]⟩,.int ⟨yy y,[]⟩] none)
theorem dq2:Fo 2:=⟨λn y r x' y'=>by kernel_rfl,λy r x' y'=>by kernel_rfl⟩
theorem dq3:Fo 3:=⟨λn y r x' y'=>by kernel_rfl,λy r x' y'=>by kernel_rfl⟩
theorem dq4:Fo 4:=⟨λn y r x' y'=>by kernel_rfl,λy r x' y'=>by kernel_rfl⟩
theorem dq5:Fo 5:=⟨λn y r x' y'=>by kernel_rfl,λy r x' y'=>by kernel_rfl⟩
theorem dq6:Fo 6:=⟨λn y r x' y'=>by kernel_rfl,λy r x' y'=>by kernel_rfl⟩
theorem dq7:Fo 7:=⟨λn y r x' y'=>by kernel_rfl,λy r x' y'=>by kernel_rfl⟩
theorem dq8:Fo 8:=⟨λn y r x' y'=>by kernel_rfl,λy r x' y'=>by kernel_rfl⟩
theorem Aei:Fo 10:=⟨λn y r x' y'=>by kernel_rfl,λy r x' y'=>by kernel_rfl⟩
theorem Aej:Fo 12:=⟨λn y r x' y'=>by kernel_rfl,λy r x' y'=>by kernel_rfl⟩
theorem Aek:Fo 60:=⟨λn y r x' y'=>by kernel_rfl,λy r x' y'=>by kernel_rfl⟩
noncomputable def drL:List Nat:=[2,3,4,5,6,7,8,10,12,60]
def inM(m:Int):Bool:=IR (λn=>isIn n drL) (λz=>false) m
theorem DD{n:Nat}{l:List Nat}(h:isIn n l=true):n∈l:=by
 induction l with
 |nil=>exact ff h
 |cons a l ih=>exact B9 (b:=ArX a n) h (λe z=>(ArU e:a=n)▸ .head _) λz h=>.tail _ (ih h)
theorem nB:∀n∈drL,Fo (Ar6 n)∧0<Ar6 n:=by
 have c:=λ{a:Nat} {l:List Nat} (h1:Fo (Ar6 a)∧0<Ar6 a) (h2:∀n∈l,Fo (Ar6 n)∧0<Ar6 n)=>(AwJ (p:=λn=>Fo (Ar6 n)∧0<Ar6 n)).mpr ⟨h1,h2⟩
 exact c ⟨dq2,by decide⟩ (c ⟨dq3,by decide⟩<|c ⟨dq4,by decide⟩<|c ⟨dq5,by decide⟩<|c ⟨dq6,by decide⟩<|c ⟨dq7,by decide⟩<|c ⟨dq8,by decide⟩<|c ⟨Aei,by decide⟩<|c ⟨Aej,by decide⟩ (c ⟨Aek,by decide⟩ λz h=>absurd h AwY))
theorem U3{m:Int}(h:inM m=true):Fo m∧0<m:=by
 induction m with
 |ofNat n=>exact nB n (DD h)
 |negSucc n=>exact ff h
theorem fO{c:Int}(h0:0≤c)(h1:c<4611686018427387904):word c=true:=by unfold word;rw[(CD _ _).mpr (by omega),(CD _ _).mpr h1];rfl
theorem Ey(x:Int):Eb x x=true:=(HR x x).mpr rfl
theorem FE(x:Int):Ga (.int ⟨x,[]⟩) x=true:=Cf.mpr ⟨rfl,Ey x⟩
theorem Ko(r x y:Int):Xa r x y (.int ⟨r,[]⟩) (some<|.list none [.int ⟨x,[]⟩,.int ⟨y,[]⟩] none)=true:=Cf.mpr ⟨FE r,Cf.mpr ⟨FE x,FE y⟩⟩
theorem nD{m x y:Int}(hm:inM m=true)(h:El x y):U4 m x y (Au x y m).1 (Au x y m).2.1 (Au x y m).2.2=true:=by
 obtain⟨⟨q1,q2⟩,pos⟩:=U3 hm;obtain⟨hx,hy,hy2⟩:=h;obtain⟨n,rfl⟩:=AsY hx;obtain⟨l,rfl⟩:=AsY hy
 induction n with
 |succ n=>
  have e:Au ((n+1:Nat):Int) (l:Int) m=(Av1 ((n+1:Nat):Int) m,AvZ ((n+1:Nat):Int) m,(l:Int)):=by unfold Au;rw[if_pos (by omega),As7 _<|Av4 pos,Av0 _<|Av4 pos]
  rw[e];exact(q1 n l _ _ _).trans (Ko _ _ _)
 |zero=>
  have ey:yy l=(((l:Int)*39373+7) % 2147483647):=As7 _ (by decide);have e:Au ((0:Nat):Int) (l:Int) m=(Av1 (AvZ (Av1 (Awb (yy l)<|yy l) 2147483629) 32) m,Ar6 0,yy l):=by unfold Au;rw[if_neg (by omega),As7 _<|Av4 pos,Av0 _ (by decide),As7 _ (by decide),ey];rfl
  rw[e];refine(q2 l _ _ _).trans ?_;rw[Ko,fO]
  ·rfl
  ·rw[ey];omega
  ·rw[ey];omega
theorem BV{m x y:Int}(hm:0<m)(h:El x y):El (Au x y m).2.1 (Au x y m).2.2∧0≤(Au x y m).1∧(Au x y m).1<m:=by
 obtain⟨hx,hy,hy2⟩:=h;unfold Au;split
 ·exact⟨⟨AvW hx<|Av4 hm,hy,hy2⟩,AvY _ (by omega),AvX _ hm⟩
 ·exact⟨⟨hx,AvY _ (by decide),AvX _ (by decide)⟩,AvY _ (by omega),AvX _ hm⟩
theorem Gb{x:Int}(h:Ga v x=true):v= .int ⟨x,[]⟩:=AV.FC (Q:=λv=>v= .int ⟨x,[]⟩) h (λl e=>congrArg AV.int (UT Ad.mk (Bj<|br e)<|A6<|bl e)) λz=>ff
theorem Xb{r x y:Int}(h:Xa r x y v o=true):v= .int ⟨r,[]⟩∧o=some (.list none [.int ⟨x,[]⟩,.int ⟨y,[]⟩] none):=
 ⟨Gb<|bl h,Qq (P:=λo=>o=some (.list none [.int ⟨x,[]⟩,.int ⟨y,[]⟩] none)) (br h) (λl e=>CG (P:=λl=>some (AO.list none l none)=some (.list none [.int ⟨x,[]⟩,.int ⟨y,[]⟩] none)) e λa b e=>Gb (bl e)▸Gb (br e)▸rfl) ff⟩
def Aao(j:Nat)(m:Int)(σ:St)(k:K AV):Bool:=both (inM m) (BU (σ.obj j) (λf=>LC (k (.int (.at σ.k)) ((σ.GV.atoms [(some 0,some (m-1))]).G7 j (.Ao [])))
 (λp r=>both (Eb p.1 m) (k (.int<|.at p.2)<|(σ.GV.atoms []).G7 j<|.Ao r)) f) false)
def RD(vs:List AV)(σ:St)(k:K AV):Bool:=ZC vs λa b=>a.Ay (λj=>b.cInt (λl=>both (Bv l.t) (Aao j l.c σ k)) false) false
section
variable{w:ArV}{h1:Asb}{os:Atn}{way:List Int->AV->AV->Prop}{up:∀{ρ ρ' t o},ρ<+:ρ'->way ρ t o->way ρ' t o}
theorem m4(R:Ap (C1 w h1 os way up) (KF w) tt Bi)(m n:Nat):Cq (C1 w h1 os way up) (m+n) (Qs mJ OP n):=
 EJ m (R.call (K4 R (λz z=>rfl) λn cl z ok=>Hook.none λz z=>rfl) QT λz z z z z=>ns) (Rv R.sys) (λi=>FN.none λz z z z=>rfl) n
variable{A:Ar4}{σ:St}{W:Wd}{s:ArT}
theorem FZ(R:Ap (C1 w h1 os way up) (KF w) tt Bi)(h:ZR (KF w) a=true):H5 (C1 w h1 os way up) a:=Vx R.hK h
theorem uM(w:ArV):ZR (KF w) 1967=true:=by kernel_rfl
inductive DrO(W:Wd)(σ:St)(k:K AV)(j:Nat)(m x y:Int):Prop
 |mk (ex:List Int) (er:List BN) (f:List (Int×Nat)) (b:Nat) (e1:er.length=ex.length) (e2:∀i x,ex[i]?=some x->inR (Bx er (ex.length-1-i)) x) (e3:(W.ρ++ex)[b]?=some (Au x y m).1)
  (e4:BO (W.ρ++ex) (Au x y m).2.1 (Au x y m).2.2 f) (hk:k (.int<|.at b) ((σ.GV.atoms er).G7 j<|.Ao f)=true)
theorem Nd{x i:Int}(h:Ad.ev ρ ⟨x,[]⟩=some i):i=x:=uniq (Ad.Ci (ρ:=ρ) x) h
theorem MI{ρ:List Int}{a:Nat}{x:Int}(h:ρ[a]?=some x):(Ad.at a).ev ρ=some x:=by have e:EK ρ [(a,1)]=some (1*x+0):=BH h rfl;unfold Ad.ev Ad.at;rw[e,Awk,AvU];exact congrArg some (Awo x)
theorem N4{C:Cx}{x y:Int}{vs:List ArR}{P:List ArR->Prop}(r:Ae C W h [.int ⟨x,[]⟩,.int ⟨y,[]⟩] vs)(k:∀t u,P [.int x t,.int y u]):P vs:=
 Ae.two (P:=P) r λcu cv a b=>a.inv (P:=λcu=>P [cu,cv]) λi t e=>b.inv (P:=λcv=>P [.int i t,cv]) λj u g=>Nd e▸Nd g▸k t u
theorem Ss(R:Ap (C1 w h1 os way up) (KF w) tt Bi){m:Nat}(f:BQ (m+3) true A)(I:Inv (C1 w h1 os way up) W σ s)(ar:As A W){j:Nat}{mm:Int}(hm:inM mm=true){p:Ar0×Ar0}(hj:W.τ[j]?=some p){t:Tok}{f0:List (Int×Nat)}(of:σ.obj j=some (.Ao f0))
  {k ke:K AV}(go:∀x y:Int,El x y->BO W.ρ x y f0->DrO W σ k j mm x y):Asu (model (C1 w h1 os way up).prog (C1 w h1 os way up).w) A (.call (.ref 1967) ⟨[.ref p.1,.int mm t],[]⟩) (AQ (C1 w h1 os way up) k ke σ W s) s:=by
 obtain⟨p',hp',ep,x,y,t1,t2,il,sp,fu,nd⟩:=I.obj _ _ of;obtain rfl:=uniq hj hp';obtain⟨ex,er,f',b,e1,e2,e3,e4,hk⟩:=go x y sp fu;refine LP (m4 R m 3) f I ar (I.Xh (get_mem hj) (ρ:=[]) (q:=W.q) (ls:=W.ls) (fo:=W.fo) (o:=.list none [.int ⟨x,[]⟩,.int ⟨y,[]⟩] none) rfl rfl (λz z=>ns) I.fo ⟨[.int x t1,.int y t2],ep,.cons (.int<|Ad.Ci _)<|.cons (.int<|Ad.Ci _) .nil,il,trivial,trivial,nd⟩) (λq hq=>Ash.mp hq▸get_mem hj) rfl (FZ R<|uM w)
  (vs:=[.obj 0,.int ⟨mm,[]⟩]) (.cons (.obj (i:=0) (p:=p') rfl)<|.cons (.int<|Ad.Ci _) .nil) (nD hm sp) λv cv σ' W' s' hkd B r=>?_
 obtain⟨rfl,eo⟩:=Xb hkd;obtain⟨p2,rN,vs2,b2⟩:=B.I'.obj 0 _ eo;obtain rfl:=uniq (Ab B.X.τ (show([p']:List (Ar0×Ar0))[0]?=some p' from rfl)) rN;obtain⟨t3,t4,rfl⟩:=N4 (P:=λvs=>∃t u,vs= [.int _ t,.int _ u]) b2.v λt u=>⟨t,u,rfl⟩
 obtain⟨J,Y⟩:=B.Uq rfl hj e1 e2 (q:=W.q) (λz z=>rfl) (o:=.Ao f') ⟨ep,_,_,_,_,b2.il,(BV (U3 hm).2 sp).1,e4,b2.nd⟩;exact⟨_,_,_,hk,Y,J,r.inv (P:=VR _ (H3 W W' [] ex W.q W.ls) _ _) λi u g=>.int (Nd g▸MI e3)⟩
theorem MB(R:Ap (C1 w h1 os way up) (KF w) tt Bi){m:Nat}(f:BQ (m+3) true A)(I:Inv (C1 w h1 os way up) W σ s)(ar:As A W)(hv:Ae (C1 w h1 os way up) W s.heap vs cvs){k:K AV}(h:RD vs σ k=true):
  Asu (model (C1 w h1 os way up).prog (C1 w h1 os way up).w) A (.call (.ref 1967) ⟨cvs,[]⟩) (AQ (C1 w h1 os way up) k ke σ W s) s:=by
 revert hv
 refine CG (P:=λvs=>Ae (C1 w h1 os way up) W s.heap vs cvs->Asu (model (C1 w h1 os way up).prog (C1 w h1 os way up).w) A (.call (.ref 1967) ⟨cvs,[]⟩) (AQ (C1 w h1 os way up) k ke σ W s) s) h λa b h hv=>?_
 refine Ae.two (P:=λcvs=>Asu (model (C1 w h1 os way up).prog (C1 w h1 os way up).w) A (.call (.ref 1967) ⟨cvs,[]⟩) (AQ (C1 w h1 os way up) k ke σ W s) s) hv λca cb ra rb=>?_
 refine VR.Ay (P:=λca=>Asu (model (C1 w h1 os way up).prog (C1 w h1 os way up).w) A (.call (.ref 1967) ⟨[ca,cb],[]⟩) (AQ (C1 w h1 os way up) k ke σ W s) s) ra h (λj p h hj=>?_) ff;refine VR.cInt (P:=λcb=>Asu (model (C1 w h1 os way up).prog (C1 w h1 os way up).w) A (.call (.ref 1967) ⟨[.ref p.1,cb],[]⟩) (AQ (C1 w h1 os way up) k ke σ W s) s) rb h (λl i t h hi=>?_) ff;obtain⟨c,r⟩:=l;obtain rfl:=A6 (bl h);obtain rfl:=Nd hi;have hm:=bl (br h);have SP:=(U3 hm).2;refine I.BU hj (br<|br h) (λfu h of z=>Ss R f I ar hm hj of λx y sp fr=>?_) ff;have d:=BV SP sp;cases fu with
 |nil=>exact⟨[(Au x y _).1],[(some 0,some (_-1))],[],W.ρ.length,rfl,λi x e=>by
   cases i with
   |zero=>obtain rfl:=Ase e;exact⟨λa e=>Ase e▸d.2.1,λa e=>Ase e▸Av5 d.2.2⟩
   |succ i=>exact ns e,by rw[Asc (As0 _),AxG];rfl,trivial,I.kρ▸h⟩
 |cons q r=>obtain⟨m',b⟩:=q;obtain rfl:=Bj (bl h);have q:=(BO.cons SP).mp fr;exact⟨[],[],r,b,rfl,λi x=>ns,(Ar7 W.ρ).symm▸q.1,(Ar7 W.ρ).symm▸q.2,br h⟩
end
def okS(f:AV->Bool)(v:AV):Bool:=match v with
 | .obj _=>false | .Ee _=>false | .any=>false | .Af l=>allR f l | .sel _ l=>allR f l |_=>true
def okC(d:Nat):AV->Bool:=NR (λz=>false) (λz f=>okS f) d
def Hi(f:AV->Option AV)(l:List AV):Option (List AV):=LR (some []) (λa z ih=>OR none (λb=>OR none (λm=>some (b::m)) ih) (f a)) l
def t8(ρ:List Int)(f:AV->Option AV)(v:AV):Option AV:=match v with
 | .int l=>OR none (λx=>some (.int (.k x))) (l.ev ρ) | .Af l=>OR none (λm=>some (.Af m)) (Hi f l) | .sel a l=>OR none (λi=>IR (λj=>OR none f l[j]?) (λz=>none) i) ρ[a]? | .obj _=>none | .Ee _=>none | .any=>none |v=>some v
def Eu(ρ:List Int)(d:Nat):AV->Option AV:=NR (λz=>none) (λz f=>t8 ρ f) d
section
variable{W W2:Wd}{h:Asb}
theorem US{f:AV->Option AV}{g:AV->Bool}(ih:∀v cv,g v=true->VR C W h v cv->∃t,f v=some t∧VR C W2 h t cv){l:List AV}:∀{vs:List ArR},allR g l=true->Ae C W h l vs->∃m,Hi f l=some m∧Ae C W2 h m vs:=by
 induction l with
 |nil=>exact λb r=>r.inv (P:=λvs=>∃m,Hi f []=some m∧Ae C W2 h m vs) ⟨[],rfl,.nil⟩
 |cons a l jh=>exact λb r=>r.inv (P:=λvs=>∃m,Hi f (a::l)=some m∧Ae C W2 h m vs) λcv cl x r=>(ih _ _ (bl b) x).elim λt q=>(jh (br b) r).elim λm p=>⟨t::m,by
   show OR none (λb=>OR none (λm=>some (b::m)) (Hi f l)) (f a)=_;rw[q.1,p.1];rfl,.cons q.2 p.2⟩
theorem KR(T:AJ W W2 h h)(d:Nat):∀(v:AV) (cv:ArR),okC d v=true->VR C W h v cv->∃t,Eu W.ρ d v=some t∧VR C W2 h t cv:=by
 induction d with
 |zero=>exact λz z=>ff
 |succ d ih=>
  intro v cv b r;cases v with
  |AR=>exact⟨_,rfl,r.inv (P:=VR C W2 h .AR) .AR⟩
  |bool c=>exact⟨_,rfl,r.inv (P:=VR C W2 h (.bool c)) .bool⟩
  |int l=>exact r.inv (P:=λcv=>∃t,Eu W.ρ (d+1) (.int l)=some t∧VR C W2 h t cv) λi t e=>⟨.int (.k i),by show OR none _ (l.ev W.ρ)=_;refine e.symm▸?_;rfl,.int (Ad.Ci _)⟩
  |str s=>exact⟨_,rfl,r.inv (P:=VR C W2 h (.str s)) λx t e=>.str e⟩
  |BG s=>exact⟨_,rfl,r.inv (P:=VR C W2 h (.BG s)) λt=>.BG⟩
  |Af l=>exact r.inv (P:=λcv=>∃t,Eu W.ρ (d+1) (.Af l)=some t∧VR C W2 h t cv) λvs a t q=>(US ih b q).elim λm p=>⟨.Af m,by show OR none (λm=>some (AV.Af m)) (Hi (Eu W.ρ d) l)=_;refine p.1.symm▸?_;rfl,.Af (T _ _ t) p.2⟩
  |Bd u=>exact⟨_,rfl,r.inv (P:=VR C W2 h (.Bd u)) .Bd⟩
  |sel k l=>exact r.inv (P:=λcv=>∃t,Eu W.ρ (d+1) (.sel k l)=some t∧VR C W2 h t cv) λj v cv e1 e2 e3=>(ih v cv (AN b _ (get_mem e2)) e3).elim λt q=>⟨t,by show OR none _ W.ρ[k]?=_;refine e1.symm▸?_;show OR none _ l[j]?=_;refine e2.symm▸?_;exact q.1,q.2⟩
  |_=>exact ff b
theorem Ox{f:AV->Option AV}(ih:∀v t cv,f v=some t->VR C W h t cv->VR C W2 h v cv){l:List AV}:∀{m:List AV} {vs:List ArR},Hi f l=some m->Ae C W h m vs->Ae C W2 h l vs:=by
 induction l with
 |nil=>intro m vs e r;obtain rfl:=Ase e;exact r.inv (P:=λvs=>Ae C W2 h [] vs) .nil
 |cons a l jh=>intro m vs e r;obtain⟨b,e1,e⟩:=Ak e rfl;obtain⟨n,e2,e⟩:=Ak e rfl;obtain rfl:=Ase e;exact r.inv (P:=λvs=>Ae C W2 h (a::l) vs) λcv cl x r=>.cons (ih _ _ _ e1 x) (jh e2 r)
theorem JW{ρ:List Int}(hρ:ρ<+:W2.ρ)(T:AJ W W2 h h)(d:Nat):∀(v t:AV) (cv:ArR),Eu ρ d v=some t->VR C W h t cv->VR C W2 h v cv:=by
 induction d with
 |zero=>exact λz z z=>ns
 |succ d ih=>
  intro v t cv e r;cases v with
  |AR=>exact(Ase e▸r:VR C W h .AR cv).inv (P:=VR C W2 h .AR) .AR
  |bool b=>exact(Ase e▸r:VR C W h (.bool b) cv).inv (P:=VR C W2 h (.bool b)) .bool
  |str s=>exact(Ase e▸r:VR C W h (.str s) cv).inv (P:=VR C W2 h (.str s)) λx t e=>.str e
  |BG s=>exact(Ase e▸r:VR C W h (.BG s) cv).inv (P:=VR C W2 h (.BG s)) λt=>.BG
  |Bd u=>exact(Ase e▸r:VR C W h (.Bd u) cv).inv (P:=VR C W2 h (.Bd u)) .Bd
  |int l=>obtain⟨x,ex,e⟩:=Ak e rfl;exact(Ase e▸r:VR C W h (.int (.k x)) cv).inv (P:=VR C W2 h (.int l)) λi t g=>.int (uniq g (Ad.Ci x)▸Ad.Cv hρ ex)
  |Af l=>obtain⟨m,em,e⟩:=Ak e rfl;exact(Ase e▸r:VR C W h (.Af m) cv).inv (P:=VR C W2 h (.Af l)) λvs a t q=>.Af (T _ _ t) (Ox ih em q)
  |sel a l=>
   obtain⟨i,ei,e⟩:=Ak e rfl
   induction i with
   |ofNat j=>exact(Ak (o:=l[j]?) e rfl).elim λu q=>.sel (Ab hρ ei) q.1 (ih _ _ _ q.2 r)
   |negSucc j=>exact ns e
  |_=>exact ns e
end
structure Facts(ρ:List Int)(σ:St):Prop where
 k:ρ.length=σ.k
 rl:σ.rng.length=σ.k
 rng:∀a x,ρ[a]?=some x->inR (σ.rg a) x
 neg:∀p∈σ.neg,∃x,p.1.ev ρ=some x∧(decide (x<0))=p.2
 BM:∀p∈σ.BM,∃x,p.1.ev ρ=some x∧(decide (x=0))=p.2
theorem Inv.facts(I:Inv C W σ s):Facts W.ρ σ:=⟨I.kρ,I.rl,I.rng,I.neg,I.BM⟩
def T5(ρ:List Int)(t o:AV):Prop:=match t with
 | .int l=>∃x,l.ev ρ=some x∧o= .int (.k x) | .str n=>o= .str n |_=>False
section
set_option genSizeOf false
set_option genInjectivity false
structure AH where
 n0:Nat
 objs:List (Nat×AO)
 run:Nat
 call:Nat
 cells:Nat
 work:Nat
 vals:Nat
 AY:List (Nm×AV)
 Am:List AV
 er:BN
def Nt:Nm:=eN "run"
def IV:Nm:=eN "call"
def yS:Nm:=eN "e"
def IW:Nm:=eN "task"
def HX:Nm:=eN "spool"
def pI:Nm:=eN "held"
def Aq:Nm:=eN "values"
def Bl:Nm:=eN "value"
def Ce:Nm:=eN "panic"
def BC:Nm:=eN "face"
def Q6:Nm:=eN "message"
def Lq:Nm:=eN "spot"
def Cc:Nm:=eN "const"
noncomputable def Me:AV:=.Bd (.ref 117)
def texts:List Nm:=[eN "nil dereference",eN "index out of range",eN "interface conversion"]
def encOf(x:Nm):AV:=match AW encL x with |some b=>.BG b |none=>.any
def BE:List AV:=o9 encOf texts
def ixB(b:List UInt8)(l:List AV):Nat->Option Nat:=LR (λz=>none) (λa z ih n=>bt (a.CS (Hg b) false) (some n) (ih (n+1))) l
def LU(b:List UInt8):Option Nat:=ixB b BE 0
def fU(a:Nat):AV:=.int (.at a)
def Fi:AV:=.Af [fU 0,fU 1,.Af [fU 2,fU 3,fU 4],.sel 8 [.AR,fU 5],.sel 10 [.bool false,.bool true],.sel 9 [.AR,.Af [fU 6,fU 7]]]
def DV(er:BN):List BN:=[(some 0,some 1),er,(some 0,some 1),(some 1,some 3),(some 0,some 2),(some 0,some 6),(some 0,some 4),(some 3,some 62),(some 0,some 3),(some 0,some 2),(some 0,some 3)]
def Aan(a:Nat)(vs:List AV)(σ:St)(k:K AV):Option Bool:=bt (ArX a 1967) (some (RD vs σ k)) none
def TD(dc:Nat->Bool):Tab:=tt.tab Aan Q1 dc
def aU(dc:Nat->Bool):CL:=Qs (TD dc) OP 30
def RL(X:CX)(E:AZ)(t:Cb)(body:Cs)(stop:St->Bool)(n:Nat):St->M Unit:=NR (λz z z=>bad "until lim")
 (λz ih σ k ke=>bt (stop σ) (k () σ) (t X E σ (λc σ=>bt c (body X E σ (λf σ=>turned f (λz z=>bad "until") (λσ=>ih σ k ke) σ) ke) (bad "until end")) ke)) n
def C4:List (Nat×AO)->PA->PA
 | [],t=>t |(i,o)::r,t=>C4 r (t.set o i)
def Mx(n:Nat):PA:=NR .nil (λi t=>t.set .dead i) n
def Cm(tp:AH):AO:=.frame [(Nt,.obj tp.run),(IV,.obj tp.call),(yS,.any),(IW,.any)]
def K6(tp:AH)(k:Nat)(t:AV):PA:=
 C4 ((tp.call,.inst 385<|AM tp.AY Aq<|.obj tp.n0)::(tp.cells,.mid tp.Am (k+2) [])::(tp.work,.list (some k) [.Af [.str Bl,t]] none)::(tp.n0,.list (some<|k+1) [] none)::
  (tp.n0+1,Cm tp)::(0,.Ao [])::tp.objs) (Mx<|tp.n0+2)
def MM(tp:AH)(σ:St)(t:AV):St:=match σ with
 |⟨_,_,k,rng,neg,BM,_,_⟩=>⟨tp.n0+2,K6 tp k t,k+3,(some 0,some 5000)::(some 0,some 5000)::(some 0,some 5000)::rng,neg,BM,0,5⟩
def isObj(p:Nm×AV)(x:Nm)(i:Nat):Bool:=both (ArX p.1 x) (p.2.Ay (λj=>ArX j i) false)
def isFrame(tp:AH)(o:Option AO):Bool:=Cu o (LC false λp=>LC false λq=>LC false λr=>LC false λu l=>both (Bv l) (both (isObj p Nt tp.run) (both (isObj q IV tp.call) (both (ArX r.1 yS) (ArX u.1 IW))))) false
def Jm(tp:AH)(k:Nat)(σ:St):Bool:=Fc (σ.obj tp.work) (λp l=>both (Bv l) (ArX p k)) false
def Jk(l:List (Nat×AO))(σ:St):Bool:=allR (λp=>oS (σ.obj p.1) λo=>eqO o p.2) l
def aR(tp:AH)(k:Nat)(σ:St):Bool:=GH (σ.obj tp.cells) (λl p m=>both (ArX p (k+2)) (both (B4 Fd l tp.Am) (AsO m.length 1))) false
def stays(tp:AH)(k:Nat)(σ:St):Bool:=both (aR tp k σ) (both (isFrame tp (σ.obj (tp.n0+1))) (Jk ((0,.Ao [])::tp.objs) σ))
def kUv(tp:AH)(l:Ad)(k v:Nat)(σ:St):Bool:=both (AsO (tp.n0+2) v) (Fc (σ.obj v) (λp=>LC false λx r=>both (Bv r) (x.cInt (λx=>both (ArX p (k+1)) (both (both (ArX σ.A8 0) (stays tp k σ)) (isZero (x.sub l) σ λc z=>c))) false)) false)
def kU(tp:AH)(o:AV)(k:Nat):K Unit:=λz σ=>o.cInt (λl=>Fh (σ.obj tp.call) (λC a=>both (ArX C 385) (both (B4 OF (AM a Aq .any) (AM tp.AY Aq .any)) (oS (AW a Aq) λw=>w.Ay (λv=>kUv tp l k v σ) false))) false) false
def y4(kx:List UInt8->Bool):List (Nm×AV)->Bool:=LC false λp=>LC false λq=>LC false λr l=>both (Bv l)<|both (both (ArX p.1 Q6) (p.2.cStr (λb=>ArX b Ce) false))<|both (both (ArX q.1 Lq) (q.2.cInt (λz=>Ad.eq z ⟨0,[]⟩) false))<|
 both (ArX r.1 Bl)<|r.2.AU (LC false λg=>LC false λu=>LC false λx m=>both (Bv m) (both (g.cStr (λg=>ArX g BC) false)<|both (Fd u Me)<|x.CS kx false)) false
def oP(tp:AH)(n k j d:Nat)(σ:St):Bool:=both (both (AsO (tp.n0+2) j) (both (AsO (tp.n0+2) d) (bt (ArX j d) false true))) (both (fZ (σ.obj d) (y4 λx=>OR false (λi=>ArX i n) (LU x)) false) (stays tp k σ))
def keU(tp:AH)(o:AV)(k:Nat):K AV:=λe σ=>o.cStr (λn=>e.Ay (λj=>Jz (σ.obj j) (λC dd=>both (ArX C 114) (oS dd λd=>oP tp n k j d σ)) false) false) false
def C2(tp:AH)(t o:AV)(σ:St):Bool:=RL ⟨TD Mw,aU Mw⟩ ⟨tp.n0+1,[]⟩ zD pV (Jm tp σ.k) 40 (MM tp σ t) (kU tp o σ.k) (keU tp o σ.k)
def oG(l:Ad)(σ:St):Bool:=ZY (l.range σ) (λa b=>both (EN (-4) a) (EN b 98)) false
def Lg(t:AV):Bool:=t.AU (LC false λz=>LC false λb z=>Fd b Bf) false
def W6(tp:AH)(t o:AV)(σ:St):Bool:=res o σ λo σ=>o.AU (λl=>ZC l λw x=>w.cStr (λw=>bt (ArX w Bl) (res x σ λx σ=>x.cInt (λl=>both (oG l σ) (C2 tp t (.int l) σ)) false)
 (both (ArX w Ce)<|x.CS (λb=>oS (LU b) λn=>C2 tp t (.str n) σ) false)) false) false
def LV(k:Nat)(f:AV->AV->St->Bool):K AV:=λv σ'=>both (ArX σ'.k k) (both (BU (σ'.obj 0) (LC false λp r=>both (Bv r) (both (Eb p.1 (-7)) (ArX p.2 (k-2)))) false) (res v σ' λv σ'=>v.AU (λl=>ZC l λt o=>both (Lg t) (both (okC 12 t) (f t o σ'))) false))
noncomputable def R0(m:Int):BN:=(some 0,some (m-1))
noncomputable def Rk(i:Nat):BN:=(some (Ar6 i),some (Ar6 i))
def yW(tp:AH)(b c:Nat):St:=⟨1,.Ai (some (.Ao [(5,11),(3,12),(12,13),(-7,14)])) .nil .nil,16,(none,none)::(none,none)::Rk c::Rk b::R0 5::DV tp.er,[],[],0,0⟩
def dcF(j:Nat):Nat->Bool:=λn=> !(bt (ArX n (1000+j)) true (ArX n (2000+j)))
def An(tp:AH)(b c:Nat):Bool:=aU (dcF c) (.Bd (.ref 2028)) [.obj 0,Fi] (yW tp b c) (LV 16 (W6 tp)) HD
def JX(t:AV)(l:Ad):Bool:=t.AU (LC false λa=>LC false λw=>LC false λo=>LC false λx m=>both (Bv m) (both (both (a.cStr (λa=>ArX a Cc) false) (Fd w Bf)) (both (o.cInt (λo=>Ad.eq o ⟨1,[]⟩) false) (x.cInt (λx=>Ad.eq x l) false)))) false
def dC(tp:AH)(b:Nat)(t o:AV)(σ:St):Bool:=res o σ λo σ=>o.cInt (λl=>both (oG l σ) (NC (JX t l) (λz=>C2 tp t (.int l) σ) b)) false
def oY(tp:AH)(b:Nat):St:=⟨1,.Ai (some (.Ao [(5,11),(3,12),(-7,13)])) .nil .nil,15,(none,none)::(none,none)::Rk b::R0 5::DV tp.er,[],[],0,0⟩
def F9(tp:AH)(b:Nat):Bool:=aU Mw (.Bd (.ref 2014)) [.obj 0,Fi] (oY tp b) (LV 15 (dC tp b)) HD
def AfD(k:Nat):AV:=.sel (k+1) [.Af [.str Bl,.int (.at (k+2))],.Af [.str Ce,.sel (k+3) BE]]
def Zk(r q:BN):Bool:=ZY r (λa b=>ZY q (λc d=>both (EN c a) (EN b d)) false) false
def canon(tp:AH)(σ:St):Bool:=both (AsO 11 σ.k) (NR true (λi ih=>both (Zk (σ.rg i) (Bx (DV tp.er) (10-i))) ih) 11)
def yZ:List BN:=[(some 0,some 2),(some (-4),some 98),(some 0,some 1),(none,none)]
def jA(ms:List Int)(k:List (Int×Nat)->Bool):List (Int×Nat)->Bool:=LR k (λm z ih=>LC false λp r=>both (Eb p.1 m) (ih r)) ms
def qO(tp:AH)(ms:List Int)(vs:List AV)(σ:St)(f:Nat->List (Int×Nat)->Bool):Bool:=ZC vs λa h=>a.Ay (λj=>both (both (Fd h Fi) (canon tp σ)) (BU (σ.obj j) (jA ms (f j)) false)) false
def P6(tp:AH)(vs:List AV)(σ:St)(k:K AV):Bool:=qO tp [5,3,12] vs σ λj r=>k (.Af [.Ee σ.k,AfD σ.k]) ((σ.GV.atoms yZ).G7 j (.Ao r))
def Wt:List BN:=[(some 0,some 1),(none,none),(some (-4),some 98),(some 0,some 0),(none,none)]
def xW(k:Nat):AV:=.sel (k+4) [.Af [.str Cc,Bf,.int ⟨1,[]⟩,.int (.at (k+2))],.Ee k]
def LS(tp:AH)(vs:List AV)(σ:St)(k:K AV):Bool:=qO tp [5,3] vs σ λj r=>k (.Af [xW σ.k,.int (.at (σ.k+2))]) ((σ.GV.atoms Wt).G7 j (.Ao r))
def upTo(r:BN)(m:Nat):Option Int:=OR none (λb=>some (b+Ar6 m)) r.2
def Mm(o:Option AO):Option (List AV):=match o with
 |some (.list none l none)=>some l |_=>none
def Uk(o:Option AO):Option (List AV×Nat×List AV):=match o with
 |some (.mid l p m)=>some (l,p,m) |_=>none
def Ui(o:Option AO):Option (Nat×List (Nm×AV)):=match o with
 |some (.inst C l)=>some (C,l) |_=>none
def sT(v:AV):Option Nat:=match v with
 | .obj i=>some i |_=>none
def Qh(v:AV):Option Nat:=match v with
 | .Ee i=>some i |_=>none
def Ul(v:AV):Option (Nat×List AV):=match v with
 | .sel a l=>some (a,l) |_=>none
def Qj(v:AV):Option (List AV):=match v with
 | .Af l=>some l |_=>none
def Ia(v:AV):Option Ad:=match v with
 | .int l=>some l |_=>none
def mP(v:AV):Option Bool:=match v with
 | .bool l=>some l |_=>none
def oB{α:Type}(b:Bool)(o:Option α):Option α:=bt b o none
def hidden(tp:AH)(σ:St):Option Int:=OR (OR none (λq=>oB (B4 Fd q.1 tp.Am) (upTo (σ.rg q.2.1) q.2.2.length)) (Uk (σ.obj tp.cells))) (λl=>oB (B4 Fd l tp.Am) (some 0)) (Mm (σ.obj tp.cells))
def St.more(σ:St)(objs:PA)(n:Nat)(r:BN):St:=match σ with
 |⟨m,_,k,rng,neg,BM,A8,low⟩=>⟨m+n,objs,k+1,r::rng,neg,BM,A8+1,low⟩
def F8(σ:St)(a:Nat)(z:Int)(f:St->Bool):Bool:=ZY (σ.rg a) (λx y=>bt (both (EN x z) (EN z y)) (narrow σ a (some z,some z) f) true) false
def MY(tp:AH)(q vi fr:Nat)(rest lv:List AV)(By:Int)(σ:St):St:=σ.more (C4 [(tp.n0,.dead),(tp.n0+1,.dead),(tp.vals,.dead),(vi,.dead),(fr,Cm tp),(tp.call,.inst 385 (AM tp.AY Aq (.obj σ.n))),(tp.work,.list none rest.reverse none),(tp.cells,.mid tp.Am σ.k []),(σ.n,.list none (lv++ [.int (.at (q+2))]) none)] σ.objs.kill) 1 (some 0,some (By+1))
def J7(tp:AH)(q vi fr:Nat)(By:Int)(σ:St):St:=σ.more (C4 [(tp.n0,.dead),(tp.n0+1,.dead),(tp.vals,.dead),(vi,.dead),(2,.dead),(3,.dead),(4,.dead),(fr,Cm tp),(tp.call,.dead),(tp.work,.dead),(tp.cells,.mid tp.Am σ.k []),(σ.n,.ed [(Q6,.str Ce),(Lq,.int ⟨0,[]⟩),(Bl,.Af [.str BC,Me,.sel (q+3) BE])]),(σ.n+1,.old 114 (some σ.n))] σ.objs.kill) 2 (some 0,some (By+1))
def iE(o:Option AO)(n:Nat):Bool:=Jz o (λC d=>both (ArX C 114) (oS d λd=>ArX d n)) false
def OY(tp:AH)(q vi fr:Nat)(rest lv:List AV)(By:Int)(σ:St)(k:K Unit)(ke:K AV):Bool:=
 both (F8 σ (q+1) 0 λσ=>k () (MY tp q vi fr rest lv By σ)) (F8 σ (q+1) 1 λσ=>both (iE ((J7 tp q vi fr By σ).obj<|σ.n+1) σ.n) (ke (.obj<|σ.n+1)<|J7 tp q vi fr By σ))
inductive Top where
 |Ee(q:Nat)
 |sel(a:Nat)(c:AV)(q:Nat)
def qR(a:Nat):List AV->Option Top:=LC none λc=>LC none λd l=>oB (Bv l) (OR none (λq=>some (.sel a c q)) (Qh d))
def qQ(b:AV):Option Top:=OR (OR none (λp=>qR p.1 p.2) (Ul b)) (λq=>some (.Ee q)) (Qh b)
def jB(v:AV):Option Top:=OR none (LC none λa=>LC none λb l=>oB (both (Bv l) (a.cStr (λs=>ArX s Bl) false)) (qQ b)) (Qj v)
def Lc(items:List AV):Option (Top×List AV):=LC none (λv r=>OR none (λt=>some (t,r)) (jB v)) items.reverse
def VN(tp:AH)(σ:St)(fr C vi:Nat)(a:List (Nm×AV))(items lv:List AV)(By:Int):Bool:=both (both (AtP (tp.n0+1) σ.n) (both (both (AtP (tp.n0+1) fr) (bt (ArX fr vi) false true)) (bt (ArX vi tp.vals) true (AtP (tp.n0+1) vi))))<|
 both (ArX C 385)<|both (B4 OF a<|AM tp.AY Aq<|.obj vi)<|both (EN By 1000)<|both (fits items)<|both (fits lv)<|both (canon tp σ) (Jk ((0,.Ao [])::tp.objs) σ)
structure HK where
 t:Top
 vi:Nat
 rest:List AV
 lv:List AV
 By:Int
def hookAt(tp:AH)(σ:St)(fr:Nat):Option HK:=OR none (λc=>OR none (λvi=>OR none (λitems=>OR none (λlv=>OR none (λq=>OR none (λBy=>oB (VN tp σ fr c.1 vi c.2 items lv By) (some ⟨q.1,vi,q.2,lv,By⟩)) (hidden tp σ)) (Lc items))
 (Mm<|σ.obj vi)) (Mm<|σ.obj tp.work)) (OR none sT<|AW c.2 Aq)) (Ui<|σ.obj tp.call)
def VM(tp:AH)(t:Top)(vi fr:Nat)(rest lv:List AV)(By:Int)(σ:St)(k:K Unit)(ke:K AV):Bool:=match t with
 | .Ee q=>OY tp q vi fr rest lv By σ k ke | .sel a c q=>both (F8 σ a 0 λσ=>k () (σ.put tp.work (.list none (rest.reverse++ [.Af [.str Bl,c]]) none))) (F8 σ a 1 λσ=>OY tp q vi fr rest lv By σ k ke)
def vW(tp:AH)(tag:Nat)(E:AZ)(σ:St):Option (M Unit):=oB (both (ArX tag 1) (isFrame tp (σ.obj E.fr))) (OR none (λp=>some λk ke=>VM tp p.t p.vi E.fr p.rest p.lv p.By σ k ke) (hookAt tp σ E.fr))
def qM(tp:AH)(a:Nat)(vs:List AV)(σ:St)(k:K AV):Option Bool:=bt (ArX a 1967) (some (RD vs σ k)) (bt (ArX a 2028) (some (P6 tp vs σ k)) (bt (ArX a 2014) (some (LS tp vs σ k)) none))
def dcE(r:BN)(f n:Nat):Bool:=bt (ArX n 2005) (both (match r.1 with |some e=>Eb e 1 |none=>false) (!(ArX f 5))) (dcF f n)
def T1(tp:AH)(f:Nat):Tab:=tt.tab (qM tp) (vW tp) (dcE tp.er f)
noncomputable def AH.free(tp:AH):AH:={tp with objs:=tp.objs.filter (λp=>AsO 5 p.1),Am:=tp.Am.take 7,er:=(some 0,some 1)}
def K5:FK:=dT 238
def GP:List Auj:=K5.body.drop 2
def rH:Auj->Y Cs:=stm (AX 2054) 40 true K5.scope
def fr0:Cs:=(rH (FJ K5 0)).c
def fr1:Cs:=(rH (FJ K5 1)).c
def part2:Cs:=LJ (codes rH GP)
def Zm(g:List Ad)(t:List (Nat×Int)):Option Ad:=LR (some ⟨0,[]⟩) (λp z ih=>OR none (λl=>OR none (λm=>some (Ad.add (Ad.mul p.2 l) m)) ih) (BI g p.1)) t
def Zl(g:List Ad)(m:Ad):Option Ad:=OR none (λl=>some ⟨Int.add m.c l.c,l.t⟩) (Zm g m.t)
def dF(l:Ad)(k:Nat->Bool):Bool:=both (Bv l.t) (IR k (λz=>false) l.c)
def wkW(f:List Nat)(g:List Ad)(ih:AV->AV->Bool)(v w:AV):Bool:=match w with
 | .any=>true | .sel a ws=>oS (BI g a) λl=>dF l λj=>oS (BI ws j) λu=>ih v u | .AR=>v.Bo true false | .bool y=>v.cBool (λx=>eqB x y) false | .int y=>v.cInt (λx=>oS (Zl g y) λz=>Ad.eq z x) false | .str y=>v.cStr (λx=>ArX x y) false | .BG y=>v.CS (λx=>Hg x y) false | .Af m=>v.AU (λl=>B4 ih l m) false | .obj i=>v.Ay (λj=>oS (BI f i) λj'=>ArX j j') false | .Bd y=>v.AL (λx=>Vf x y) false | .Ee _=>false
def jD(f:List Nat)(g:List Ad)(d:Nat):AV->AV->Bool:=NR (λz z=>false) (λz ih=>wkW f g ih) d
def wkN(f:List Nat)(g:List Ad)(p q:Nm×AV):Bool:=both (ArX p.1 q.1) (jD f g 12 p.2 q.2)
def wkD(f:List Nat)(g:List Ad)(p q:AV×AV):Bool:=both (keyOk q.1) (both (jD f g 12 p.1 q.1) (jD f g 12 p.2 q.2))
def wkO(f:List Nat)(g:List Ad)(a b:AO):Bool:=match b with
 | .dead=>true | .list x m y=>nC x (nC y (a.Ed (λx l y=>nC x (nC y (B4 (jD f g 12) l m) false) false) false) false) false | .dict m=>a.Hk (λl=>B4 (wkD f g) l m) false | .inst B m=>a.M3 (λA l=>both (ArX A B) (B4 (wkN f g) l m)) false | .frame m=>a.Iy (λl=>B4 (wkN f g) l m) false |_=>false
def frC(tp:AH):AO:=.frame [(HX,.obj 0),(pI,Fi),(Nt,.obj tp.run),(IV,.obj tp.call)]
def Ra(tp:AH):List (Nat×AO):=(1,frC tp)::(tp.call,.inst 385 tp.AY)::(tp.cells,.list none tp.Am none)::(tp.work,.list none [] none)::(tp.vals,.list none [] none)::tp.objs
def uR(l:AV):Option (Ad×Ad):=match l with
 | .AR=>some (Ad.k 5,Ad.k 0) | .int x=>some (x,Ad.k 1) |_=>none
def Aem(e:AV):Option (Ad×Ad×Ad):=match e with
 | .AR=>some (Ad.k 0,Ad.k 1,Ad.k 0) | .Af l=>LC none (λx=>LC none λy r=>oB (Bv r) (OR none (λx=>OR none (λy=>some (x,y,Ad.k 1)) (Ia y)) (Ia x))) l |_=>none
def qP(v:AV):Option (Ad×Ad×Ad):=OR none (LC none λx=>LC none λy=>LC none λz r=>oB (Bv r) (OR none (λx=>OR none (λy=>OR none (λz=>some (x,y,z)) (Ia z)) (Ia y)) (Ia x))) (Qj v)
def gOf(v:AV):Option (List Ad):=OR none (LC none λn=>LC none λo=>LC none λc=>LC none λl=>LC none λr=>LC none λe m=>oB (Bv m) (OR none (λn=>OR none (λo=>OR none (λc=>OR none (λl=>OR none (λr=>OR none (λe=>
 some [n,o,c.1,c.2.1,c.2.2,l.1,e.1,e.2.1,l.2,e.2.2,bt r (Ad.k 1)<|Ad.k 0]) (Aem e)) (mP r)) (uR l)) (qP c)) (Ia o)) (Ia n))) (Qj v)
def gRg(g:List Ad)(rs:List BN)(σ:St):Bool:=all2 (λl r=>Zk (l.range σ) r) g rs
def IE(l:List Nat):Bool:=LR true (λa l ih=>bt (isIn a l) false ih) l
def sS(n:Nat)(l:List Nat):Bool:=allR (λa=>AtP a n) l
def GS(tp:AH)(f:List Nat)(σ:St)(g:List Ad):Bool:=both (both (ArX f.length (tp.n0+1)) (both (IE f) (both (sS σ.n f) (LC false (λa=>LC false λb z=>both (ArX a 0) (ArX b 1)) f)))) (both (gRg g (DV tp.er).reverse σ)
 (allR (λp=>oS (BI f p.1) λj=>oS (σ.obj j) λo=>wkO f g o p.2)<|Ra tp))
def V6(tp0 tp1:AH)(fs:List (List Nat))(σ:St):Bool:=BU (σ.obj 0) (λsp=>both (Bv sp) (Cu (σ.obj 1) (LC false λz=>LC false λp z=>oS (gOf p.2) λg=>oS (BI g 9) λl=>dF l λe=>oS (BI fs e) λf=>GS (NC tp0 (λz=>tp1) e) f σ g) false)) false
def iH(tp0 tp1:AH)(fs:List (List Nat)):K Fl:=λfl σ=>match fl with
 | .next=>V6 tp0 tp1 fs σ
 |_=>false
noncomputable def C8:List (Int×Nat):=[(5,11),(3,12),(12,13),(5,14),(3,15),(12,16),(8,17),(10,18)]
def Dc(f:Nat):List BN:=Rk f::(some 0,some 4)::R0 12::R0 3::R0 5::R0 12::R0 3::R0 5:: []
noncomputable def F2:List (Int×Nat):=[(5,11),(3,12),(12,13),(5,14),(3,15),(12,16),(8,17),(5,18),(3,19),(5,20),(3,21),(2,22),(2,23),(6,24)]
def Gp(f:Nat):List BN:=Rk f::R0 2::R0 2::R0 3::R0 5::R0 3::R0 5::(some 5,some 7)::R0 12::R0 3::R0 5::R0 12::R0 3::R0 5:: []
def Xw(tp:AH)(ZS:List (Int×Nat))(rg:List BN):St:=⟨tp.n0+1,C4 ((0,.Ao ZS)::Ra tp) (Mx (tp.n0+1)),11+rg.length,rg++DV tp.er,[],[],0,0⟩
def oN:K Fl:=λfl σ=>eH fl (λv=>v.cBool (λb=>both b (BU (σ.obj 0) Bv false)) false) false
def Al(tp:AH)(f:Nat)(ZS:List (Int×Nat))(rg:List BN):Bool:=part2 ⟨T1 tp f,Qs (T1 tp f) OP 20⟩ ⟨1,[]⟩ (Xw tp ZS rg) oN HD
end
noncomputable def fS5:List Nat:=[0,1,101,103,65,43,86,4,60,62,63,64,99,78,88,89,90,59,69]
def A3:AH:=⟨18,[(2,.inst 567 [(eN "entries",.obj 3),(eN "coming",.int ⟨0,[]⟩)]),(3,.list none [] none),(5,.inst 1861 [(eN "world",.obj 7),(eN "typed",.any),(eN "choices",.any),(eN "fuel",.int ⟨9,[]⟩),(eN "store",.obj 8),(eN "channels",.any),(eN "gates",.any),(eN "routines",.any),(eN "prints",.any),(eN "outcome",.AR),(eN "globals",.obj 13)]),(7,.inst 1928 [(eN "packages",.AR),(eN "named",.any),(eN "globals",.any),(eN "consts",.any),(eN "funcs",.any),(eN "bodies",.any),(eN "files",.any),(eN "scopes",.any),(eN "order",.any),(eN "starts",.any),(eN "settle",.AR),(eN "want",.AR),(eN "mentions",.any),(eN "measured",.any),(eN "values",.any),(eN "inits",.any),(eN "late_keys",.any),(eN "late_parts",.any),(eN "late_sizes",.any),(eN "is_whole",.bool true)]),(8,.inst 691 [(eN "may_compare",.obj 17),(eN "cells",.obj 9),(eN "rows",.obj 10),(eN "maps",.obj 11)]),(10,.list none [.obj 12] none),(11,.list none [.obj 2] none),(12,.list none [.int ⟨0,[(2,1)]⟩,.int ⟨0,[(3,1)]⟩,.int ⟨0,[(4,1)]⟩,.int ⟨9,[]⟩] none),(13,.dict [(.str (eN "m.v"),.int ⟨0,[]⟩)]),(14,.dict [(.int ⟨0,[]⟩,.int ⟨2,[]⟩),(.int ⟨1,[]⟩,.int ⟨3,[]⟩),(.int ⟨2,[]⟩,.int ⟨4,[]⟩),(.int ⟨3,[]⟩,.int ⟨5,[]⟩),(.int ⟨4,[]⟩,.int ⟨6,[]⟩),(.int ⟨5,[]⟩,.int ⟨7,[]⟩)]),(17,.dead)],5,6,9,15,16,[(eN "function",.AR),(eN "cells",.obj 14),(eN "work",.obj 15),(eN "values",.obj 16),(eN "defers",.any),(eN "serves",.AR),(eN "is_deferred",.bool false)],[.int ⟨0,[(1,1)]⟩,.int ⟨0,[(5,1)]⟩,.int ⟨0,[(0,1)]⟩,.Af [.str (eN "array"),.Af [.int ⟨0,[(2,1)]⟩,.int ⟨0,[(3,1)]⟩,.int ⟨0,[(4,1)]⟩]],.AR,.sel 8 [.AR,.Af [.str (eN "ptr"),.Af [.str (eN "cell"),.int ⟨1,[]⟩],.Af []]],.sel 10 [.AR,.Af [.str (eN "slice"),.Af [.str (eN "row"),.int ⟨0,[]⟩,.Af []],.int ⟨0,[]⟩,.int ⟨3,[]⟩,.int ⟨4,[]⟩]],.AR],(some 0,some 0)⟩
noncomputable def fS7:List Nat:=[0,1,101,103,116,43,86,4,60,62,63,64,99,78,88,89,90,59,69]
def BA:AH:=⟨18,[(2,.inst 567 [(eN "entries",.obj 3),(eN "coming",.int ⟨1,[]⟩)]),(3,.list none [.obj 4] none),(4,.list none [.int ⟨0,[]⟩,.Af [.Af [.str (eN "int"),.int ⟨0,[(6,1)]⟩]],.int ⟨0,[(6,1)]⟩,.int ⟨0,[(7,1)]⟩] none),(5,.inst 1861 [(eN "world",.obj 7),(eN "typed",.any),(eN "choices",.any),(eN "fuel",.int ⟨9,[]⟩),(eN "store",.obj 8),(eN "channels",.any),(eN "gates",.any),(eN "routines",.any),(eN "prints",.any),(eN "outcome",.AR),(eN "globals",.obj 13)]),(7,.inst 1928 [(eN "packages",.AR),(eN "named",.any),(eN "globals",.any),(eN "consts",.any),(eN "funcs",.any),(eN "bodies",.any),(eN "files",.any),(eN "scopes",.any),(eN "order",.any),(eN "starts",.any),(eN "settle",.AR),(eN "want",.AR),(eN "mentions",.any),(eN "measured",.any),(eN "values",.any),(eN "inits",.any),(eN "late_keys",.any),(eN "late_parts",.any),(eN "late_sizes",.any),(eN "is_whole",.bool true)]),(8,.inst 691 [(eN "may_compare",.obj 17),(eN "cells",.obj 9),(eN "rows",.obj 10),(eN "maps",.obj 11)]),(10,.list none [.obj 12] none),(11,.list none [.obj 2] none),(12,.list none [.int ⟨0,[(2,1)]⟩,.int ⟨0,[(3,1)]⟩,.int ⟨0,[(4,1)]⟩,.int ⟨9,[]⟩] none),(13,.dict [(.str (eN "m.v"),.int ⟨0,[]⟩)]),(14,.dict [(.int ⟨0,[]⟩,.int ⟨2,[]⟩),(.int ⟨1,[]⟩,.int ⟨3,[]⟩),(.int ⟨2,[]⟩,.int ⟨4,[]⟩),(.int ⟨3,[]⟩,.int ⟨5,[]⟩),(.int ⟨4,[]⟩,.int ⟨6,[]⟩),(.int ⟨5,[]⟩,.int ⟨7,[]⟩)]),(17,.dead)],5,6,9,15,16,[(eN "function",.AR),(eN "cells",.obj 14),(eN "work",.obj 15),(eN "values",.obj 16),(eN "defers",.any),(eN "serves",.AR),(eN "is_deferred",.bool false)],[.int ⟨0,[(1,1)]⟩,.int ⟨0,[(5,1)]⟩,.int ⟨0,[(0,1)]⟩,.Af [.str (eN "array"),.Af [.int ⟨0,[(2,1)]⟩,.int ⟨0,[(3,1)]⟩,.int ⟨0,[(4,1)]⟩]],.AR,.sel 8 [.AR,.Af [.str (eN "ptr"),.Af [.str (eN "cell"),.int ⟨1,[]⟩],.Af []]],.sel 10 [.AR,.Af [.str (eN "slice"),.Af [.str (eN "row"),.int ⟨0,[]⟩,.Af []],.int ⟨0,[]⟩,.int ⟨3,[]⟩,.int ⟨4,[]⟩]],.Af [.str (eN "map"),.int ⟨0,[]⟩]],(some 1,some 1)⟩
def C6:AH:=A3.free
def fSs:List (List Nat):=[fS5,fS7]
def isTrue:K AV:=λv z=>v.cBool (λb=>b) false
theorem Aat:Qs mJ OP 60 (.Bd<|.ref 2007) [] e0 isTrue HD=true:=by kernel_rfl
def Aad(x:Int):St:=⟨1,.Ai (some (.mid [.int ⟨x,[]⟩] 0 [])) .nil .nil,1,[(some 0,some 100)],[],[],0,1⟩
def Aae:St:=⟨1,.Ai (some (.list none [] none)) .nil .nil,0,[],[],[],0,1⟩
def Tj(a b:Int)(v:AV)(σ:St):Bool:=v.Ay (λi=>both (both (ArX σ.A8 0) (AsO 1 i)) (A7 (σ.obj i) (λl=>ZC l λc d=>both (Ga c a) (Ga d b)) false)) false
noncomputable def qq(s:Int):Int:=Av1 (Awb (Int.add (Av1 s 2147483629) 17) 48271) 2147483647
def rr(s a b:Int):Bool:=bt (!(C7 (Awl s 1000000000000000000) 0)) (both (Eb s a) (Eb (qq s) b)) (both (Eb 0 a) (Eb (qq s) b))
theorem sp1(x a b:Int):Qs mJ OP 3 (.Bd<|.ref 1960) [.obj 0] (Aad x) (Tj a b) HD=bt (C7 (Awl x<|Awl (-1) x) 0) (rr (Awl (-1) x) a b) (rr x a b):=by kernel_rfl
theorem sp0:Qs mJ OP 3 (.Bd<|.ref 1960) [.obj 0] Aae (Tj 0 820607) HD=true:=by kernel_rfl
theorem z9{s:Int}(h:0≤s):∃a b,El a b∧rr s a b=true:=by
 have hq:0≤qq s∧qq s<2147483647:=by unfold qq;rw[As7 _ (by decide)];exact⟨AvY _ (by decide),AvX _ (by decide)⟩
 unfold rr;cases C7 (Awl s 1000000000000000000) 0 with
 |true=>exact⟨0,qq s,⟨As1 0,hq.1,hq.2⟩,Cf.mpr ⟨Ey 0,Ey _⟩⟩
 |false=>exact⟨s,qq s,⟨h,hq.1,hq.2⟩,Cf.mpr ⟨Ey s,Ey _⟩⟩
theorem qI(x:Int):∃a b,El a b∧Qs mJ OP 3 (.Bd<|.ref 1960) [.obj 0] (Aad x) (Tj a b) HD=true:=by
 have e:∀c:Bool,C7 (Awl x<|Awl (-1) x) 0=c->0≤bt c (Awl (-1) x) x:=λc q=>by
  induction c with
  |true=>have q:x-(-1-x)<0:=(CD _ _).mp q;show 0≤ -1-x;lia
  |false=>have q:¬(x-(-1-x)<0):=λh=>AsJ (q.symm.trans ((CD _ _).mpr h));show 0≤x;lia
 obtain⟨a,b,h1,h2⟩:=z9 (e _ rfl);refine⟨a,b,h1,(sp1 x a b).trans ?_⟩
 revert h2
 cases C7 (Awl x<|Awl (-1) x) 0 with
 |true=>exact id
 |false=>exact id
theorem fK{a b:Int}(h:A7 o (λl=>ZC l λc d=>both (Ga c a) (Ga d b)) false=true):o=some (.list none [.int ⟨a,[]⟩,.int ⟨b,[]⟩] none):=
 Qq (P:=λo=>o=some (.list none [.int ⟨a,[]⟩,.int ⟨b,[]⟩] none)) h (λl e=>CG (P:=λl=>some (AO.list none l none)=some (.list none [.int ⟨a,[]⟩,.int ⟨b,[]⟩] none)) e λc d e=>Gb (bl e)▸Gb (br e)▸rfl) ff
theorem Xc{a b:Int}(h:Tj a b v σ=true):σ.A8=0∧∃i,v= .obj (i+1)∧σ.obj (i+1)=some (.list none [.int ⟨a,[]⟩,.int ⟨b,[]⟩] none):=
 AV.Pw (Q:=λv=>σ.A8=0∧∃i,v= .obj (i+1)∧σ.obj (i+1)=some (.list none [.int ⟨a,[]⟩,.int ⟨b,[]⟩] none)) h (λi h=>⟨ArU<|bl<|bl h,by
  induction i with
  |zero=>exact ff (br (bl h))
  |succ i=>exact⟨i,rfl,fK (br h)⟩⟩) λz=>ff
noncomputable def BP:Ar0:=2062
def Zp(vs:List AV)(σ:St)(k:K AV):Bool:=FG vs λv=>v.AL (λu=>both (pW false (ArX BP) u) (k (.obj σ.n) (σ.new (.Ao [])))) false
def Zq(vs:List AV)(σ:St)(k:K AV):Bool:=both (Bv vs) (k (.bool true) σ.GV)
section
variable{w:ArV}{h1:Asb}{os:Atn}{way:List Int->AV->AV->Prop}{up:∀{ρ ρ' t o},ρ<+:ρ'->way ρ t o->way ρ' t o}
variable{A:Ar4}{σ:St}{W:Wd}{s:ArT}
theorem uN(w:ArV):ZR (KF w) 2007=true:=by kernel_rfl
theorem uL(w:ArV):ZR (KF w) 1960=true:=by kernel_rfl
theorem fC(R:Ap (C1 w h1 os way up) (KF w) tt Bi){m:Nat}(f:BQ (m+60) true A)(I:Inv (C1 w h1 os way up) W σ s)(ar:As A W)(hv:Ae (C1 w h1 os way up) W s.heap vs cvs){k:K AV}(h:Zq vs σ k=true):
  Asu (model (C1 w h1 os way up).prog (C1 w h1 os way up).w) A (.call (.ref 2007) ⟨cvs,[]⟩) (AQ (C1 w h1 os way up) k ke σ W s) s:=by
 obtain rfl:=A6 (bl h);refine hv.inv (P:=λcvs=>Asu (model (C1 w h1 os way up).prog (C1 w h1 os way up).w) A (.call (.ref 2007) ⟨cvs,[]⟩) (AQ (C1 w h1 os way up) k ke σ W s) s) ?_;have no:∀{α:Type} {P:α->Prop} (x:α),x∈([]:List α)->P x:=λx h=>absurd h AwY
 refine LP (m4 R m 60) f I ar (I.pick (σg:=e0) (ρ:=[]) (ps:=[]) (q:=W.q) (ls:=W.ls) no AtM rfl rfl rfl (λz z=>ns) no no I.fo λz z=>ns) no rfl (FZ R<|uN w) .nil Aat λv cv σ' W' s' hk B r=>?_
 obtain⟨J,Y⟩:=B.back (nw:=[]) (ex:=[]) (q:=W.q) (ls:=W.ls) (σ2:=σ.GV) ⟨no,AtM,λz z=>rfl,λz z=>rfl,rfl,rfl,⟨[],rfl,rfl,λz z=>ns⟩,rfl,rfl,rfl,rfl,λi o h=>.inl ((I.QU h).elim λo0 r=>r.elim λp r=>⟨o0,p,r.1,r.2.1,r.2.2,AwY⟩)⟩;exact AV.He (Q:=λv=>VR _ W' s'.heap v cv->Ah _ k σ W s (RV _) cv s') hk (λb e r=>r.inv (P:=λcv=>Ah _ k σ W s (RV _) cv s') (by refine e.symm▸?_;exact⟨_,_,_,br h,Y,J,.bool⟩)) (λz=>ff) r
theorem AfE{a c:Ar0}{r:Ar0×Ar0}(hr:r∈[(a,a)])(z:c=r.1∨c=r.2):c=a:=by obtain rfl:=Ash.mp hr;exact z.elim id id
theorem Jj{h0:Asb}(R0:Ap (C1 w h0 os way up) (KF w) tt Bi)(IC:∀b o,h0.get? b=some o->h1.get? b=some o){items:List ArR}(hn:h0.get? BP=none)(ho:h1.get? BP=some {cls:=.type "list",data:=.seq items.toArray})
  {m:Nat}(f:BQ (m+3) true A)(I:Inv (C1 w h1 os way up) W σ s)(ar:As A W){k ke:K AV}(h:k (.obj σ.n) (σ.new<|.Ao [])=true){ρ:List Int}{kk:Nat}{rng:List BN}{o:AO}{ls:Nat->List ArR}{a b:Int}(hk:ρ.length=kk)(rl:rng.length=kk)
  (hr:∀a x,ρ[a]?=some x->inR (Bx rng<|kk-1-a) x)(ob:Ob (C1 w h0 os way up) ⟨ρ,[(BP,BP)],W.q,ls,W.fs,[]⟩ s.heap (BP,BP) o)(sp:El a b)(run:Qs mJ OP 3 (.Bd<|.ref 1960) [.obj 0] ⟨1,.Ai (some o) .nil .nil,kk,rng,[],[],0,1⟩ (Tj a b) HD=true):
  Asu (model (C1 w h1 os way up).prog (C1 w h1 os way up).w) A (.call (.ref 1960) ⟨[.ref BP],[]⟩) (AQ (C1 w h1 os way up) k ke σ W s) s:=by
 have hs:=I.base _ _ ho;have no:∀{α:Type} {P:α->Prop} (x:α),x∈([]:List α)->P x:=λx h=>absurd h AwY
 have Ig:Inv (C1 w h0 os way up) ⟨ρ,[(BP,BP)],W.q,ls,W.fs,[]⟩ ⟨1,.Ai (some o) .nil .nil,kk,rng,[],[],0,1⟩ s:=
  {nτ:=rfl,kρ:=hk,rl:=rl,rng:=hr,neg:=no,BM:=no
   obj:=λi x e=>by obtain⟨rfl,rfl⟩:=PC e;exact⟨_,rfl,ob⟩
   apart:=λi j p q hp hq ne=>absurd ((Nat.lt_one_iff.mp (Ar2.mp hp).1).trans (Nat.lt_one_iff.mp (Ar2.mp hq).1).symm) ne
   new:=λp hp=>Ash.mp hp▸⟨hn,hn⟩
   live:=λp hp=>Ash.mp hp▸⟨⟨_,hs,trivial⟩,_,hs,trivial⟩
   HQ:=λa ha=>⟨by
    have q:=(I.HQ a ha).1;show h0.get? a=none;cases e:h0.get? a with
    |none=>rfl
    |some o=>exact sn (IC a o e) q,(I.HQ a ha).2⟩
   base:=λa x e=>I.base a x (IC a x e)
   gens:=I.gens,os:=I.os,fo:=no}
 refine Aub ((m4 R0 m 3).code A _ _ s 1960 [.obj 0] [.ref BP] (Tj a b) HD f Ig (ar.fs rfl) (FZ R0<|uL w) (.cons (.obj (i:=0) (p:=(BP,BP)) rfl) .nil) run) λr s' q=>?_
 induction r with
 |error e=>exact(Ac.HD q).elim
 |ok fl=>induction fl with
  |ret v=>
   obtain⟨av,σ',W',hk,X,I',r⟩:=q;obtain⟨ev,i,rfl,eo⟩:=Xc hk;obtain⟨p2,rN,vs2,b2⟩:=I'.obj _ _ eo;have SN:=Ab X.τ (show([(BP,BP)]:List (Ar0×Ar0))[0]?=some (BP,BP) from rfl);obtain⟨f1,f2⟩:=(X.fresh p2<|get_mem rN).resolve_left λz=>(I'.apart _ _ _ _ (Ash.mp z▸rN) SN<|Nat.succ_ne_zero i).1 rfl
   obtain⟨l1,l2⟩:=I'.live p2 (get_mem rN);obtain⟨t,u,rfl⟩:=N4 (P:=λvs=>∃t u,vs= [.int a t,.int b u]) b2.v λt u=>⟨t,u,rfl⟩
   obtain⟨J,Y⟩:=I.make (s':=s') (o:=.Ao []) (p:=p2) (λc x e=>X.exact ev c x e ((Avq (c=BP)).symm.imp (λne ⟨r,hr,z⟩=>ne (AfE hr z)) λq=>⟨(BP,BP),Ash.mpr rfl,.inl q⟩)) f1 f2
    (λS=>⟨b2.ep,a,b,t,u,b2.il,sp,trivial,b2.nd⟩) l1 l2 (I'.gens.trans I.gens.symm) (I'.os.trans I.os.symm)
   exact⟨_,_,_,h,Y,J,r.inv (P:=VR _ (W.more p2) s'.heap (.obj σ.n)) λp e=>uniq e rN▸ .obj (i:=σ.n) (I.nτ▸AwK ..)⟩
  |_=>exact q.elim
theorem Zh{h0:Asb}(R0:Ap (C1 w h0 os way up) (KF w) tt Bi)(IC:∀b o,h0.get? b=some o->h1.get? b=some o){items:List ArR}(hn:h0.get? BP=none)(ho:h1.get? BP=some {cls:=.type "list",data:=.seq items.toArray})(hlen:items.length≤63)
  (AeX:∀v∈items,∃i t,v= .int i t){m:Nat}(f:BQ (m+3) true A)(I:Inv (C1 w h1 os way up) W σ s)(ar:As A W){vs:List AV}{cvs:List ArR}(hv:Ae (C1 w h1 os way up) W s.heap vs cvs){k ke:K AV}(h:Zp vs σ k=true):
  Asu (model (C1 w h1 os way up).prog (C1 w h1 os way up).w) A (.call (.ref 1960) ⟨cvs,[]⟩) (AQ (C1 w h1 os way up) k ke σ W s) s:=by
 obtain⟨v,rfl,h⟩:=Gk h;refine Ae.one (P:=λcvs=>Asu (model (C1 w h1 os way up).prog (C1 w h1 os way up).w) A (.call (.ref 1960) ⟨cvs,[]⟩) (AQ (C1 w h1 os way up) k ke σ W s) s) hv λcv r=>?_
 refine VR.AL (P:=λcv=>Asu (model (C1 w h1 os way up).prog (C1 w h1 os way up).w) A (.call (.ref 1960) ⟨[cv],[]⟩) (AQ (C1 w h1 os way up) k ke σ W s) s) r h (λh=>?_) ff
 induction cv with
 |ref b=>
  obtain rfl:BP=b:=ArU (bl h);have hs:=I.base _ _ ho;have nd:GB s.heap BP:=⟨_,hs,rfl,rfl⟩
  induction items with
  |nil=>exact Jj R0 IC hn ho f I ar (br h) (ρ:=[]) (rng:=[]) (o:=.list none [] none) (ls:=W.ls) rfl rfl (λzz zz=>ns) ⟨[],rfl,.nil,⟨_,hs,rfl,_,rfl⟩,trivial,trivial,nd⟩ ⟨by decide,by decide,by decide⟩ sp0
  |cons v rest=>
   obtain⟨x,t,rfl⟩:=AeX _ (.head _);obtain⟨a,b,sp,run⟩:=qI x;refine Jj R0 IC hn ho f I ar (br h) (ρ:=[Ar6 rest.length]) (rng:=[(some 0,some 100)]) (o:=.mid [.int ⟨x,[]⟩] 0 []) (ls:=λzz=>rest) rfl rfl (λi z e=>?_) ⟨[.int x t],[],rfl,.cons (.int<|Ad.Ci _) .nil,.nil,⟨_,hs,rfl,_,by rw[Ar7];rfl⟩,rfl,nd⟩ sp run
   induction i with
   |zero=>obtain rfl:=Ase e;have hl:=Nat.le_of_succ_le hlen;exact⟨λa e=>Ase e▸AtG _,λa e=>Ase e▸Av6 (Awi.mpr hl) (by decide)⟩
   |succ i=>exact ns e
 |_=>exact ff (bl h)
end
inductive HH(tps:List AH)(ρ:List Int)(t o:AV):Prop
 |mk (tp:AH) (m:tp∈tps) (σ1:St) (ρ1:List Int) (t1 o1:AV) (a:ρ1.take 11=ρ.take 11) (l:11≤ρ.length) (l1:11≤ρ1.length) (f:Facts ρ1 σ1) (n:C2 tp t1 o1 σ1=true) (c:Eu ρ1 12 t1=some t) (e:T5 ρ1 o1 o)
def ZF(ρ:List Int)(t o:AV):Prop:=∃e:Int,ρ[9]?=some e∧((e=0∧HH [A3,C6] ρ t o)∨(e=1∧HH [BA,C6] ρ t o))
theorem TH{ρ ρ':List Int}(h:ρ<+:ρ')(hl:11≤ρ.length):ρ'.take 11=ρ.take 11:=h.elim λr e=>e▸Ath hl
theorem HH.up{ρ ρ':List Int}(h:ρ<+:ρ'){tps}(q:HH tps ρ t o):HH tps ρ' t o:=
 HH.casesOn q λtp m σ1 ρ1 t1 o1 a l l1 f n c e=>.mk tp m σ1 ρ1 t1 o1 (a.trans (TH h l).symm) (AtH l h.length_le) l1 f n c e
theorem ZG{ρ ρ':List Int}(h:ρ<+:ρ')(q:ZF ρ t o):ZF ρ' t o:=q.imp λe=>Au0 (Ab h) (Or.imp (Au2<|HH.up h)<|Au2<|HH.up h)
abbrev CW(w:ArV)(h1:Asb)(os:Atn):Cx:=C1 w h1 os ZF ZG
def Em(tp:AH)(e:Int):Prop:=(e=0∧tp=A3)∨(e=1∧tp=BA)
theorem Em.er{tp:AH}{e:Int}(h:Em tp e):tp.er=(some e,some e):=by rcases h with⟨rfl,rfl⟩|⟨rfl,rfl⟩<;>rfl
theorem Em.way{tp:AH}{e:Int}(h:Em tp e){ρ:List Int}(h9:ρ[9]?=some e)(hw:HH [tp,C6] ρ t o):ZF ρ t o:=by
 rcases h with⟨rfl,rfl⟩|⟨rfl,rfl⟩
 ·exact⟨_,h9,.inl ⟨rfl,hw⟩⟩
 ·exact⟨_,h9,.inr ⟨rfl,hw⟩⟩
def Kp(tp:AH)(c:Nat):AH:=if c=3 then tp else C6
structure Ep(tp:AH):Prop where
 num:∀b c,b<3->c<12->An (Kp tp c) b c=true
 Ar:∀b,b<3->F9 C6 b=true
section
variable{w:ArV}{h1:Asb}{os:Atn}
variable{A:Ar4}{σ:St}{W:Wd}{s:ArT}
theorem iG(w:ArV):keepIn (KF w) (.ref 1967)=true:=by kernel_rfl
theorem eU(R:Ap (CW w h1 os) (KF w) tt Bi)(m:Nat){n:Nat}(hn:m+3≤n):FN (CW w h1 os) (TD dc) n:=λA σ W s a vs cvs k ke f I ar hv h=>by obtain⟨e,h⟩:=BK h;obtain rfl:=ArU e;exact MB R (f.le hn) I ar hv (Ase h)
theorem Ot(R:Ap (CW w h1 os) (KF w) tt Bi)(m:Nat)(dc:Nat->Bool):Cq (CW w h1 os) (m+3+30) (aU dc):=
 EJ (m+3) (R.call (K4 R (λz z=>rfl) λn cl z ok=>Hook.none λz z=>rfl) QT λa vs σ k r h=>(ArU (BK h).1:a=1967)▸iG w) (Rv R.sys) (λi=>eU R m (Axq<|Axl _ _)) 30
theorem uP(w:ArV):ZR (KF w) 2028=true:=by kernel_rfl
theorem uO(w:ArV):ZR (KF w) 2014=true:=by kernel_rfl
theorem NV{x:Int}(h:Zk r q=true)(hx:inR r x):inR q x:=
 iZ h (λa b e1 e2 h=>iZ h (λc d e3 e4 h=>⟨λz e=>uniq e3 e▸Av6 (Bs<|bl h) (hx.1 a e1),λz e=>uniq e4 e▸Av6 (hx.2 b e2) (Bs<|br h)⟩) ff) ff
theorem mF{f:Nat->Bool}{n:Nat}(h:NR true (λi ih=>both (f i) ih) n=true)(i:Nat)(hi:i<n):f i=true:=by
 induction n with
 |zero=>exact absurd hi (AxD i)
 |succ n ih=>exact(Nat.lt_succ_iff_lt_or_eq.mp hi).elim (ih (br h)) λe=>e▸bl h
theorem CU{tp:AH}(I:Inv (CW w h1 os) W σ s)(h:canon tp σ=true):11≤W.ρ.length∧∀a x,a<11->W.ρ[a]?=some x->inR (Bx (DV tp.er)<|10-a) x:=
 ⟨I.kρ▸Asp (bl h),λa x ha hx=>NV (mF (br h) a ha) (I.rng a x hx)⟩
theorem KP{tp:AH}{e:Int}(I:Inv (CW w h1 os) W σ s)(he:Em tp e)(h:canon tp σ=true):W.ρ[9]?=some e:=by have c:=CU I h;obtain⟨x,e1⟩:∃x,W.ρ[9]?=some x:=⟨_,Ar8<|Axu (by decide) c.1⟩;have q:inR tp.er x:=c.2 9 x (by decide) e1;rw[he.er] at q;exact e1.trans (congrArg some<|Av2 (q.2 e rfl)<|q.1 e rfl)
theorem F0{a:Ar0}:a∈GO W↔a∈W.fo∨own W.τ a:=
 ⟨λh=>(AsA.mp h).imp id λh=>(AsA.mp h).elim (λh=>(At8.mp h).imp λp q=>⟨q.1,.inl q.2.symm⟩) λh=>(At8.mp h).imp λp q=>⟨q.1,.inr q.2.symm⟩,
  λh=>AsA.mpr (h.imp id λh=>AsA.mpr (h.elim λp q=>q.2.imp (λe=>At8.mpr ⟨p,q.1,e.symm⟩) λe=>At8.mpr ⟨p,q.1,e.symm⟩))⟩
theorem Pt{items:Array ArR}(q:IsT W h a items):a∉GO W:=λm=>(F0.mp m).elim q.fo q.un
theorem DK{W':Wd}{ls:Nat->List ArR}(e:W'.fo=GO W):AJ W' (H3 W W' [] ex q ls) h h:=λa items x=>
 ⟨λo=>x.fo (e▸F0.mpr (.inr<|Ar7 W.τ▸o)),λm=>x.fo (e▸F0.mpr (.inl m)),x.Af,x.nd⟩
abbrev Wn(W:Wd)(p:Ar0×Ar0)(ex:List Int):Wd:=⟨W.ρ.take 11++ex,[p],W.q,W.ls,W.fs,GO W⟩
theorem EH{ρ:List Int}(h:11≤ρ.length):(ρ.take 11).length=11:=Atr.trans (Axx h)
theorem Wn.cut{p:Ar0×Ar0}(hp:p∈W.τ)(hl:11≤W.ρ.length)(h:Asb):Cut W (Wn W p ex) (λz=>false) 11 h where
 τ:=λi p=>ff
 ρ:=λa x ha hx=>(Asn<|(EH hl).symm▸ha).trans (Aut.trans<|(if_pos ha).trans hx)
 Af:=λa items q=>⟨λ⟨r,hr,e⟩=>q.un ⟨r,Ash.mp hr▸hp,e⟩,Pt q,q.Af,q.nd⟩
theorem aK:bdV (λz=>false) 11 12 Fi=true:=by kernel_rfl
theorem Ow(ρ:List Int):Eu ρ 11 Bf=some Bf:=rfl
theorem M7(h:Lg t=true)(hc:Eu ρ 12 t=some t'):∃a r,t'= .Af (a::Bf::r):=by
 cases t with
 |Af l=>
  obtain⟨m,em,e⟩:=Ak hc rfl;obtain rfl:=Ase e;cases l with
  |nil=>exact ff h
  |cons a l=>cases l with
   |nil=>exact ff h
   |cons b r=>have h:Fd b Bf=true:=h;obtain rfl:b=Bf:=CY h;obtain⟨a',_,e⟩:=Ak em rfl;obtain⟨m',e1,e⟩:=Ak e rfl;obtain⟨b',e2,e1⟩:=Ak e1 rfl;obtain⟨r',_,e1⟩:=Ak e1 rfl;obtain rfl:Bf=b':=Ase ((Ow ρ).symm.trans e2);exact⟨a',r',congrArg AV.Af ((Ase e).symm.trans (congrArg _ (Ase e1).symm))⟩
 |_=>exact ff h
theorem oM{l:List AV}:∀{k n:Nat},ixB b l k=some n->∃i,n=k+i∧l[i]?=some (.BG b):=by
 induction l with
 |nil=>exact ns
 |cons a l ih=>intro k n h;refine Df (P:=λo=>o=some n->∃i,n=k+i∧(a::l)[i]?=some (.BG b)) (b:=a.CS (Hg b) false) (λq e=>⟨0,(Ase e).symm,?_⟩) (λz e=>(ih e).elim λi q=>⟨i+1,q.1.trans (by rw[Aw8,Aw9 1 i]),q.2⟩) h;exact AV.Sh (Q:=λa=>some a=some (.BG b)) q (λx e=>congrArg some (congrArg AV.BG (Ih e).symm)) λz=>ff
theorem TJ:BE.length=3:=by kernel_rfl
theorem NX{n:Nat}(h:LU b=some n):n<3∧BE[n]?=some (.BG b):=by obtain⟨i,e,q⟩:=oM h;obtain rfl:n=i:=e.trans (AxL i);exact⟨TJ▸(Ar2.mp q).1,q⟩
inductive DN(C:Cx)(W:Wd)(s:ArT)(tp:AH)(t:AV)(co:ArR):Prop
 |val {σ3:St} {l:Ad} {x:Int}:Facts W.ρ σ3->C2 tp t (.int l) σ3=true->l.ev W.ρ=some x-> -4≤x->x≤98->VR C W s.heap (.Af [.str Bl,.int (.k x)]) co->DN C W s tp t co
 |pan {σ3:St} {n:Nat} {b:List UInt8}:Facts W.ρ σ3->C2 tp t (.str n) σ3=true->n<3->BE[n]?=some (.BG b)->VR C W s.heap (.Af [.str Ce,.BG b]) co->DN C W s tp t co
theorem QK{C:Cx}{l:Ad}{x:Int}(I:Inv C W σ s)(h:oG l σ=true)(hx:l.ev W.ρ=some x): -4≤x∧x≤98:=
 have q:=DI I.rng hx
 iZ h (λa b e1 e2 h=>⟨Av6 (Bs<|bl h)<|q.1 a e1,Av6 (q.2 b e2)<|Bs<|br h⟩) ff
theorem Tg{C:Cx}{tp:AH}(I:Inv C W σ s)(ho:VR C W s.heap o co)(h:W6 tp t o σ=true):DN C W s tp t co:=by
 obtain⟨o2,σ1,n1,r1,_,h⟩:=Aw I ho h;refine VR.AU (P:=λco=>DN C W s tp t co) r1 h (λl vs a h ht hv=>?_) ff
 revert ht
 revert hv
 refine CG (P:=λl=>Ae C W s.heap l vs->IsT W s.heap a (Aw4 vs)->DN C W s tp t (.ref a)) h λu x h hv=>?_
 refine Ae.two (P:=λvs=>IsT W s.heap a (Aw4 vs)->DN C W s tp t (.ref a)) hv λcu cx ru rx ht=>?_
 have h:=h;refine AV.Hb (Q:=λu=>VR C W s.heap u cu->DN C W s tp t (.ref a)) h (λn h0 ru=>B9 (b:=ArX n Bl) h0 (λe g=>?_) λz g=>?_) (λz=>ff) ru
 ·obtain rfl:=ArU e;obtain⟨x2,σ2,n2,r2,_,h⟩:=Aw n1.1 rx g;refine VR.cInt (P:=λcx=>IsT W s.heap a (Aw4 [cu,cx])->DN C W s tp t (.ref a)) r2 h (λl i u h hl ht=>?_) ff ht;have b:=QK n2.1 (bl h) hl;exact .val n2.1.facts (br h) hl b.1 b.2 (.Af (vs:=[cu,.int i u]) ht<|.cons ru<|.cons (.int<|Ad.Ci i) .nil)
 ·obtain rfl:=ArU (bl g);refine AV.Sh (Q:=λx=>VR C W s.heap x cx->DN C W s tp t (.ref a)) (br g) (λb h rx=>Cp h λn hn h=>?_) (λz=>ff) rx;have q:=NX hn;exact .pan n1.1.facts h q.1 q.2 (.Af (vs:=[cu,cx]) ht<|.cons ru<|.cons rx .nil)
end
theorem qB{er:BN}{n:Nat}(h:n≠1):Bx (DV er) n=Bx (DV er') n:=by
 induction n with
 |zero=>rfl
 |succ n=>induction n with
  |zero=>exact absurd rfl h
  |succ n=>rfl
theorem VR.str_inv{C:Cx}(r:VR C W h (.str n) cv):VR C W2 h2 (.str n) cv:=r.inv (P:=VR C W2 h2 (.str n)) λz z e=>.str e
theorem VR.Qp{C:Cx}(r:VR C W h (.BG b) cv):VR C W2 h2 (.BG b) cv:=r.inv (P:=VR C W2 h2 (.BG b)) λz=>.BG
theorem VR.int_inv{C:Cx}{W2:Wd}{x:Int}{l:Ad}{cv:ArR}(r:VR C W h (.int<|.k x) cv)(e:l.ev W2.ρ=some x):VR C W2 h2 (.int l) cv:=r.inv (P:=VR C W2 h2 (.int l)) λz z g=>.int (uniq g (Ad.Ci x)▸e)
theorem Dk(x:Int):inR (none,none) x:=⟨λz=>ns,λz=>ns⟩
theorem B0{a b x:Int}(h0:a≤x)(h1:x≤b):inR (some a,some b) x:=⟨λz e=>Ase e▸h0,λz e=>Ase e▸h1⟩
theorem XA{m x:Int}(h0:0≤x)(h1:x<m):inR (R0 m) x:=B0 h0 (Av5 h1)
theorem Rp{n:Nat}:inR (Rk n) (Ar6 n):=B0 (As1 _) (As1 _)
def Fp(rg:List BN)(ex:List Int):Prop:=rg.length=ex.length∧∀i x,ex[i]?=some x->inR (Bx rg (ex.length-1-i)) x
theorem Fp.nil:Fp [] []:=⟨rfl,λz z=>ns⟩
theorem Fp.snoc{rg:List BN}{y:Int}(h:Fp rg ex)(hy:inR r y):Fp (r::rg) (ex++ [y]):=by
 refine⟨by rw[Ar1,Asr,h.1];rfl,λi x e=>?_⟩;rw[Ar1,show [y].length=1 from rfl,Axf];rcases F6 e with e |⟨hi,e⟩
 ·have lt:=(Ar2.mp e).1;have q:=h.2 i x e;obtain⟨d,hd⟩:=Axk lt;rw[hd,Aw8,Axg];rw[hd,Axf,Axg] at q;exact q
 ·cases q:i-ex.length with
  |zero=>rw[q] at e;rw[Nat.le_antisymm (Nat.le_of_sub_eq_zero q) hi,AxG];exact Ase e▸hy
  |succ k=>rw[q] at e;exact ns e
theorem Bb{α:Type}{l m:List α}{n i:Nat}(h:l.length=n):(l++m)[n+i]?=m[i]? :=by rw[←h,Asc<|Axl _ _,Axg]
def N6(ms:List Int):Int->Int->List Int×Int×Int:=LR (λx y=>([],x,y)) (λm z ih x y=>((Au x y m).1::(ih (Au x y m).2.1 (Au x y m).2.2).1,(ih (Au x y m).2.1 (Au x y m).2.2).2)) ms
theorem U8{ms:List Int}(pos:∀m∈ms,0<m):∀{x y:Int},El x y->El (N6 ms x y).2.1 (N6 ms x y).2.2:=by
 induction ms with
 |nil=>exact id
 |cons m ms ih=>exact λsp=>ih (λa h=>pos a (.tail _ h)) (BV (pos m (.head _)) sp).1
theorem Zu{k:List (Int×Nat)->Bool}{ms:List Int}(pos:∀m∈ms,0<m):∀{f:List (Int×Nat)} {x y:Int},jA ms k f=true->BO ρ x y f->∃r,k r=true∧BO ρ (N6 ms x y).2.1 (N6 ms x y).2.2 r:=by
 induction ms with
 |nil=>exact λh q=>⟨_,h,q⟩
 |cons m ms ih=>
  intro f x y h q
  induction f with
  |nil=>exact ff h
  |cons p r=>obtain⟨m',a⟩:=p;obtain rfl:m'=m:=Bj (bl h);exact ih (λa h=>pos a (.tail _ h)) (br h) ((BO.cons (pos m' (.head _))).mp q).2
section
variable{w:ArV}{h1:Asb}{os:Atn}
variable{A:Ar4}{σ:St}{W:Wd}{s:ArT}
theorem Rl{tp:AH}{e:Int}(he:Em tp e)(c:Nat):inR (Kp tp c).er e:=by
 unfold Kp;split
 ·rw[he.er];exact B0 (As1 _) (As1 _)
 ·exact he.elim (λh=>h.1▸B0 (by decide) (by decide)) λh=>h.1▸B0 (by decide) (by decide)
theorem U5{tp:AH}{e:Int}(he:Em tp e)(I:Inv (CW w h1 os) W σ s)(hc:canon tp σ=true){er:BN}(hE:inR er e){rg:List BN}(hr:Fp rg ex){a:Nat}{x:Int}(hx:(W.ρ.take 11++ex)[a]?=some x):inR (Bx (rg++DV er)<|11+rg.length-1-a) x:=by
 have c:=CU I hc;refine hr.1.symm▸?_;refine Gq (EH c.1) (λa x h=>?_) hr.1 hr.2 hx;have ha:a<11:=EH c.1▸(Ar2.mp h).1;rw[Aut,if_pos ha] at h;rcases Axi (Axo ha) with e |JD
 ·rw[e] at h ⊢;have q:=c.2 10 x (by decide) h
  rwa [show Bx (DV er) (11-1-10)=Bx (DV tp.er) (10-10) from rfl]
 ·rcases Axi (Axo JD) with e |JD
  ·rw[e] at h ⊢;exact uniq (KP I he hc) h▸hE
  ·refine(qB (er':=tp.er) (λq=>absurd (Nat.sub_eq_iff_eq_add (Axo ha) |>.mp q) (AtJ<|Axc JD 1))).symm▸?_;exact c.2 a x ha h
inductive Z8(w:ArV)(h1:Asb)(os:Atn)(σ:St)(W:Wd)(s:ArT)(p:Ar0×Ar0)(ex:List Int)(x3 y3:Int)(g:AV->AV->St->Bool)(s':ArT)(a0:Ar0):Prop
 |mk (σg σ' σ2:St) (W':Wd) (t o:AV) (ct co:ArR) (B:Sub (CW w h1 os) σ W (Wn W p ex) s σg σ' W' s') (I2:Inv (CW w h1 os) W' σ2 s') (eρ:W'.ρ=W.ρ.take 11++ex) (ht:IsT W' s'.heap a0 #[ct,co]) (vt:VR (CW w h1 os) W' s'.heap t ct) (vo:VR (CW w h1 os) W' s'.heap o co)
  (i1:Lg t=true) (i2:okC 12 t=true) (h:g t o σ2=true) (sp:p.2=p.1∧∃t u,s'.heap.IsList p.1 #[.int x3 t,.int y3 u]∧El x3 y3∧GB s'.heap p.1)
theorem Kx(R:Ap (CW w h1 os) (KF w) tt Bi){tp:AH}{e:Int}(he:Em tp e){dc:Nat->Bool}{fn:Nat}(hf:ZR (KF w) fn=true){m:Nat}(f:BQ (m+3+30) true A)(I:Inv (CW w h1 os) W σ s)(ar:As A W)(hc:canon tp σ=true){j:Nat}{p:Ar0×Ar0}(hj:W.τ[j]?=some p){ch:ArR}(hh:VR (CW w h1 os) W s.heap Fi ch)
  {er:BN}(hE:inR er e){ex:List Int}{rg:List BN}(hr:Fp rg ex){ZS:List (Int×Nat)}(ob:Ob (CW w h1 os) (Wn W p ex) s.heap p (.Ao ZS)){n:Nat}(hn:ex.length=n+2){x3 y3:Int}(atx:ex[n]?=some x3)(aty:ex[n+1]?=some y3){g:AV->AV->St->Bool}
  (run:aU dc (.Bd<|.ref fn) [.obj 0,Fi] ⟨1,.Ai (some<|.Ao ZS) .nil .nil,11+rg.length,rg++DV er,[],[],0,0⟩ (LV (11+rg.length) g) HD=true){Rr:Auh->ArT->Prop}(go:∀s' a0,Z8 w h1 os σ W s p ex x3 y3 g s' a0->Rr (.ok<|.ret<|.ref a0) s'):
  Asu (model (CW w h1 os).prog (CW w h1 os).w) A (.call (.ref fn) ⟨[.ref p.1,ch],[]⟩) Rr s:=by
 have c1:=(CU I hc).1;have Pd:=EH c1;have hp:=get_mem hj;refine LP (Ot R m dc) f I ar (I.Xh hp (by rw[Ar1,Pd,hr.1]) (by rw[Ar1,Aw9];rfl) (λa x h=>U5 he I hc hE hr h) I.GO ob) (λq hq=>Ash.mp hq▸hp) rfl (FZ R hf) (vs:=[.obj 0,Fi])
  (.cons (.obj (i:=0) (p:=p) rfl)<|.cons (VR.cut (Wn.cut hp c1 s.heap) 12 _ _ aK hh) .nil) run λv cv σ' W' s' hk B r0=>?_
 have eρ:W'.ρ=W.ρ.take 11++ex:=(B.X.ρ.eq_of_length (by rw[B.I'.kρ,ArU<|bl hk,Ar1,Pd,hr.1])).symm;have SN:=Ab B.X.τ (show([p]:List (Ar0×Ar0))[0]?=some p from rfl);refine B.I'.BU SN (bl<|br hk) (λf h z b=>?_) ff;cases f with
 |nil=>exact ff h
 |cons q f=>
  obtain⟨mm,aa⟩:=q;obtain rfl:=A6 (bl h);obtain rfl:mm= -7:=Bj (bl<|br h);have ea:aa=11+n:=by rw[(ArU (br<|br h):aa=11+rg.length-2),hr.1,hn];rfl
  obtain⟨ep,x',y',u1,u2,il,sp',fu,nd⟩:=b;have fu:=BO.mark.mp fu;rw[eρ,ea,Aw8,Bb Pd,Bb Pd] at fu;obtain rfl:=uniq fu.1 atx;obtain rfl:=uniq fu.2 aty;obtain⟨v2,σ2,n2,r1,_,h5⟩:=Aw B.I' r0 (br<|br hk);refine VR.AU (P:=λcv=>Rr (.ok<|.ret cv) s') r1 h5 (λl vs a0 h ht hv=>?_) ff
  revert hv
  refine CG (P:=λl=>Ae (CW w h1 os) W' s'.heap l vs->Rr (.ok<|.ret<|.ref a0) s') h λt o h hv=>?_
  revert ht
  exact Ae.two (P:=λvs=>IsT W' s'.heap a0 (Aw4 vs)->Rr (.ok<|.ret<|.ref a0) s') hv λct co vt vo ht=>go s' a0 (.mk _ σ' σ2 W' t o ct co B n2.1 eρ ht vt vo (bl h) (bl<|br h) (br<|br h) ⟨ep,u1,u2,il,sp',nd⟩)
noncomputable def PH(W:Wd)(t o:AV)(a:Nat):AV×AV:=if a=W.ρ.length then(t,o) else W.q a
theorem Lz(a:Nat)(h:a<W.ρ.length):PH W t o a=W.q a:=if_neg (AtI h)
theorem Py{tp:AH}{e:Int}(he:Em tp e)(I:Inv (CW w h1 os) W σ s)(hc:canon tp σ=true){W':Wd}{h:Asb}(fo:W'.fo=GO W){ex:List Int}(eρ:W'.ρ=W.ρ.take 11++ex){tx:AH}(mx:tx∈[tp,C6]){t:AV}{ct:ArR}(i1:Lg t=true)(i2:okC 12 t=true)
  (vt:VR (CW w h1 os) W' h t ct){o1 o':AV}{σ3:St}(F:Facts W'.ρ σ3)(nc:C2 tx t o1 σ3=true)(oe:T5 W'.ρ o1 o'){ex2:List Int}(ne:0<ex2.length)(oR:RT (W.ρ++ex2) W.ρ.length o'):∃t',VR (CW w h1 os) (H3 W W' [] ex2 (PH W t' o') W.ls) h (.Ee W.ρ.length) ct:=by
 have c:=CU I hc;obtain⟨t',ct1,_⟩:=KR (W2:=H3 W W' [] ex2 W.q W.ls) (DK fo) 12 t _ i2 vt;obtain⟨t2,ct2,vt⟩:=KR (W2:=H3 W W' [] ex2 (PH W t' o') W.ls) (DK fo) 12 t _ i2 vt;obtain rfl:=uniq ct2 ct1;have l1:11≤W'.ρ.length:=by rw[eρ,Ar1,EH c.1];exact Axl _ _
 have l2:11≤(W.ρ++ex2).length:=by rw[Ar1];exact AtH c.1 (Axl _ _)
 have e2:W'.ρ.take 11=(W.ρ++ex2).take 11:=by rw[eρ,Ath<|Axm (EH c.1).symm,Ath c.1,List.take_take];rfl
 exact⟨t',.Ee (t:=(t',o')) (by show W.ρ.length<(W.ρ++ex2).length;rw[Ar1];exact Axr ne) (if_pos rfl)
  ⟨he.way (Ab (Asf _ _)<|KP I he hc)<|.mk tx mx σ3 W'.ρ t o1 e2 l2 l1 F nc ct1 oe,oR,M7 i1 ct1⟩ vt⟩
theorem at2{ex:List Int}{i:Nat}:(W.ρ++ex)[W.ρ.length+i]?=ex[i]? :=Bb rfl
theorem E9{σg σ':St}{W':Wd}{s':ArT}{p:Ar0×Ar0}{ex:List Int}(B:Sub (CW w h1 os) σ W (Wn W p ex) s σg σ' W' s'){j:Nat}(hj:W.τ[j]?=some p){x3 y3:Int}(sp:p.2=p.1∧∃t u,s'.heap.IsList p.1 #[.int x3 t,.int y3 u]∧El x3 y3∧GB s'.heap p.1){r:List (Int×Nat)}
  (fu:BO W.ρ x3 y3 r){ex2:List Int}{rg:List BN}(hr:Fp rg ex2){q:Nat->AV×AV}(hq:∀a,a<W.ρ.length->q a=W.q a){k:K AV}{vt vo:AV}(h:k (.Af [vt,vo]) ((σ.GV.atoms rg).G7 j<|.Ao r)=true){a0:Ar0}{ct co:ArR}(ht:IsT W' s'.heap a0 #[ct,co])
  (v1:VR (CW w h1 os) (H3 W W' [] ex2 q W.ls) s'.heap vt ct)(v2:VR (CW w h1 os) (H3 W W' [] ex2 q W.ls) s'.heap vo co):Ah (CW w h1 os) k σ W s (RV<|CW w h1 os) (.ref a0) s':=
 sp.2.elim λt b=>b.elim λu b=>
  have q:=B.Uq rfl hj hr.1 hr.2 hq (o:=.Ao r) ⟨sp.1,x3,y3,t,u,b.1,b.2.1,fu.pre<|Asf _ _,b.2.2⟩
  ⟨_,_,_,h,q.2,q.1,.Af (vs:=[ct,co]) (DK B.X.fo _ _ ht)<|.cons v1<|.cons v2 .nil⟩
theorem y6:∀m∈([5,3,12]:List Int),0<m:=by decide
theorem RG{tp:AH}{ms:List Int}{vs:List AV}{cvs:List ArR}{k:Nat->List (Int×Nat)->Bool}{P:List ArR->Prop}(h:qO tp ms vs σ k=true)(I:Inv (CW w h1 os) W σ s)(pos:∀m∈ms,0<m)(hv:Ae (CW w h1 os) W s.heap vs cvs)
  (go:∀j p ch x y t u r,canon tp σ=true->W.τ[j]?=some p->VR (CW w h1 os) W s.heap Fi ch->p.2=p.1->s.heap.IsList p.1 #[.int x t,.int y u]->El x y->GB s.heap p.1->k j r=true->BO W.ρ (N6 ms x y).2.1 (N6 ms x y).2.2 r->P [.ref p.1,ch]):P cvs:=by
 revert hv
 refine CG (P:=λvs=>Ae (CW w h1 os) W s.heap vs cvs->P cvs) h λa b h hv=>Ae.two (P:=P) hv λca cb ra rb=>?_
 refine VR.Ay (P:=λca=>P [ca,cb]) ra h (λj p h hj=>?_) ff;obtain rfl:b=Fi:=CY (bl<|bl h);exact I.BU hj (br h) (λf h0 z b0=>b0.2.elim λx b=>b.elim λy b=>b.elim λt b=>b.elim λu b=>(Zu pos h0 b.2.2.1).elim λr q=>go j p cb x y t u r (br<|bl h) hj rb b0.1 b.1 b.2.1 b.2.2.2 q.1 q.2) ff
theorem Th(R:Ap (CW w h1 os) (KF w) tt Bi){tp:AH}{e:Int}(he:Em tp e)(NK:Ep tp){m:Nat}(f:BQ (m+3+30) true A)(I:Inv (CW w h1 os) W σ s)(ar:As A W){vs:List AV}{cvs:List ArR}(hv:Ae (CW w h1 os) W s.heap vs cvs){k ke:K AV}
  (h:P6 tp vs σ k=true):Asu (model (CW w h1 os).prog (CW w h1 os).w) A (.call (.ref 2028) ⟨cvs,[]⟩) (AQ (CW w h1 os) k ke σ W s) s:=by
 refine RG (P:=λcvs=>Asu (model (CW w h1 os).prog (CW w h1 os).w) A (.call (.ref 2028) ⟨cvs,[]⟩) (AQ (CW w h1 os) k ke σ W s) s) h I y6 hv λj p ch x y t u r hc hj hh ep il sp nd h fu=>?_
 have g1:=BV (m:=5) (by decide) sp;have g2:=BV (m:=3) (by decide) g1.1;have g3:=BV (m:=12) (by decide) g2.1;obtain⟨b,hb⟩:=AsY g2.2.1;obtain⟨c,hcc⟩:=AsY g3.2.1;have Pd:=EH (CU I hc).1;refine Kx R he (uP w) f I ar hc hj hh (Rl he c) (rg:=[(none,none),(none,none),Rk c,Rk b,R0 5]) (ex:=[_,Ar6 b,Ar6 c,(N6 [5,3,12] x y).2.1,(N6 [5,3,12] x y).2.2]) (.snoc (.snoc (.snoc (.snoc (.snoc .nil<|XA g1.2.1 g1.2.2) Rp) Rp)<|Dk _)<|Dk _)
  ⟨ep,x,y,t,u,il,sp,(BO.cons (by decide)).mpr ⟨Bb (i:=0) Pd,(BO.cons (by decide)).mpr ⟨(Bb (i:=1) Pd).trans<|congrArg some hb.symm,(BO.cons (by decide)).mpr ⟨(Bb (i:=2) Pd).trans<|congrArg some hcc.symm,BO.mark.mpr ⟨Bb (i:=3) Pd,Bb (i:=4) Pd⟩⟩⟩⟩,nd⟩
  (n:=3) rfl rfl rfl (NK.num b c (Awj.mp<|hb▸g2.2.2)<|Awj.mp<|hcc▸g3.2.2) λs' a0 T=>?_
 obtain⟨σg,σ',σ2,W',t,o,ct,co,B,I2,eρ,ht,vt,vo,i1,i2,hn,sp⟩:=T;have mx:Kp tp c∈[tp,C6]:=by
  unfold Kp;split
  ·exact .head _
  ·exact .tail _ (.head _)
 rw[←I.kρ] at h;cases Tg I2 vo hn with
 | @val σ3 l z F nc hl b1 b2 vr=>
  obtain⟨t',v1⟩:=Py he I hc B.X.fo eρ mx i1 i2 vt F nc ⟨z,hl,rfl⟩ (ex2:=[0,0,z,0]) (AxK _) ⟨z,Ad.Ci z,at2 (i:=1),at2 (i:=2)⟩;refine E9 B hj sp fu (.snoc (.snoc (.snoc (.snoc .nil<|Dk 0)<|B0 (by decide) (by decide))<|B0 b1 b2)<|B0 (by decide) (by decide)) Lz h ht v1<|.sel (j:=0) (at2 (i:=1)) rfl ?_;exact vr.inv (P:=VR (CW w h1 os) (H3 W W' [] [0,0,z,0] (PH W t'<|.int<|.k z) W.ls) s'.heap (.Af [.str Bl,.int<|.at (W.ρ.length+2)])) λvs a t q=>.Af (DK B.X.fo _ _ t) (Ae.two (P:=λvs=>Ae (CW w h1 os) (H3 W W' [] [0,0,z,0] (PH W t'<|.int<|.k z) W.ls) s'.heap [.str Bl,.int<|.at (W.ρ.length+2)] vs) q
   λzz zz y1 y2=>.cons y1.str_inv (.cons (y2.int_inv<|MI<|at2 (i:=2)) .nil))
 | @pan σ3 n bb F nc hn ht3 vr=>
  obtain⟨t',v1⟩:=Py he I hc B.X.fo eρ mx i1 i2 vt F nc (o':=.str n) rfl (ex2:=[0,1,0,Ar6 n]) (AxK _) ⟨at2 (i:=1),at2 (i:=3)⟩;refine E9 B hj sp fu (.snoc (.snoc (.snoc (.snoc .nil<|Dk 0)<|B0 (by decide) (by decide))<|B0 (by decide) (by decide))<|B0 (AtG n)<|Awi.mpr<|Axo hn) Lz h ht v1<|.sel (j:=1) (at2 (i:=1)) rfl ?_;exact vr.inv (P:=VR (CW w h1 os) (H3 W W' [] [0,1,0,Ar6 n] (PH W t'<|.str n) W.ls) s'.heap (.Af [.str Ce,.sel (W.ρ.length+3) BE])) λvs a t q=>.Af (DK B.X.fo _ _ t) (Ae.two (P:=λvs=>Ae (CW w h1 os) (H3 W W' [] [0,1,0,Ar6 n] (PH W t'<|.str n) W.ls) s'.heap [.str Ce,.sel (W.ρ.length+3) BE] vs) q
   λzz zz y1 y2=>.cons y1.str_inv (.cons (.sel (j:=n) (at2 (i:=3)) ht3 y2.Qp) .nil))
theorem Pa{l:Ad}(h:JX t l=true):t= .Af [.str Cc,Bf,.int ⟨1,[]⟩,.int l]:=by
 cases t with
 |Af m=>
  cases m with
  |nil=>exact ff h
  |cons a m=>cases m with
   |nil=>exact ff h
   |cons b m=>cases m with
    |nil=>exact ff h
    |cons c m=>cases m with
     |nil=>exact ff h
     |cons d m=>
      have q0:=br h;obtain rfl:=A6 (bl h);have q1:=bl q0;have q2:=br q0;have e1:=AV.Hb (Q:=λa=>a= .str Cc) (bl q1) (λn e=>congrArg _ (ArU e)) λz=>ff
      have e2:=CY (br q1);have e3:=AV.FC (Q:=λa=>a= .int ⟨1,[]⟩) (bl q2) (λn e=>congrArg _ (Ad.eq_iff e)) λz=>ff
      have e4:=AV.FC (Q:=λa=>a= .int l) (br q2) (λn e=>congrArg _ (Ad.eq_iff e)) λz=>ff
      rw[e1,e2,e3,e4]
 |_=>exact ff h
theorem S5{l l':Ad}{z:Int}(h:l.ev ρ=some z)(h':l'.ev ρ'=some z):Eu ρ' 12 (.Af [.str Cc,Bf,.int ⟨1,[]⟩,.int l'])=Eu ρ 12 (.Af [.str Cc,Bf,.int ⟨1,[]⟩,.int l]):=by
 have e:∀{ρ:List Int} {l:Ad},l.ev ρ=some z->Eu ρ 12 (.Af [.str Cc,Bf,.int ⟨1,[]⟩,.int l])=some (.Af [.str Cc,Bf,.int<|.k 1,.int<|.k z]):=λ{ρ l} h=>by
  have q:Eu ρ 11 (.int l)=some (.int<|.k z):=by show OR none _ (l.ev ρ)=_;rw[h];rfl
  show OR none (λm=>some (AV.Af m)) (Hi (Eu ρ 11) [.str Cc,Bf,.int ⟨1,[]⟩,.int l])=_;show OR none (λm=>some (AV.Af m)) (OR none (λm=>some (AV.str Cc::m))<|OR none (λm=>some (Bf::m))<|OR none (λm=>some (AV.int (.k 1)::m))<|OR none (λb=>OR none (λm=>some (b::m)) (some []))<|Eu ρ 11<|.int l)=_;rw[q];rfl
 rw[e h,e h']
theorem dD(R:Ap (CW w h1 os) (KF w) tt Bi){tp:AH}{e:Int}(he:Em tp e)(NK:Ep tp){m:Nat}(f:BQ (m+3+30) true A)(I:Inv (CW w h1 os) W σ s)(ar:As A W){vs:List AV}{cvs:List ArR}(hv:Ae (CW w h1 os) W s.heap vs cvs){k ke:K AV}
  (h:LS tp vs σ k=true):Asu (model (CW w h1 os).prog (CW w h1 os).w) A (.call (.ref 2014) ⟨cvs,[]⟩) (AQ (CW w h1 os) k ke σ W s) s:=by
 refine RG (P:=λcvs=>Asu (model (CW w h1 os).prog (CW w h1 os).w) A (.call (.ref 2014) ⟨cvs,[]⟩) (AQ (CW w h1 os) k ke σ W s) s) h I (λm h=>y6 m (by revert h;decide +revert)) hv λj p ch x y t u r hc hj hh ep il sp nd h fu=>?_
 have g1:=BV (m:=5) (by decide) sp;have g2:=BV (m:=3) (by decide) g1.1;obtain⟨b,hb⟩:=AsY g2.2.1;have Pd:=EH (CU I hc).1;refine Kx R he (uO w) f I ar hc hj hh (Rl he 0) (rg:=[(none,none),(none,none),Rk b,R0 5]) (ex:=[_,Ar6 b,(N6 [5,3] x y).2.1,(N6 [5,3] x y).2.2]) (.snoc (.snoc (.snoc (.snoc .nil<|XA g1.2.1 g1.2.2) Rp)<|Dk _)<|Dk _)
  ⟨ep,x,y,t,u,il,sp,(BO.cons (by decide)).mpr ⟨Bb (i:=0) Pd,(BO.cons (by decide)).mpr ⟨(Bb (i:=1) Pd).trans<|congrArg some hb.symm,BO.mark.mpr ⟨Bb (i:=2) Pd,Bb (i:=3) Pd⟩⟩⟩,nd⟩
  (n:=2) rfl rfl rfl (NK.Ar b<|Awj.mp<|hb▸g2.2.2) λs' a0 T=>?_
 obtain⟨σg,σ',σ2,W',t,o,ct,co,B,I2,eρ,ht,vt,vo,i1,i2,hn,sp⟩:=T;rw[←I.kρ] at h;obtain⟨o2,σ3,n3,r2,_,h7⟩:=Aw I2 vo hn;refine VR.cInt (P:=λco=>IsT W' s'.heap a0 #[ct,co]->AQ (CW w h1 os) k ke σ W s (.ok<|.ret<|.ref a0) s') r2 h7 (λl z tk h7 hz ht=>?_) ff ht;have zb:=QK n3.1 (bl h7) hz;have vz:∀(kb:Int) (q:Nat->AV×AV),VR (CW w h1 os) (H3 W W' [] [0,0,z,0,kb] q W.ls) s'.heap (.int<|.at (W.ρ.length+2)) (.int z tk):=λkb q=>.int (MI<|at2 (i:=2))
 have rgs:∀kb:Int,0≤kb->kb≤1->Fp Wt [0,0,z,0,kb]:=λkb h0 h1=>.snoc (.snoc (.snoc (.snoc (.snoc .nil<|Dk 0)<|B0 (by decide) (by decide))<|B0 zb.1 zb.2)<|Dk 0) (B0 h0 h1)
 induction b with
 |zero=>obtain rfl:=Pa (br h7);refine E9 B hj sp fu (rgs 0 (by decide) (by decide)) (q:=W.q) (λzz zz=>rfl) h ht (.sel (j:=0) (at2 (i:=4)) rfl ?_) (vz 0 _);obtain⟨t',ce,vt⟩:=KR (W2:=H3 W W' [] [0,0,z,0,0] W.q W.ls) (DK B.X.fo) 12 _ _ i2 vt;refine JW (ρ:=W.ρ++ [0,0,z,0,0]) (ArZ _) (λzz zz h=>h) 12 _ t' _ ?_ vt;refine ce▸?_;exact S5 hz (MI (at2 (i:=2)))
 |succ b=>obtain⟨t',v1⟩:=Py he I hc B.X.fo eρ (.tail _ (.head _)) i1 i2 vt n3.1.facts (br h7) ⟨z,hz,rfl⟩ (ex2:=[0,0,z,0,1]) (AxK _) ⟨z,Ad.Ci z,at2 (i:=1),at2 (i:=2)⟩;exact E9 B hj sp fu (rgs 1 (by decide) (by decide)) Lz h ht (.sel (j:=1) (at2 (i:=4)) rfl v1) (vz 1 _)
end
section
variable{C:Cx}{X:CX}{n:Nat}{b:Bool}{sc:Asv}
theorem LY(h:turned fl (λz z=>bad "until") f σ=true):(fl= .next∨fl= .cont)∧f σ=true:=by
 induction fl with
 |next=>exact⟨.inl rfl,h⟩
 |cont=>exact⟨.inr rfl,h⟩
 |brk=>exact ff h
 |ret v=>exact ff h
theorem ZE(ht:SB C X n b sc t et)(hb:SL C X n b sc c bx)(f:BQ n b A){k:K Unit}(m:Nat):
  ∀(σ:St) (W:Wd) (s:ArT) (R:Auh->ArT->Prop),Inv C W σ s->AD C A W sc E env->RL X E t c stop m σ k ke=true->
   (∀σ' W' s',stop σ'=true->k () σ'=true->Ext σ W s σ' W' s'->Inv C W' σ' s'->Asu (model C.prog C.w) A (.whileLoop et bx [] env) R s')->(∀e s',Ba C ke σ W s e s'->R (.error e) s')->
   Asu (model C.prog C.w) A (.whileLoop et bx [] env) R s:=by
 induction m with
 |zero=>exact λz z z z z z h=>ff h
 |succ m ih=>
  intro σ W s R I e h hk hR;refine B9 (b:=stop σ) h (λhs h=>hk σ W s hs h (.refl _ _ _) I) λz h=>?_
  have er:∀{σ2:St} {W2:Wd} {s2 s3:ArT} {x:ArR},Ext σ W s σ2 W2 s2->AD C A W2 sc E env->Ac C ke σ2 W2 s2 x s3->AtK (model C.prog C.w) A env (λe s'=>R (.error e) s') x s3:=λX2 e2 q=>
   ArY (DG q e2 (Er:=λe s'=>R (.error e) s')) (λz z q=>hR _ _ (Ba.base X2 q)) λz z q=>q
  refine Ju (ArY (ht A σ W s E env f I e _ ke h) (λbo s1 q=>?_) λz z q=>er (.refl _ _ _) e q);obtain⟨a,σ1,W1,h1,X1,I1,r1⟩:=q;obtain rfl:a=bo:=r1
  induction a with
  |false=>exact ff h1
  |true=>
   rw[if_pos rfl];have e1:=e.up X1.up;refine ArY (hb A σ1 W1 s1 E env f I1 e1 _ ke h1) (λfl s3 q=>?_) λz z q=>er X1 e1 q
   obtain⟨a,σ3,W3,h3,X3,I3,r3⟩:=q;have EI:=X1.trans X3;have q:=LY h3;have again:=ih σ3 W3 s3 R I3 (e1.up X3.up) q.2 (λσ' W' s' q0 q1 q2 q3=>hk σ' W' s' q0 q1 (EI.trans q2) q3) λx s' q=>hR x s' (q.base EI)
   induction r3 with
   |next=>exact again
   |cont=>exact again
   |brk=>exact ff h3
   |ret hv=>exact ff h3
end
theorem FH{l:List (Nat×AO)}{i:Nat}:∀{t:PA},(C4 l t).get i=some o->(i,o)∈l∨(t.get i=some o∧∀p∈l,p.1≠i):=by
 induction l with
 |nil=>exact λh=>.inr ⟨h,λz h=>absurd h AwY⟩
 |cons p l ih=>exact λ{t} h=>(ih (t:=t.set p.2 p.1) h).elim (λh=>.inl (.tail _ h)) λh=>(PA.get_set _ _ _ _ _ h.1).elim (λe=>.inl (e.1▸e.2▸ .head _)) λe=>.inr ⟨e.2,λq m=>(Ar3.mp m).elim (λq=>q▸e.1.symm) (h.2 q)⟩
theorem JY{n i:Nat}(h:(Mx n).get i=some o):o= .dead∧i<n:=by
 induction n with
 |zero=>exact ns h
 |succ n ih=>exact(PA.get_set _ _ _ _ _ (h:((Mx n).set .dead n).get i=some o)).elim (λe=>⟨e.2,e.1▸Axw n⟩) λe=>(ih e.2).imp id AuG
theorem Hx{l:List (Nat×AO)}(h:Jk l σ=true)(p:Nat×AO)(hp:p∈l):σ.obj p.1=some p.2:=Cp (AN h p hp) λo e q=>nH q▸e
noncomputable def Gn(W:Wd)(idx:List Nat):List (Ar0×Ar0):=idx.map λi=>(W.τ[i]?).getD (0,0)
theorem BL{W:Wd}{idx:List Nat}{i j:Nat}(hi:idx[i]?=some j)(hp:W.τ[j]?=some p):(Gn W idx)[i]?=some p:=by unfold Gn;rw[AwN,hi,AtB,hp];rfl
theorem DH{W:Wd}{idx:List Nat}(hl:∀i∈idx,i<W.τ.length)(p:Ar0×Ar0)(hp:p∈Gn W idx):p∈W.τ:=by obtain⟨i,hi,rfl⟩:=At8.mp hp;rw[Ar8 (hl i hi)];exact List.getElem_mem _
theorem Ja{C:Cx}(I:Inv C W σ s){idx:List Nat}(hn:idx.Nodup)(hl:∀i∈idx,i<W.τ.length):(Gn W idx).Nodup:=
 List.pairwise_map.mpr (List.Pairwise.imp_of_mem (λ{a b} ha hb hab=>by
  rw[Ar8 (hl a ha),Ar8<|hl b hb];exact λe=>(I.apart a b _ _ (Ar8<|hl a ha) (Ar8<|hl b hb) hab).1 (congrArg AxZ e)) hn)
noncomputable def lowG(x:Nat):List Nat:=[0,18,2,3,4,5,6,7,8,9,10,11,12,13,14,15,x,17]
def C9(vi fr:Nat):List Nat:=lowG (bt (ArX vi 16) 19 16)++ [vi,fr]
noncomputable def okL:List Nat:=[0,2,3,4,5,6,7,8,9,10,11,12,13,14,15,17]
def Gj(i:Nat):Bool:=isIn i okL
theorem fa{P:Nat->Prop}{a:Nat}{l:List Nat}(h1:P a)(h2:∀n∈l,P n):∀n∈a::l,P n:=AwJ.mpr ⟨h1,h2⟩
theorem fn{P:Nat->Prop}:∀n∈([]:List Nat),P n:=λz h=>absurd h AwY
theorem Wx{vi fr:Nat}:∀i∈okL,(C9 vi fr)[i]?=some i:=fa rfl (fa rfl (fa rfl (fa rfl (fa rfl (fa rfl (fa rfl (fa rfl (fa rfl (fa rfl (fa rfl (fa rfl (fa rfl (fa rfl (fa rfl (fa rfl fn)))))))))))))))
theorem Ex{vi fr i:Nat}(h:Gj i=true):(C9 vi fr)[i]?=some i:=Wx i (DD h)
theorem pN{i:Nat}(h:Gj i=true):i<18:=(by decide:∀i∈okL,i<18) i (DD h)
theorem Lp{l:List Nat}{a:Nat}(h:l.Nodup)(n:a∉l):(l++ [a]).Nodup:=AwX.mpr ⟨h,Atl.mpr ⟨AwY,AtM⟩,λx hx y hy e=>n (Ash.mp hy▸e▸hx)⟩
theorem cP{vi fr:Nat}(h:vi=16∨19<vi):(C9 vi fr=(lowG 19++ [16])++ [fr]∧vi=16)∨(C9 vi fr=(lowG 16++ [vi])++ [fr]∧19<vi):=by
 rcases h with rfl |h
 ·exact .inl ⟨rfl,rfl⟩
 ·refine .inr ⟨?_,h⟩;unfold C9;rw[GG (AtJ<|Nat.lt_trans (by decide) h)];rfl
theorem O1{vi fr:Nat}(h2:vi=16∨19<vi)(h3:19<fr)(h4:fr≠vi):(C9 vi fr).Nodup:=
 (cP h2).elim (λe=>e.1▸Lp (by decide) λm=>AxC h3 ((by decide:∀i∈lowG 19++ [16],i≤19) _ m)) λe=>e.1▸Lp (Lp (by decide) λm=>AxC e.2 ((by decide:∀i∈lowG 16,i≤19) _ m)) λm=>
  (AsA.mp m).elim (λm=>AxC h3 ((by decide:∀i∈lowG 16,i≤19) _ m)) λm=>h4 (Ash.mp m)
theorem cQ{vi fr i:Nat}(h:i∈C9 vi fr):i≤19∨i=vi∨i=fr:=by
 refine(AsA.mp h).imp (λm=>?_) λm=>(Ar3.mp m).imp id Ash.mp
 revert m
 cases ArX vi 16 with
 |true=>exact(by decide:∀i∈lowG 19,i≤19) i
 |false=>exact(by decide:∀i∈lowG 16,i≤19) i
theorem cR{vi fr n:Nat}(h1:19<n)(h2:vi<n)(h3:fr<n)(i:Nat)(hi:i∈C9 vi fr):i<n:=(cQ hi).elim (λh=>Axs h h1) λh=>h.elim (λh=>h▸h2) λh=>h▸h3
theorem HS{C:Cx}(I:Inv C W σ s){a:Nat}{z:Int}(hz:W.ρ[a]?=some z)(h:F8 σ a z f=true):∃σ',Bg C W s σ σ'∧f σ'=true:=
 iZ h (λx y e1 e2 h=>by
  have r:=I.rng a z hz;have q:both (EN x z) (EN z y)=true:=Cf.mpr ⟨(DU _ _).mpr<|r.1 _ e1,(DU _ _).mpr<|r.2 _ e2⟩;rw[q] at h;have hr:inR (some z,some z) z:=B0 (As1 _) (As1 _);exact⟨_,Bg.C5 I hz hr,EW I hz hr h⟩) ff
structure Jy(tp:AH):Prop where
 n0:tp.n0=18
 run:tp.run=5
 call:tp.call=6
 cells:tp.cells=9
 work:tp.work=15
 vals:tp.vals=16
 AY:tp.AY=A3.AY
 free:tp.free=C6
 len:tp.Am.length=8
theorem Aav:Jy A3:=⟨rfl,rfl,rfl,rfl,rfl,rfl,rfl,rfl,rfl⟩
theorem Aaw:Jy BA:=⟨rfl,rfl,rfl,rfl,rfl,rfl,rfl,by kernel_rfl,rfl⟩
theorem Em.cases{tp:AH}{e:Int}(h:Em tp e){P:AH->Prop}(h0:P A3)(h1:P BA):P tp:=h.elim (λq=>q.2▸h0) λq=>q.2▸h1
theorem Em.tp{tp:AH}{e:Int}(h:Em tp e):Jy tp:=h.cases Aav Aaw
def Px(tp:AH):Bool:=allR (λp=>both (bdO Gj 11 p.2) (both (Gj p.1) (bt (isIn p.1 [0,6,9,15]) false true))) tp.objs
theorem dV:Px A3=true:=by kernel_rfl
theorem dW:Px BA=true:=by kernel_rfl
structure sE(p:Nat×AO):Prop where
 bd:bdO Gj 11 p.2=true
 ok:Gj p.1=true
 ne:isIn p.1 [0,6,9,15]=false
theorem Em.objs{tp:AH}{e:Int}(h:Em tp e)(p:Nat×AO)(m:p∈tp.objs):sE p:=
 have q:=AN (h.cases (P:=λtp=>Px tp=true) dV dW) p m
 ⟨bl q,bl<|br q,Ht<|br<|br q⟩
theorem Qn:rF Gj 11 (AM A3.AY Aq .AR)=true:=by kernel_rfl
theorem R8:allR (Ur Gj 11) A3.Am=true:=by kernel_rfl
theorem R9:allR (Ur Gj 11) BA.Am=true:=by kernel_rfl
theorem Em.UL{tp:AH}{e:Int}(h:Em tp e):allR (Ur Gj 11) tp.Am=true:=h.cases (P:=λtp=>allR (Ur Gj 11) tp.Am=true) R8 R9
structure Rel(Bq tp:AH):Prop where
 n0:Bq.n0=18
 run:Bq.run=5
 call:Bq.call=6
 cells:Bq.cells=9
 work:Bq.work=15
 vals:Bq.vals=16
 AY:Bq.AY=A3.AY
 objs:∀p∈Bq.objs,p∈tp.objs
 Am:∃n,Bq.Am=tp.Am.take n
 all:∀p∈tp.objs,5≤p.1->p∈Bq.objs
theorem Xt{tp:AH}(O:Jy tp):Rel tp.free tp:=
 ⟨O.n0,O.run,O.call,O.cells,O.work,O.vals,O.AY,λp h=>(AwU.mp h).1,⟨7,rfl⟩,λp h h5=>AwU.mpr ⟨h,Axh h5⟩⟩
theorem pZ{tp Bq:AH}(O:Jy tp)(h:Bq∈[tp,C6]):Rel Bq tp:=by
 rcases Ar3.mp h with rfl |h
 ·exact⟨O.n0,O.run,O.call,O.cells,O.work,O.vals,O.AY,λp h=>h,⟨Bq.Am.length,Aw3.symm⟩,λp h z=>h⟩
 ·exact Ash.mp h▸O.free▸Xt O
noncomputable def Wy(k:Nat)(a b c:List ArR)(i:Nat):List ArR:=if i=k then a else if i=k+1 then b else if i=k+2 then c else []
theorem o6{k:Nat}:Wy k a b c k=a:=if_pos rfl
theorem o7{k:Nat}:Wy k a b c (k+1)=b:=(if_neg<|AxJ k).trans (if_pos rfl)
theorem o8{k:Nat}:Wy k a b c (k+2)=c:=(if_neg<|AtJ<|Axr (by decide)).trans ((if_neg<|AxJ<|k+1).trans<|if_pos rfl)
theorem RI{ρ ρ1:List Int}(h:ρ1.take 11=ρ.take 11){a:Nat}{x:Int}(ha:a<11)(hx:ρ[a]?=some x):ρ1[a]?=some x:=by have e:=congrArg (λl=>l[a]?) h;rw[Aut,Aut,if_pos ha,if_pos ha] at e;exact e.trans hx
inductive KD(P:AV->AV->Prop):List (Nm×AV)->List (Nm×AV)->Prop
 |nil:KD P [] []
 |cons {a u v l m}:P u v->KD P l m->KD P ((a,u)::l) ((a,v)::m)
section
variable{P:AV->AV->Prop}{l m:List (Nm×AV)}{x:Nm}
theorem KD.back(h:KD P l m)(e:AW m x=some v):∃u,AW l x=some u∧P u v:=by
 induction h with
 |nil=>exact ns e
 | @cons a u v' l m p _ ih=>exact Df (P:=λo=>o=some v->∃u',bt (ArX x a) (some u) (AW l x)=some u'∧P u' v) (b:=ArX x a) (λq e=>⟨u,by refine q.symm▸?_;rfl,Ase e▸p⟩) (λq e=>(ih e).imp λz r=>⟨by refine q.symm▸?_;exact r.1,r.2⟩) e
theorem KD.has(h:KD P l m)(e:AW l x=some u):∃v,AW m x=some v:=by
 induction h with
 |nil=>exact ns e
 | @cons a u' v l m p _ ih=>exact Df (P:=λo=>o=some u->∃v',bt (ArX x a) (some v) (AW m x)=some v') (b:=ArX x a) (λq e=>⟨v,by refine q.symm▸?_;rfl⟩) (λq e=>(ih e).imp λz r=>by refine q.symm▸?_;exact r) e
theorem KD.len(h:KD P l m):m.length=l.length:=KD.rec (motive:=λl m z=>m.length=l.length) rfl (λz z e=>congrArg Auv e) h
theorem Ej.rel{C:Cx}(r:KD (λu v=>∀cv,VR C W h u cv->VR C W2 h v cv) l m){μ:Str->Option ArR}(N:Ej C W h l μ):Ej C W2 h m μ:=
 ⟨λx v e=>(r.back e).elim λu q=>(N.1 x u q.1).imp λz=>Avw λcv=>Au2 (Au2<|q.2 cv),λnm cv e=>(N.2 nm cv e).elim λx q=>q.elim λu q=>(r.has q.2).elim λv e=>⟨x,v,q.1,e⟩⟩
theorem KD.set{f:AV->Bool}(hf:∀u,f u=true->P u u){v v':AV}(hv:P v v')(b:allR (λp=>f p.2) (AM l x w)=true):KD P (AM l x v) (AM l x v'):=by
 induction l with
 |nil=>exact .cons hv .nil
 |cons p l ih=>
  have all:∀{l:List (Nm×AV)},allR (λp=>f p.2) l=true->KD P l l:=λ{l} h=>by
   induction l with
   |nil=>exact .nil
   |cons p l ih=>exact .cons (hf _ (bl h)) (ih (br h))
  show KD P (bt (ArX x p.1) ((p.1,v)::l) (p::AM l x v)) (bt (ArX x p.1) ((p.1,v')::l) (p::AM l x v'));have b:allR (λp=>f p.2) (bt (ArX x p.1) ((p.1,w)::l) (p::AM l x w))=true:=b
  revert b
  cases ArX x p.1 with
  |true=>exact λb=>.cons hv (all (br b))
  |false=>exact λb=>.cons (hf _ (bl b)) (ih (br b))
end
section
variable{w:ArV}{h1:Asb}{os:Atn}
variable{A:Ar4}{σ:St}{W:Wd}{s:ArT}{ee rT:AV}
abbrev Wg(W:Wd)(vi fr:Nat)(ρ1:List Int)(vr vl hh:List ArR):Wd:=
 ⟨ρ1++ [Ar6 vr.length,Ar6 vl.length,Ar6 hh.length],Gn W<|C9 vi fr,W.q,Wy ρ1.length vr vl hh,W.fs,GO W⟩
theorem bS(I:Inv (CW w h1 os) W σ s){vi fr:Nat}{ρ1:List Int}{vr:List ArR}(hρ:ρ1.take 11=W.ρ.take 11)(hl:∀i∈C9 vi fr,i<W.τ.length):Cut W (Wg W vi fr ρ1 vr vl hh) Gj 11 s.heap:=
 ⟨λi p hi hp=>BL (Ex hi) hp,λa x ha hx=>Ab (Asf _ _) (RI hρ ha hx),λa items q=>⟨λ⟨r,hr,e⟩=>q.un ⟨r,DH hl r hr,e⟩,Pt q,q.Af,q.nd⟩⟩
structure Lies(W:Wd)(s:ArT)(i:Nat)(p:Ar0×Ar0)(vs:List ArR):Prop where
 t:W.τ[i]?=some p
 e:p.2=p.1
 l:s.heap.IsList p.1 vs.toArray
 n:GB s.heap p.1
structure RP(w:ArV)(h1:Asb)(os:Atn)(W:Wd)(s:ArT)(tp:AH)(vi fr:Nat)(pc pw pv pk pf:Ar0×Ar0)(vr vl vc Cw:List ArR)(cs ct:ArR)(aB:Ar0)(t ee rT:AV):Prop where
 tc:W.τ[6]?=some pc
 oc:Ob (CW w h1 os) W s.heap pc (.inst 385<|AM tp.AY Aq<|.obj vi)
 wk:Lies W s 15 pw (vr++ [.ref aB])
 hit:IsT W s.heap aB (Aw4 [cs,ct])
 hst:VR (CW w h1 os) W s.heap (.str Bl) cs
 hct:VR (CW w h1 os) W s.heap t ct
 br:vr.length≤5000
 va:Lies W s vi pv vl
 bl:vl.length≤5000
 ce:Lies W s 9 pk (vc++Cw)
 P9:Ae (CW w h1 os) W s.heap tp.Am vc
 bk:Cw.length≤2000
 tf:W.τ[fr]?=some pf
 of:Ob (CW w h1 os) W s.heap pf (.frame [(Nt,.obj 5),(IV,.obj 6),(yS,ee),(IW,rT)])
theorem le5{n m:Nat}(h:n≤m)(h2:m≤5000):inR (some 0,some 5000) (Ar6 n):=B0 (AtG n) (Awi.mpr<|AtH h h2)
section
variable{tp Bq:AH}{e:Int}{σ1:St}{ρ1:List Int}{t1 t:AV}{vi fr:Nat}{pc pw pv pk pf:Ar0×Ar0}{vr vl vc Cw:List ArR}{cs ct:ArR}{aB:Ar0}
theorem RP.By(G:RP w h1 os W s tp vi fr pc pw pv pk pf vr vl vc Cw cs ct aB t ee rT)(O:Jy tp)(n:Nat):(vc.drop n++Cw).length≤2008:=by rw[Ar1,AwQ,G.P9.length,O.len];exact Axa (AxF 8 n) G.bk
theorem bV(O:Jy tp)(F:Facts ρ1 σ1)(G:RP w h1 os W s tp vi fr pc pw pv pk pf vr vl vc Cw cs ct aB t ee rT){a:Nat}{x:Int}{n:Nat}(h:(ρ1++ [Ar6 vr.length,Ar6 vl.length,Ar6 (vc.drop n++Cw).length])[a]?=some x):
  inR (Bx ([(some 0,some 5000),(some 0,some 5000),(some 0,some 5000)]++σ1.rng)<|σ1.k+3-1-a) x:=
 have q:Fp [(some 0,some 5000),(some 0,some 5000),(some 0,some 5000)] [Ar6 vr.length,Ar6 vl.length,Ar6 (vc.drop n++Cw).length]:=.snoc (.snoc (.snoc .nil<|le5 (As0 _) G.br)<|le5 (As0 _) G.bl) (le5 (G.By O n) (by decide))
 Gq F.k F.rng q.1 q.2 h
theorem bU(he:Em tp e)(rel:Rel Bq tp)(I:Inv (CW w h1 os) W σ s)(hρ:ρ1.take 11=W.ρ.take 11)(F:Facts ρ1 σ1)(hc:Eu ρ1 12 t1=some t)(hl:∀i∈C9 vi fr,i<W.τ.length)(DJ:∀p∈tp.objs,σ.obj p.1=some p.2)(sp:σ.obj 0=some (.Ao []))
  (G:RP w h1 os W s tp vi fr pc pw pv pk pf vr vl vc Cw cs ct aB t ee rT){n:Nat}(hn:Bq.Am=tp.Am.take n){i:Nat}{o:AO}(ho:(K6 Bq σ1.k t1).get i=some o):
  ∃p,(Gn W<|C9 vi fr)[i]?=some p∧Ob (CW w h1 os) (Wg W vi fr ρ1 vr vl<|vc.drop n++Cw) s.heap p o:=by
 have O:=he.tp;have K:=bS I (vr:=vr) (vl:=vl) (hh:=vc.drop n++Cw) hρ hl;have sZ:(Gn W<|C9 vi fr)[18]?=some pv:=BL (j:=vi) rfl G.va.t;have AdQ:(Gn W<|C9 vi fr)[19]?=some pf:=BL (j:=fr) rfl G.tf;have low:∀{i p},Gj i=true->W.τ[i]?=some p->(Gn W<|C9 vi fr)[i]?=some p:=λh=>BL (Ex h)
 have kk:=F.k.symm;unfold K6 at ho;rw[rel.n0,rel.call,rel.cells,rel.work,rel.AY,kk] at ho;rcases FH ho with hm |⟨hd,_⟩
 ·rcases Ar3.mp hm with q |hm
  ·obtain⟨rfl,rfl⟩:=Asy q;have oc:=G.oc;rw[O.AY] at oc;have r:KD (λu v=>∀cv,VR (CW w h1 os) W s.heap u cv->VR (CW w h1 os) (Wg W vi fr ρ1 vr vl<|vc.drop n++Cw) s.heap v cv) (AM A3.AY Aq<|.obj vi) (AM A3.AY Aq<|.obj 18):=
    .set (λu b cv=>VR.cut K 12 u cv b) (λcv r=>r.inv (P:=VR (CW w h1 os) (Wg W vi fr ρ1 vr vl<|vc.drop n++Cw) s.heap (.obj 18)) λp e=>uniq e G.va.t▸ .obj sZ) Qn
   exact⟨pc,low rfl G.tc,oc.imp id (Avw λz=>Avw λz=>Avw λz=>Au2 (Au2<|Au0 (λq=>r.len.symm▸q)<|Ej.rel r))⟩
  ·rcases Ar3.mp hm with q |hm
   ·obtain⟨rfl,rfl⟩:=Asy q;refine⟨pk,low rfl G.ce.t,vc.take n,[],G.ce.e,hn▸Ae.take n (Ae.map (VR.cut K _) he.UL G.P9),.nil,?_,?_,G.ce.n⟩
    ·show s.heap.IsList pk.1 (vc.take n++Wy ρ1.length vr vl (vc.drop n++Cw) (ρ1.length+2)++ []).toArray;rw[o8,Ar7,←AsE,As5];exact G.ce.l
    ·show(ρ1++_)[ρ1.length+2]?=some (Ar6 (Wy ρ1.length vr vl (vc.drop n++Cw)<|ρ1.length+2).length);refine o8.symm▸?_;exact Bb rfl
   ·rcases Ar3.mp hm with q |hm
    ·obtain⟨rfl,rfl⟩:=Asy q;refine⟨pw,low rfl G.wk.t,[.ref aB],G.wk.e,.cons (.Af (K.Af _ _ G.hit)<|.cons G.hst.str_inv<|.cons (JW (Asf _ _) K.Af 12 t1 t ct hc G.hct) .nil) .nil,?_,?_,trivial,G.wk.n⟩
     ·show s.heap.IsList pw.1 (Wy ρ1.length vr vl (vc.drop n++Cw) ρ1.length++ [Ati aB]++ []).toArray;rw[o6,Ar7];exact G.wk.l
     ·show(ρ1++_)[ρ1.length]?=some (Ar6 (Wy ρ1.length vr vl (vc.drop n++Cw) ρ1.length).length);refine o6.symm▸?_;exact Bb (i:=0) rfl
    ·rcases Ar3.mp hm with q |hm
     ·obtain⟨rfl,rfl⟩:=Asy q;refine⟨pv,sZ,[],G.va.e,.nil,?_,?_,trivial,G.va.n⟩
      ·show s.heap.IsList pv.1 (Wy ρ1.length vr vl (vc.drop n++Cw) (ρ1.length+1)++ []++ []).toArray;rw[o7,Ar7,Ar7];exact G.va.l
      ·show(ρ1++_)[ρ1.length+1]?=some (Ar6 (Wy ρ1.length vr vl (vc.drop n++Cw)<|ρ1.length+1).length);refine o7.symm▸?_;exact Bb (i:=1) rfl
     ·rcases Ar3.mp hm with q |hm
      ·obtain⟨rfl,rfl⟩:=Asy q;have ob:∀{i},Gj i=true->∀cv,VR (CW w h1 os) W s.heap (.obj i) cv->VR (CW w h1 os) (Wg W vi fr ρ1 vr vl<|vc.drop n++Cw) s.heap (.obj i) cv:=λh cv r=>r.inv (P:=VR (CW w h1 os) (Wg W vi fr ρ1 vr vl<|vc.drop n++Cw) s.heap (.obj _)) λp e=>.obj (low h e)
       unfold Cm;refine rel.run.symm▸?_;refine rel.call.symm▸?_;exact⟨pf,AdQ,G.of.imp id (Avw λm=>Au2 (Ej.rel<|.cons (ob rfl)<|.cons (ob rfl)<|.cons (λz z=>.any)<|.cons (λz z=>.any) .nil))⟩
      ·rcases Ar3.mp hm with q |hm
       ·obtain⟨rfl,rfl⟩:=Asy q;obtain⟨p,hp,hb⟩:=I.obj 0 _ sp;exact⟨p,low rfl hp,Ob.cut K (k:=11) (n:=Gj) rfl hb⟩
       ·have b:=he.objs _ (rel.objs _ hm);obtain⟨p,hp,hb⟩:=I.obj i o (DJ _<|rel.objs _ hm);exact⟨p,low b.ok hp,Ob.cut K b.bd hb⟩
 ·obtain⟨rfl,SJ⟩:=JY hd;exact⟨_,Ar8 (by unfold Gn;rw[AsQ];exact SJ),trivial⟩
theorem bT(he:Em tp e)(rel:Rel Bq tp)(I:Inv (CW w h1 os) W σ s)(hρ:ρ1.take 11=W.ρ.take 11)(F:Facts ρ1 σ1)(hc:Eu ρ1 12 t1=some t)(hl:∀i∈C9 vi fr,i<W.τ.length)(vV:(C9 vi fr).Nodup)(DJ:∀p∈tp.objs,σ.obj p.1=some p.2)(sp:σ.obj 0=some (.Ao []))
  (G:RP w h1 os W s tp vi fr pc pw pv pk pf vr vl vc Cw cs ct aB t ee rT){n:Nat}(hn:Bq.Am=tp.Am.take n):Inv (CW w h1 os) (Wg W vi fr ρ1 vr vl<|vc.drop n++Cw) (MM Bq σ1 t1) s:=
 I.pick (DH hl) (Ja I vV hl) (by show(Gn W<|C9 vi fr).length=Bq.n0+2;rw[rel.n0];exact AsQ ..) (by show(ρ1++_).length=σ1.k+3;rw[Ar1,F.k];rfl) (congrArg (· +3) F.rl) (λa x h=>bV he.tp F G h)
  (λp hp=>(F.neg p hp).imp λz=>Au1 (Ad.Cv<|Asf _ _)) (λp hp=>(F.BM p hp).imp λz=>Au1 (Ad.Cv<|Asf _ _)) I.GO λi o ho=>bU he rel I hρ F hc hl DJ sp G hn ho
end
end
theorem TN{W':Wd}{nw:List (Ar0×Ar0)}{ls:Nat->List ArR}(e:W'.fo=GO W)(hn:∀p∈nw,p∈W'.τ):AJ W' (H3 W W' nw ex q ls) h h:=λa items x=>
 ⟨λo=>o.elim λp o=>(AsA.mp o.1).elim (λm=>x.fo (e▸F0.mpr (.inr ⟨p,m,o.2⟩))) λm=>x.un ⟨p,hn p m,o.2⟩,λm=>x.fo (e▸F0.mpr (.inl m)),x.Af,x.nd⟩
def Oy(tp:AH):Bool:=allR (λi=>bt (isIn i [0,2,3,4,6,9,15]) true (both (AsO 5 i) (isIn i (tp.objs.map (·.1))))) okL
theorem m8:Oy A3=true:=by kernel_rfl
theorem m9:Oy BA=true:=by kernel_rfl
inductive AdL(tp:AH)(i:Nat):Prop
 |Ao (h:i=0)
 |low (h:i∈[2,3,4])
 |told (h:i∈[6,9,15])
 |objs (h:5≤i) (o:AO) (m:(i,o)∈tp.objs)
theorem Em.cover{tp:AH}{e:Int}(h:Em tp e){i:Nat}(hi:Gj i=true):AdL tp i:=
 B9 (AN (h.cases (P:=λtp=>Oy tp=true) m8 m9) i<|DD hi) (λq z=>(Ar3.mp<|DD q).elim .Ao λm=>(AsA (s:=[2,3,4]) (t:=[6,9,15]).mp m).elim .low .told)
  λz q=>(At8.mp<|DD<|br q).elim λp q'=>.objs (Asp<|bl q) p.2 (q'.2▸q'.1)
theorem Qo{k:Nat}(h:bdO n k o=true):Cn o=o:=by
 induction o with
 |iter it=>exact ff h
 |list a l b=>rfl |_=>first |rfl |exact ff h
theorem cS{vi fr i:Nat}(hv:vi=16∨19<vi)(h:i∈C9 vi fr):Gj i=true∨i∈[16,18,19,vi,fr]:=by
 refine(AsA.mp h).elim (λm=>?_) λm=>.inr (.tail _<|.tail _<|.tail _ m)
 have k:∀x,Gj x=true∨x∈[16,18,19]->Gj x=true∨x∈[16,18,19,vi,fr]:=λx=>Or.imp_right λm=>AtL [vi,fr] m
 revert m
 cases ArX vi 16 with
 |true=>exact λm=>k i ((by decide:∀i∈lowG 19,Gj i=true∨i∈[16,18,19]) i m)
 |false=>exact λm=>k i ((by decide:∀i∈lowG 16,Gj i=true∨i∈[16,18,19]) i m)
theorem RQ{α:Type}{f:α->List α->Bool}{l:List α}{P:List α->Prop}(h:LC false f l=true)(k:∀a r,f a r=true->P (a::r)):P l:=by
 induction l with
 |nil=>exact ff h
 |cons a r=>exact k a r h
theorem M6{i:Nat}(h:isObj p x i=true):p=(x,.obj i):=AxY (ArU<|bl h) (AV.Pw (Q:=λv=>v= .obj i) (br h) (λj e=>congrArg AV.obj (ArU e)) λz=>ff)
def bR(tp:AH)(e f:AV):AO:=.frame [(Nt,.obj tp.run),(IV,.obj tp.call),(yS,e),(IW,f)]
theorem IF{tp:AH}(h:isFrame tp o=true):∃e f,o=some (bR tp e f):=
 FR (P:=λo=>∃e f,o=some (bR tp e f)) h (λl h=>RQ (P:=λl=>∃e f,some (AO.frame l)=some (bR tp e f)) h λp l h=>RQ (P:=λl=>∃e f,some (AO.frame (p::l))=some (bR tp e f)) h λq l h=>RQ (P:=λl=>∃e f,some (AO.frame (p::q::l))=some (bR tp e f)) h
  λr l h=>RQ (P:=λl=>∃e f,some (AO.frame (p::q::r::l))=some (bR tp e f)) h λu l h=>⟨r.2,u.2,by
   refine(A6<|bl h).symm▸?_;refine(M6<|bl<|br h).symm▸?_;refine(M6<|bl<|br<|br h).symm▸?_;refine(show r=(yS,r.2) from AxY (ArU<|bl<|br<|br<|br h) rfl).symm▸?_;refine(show u=(IW,u.2) from AxY (ArU<|br<|br<|br<|br h) rfl).symm▸?_;rfl⟩) ff
structure Mi(Bq:AH)(k:Nat)(σ:St):Prop where
 cells:∃m,σ.obj 9=some (.mid Bq.Am (k+2) m)∧m.length≤1
 frame:∃e f,σ.obj 19=some (bR Bq e f)
 DJ:∀p∈(0,.Ao [])::Bq.objs,σ.obj p.1=some p.2
theorem NP{tp:AH}(rel:Rel Bq tp){k:Nat}(h:stays Bq k σ=true):Mi Bq k σ:=
 ⟨f6 (P:=λo=>∃m,o=some (.mid Bq.Am (k+2) m)∧m.length≤1) (rel.cells▸(bl h:GH (σ.obj Bq.cells) (λl p m=>both (ArX p<|k+2) (both (B4 Fd l Bq.Am)<|AsO m.length 1)) false=true)) (λl a m h=>⟨m,by rw[ArU (bl h),CC (λa b q=>CY q)<|bl<|br h],Asp<|br<|br h⟩) ff,
  IF (show isFrame Bq (σ.obj 19)=true from(rel.n0▸bl (br h):isFrame Bq (σ.obj<|18+1)=true)),Hx<|br<|br h⟩
theorem Mi.after{tp:AH}{e:Int}(he:Em tp e)(rel:Rel Bq tp){k:Nat}(t:Mi Bq k σ){j D:Nat}{ld:Option Nat}(hj:20≤j):Mi Bq k (σ.after j D ld):=
 have lt:∀{i},i<20->i≠j:=λh=>AtI (Axu h hj)
 ⟨t.cells.imp λz=>Au1 (St.CQ<|lt (by decide)),t.frame.imp λz=>Avw λz=>St.CQ (lt (by decide)),λp hp=>by
  have e0:=t.DJ p hp;rcases Ar3.mp hp with rfl |hm
  ·exact St.CQ (lt (by decide)) e0
  ·have b:=he.objs _ (rel.objs _ hm);exact(St.CQ (lt<|Axu (pN b.ok) (by decide)) e0).trans<|congrArg some<|Qo b.bd⟩
structure Rd where
 Bq:AH
 vi:Nat
 fr:Nat
 ρ1:List Int
 vr:List ArR
 vl:List ArR
 vc:List ArR
 Cw:List ArR
 n:Nat
 σ1:St
 t1:AV
 σ':St
 W':Wd
 s':ArT
abbrev Rd.wg(D:Rd)(W:Wd):Wd:=Wg W D.vi D.fr D.ρ1 D.vr D.vl (D.vc.drop D.n++D.Cw)
noncomputable def Q2(W:Wd)(v:List ArR)(a:Nat):List ArR:=if a=W.ρ.length then v else W.ls a
abbrev Rd.w2(D:Rd)(W:Wd)(nw:List (Ar0×Ar0))(hw:List ArR):Wd:=H3 W D.W' nw [Ar6 hw.length] W.q (Q2 W hw)
structure Behind(w:ArV)(h1:Asb)(os:Atn)(e:Int)(tp:AH)(σ:St)(W:Wd)(s:ArT)(D:Rd):Prop where
 he:Em tp e
 rel:Rel D.Bq tp
 hn:D.Bq.Am=tp.Am.take D.n
 I:Inv (CW w h1 os) W σ s
 X:Ext (MM D.Bq D.σ1 D.t1) (D.wg W) s D.σ' D.W' D.s'
 I':Inv (CW w h1 os) D.W' D.σ' D.s'
 hv:D.vi=16∨19<D.vi
 hl:∀i∈C9 D.vi D.fr,i<W.τ.length
 hρ:D.ρ1.take 11=W.ρ.take 11
 l11:11≤W.ρ.length
 k1:D.ρ1.length=D.σ1.k
 DJ:∀p∈tp.objs,σ.obj p.1=some p.2
 sp:σ.obj 0=some (.Ao [])
 st:Mi D.Bq D.σ1.k D.σ'
structure GA(D:Rd)(W:Wd)(nw:List (Ar0×Ar0)):Prop where
 mem:∀p∈nw,p∈D.W'.τ∧p∉W.τ
 nd:nw.Nodup
section
variable{w:ArV}{h1:Asb}{os:Atn}{e:Int}{tp:AH}{σ:St}{W:Wd}{s:ArT}{D:Rd}
theorem Behind.sub(B:Behind w h1 os e tp σ W s D):Sub (CW w h1 os) σ W (D.wg W) s (MM D.Bq D.σ1 D.t1) D.σ' D.W' D.s':=⟨B.I,B.X,B.I',DH B.hl,rfl⟩
theorem Behind.at_(B:Behind w h1 os e tp σ W s D){i j:Nat}(h:(C9 D.vi D.fr)[i]?=some j)(hp:W.τ[j]?=some p):D.W'.τ[i]?=some p:=Ab B.X.τ (BL h hp)
theorem Behind.low(B:Behind w h1 os e tp σ W s D){i:Nat}(h:Gj i=true)(hp:W.τ[i]?=some p):D.W'.τ[i]?=some p:=B.at_ (Ex h) hp
theorem Behind.has(B:Behind w h1 os e tp σ W s D){i:Nat}(h:Gj i=true):∃p,W.τ[i]?=some p:=⟨_,Ar8<|B.hl i<|Atq<|Ex h⟩
theorem Behind.cut(B:Behind w h1 os e tp σ W s D)(N:GA D W nw)(hw:List ArR):Cut D.W' (D.w2 W nw hw) Gj 11 D.s'.heap where
 τ:=λi p hi hp=>(B.has hi).elim λr hr=>Ab (Asf _ _) (uniq hp (B.low hi hr)▸hr)
 ρ:=λa x ha hx=>
  have q:∃y,W.ρ[a]?=some y:=⟨_,Ar8<|Axu ha B.l11⟩
  q.elim λy hy=>Ab (Asf _ _) (uniq hx (Ab B.X.ρ<|Ab (Asf _ _)<|RI B.hρ ha hy)▸hy)
 Af:=TN B.X.fo λp h=>(N.mem p h).1
theorem Behind.AS(B:Behind w h1 os e tp σ W s D)(N:GA D W nw)(hw:List ArR):Cr W (D.w2 W nw hw) s.heap D.s'.heap:=B.sub.AS N.mem (λz z=>rfl) λa ha=>if_neg (AtI ha)
theorem Behind.Aft(B:Behind w h1 os e tp σ W s D){j:Nat}(hj:20≤j)(hp:D.W'.τ[j]?=some p):p∉W.τ:=λm=>
 (B.X.fresh p<|get_mem hp).elim (λq=>(Dh q).elim λi hi=>(B.I'.apart j i p p hp (Ab B.X.τ hi) λe=>
  Nat.not_lt_of_le hj (e▸Axt (Ar2.mp hi).1 (AsQ ..))).1 rfl) λq=>(B.I.live p m).1.elim λo r=>sn r.1 q.1
theorem Behind.new(B:Behind w h1 os e tp σ W s D){j:Nat}(hj:20≤j)(hp:D.W'.τ[j]?=some p):p∈D.W'.τ∧p∉W.τ:=⟨get_mem hp,B.Aft hj hp⟩
theorem Behind.off(B:Behind w h1 os e tp σ W s D){i:Nat}(hp:W.τ[i]?=some p)(h:Gj i=false)(hn:i∉[16,18,19,D.vi,D.fr]):p∉(D.wg W).τ:=λm=>by
 obtain⟨j,hj,ej⟩:=At8.mp m;rw[Ar8 (B.hl j hj)] at ej;obtain rfl:j=i:=Decidable.byContradiction λne=>(B.I.apart j i p p ((Ar8<|B.hl j hj).trans<|congrArg some ej) hp ne).1 rfl
 exact(cS B.hv hj).elim (λq=>AsJ (h.symm.trans q)) hn
theorem Behind.exact(B:Behind w h1 os e tp σ W s D){i:Nat}(h:i∈[2,3,4])(v:D.σ'.A8=0)(hp:W.τ[i]?=some p):D.s'.heap.get? p.1=s.heap.get? p.1∧D.s'.heap.get? p.2=s.heap.get? p.2:=
 have q:=(by decide:∀i∈[2,3,4],Gj i=true∧i<5) i h;have hin:∀a,a=p.1∨a=p.2->own ((D.wg W).τ.take 5) a:=λa ha=>⟨p,Atq<|Aut.trans<|(if_pos q.2).trans<|BL (Ex q.1) hp,ha⟩
 ⟨(B.I.live p<|get_mem hp).1.elim λo r=>(B.X.exact v p.1 o r.1<|.inr<|hin _<|.inl rfl).trans r.1.symm,(B.I.live p<|get_mem hp).2.elim λo r=>(B.X.exact v p.2 o r.1<|.inr<|hin _<|.inr rfl).trans r.1.symm⟩
theorem Behind.rest(B:Behind w h1 os e tp σ W s D)(N:GA D W nw)(hw:List ArR){i:Nat}(ho:σ.objs.kill.get i=some o)(low:i∈[2,3,4]->D.σ'.A8=0)(n1:i∉[6,9,15])(n2:i∉[16,18,19,D.vi,D.fr]):
  (∃o0 p,σ.obj i=some o0∧o=Cn o0∧W.τ[i]?=some p∧p∉(D.wg W).τ)∨∃p,(W.τ++nw)[i]?=some p∧Ob (CW w h1 os) (D.w2 W nw hw) D.s'.heap p o:=by
 obtain⟨o0,h0,rfl⟩:=PA.Iz _ _ _ ho;obtain⟨p,hp,hb⟩:=B.I.obj i o0 h0;have up:=Ab (Asf W.τ nw) hp;cases hi:Gj i with
 |false=>exact .inl ⟨o0,p,h0,rfl,hp,B.off hp hi n2⟩
 |true=>
  refine .inr ⟨p,up,?_⟩;cases B.he.cover hi with
  |Ao z=>subst z;exact uniq (B.sp:σ.objs.get 0=_) h0▸Ob.cut (n:=Gj) (k:=11) (B.cut N hw) rfl (B.I'.at (B.low hi hp) (B.st.DJ _ (.head _)))
  |low z=>exact have q:=B.exact z (low z) hp;(hb.AS (B.AS N hw) q.1 q.2).kill
  |told z=>exact absurd z n1
  |objs h5 ot m=>have b:=(B.he.objs _ m).bd;obtain rfl:ot=o0:=uniq h0 (B.DJ _ m);exact(Qo b).symm▸Ob.cut (B.cut N hw) b (B.I'.at (B.low hi hp) (B.st.DJ _ (.tail _ (B.rel.all _ m h5))))
theorem Behind.fin(B:Behind w h1 os e tp σ W s D){nw:List (Ar0×Ar0)}(N:GA D W nw){hw:List ArR}{By:Int}(hh:(hw.length:Int)≤By+1){l:List (Nat×AO)}{m r:List Nat}(cov:l.map (·.1)= [18,19,16,D.vi]++m++ [D.fr,6,15,9]++r)(hm:D.σ'.A8=0∨m= [2,3,4])
  (ob:∀p∈l,∃a,(W.τ++nw)[p.1]?=some a∧Ob (CW w h1 os) (D.w2 W nw hw) D.s'.heap a p.2):
  Inv (CW w h1 os) (D.w2 W nw hw) (σ.more (C4 l σ.objs.kill) nw.length (some 0,some<|By+1)) D.s'∧Ext σ W s (σ.more (C4 l σ.objs.kill) nw.length (some 0,some<|By+1)) (D.w2 W nw hw) D.s':=
 B.sub.back ⟨N.mem,N.nd,λzz zz=>rfl,λa ha=>if_neg (AtI ha),rfl,rfl,⟨[(some 0,some<|By+1)],rfl,rfl,(Fp.snoc .nil<|B0 (AtG _) hh).2⟩,rfl,rfl,rfl,rfl,λi o ho=>(FH (t:=σ.objs.kill) ho).elim (λq=>.inr (ob _ q)) λq=>by
  have n:i∉[18,19,16,D.vi]++m++ [D.fr,6,15,9]++r:=λh=>(At8.mp<|cov▸h).elim λp z=>q.2 p z.1 z.2
  have n1:i∉[18,19,16,D.vi]:=λh=>n (AtL _<|AtL _<|AtL _ h)
  have n2:i∉[D.fr,6,15,9]:=λh=>n (AtL _<|AtC _ h)
  refine B.rest N hw q.1 (λh=>hm.elim id λe=>absurd (AtL _<|AtL _<|AtC _<|e▸h) n) (λh=>?_) λh=>?_
  ·exact n2 (((by decide:∀i∈[6,9,15],i∈[6,15,9]) i h).tail _)
  ·rcases Ar3.mp h with rfl |h
   ·exact n1 (.tail _<|.tail _<|.head _)
   rcases Ar3.mp h with rfl |h
   ·exact n1 (.head _)
   rcases Ar3.mp h with rfl |h
   ·exact n1 (.tail _<|.head _)
   rcases Ar3.mp h with rfl |h
   ·exact n1 (.tail _<|.tail _<|.tail _<|.head _)
   ·exact n2<|Ash.mp h▸ .head _⟩
end
theorem RZ{α:Type}{f:α->Bool}{l:List α}:∀{n:Nat},allR f l=true->allR f (l.take n)=true:=by
 induction l with
 |nil=>exact λ{n} _=>(List.take_nil (i:=n)).symm▸rfl
 |cons a l ih=>exact λ{n} h=>Nat.casesOn (motive:=λn=>allR f ((a::l).take n)=true) n rfl λn=>Cf.mpr ⟨bl h,ih (br h)⟩
theorem Y9{l:List (Nm×AV)}(h:AW l x=some v):AM l x v=l:=by
 induction l with
 |nil=>exact ns h
 |cons p l ih=>
  show bt (ArX x p.1) ((p.1,v)::l) (p::AM l x v)=p::l
  revert h
  show bt (ArX x p.1) (some p.2) (AW l x)=some v->_;cases ArX x p.1 with
  |true=>exact λh=>congrArg (· ::l) (AxY rfl (Ase h).symm)
  |false=>exact λh=>congrArg (p:: ·) (ih h)
theorem Jg{l:List (Nm×AV)}:AM (AM l x u) x v=AM l x v:=by
 induction l with
 |nil=>show bt (ArX x x) [(x,v)] ((x,u):: [(x,v)])= [(x,v)];refine(Auq x).symm▸?_;rfl
 |cons p l ih=>
  show AM (bt (ArX x p.1) ((p.1,u)::l) (p::AM l x u)) x v=bt (ArX x p.1) ((p.1,v)::l) (p::AM l x v);cases e:ArX x p.1 with
  |true=>show bt (ArX x p.1) ((p.1,v)::l) _=_;refine e.symm▸?_;rfl
  |false=>show bt (ArX x p.1) _ (p::AM (AM l x u) x v)=_;refine e.symm▸?_;exact congrArg (p:: ·) ih
section
variable{w:ArV}{h1:Asb}{os:Atn}{e:Int}{tp:AH}{σ:St}{W:Wd}{s:ArT}{D:Rd}{nw:List (Ar0×Ar0)}
theorem Eo.of1{C:Cx}{p:Ar0×Ar0}{l:List AV}(ep:p.2=p.1)(v:Ae C W h l vs)(il:h.IsList p.1 vs.toArray)(nd:GB h p.1):Eo C W h p none l none vs:=⟨ep,v,Eq.mpr (congrArg (λl=>h.IsList p.1 (Aw4 l))<|Ar7 vs) il,trivial,trivial,nd⟩
theorem IQ:Q2 W v W.ρ.length=v:=if_pos rfl
theorem Behind.ls(B:Behind w h1 os e tp σ W s D){i:Nat}(hi:i<3):D.W'.ls (D.σ1.k+i)=Wy D.ρ1.length D.vr D.vl (D.vc.drop D.n++D.Cw) (D.ρ1.length+i):=
 (congrArg (λk=>D.W'.ls (k+i)) B.k1.symm).trans (B.X.ls (D.ρ1.length+i)<|Axt (Axc hi _) (Ar1 (bs:=[_,_,_])).symm)
theorem Behind.up(B:Behind w h1 os e tp σ W s D)(N:GA D W nw)(hw:List ArR){l:List AV}(h:Ae (CW w h1 os) W s.heap l vs):Ae (CW w h1 os) (D.w2 W nw hw) D.s'.heap l vs:=h.keep (B.AS N hw).ρ (B.AS N hw).τ (B.AS N hw).q (B.AS N hw).Af
theorem old{i:Nat}(h:W.τ[i]?=some p):(W.τ++nw)[i]?=some p:=Ab (Asf _ _) h
def Told(w:ArV)(h1:Asb)(os:Atn)(W:Wd)(D:Rd)(nw:List (Ar0×Ar0))(hw:List ArR)(p:Nat×AO):Prop:=∃a,(W.τ++nw)[p.1]?=some a∧Ob (CW w h1 os) (D.w2 W nw hw) D.s'.heap a p.2
theorem Behind.frame(B:Behind w h1 os e tp σ W s D)(N:GA D W nw)(hw:List ArR):Told w h1 os W D nw hw (D.fr,Cm tp):=by obtain⟨e',f',o⟩:=B.st.frame;obtain⟨p,hp⟩:∃p,W.τ[D.fr]?=some p:=⟨_,Ar8<|B.hl _<|Atq (i:=19) rfl⟩;unfold bR at o;rw[B.rel.run,B.rel.call] at o;unfold Cm;rw[B.he.tp.run,B.he.tp.call];exact⟨p,old hp,(B.I'.at (B.at_ (i:=19) rfl hp) o).imp id (Avw λm=>Au2 (Ej.rel<|.cons (λcv=>VR.cut (B.cut N hw) 12 (.obj 5) cv rfl)<|.cons (λcv=>VR.cut (B.cut N hw) 12 (.obj 6) cv rfl)<|.cons (λz z=>.any)<|.cons (λz z=>.any) .nil))⟩
theorem Behind.cells(B:Behind w h1 os e tp σ W s D)(P9:Ae (CW w h1 os) W s.heap tp.Am D.vc):∃ws:List ArR,ws.length≤1∧∀nw,GA D W nw->Told w h1 os W D nw (D.Cw++ws) (9,.mid tp.Am σ.k []):=by
 obtain⟨m,o,hm⟩:=B.st.cells;obtain⟨p,hp⟩:=B.has (i:=9) rfl;obtain⟨vs,ws,b⟩:=B.I'.at (B.low rfl hp) o;refine⟨ws,b.w.length▸hm,λnw N=>⟨p,old hp,?_⟩⟩;have c:tp.Am.take D.n++tp.Am.drop D.n=tp.Am:=As5 ..;have q:allR (Ur Gj 11) D.Bq.Am=true:=B.hn▸RZ B.he.UL;have v:Ae (CW w h1 os) (D.w2 W nw<|D.Cw++ws) D.s'.heap tp.Am (vs++D.vc.drop D.n):=c▸B.hn▸(Ae.map (VR.cut (B.cut N _) _) q b.v).app (B.up N _<|Ae.drop D.n P9);have il:=b.il;rw[B.ls (by decide),o8] at il;refine B.I.kρ▸?_;refine⟨vs++D.vc.drop D.n,[],b.ep,v,.nil,?_,?_,b.nd⟩
 ·show D.s'.heap.IsList p.1 (vs++D.vc.drop D.n++Q2 W (D.Cw++ws) W.ρ.length++ []).toArray;rw[IQ,Ar7,AsE,←AsE (D.vc.drop D.n),←AsE vs];exact il
 ·show(W.ρ++_)[W.ρ.length]?=some (Ar6 (Q2 W (D.Cw++ws) W.ρ.length).length);refine IQ.symm▸?_;exact Bb (i:=0) rfl
theorem Behind.work(B:Behind w h1 os e tp σ W s D)(N:GA D W nw)(hw:List ArR){l:List AV}(v:Ae (CW w h1 os) W s.heap l D.vr)(h:Jm D.Bq D.σ1.k D.σ'=true):Told w h1 os W D nw hw (15,.list none l none):=by obtain⟨p,hp⟩:=B.has (i:=15) rfl;unfold Jm at h;rw[B.rel.work] at h;refine B.I'.Fc (B.low rfl hp) h (λa m vs h z b=>?_) ff;obtain rfl:=A6 (bl h);obtain rfl:a=D.σ1.k:=ArU (br h);have il:=((B.ls (i:=0) (by decide)).trans o6:D.W'.ls D.σ1.k=D.vr)▸b.pre;exact⟨p,old hp,D.vr,.of1 b.ep (B.up N hw v) (b.v.inv (P:=λvs=>D.s'.heap.IsList p.1 (Aw4<|D.vr++vs)->D.s'.heap.IsList p.1 (Aw4 D.vr)) (λil=>Ar7 D.vr▸il) il) b.nd⟩
theorem Told.dead{i:Nat}(hp:∃p,W.τ[i]?=some p):Told w h1 os W D nw hw (i,.dead):=hp.imp λz q=>⟨old q,trivial⟩
end
theorem fc{α:Type}{P:α->Prop}{a:α}{l:List α}(h1:P a)(h2:∀n∈l,P n):∀n∈a::l,P n:=AwJ.mpr ⟨h1,h2⟩
theorem fz{α:Type}{P:α->Prop}:∀n∈([]:List α),P n:=λz h=>absurd h AwY
inductive KU(k:Nat)(σ':St)(o:AV):Prop
 |mk (l:Ad) (ho:o= .int l) (a:List (Nm×AV)) (v:Nat) (xl:Ad) (call:σ'.obj 6=some (.inst 385 a)) (e:AM a Aq .any=AM A3.AY Aq .any) (g:AW a Aq=some (.obj v)) (hv:20≤v) (vals:σ'.obj v=some (.list (some (k+1)) [.int xl] none)) (A8:σ'.A8=0) (z:isZero (xl.sub l) σ' (λc zz=>c)=true)
theorem wQ{tp:AH}(rel:Rel Bq tp){k:Nat}(h:kU Bq o k () σ'=true):KU k σ' o∧Mi Bq k σ':=by
 unfold kU at h;rw[rel.call,rel.AY] at h;refine AV.FC (Q:=λo=>KU k σ' o∧Mi Bq k σ') h (λl h=>?_) λz=>ff
 refine Uy (P:=λo=>σ'.obj 6=o->KU k σ' (.int l)∧Mi Bq k σ') h (λC a h e1=>?_) (λh z=>ff h) rfl;obtain rfl:C=385:=ArU (bl h);have e:=CC (λa b q=>KY q) (bl<|br h);refine Cp (br<|br h) λw gw h=>AV.Pw (Q:=λw=>AW a Aq=some w->KU k σ' (.int l)∧Mi Bq k σ') h (λv h gw=>?_) (λz h z=>ff h) gw
 unfold kUv at h;rw[rel.n0] at h;refine f7 (P:=λo=>σ'.obj v=o->KU k σ' (.int l)∧Mi Bq k σ') (br h) (λp l' h' e3=>?_) (λh z=>ff h) rfl;refine RQ (P:=λl'=>σ'.obj v=some (.list (some p) l' none)->KU k σ' (.int l)∧Mi Bq k σ') h' (λx r h' e3=>?_) e3;obtain rfl:=A6 (bl h');refine AV.FC (Q:=λx=>σ'.obj v=some (.list (some p) [x] none)->KU k σ' (.int l)∧Mi Bq k σ') (br h') (λx h' e3=>?_) (λz h z=>ff h) e3;obtain rfl:p=k+1:=ArU (bl h');exact⟨.mk l rfl a v x e1 e gw (Asp<|bl h) e3 (ArU<|bl<|bl<|br h') (br<|br h'),NP rel<|br<|bl<|br h'⟩
def Lv(v:AV):List (Nm×AV):=[(Q6,.str Ce),(Lq,.int ⟨0,[]⟩),(Bl,.Af [.str BC,Me,v])]
theorem qL{v:AV}{n:Nm}(h:v.cStr (λb=>ArX b n) false=true):v= .str n:=AV.Hb (Q:=λv=>v= .str n) h (λb e=>congrArg AV.str (ArU e)) λz=>ff
theorem AfF{v:AV}(h:v.AU (LC false λg=>LC false λu=>LC false λx m=>both (Bv m) (both (g.cStr (λg=>ArX g BC) false)<|both (Fd u Me)<|x.CS kx false)) false=true):∃x,v= .Af [.str BC,Me,.BG x]∧kx x=true:=
 AV.tupI (Q:=λv=>∃x,v= .Af [.str BC,Me,.BG x]∧kx x=true) h (λl h=>RQ (P:=λl=>∃x,AV.Af l= .Af [.str BC,Me,.BG x]∧kx x=true) h λg l h=>RQ (P:=λl=>∃x,AV.Af (g::l)= .Af [.str BC,Me,.BG x]∧kx x=true) h
  λu l h=>RQ (P:=λl=>∃x,AV.Af (g::u::l)= .Af [.str BC,Me,.BG x]∧kx x=true) h λx l h=>by
   refine(A6<|bl h).symm▸?_;refine(qL<|bl<|br h).symm▸?_;refine(show u=Me from CY (bl<|br<|br h)).symm▸?_;exact AV.Sh (Q:=λx=>∃x',AV.Af [.str BC,Me,x]= .Af [.str BC,Me,.BG x']∧kx x'=true) (br<|br<|br h) (λb h=>⟨b,rfl,h⟩) λz=>ff) λz=>ff
theorem dZ{l:List (Nm×AV)}(h:y4 kx l=true):∃x,l=Lv (.BG x)∧kx x=true:=
 RQ (P:=λl=>∃x,l=Lv (.BG x)∧kx x=true) h λp l h=>RQ (P:=λl=>∃x,p::l=Lv (.BG x)∧kx x=true) h λq l h=>RQ (P:=λl=>∃x,p::q::l=Lv (.BG x)∧kx x=true) h λr l h=>by
  obtain⟨x,e,hx⟩:=AfF (br<|br<|br<|br h);exact⟨x,by
   rw[A6 (bl h),show p=(Q6,.str Ce) from AxY (ArU<|bl<|bl<|br h) (qL<|br<|bl<|br h),show r=(Bl,_) from AxY (ArU<|bl<|br<|br<|br h) e,
    show q=(Lq,.int ⟨0,[]⟩) from AxY (ArU<|bl<|bl<|br<|br h) (AV.FC (Q:=λv=>v= .int ⟨0,[]⟩) (br<|bl<|br<|br h) (λz e=>congrArg AV.int (Ad.eq_iff e)) λzz=>ff)]
   rfl,hx⟩
inductive KE(j:Nat)(σ':St)(o:AV):Prop
 |mk (n:Nat) (ho:o= .str n) (d:Nat) (x:List UInt8) (old:σ'.obj j=some (.old 114 (some d))) (hj:20≤j) (hd:20≤d) (ne:d≠j) (ed:σ'.obj d=some (.ed (Lv (.BG x)))) (tx:BE[n]?=some (.BG x))
theorem oO{tp:AH}(rel:Rel Bq tp){k j:Nat}(h:keU Bq o k (.obj j) σ'=true):KE j σ' o∧Mi Bq k σ':=
 AV.Hb (Q:=λo=>KE j σ' o∧Mi Bq k σ') h (λn h=>by
  refine UA (P:=λo=>σ'.obj j=o->KE j σ' (.str n)∧Mi Bq k σ') (show Jz (σ'.obj j) (λC dd=>both (ArX C 114) (oS dd λd=>oP Bq n k j d σ')) false=true from h) (λC dd h e1=>?_) (λh z=>ff h) rfl;obtain rfl:C=114:=ArU (bl h);refine Cp (br h) λd ed h2=>?_
  subst ed;unfold oP at h2;rw[rel.n0] at h2;have lo:=bl h2;refine tK (P:=λo=>σ'.obj d=o->KE j σ' (.str n)∧Mi Bq k σ') (bl<|br h2) (λl h' e2=>?_) (λh z=>ff h) rfl;obtain⟨x,rfl,hx⟩:=dZ h';exact Cp (show oS (LU x) (λi=>ArX i n)=true from hx) λi hi q=>⟨.mk n rfl d x e1 (Asp<|bl lo) (Asp<|bl<|br lo) (λe=>AxB (Ht<|br<|br lo) e.symm) e2 (ArU q▸(NX hi).2),NP rel<|br<|br h2⟩) λz=>ff
section
variable{w:ArV}{h1:Asb}{os:Atn}{e:Int}{tp:AH}{σ:St}{W:Wd}{s:ArT}{D:Rd}{nw:List (Ar0×Ar0)}
theorem Behind.call(B:Behind w h1 os e tp σ W s D)(N:GA D W nw)(hw:List ArR){a:List (Nm×AV)}{v j:Nat}(c:D.σ'.obj 6=some (.inst 385 a))(ea:AM a Aq .any=AM A3.AY Aq .any)(g:AW a Aq=some (.obj v))(tn:D.W'.τ[v]?=some p)(tj:(W.τ++nw)[j]?=some p):
  Told w h1 os W D nw hw (6,.inst 385<|AM tp.AY Aq<|.obj j):=by
 obtain⟨pc,hc⟩:=B.has (i:=6) rfl;have oc:=B.I'.at (B.low rfl hc) c;rw[show a=AM A3.AY Aq (.obj v) from(Y9 g).symm.trans (Jg.symm.trans<|(congrArg (λl=>AM l Aq (.obj v)) ea).trans Jg)] at oc;refine B.he.tp.AY.symm▸?_;have r:KD (λu v=>∀cv,VR (CW w h1 os) D.W' D.s'.heap u cv->VR (CW w h1 os) (D.w2 W nw hw) D.s'.heap v cv) (AM A3.AY Aq<|.obj v) (AM A3.AY Aq<|.obj j):=
  .set (λu b cv=>VR.cut (B.cut N hw) 12 u cv b) (λcv r=>r.inv (P:=VR (CW w h1 os) (D.w2 W nw hw) D.s'.heap (.obj j)) λp e=>uniq e tn▸ .obj tj) Qn
 exact⟨pc,old hc,oc.imp id (Avw λz=>Avw λz=>Avw λz=>Au2 (Au2<|Au0 (λq=>r.len.symm▸q)<|Ej.rel r))⟩
theorem Behind.vals(B:Behind w h1 os e tp σ W s D)(N:GA D W nw)(hw:List ArR){v j:Nat}{p:Ar0×Ar0}{xl l:Ad}{x:Int}{q:Nat}{lv:List AV}(c:D.σ'.obj v=some (.list (some<|D.σ1.k+1) [.int xl] none))(tn:D.W'.τ[v]?=some p)(tj:(W.τ++nw)[j]?=some p)(rU:Ae (CW w h1 os) W s.heap lv D.vl)
  (z:isZero (xl.sub l) D.σ' (λc zz=>c)=true)(hl:l.ev D.ρ1=some x)(hq:W.ρ[q+2]?=some x):Told w h1 os W D nw hw (j,.list none (lv++ [.int (.at (q+2))]) none):=by
 obtain⟨vs,b⟩:=B.I'.at tn c;have il:=((B.ls (i:=1) (by decide)).trans o7:D.W'.ls (D.σ1.k+1)=D.vl)▸b.pre;refine Ae.one (P:=λvs=>D.s'.heap.IsList p.1 (Aw4<|D.vl++vs)->Told w h1 os W D nw hw (j,.list none (lv++ [.int (.at (q+2))]) none)) b.v (λcv r il=>?_) il;refine r.inv (P:=λcv=>D.s'.heap.IsList p.1 (Aw4<|D.vl++ [cv])->Told w h1 os W D nw hw (j,.list none (lv++ [.int (.at (q+2))]) none)) (λi t hi il=>?_) il;obtain rfl:i=x:=(ER B.I' (Ad.Dv hi<|Ad.Cv B.X.ρ<|Ad.Cv (Asf _ _) hl) z).elim λzz q=>Awm.mp (of_decide_eq_true q.2)
 exact⟨p,tj,_,.of1 b.ep ((B.up N hw rU).app<|.cons (.int<|MI<|Ab (B.AS N hw).ρ hq) .nil) il b.nd⟩
theorem VJ{a b:List ArR}{By:Int}(h:(a.length:Int)≤By)(h2:b.length≤1):((a++b).length:Int)≤By+1:=by rw[Ar1];lia
theorem VP(O:Jy tp){q vi fr:Nat}{rest:List AV}{By:Int}:MY tp q vi fr rest lv By σ=σ.more (C4 [(18,.dead),(19,.dead),(16,.dead),(vi,.dead),(fr,Cm tp),(6,.inst 385<|AM tp.AY Aq<|.obj σ.n),(15,.list none rest.reverse none),(9,.mid tp.Am σ.k []),(σ.n,.list none (lv++ [.int (.at (q+2))]) none)] σ.objs.kill) 1 (some 0,some<|By+1):=by unfold MY;rw[O.n0,O.vals,O.call,O.work,O.cells]
theorem VO(O:Jy tp){q vi fr:Nat}{By:Int}:J7 tp q vi fr By σ=σ.more (C4 [(18,.dead),(19,.dead),(16,.dead),(vi,.dead),(2,.dead),(3,.dead),(4,.dead),(fr,Cm tp),(6,.dead),(15,.dead),(9,.mid tp.Am σ.k []),(σ.n,.ed<|Lv<|.sel (q+3) BE),(σ.n+1,.old 114<|some σ.n)] σ.objs.kill) 2 (some 0,some<|By+1):=by unfold J7;refine O.n0.symm▸?_;refine O.vals.symm▸?_;refine O.call.symm▸?_;refine O.work.symm▸?_;refine O.cells.symm▸?_;rfl
theorem Behind.gone(B:Behind w h1 os e tp σ W s D)(ZX:19<σ.n){r:List (Nat×AO)}(h:∀p∈r,Told w h1 os W D nw hw p):∀p∈(18,AO.dead)::(19,.dead)::(16,.dead)::(D.vi,.dead)::r,Told w h1 os W D nw hw p:=
 have pl:∀{i},i<20->∃p,W.τ[i]?=some p:=λhi=>⟨_,Ar8<|B.I.nτ.symm▸Axu hi ZX⟩
 fc (.dead<|pl (by decide)) (fc (.dead<|pl (by decide))<|fc (.dead<|pl (by decide))<|fc (.dead ⟨_,Ar8<|B.hl _<|Atq (i:=18) rfl⟩) h)
theorem bG(B:Behind w h1 os e tp σ W s D)(ZX:19<σ.n){l:Ad}(u:KU D.σ1.k D.σ' (.int l))(hS:Jm D.Bq D.σ1.k D.σ'=true){q:Nat}{x:Int}(hq:W.ρ[q+2]?=some x)(hl:l.ev D.ρ1=some x){rest lv:List AV}{By:Int}
  (jC:Ae (CW w h1 os) W s.heap rest.reverse D.vr)(rU:Ae (CW w h1 os) W s.heap lv D.vl)(P9:Ae (CW w h1 os) W s.heap tp.Am D.vc)(hh:(D.Cw.length:Int)≤By):
  ∃W2,Inv (CW w h1 os) W2 (MY tp q D.vi D.fr rest lv By σ) D.s'∧Ext σ W s (MY tp q D.vi D.fr rest lv By σ) W2 D.s':=by
 obtain⟨l',ho,a,v,xl,c,e,g,hv,vals,A8,z⟩:=u;obtain rfl:=AV.int.inj ho;obtain⟨ws,hws,Sk⟩:=B.cells P9;obtain⟨pn,tn,_⟩:=B.I'.obj v _ vals;have N:GA D W [pn]:=⟨fc (B.new hv tn) fz,Atl.mpr ⟨AwY,AtM⟩⟩;have tj:(W.τ++ [pn])[σ.n]?=some pn:=(Bb (i:=0) B.I.nτ).trans rfl;refine(VP B.he.tp).symm▸?_;exact⟨_,B.fin N (VJ hh hws) (m:=[]) (r:=[σ.n]) rfl (.inl A8) (B.gone ZX<|fc (B.frame N _)<|fc (B.call N _ c e g tn tj)<|fc (B.work N _ jC hS)<|fc (Sk _ N)<|fc (B.vals N _ vals tn tj rU z hl hq) fz)⟩
theorem Behind.pan(B:Behind w h1 os e tp σ W s D)(N:GA D W nw)(hw:List ArR){d j n q:Nat}{p:Ar0×Ar0}{x:List UInt8}(ed:D.σ'.obj d=some (.ed<|Lv<|.BG x))(tx:BE[n]?=some (.BG x))(hq:W.ρ[q+3]?=some (Ar6 n))(td:D.W'.τ[d]?=some p)(tj:(W.τ++nw)[j]?=some p):
  Told w h1 os W D nw hw (j,.ed<|Lv<|.sel (q+3) BE):=by
 have K:=B.cut N hw;have ht:∀cv,VR (CW w h1 os) D.W' D.s'.heap (.Af [.str BC,Me,.BG x]) cv->VR (CW w h1 os) (D.w2 W nw hw) D.s'.heap (.Af [.str BC,Me,.sel (q+3) BE]) cv:=λcv r=>
  r.inv (P:=VR (CW w h1 os) (D.w2 W nw hw) D.s'.heap (.Af [.str BC,Me,.sel (q+3) BE])) λvs a ia r=>.Af (K.Af _ _ ia) (r.inv (P:=λvs=>Ae (CW w h1 os) (D.w2 W nw hw) D.s'.heap [.str BC,Me,.sel (q+3) BE] vs)
   λc1 z r1 r=>.cons (VR.cut K 12 (.str BC) _ rfl r1) (Ae.two (P:=λvs=>Ae (CW w h1 os) (D.w2 W nw hw) D.s'.heap [Me,.sel (q+3) BE] vs) r λc2 c3 r2 r3=>.cons (VR.cut K 12 Me _ rfl r2) (.cons (.sel (Ab (B.AS N hw).ρ hq) tx<|VR.cut K 12 (.BG x) _ rfl r3) .nil)))
 exact⟨p,tj,(B.I'.at td ed).imp id (Avw λz=>Avw λz=>Avw λz=>Au2 (Au2<|Au2<|Ej.rel<|.cons (λcv=>VR.cut K 12 (.str Ce) cv rfl)<|.cons (λcv=>VR.cut K 12 (.int ⟨0,[]⟩) cv rfl)<|.cons ht .nil))⟩
theorem Behind.exc(B:Behind w h1 os e tp σ W s D){d d2 j j2 C:Nat}(o:D.σ'.obj j=some (.old C<|some d))(td:D.W'.τ[d]?=some q)(td2:(W.τ++nw)[d2]?=some q)(tj:D.W'.τ[j]?=some p)(tj2:(W.τ++nw)[j2]?=some p):Told w h1 os W D nw hw (j2,.old C<|some d2):=
 ⟨p,tj2,(B.I'.at tj o).imp id<|Au2 (Avw λdd=>Avw λzz=>Avw λzz=>Au1 λr=>r.elim λq' z=>⟨q,td2,uniq z.1 td▸z.2⟩)⟩
theorem bF(B:Behind w h1 os e tp σ W s D)(ZX:19<σ.n){j C n q:Nat}{ld:Option Nat}{σp:St}(hs:D.σ'=σp.after j C ld)(u:KE j σp (.str n))(hj:σp.obj j=some (.old C ld))(hq:W.ρ[q+3]?=some (Ar6 n)){By:Int}(P9:Ae (CW w h1 os) W s.heap tp.Am D.vc)(hh:(D.Cw.length:Int)≤By)
  {pj:Ar0×Ar0}(tj:D.W'.τ[j]?=some pj):∃W2,W2.τ[σ.n+1]?=some pj∧Inv (CW w h1 os) W2 (J7 tp q D.vi D.fr By σ) D.s'∧Ext σ W s (J7 tp q D.vi D.fr By σ) W2 D.s':=by
 obtain⟨n',ho,d,x,o,gj,gd,ne,ed,tx⟩:=u;obtain rfl:=AV.str.inj ho;obtain⟨ws,hws,Sk⟩:=B.cells P9;have ed2:D.σ'.obj d=some (.ed<|Lv<|.BG x):=hs.symm▸St.CQ ne ed;have o2:D.σ'.obj j=some (.old 114<|some d):=by obtain⟨rfl,rfl⟩:=AO.old.inj (uniq o hj);exact hs.symm▸St.Ft o
 obtain⟨pd,td,_⟩:=B.I'.obj d _ ed2;have N:GA D W [pd,pj]:=⟨fc (B.new gd td)<|fc (B.new gj tj) fz,Atl.mpr ⟨λh=>(B.I'.apart d j _ _ td tj ne).1 (congrArg AxZ<|Ash.mp h),Atl.mpr ⟨AwY,AtM⟩⟩⟩;have ad:(W.τ++ [pd,pj])[σ.n]?=some pd:=(Bb (i:=0) B.I.nτ).trans rfl;have aj:(W.τ++ [pd,pj])[σ.n+1]?=some pj:=(Bb (i:=1) B.I.nτ).trans rfl;refine(VO B.he.tp).symm▸?_;exact⟨_,aj,B.fin N (VJ hh hws) (m:=[2,3,4]) (r:=[σ.n,σ.n+1]) rfl (.inr rfl) (B.gone ZX<|fc (.dead<|B.has rfl)<|fc (.dead<|B.has rfl)<|fc (.dead<|B.has rfl)<|fc (B.frame N _)<|fc (.dead<|B.has rfl)<|fc (.dead<|B.has rfl)<|fc (Sk _ N)<|fc (B.pan N _ ed2 tx hq td ad)<|fc (B.exc o2 td ad tj aj) fz)⟩
end
theorem KJ{l:List AV}(h:Mm o=some l):o=some (.list none l none):=by
 induction o with
 |none=>exact ns h
 |some o=>induction o with
  |list a m b=>induction a with
   |some _=>exact ns h
   |none=>induction b with
    |some _=>exact ns h
    |none=>exact congrArg (λl=>some (AO.list none l none)) (Ase h)
  |_=>exact ns h
theorem aD(h:Uk o=some q):o=some (.mid q.1 q.2.1 q.2.2):=by
 induction o with
 |none=>exact ns h
 |some o=>induction o with
  |mid a m b=>exact congrArg (λq:List AV×Nat×List AV=>some (AO.mid q.1 q.2.1 q.2.2)) (Ase h)
  |_=>exact ns h
theorem int_str{l:Ad}{P:Prop}(h:AV.int l= .str n):P:=nomatch h
theorem T5.two(h:T5 ρ t o):(∃l x,t= .int l∧l.ev ρ=some x∧o= .int (.k x))∨∃n,t= .str n∧o= .str n:=by
 cases t with
 |int l=>exact .inl (h.elim λx q=>⟨l,x,rfl,q.1,q.2⟩)
 |str n=>exact .inr ⟨n,rfl,h⟩
 |_=>exact h.elim
theorem Em.HH{tp:AH}{e:Int}(h:Em tp e){ρ:List Int}(h9:ρ[9]?=some e)(hw:ZF ρ t o):HH [tp,C6] ρ t o:=by obtain⟨e',g,q⟩:=hw;obtain rfl:=uniq g h9;exact h.elim (λz=>q.elim (λq=>z.2▸q.2) λq=>absurd (z.1.symm.trans q.1) (by decide)) λz=>q.elim (λq=>absurd (z.1.symm.trans q.1) (by decide)) λq=>z.2▸q.2
theorem KE.lo{j:Nat}(u:KE j σ o):20≤j:=u.casesOn λz z z z z h z z z z=>h
section
variable{w:ArV}{h1:Asb}{os:Atn}
variable{σ:St}{W:Wd}{s:ArT}
inductive rV(w:ArV)(h1:Asb)(os:Atn)(W:Wd)(s:ArT)(tp:AH)(By:Int):Prop
 |mk (p:Ar0×Ar0) (vc Cw:List ArR) (l:Lies W s 9 p (vc++Cw)) (v:Ae (CW w h1 os) W s.heap tp.Am vc) (h:(Cw.length:Int)≤By)
theorem SI{tp:AH}(O:Jy tp){By:Int}(I:Inv (CW w h1 os) W σ s)(h:hidden tp σ=some By):rV w h1 os W s tp By:=by
 unfold hidden at h;rw[O.cells] at h;cases e:Mm (σ.obj 9) with
 |some l=>rw[e] at h;have q:=BK (show bt (B4 Fd l tp.Am) (some 0) none=some By from h);obtain rfl:l=tp.Am:=CC (λa b q=>CY q) q.1;obtain⟨p,hp,vs,b⟩:=I.obj _ _ (KJ e);exact .mk p vs [] ⟨hp,b.ep,(Ar7 vs).symm▸b.one.il,b.nd⟩ b.v (Av3 (Ase q.2))
 |none=>rw[e] at h;obtain⟨⟨l,a,m⟩,e,h⟩:=Ak (show OR none (λq:List AV×Nat×List AV=>oB (B4 Fd q.1 tp.Am) (upTo (σ.rg q.2.1) q.2.2.length)) (Uk (σ.obj 9))=some By from h) rfl;have q:=BK h;obtain rfl:l=tp.Am:=CC (λa b q=>CY q) q.1;obtain⟨p,hp,vs,ws,b⟩:=I.obj _ _ (aD e);obtain⟨n,en,h⟩:=Ak q.2 rfl;refine .mk p vs (W.ls a++ws) ⟨hp,b.ep,AsE vs _ _▸b.il,b.nd⟩ b.v ?_;refine Ar1.symm▸?_;refine b.w.length.symm▸?_;refine(Ase h)▸?_;exact AvQ ((I.rng a _ b.k1).2 n en) _
structure At(w:ArV)(h1:Asb)(os:Atn)(e:Int)(tp:AH)(σ:St)(W:Wd)(s:ArT)(vi fr:Nat)(By:Int)(lv:List AV):Prop where
 he:Em tp e
 I:Inv (CW w h1 os) W σ s
 h9:W.ρ[9]?=some e
 l11:11≤W.ρ.length
 DJ:∀p∈tp.objs,σ.obj p.1=some p.2
 sp:σ.obj 0=some (.Ao [])
 ZX:19<σ.n
 f19:19<fr
 fv:fr≠vi
 hv:vi=16∨19<vi
 call:σ.obj 6=some (.inst 385<|AM tp.AY Aq<|.obj vi)
 vals:σ.obj vi=some (.list none lv none)
 lvf:lv.length≤4000
 Sk:rV w h1 os W s tp By
 vP:By≤1000
 fra:isFrame tp (σ.obj fr)=true
variable{e:Int}{tp:AH}{vi fr:Nat}{By:Int}{lv:List AV}
theorem At.Gz(a:At w h1 os e tp σ W s vi fr By lv)(n:Bg (CW w h1 os) W s σ σ'):At w h1 os e tp σ' W s vi fr By lv:=
 ⟨a.he,n.1,a.h9,a.l11,λp hp=>(n.obj _).trans (a.DJ p hp),(n.obj _).trans a.sp,n.2.2.2.1.symm▸a.ZX,a.f19,a.fv,a.hv,(n.obj _).trans a.call,(n.obj _).trans a.vals,a.lvf,a.Sk,a.vP,(n.obj fr).symm▸a.fra⟩
abbrev Ge(w:ArV)(h1:Asb)(os:Atn)(A:Ar4)(env:Env):(Auh->ArT->Prop)->ArT->Prop:=Asu (model (CW w h1 os).prog (CW w h1 os).w) A (.whileLoop iY eB [] env)
inductive mG(w:ArV)(h1:Asb)(os:Atn)(e:Int)(tp:AH)(σ:St)(W:Wd)(s:ArT)(vi fr:Nat)(By:Int)(lv:List AV)(vr:List ArR)(q:Nat)(A:Ar4)(env:Env):Prop
 |mk (Bq:AH) (ρ1:List Int) (vl vc Cw:List ArR) (n:Nat) (σ1:St) (t1 o1 o:AV) (r:RT W.ρ q o) (oe:T5 ρ1 o1 o) (rU:Ae (CW w h1 os) W s.heap lv vl) (P9:Ae (CW w h1 os) W s.heap tp.Am vc) (hh:(Cw.length:Int)≤By)
  (go:∀(σn:St) (R:Auh->ArT->Prop),Bg (CW w h1 os) W s σ σn->
   (∀σ' W' s',Jm Bq σ1.k σ'=true->KU σ1.k σ' o1->Behind w h1 os e tp σn W s ⟨Bq,vi,fr,ρ1,vr,vl,vc,Cw,n,σ1,t1,σ',W',s'⟩->Ge w h1 os A env R s')->
   (∀j C ld σp W' p s',KE j σp o1->σp.obj j=some (.old C ld)->W'.τ[j]?=some p->Traced (CW w h1 os) s'.heap p.1->Behind w h1 os e tp σn W s ⟨Bq,vi,fr,ρ1,vr,vl,vc,Cw,n,σ1,t1,σp.after j C ld,W',s'⟩->R (.error<|.ref p.1) s')->Ge w h1 os A env R s)
variable{m:Nat}{A:Ar4}{E:AZ}{env:Env}{q:Nat}{pw:Ar0×Ar0}{vr:List ArR}
theorem At.AfN(RW:Ap (CW w h1 os) (KF w) tt Bi)(a:At w h1 os e tp σ W s vi fr By lv)(f:BQ (m+3+30) true A)(ev:AD (CW w h1 os) A W Dy.scope E env)(hE:E.fr=fr)(br:vr.length≤5000){ai:Ar0}(wk:Lies W s 15 pw (vr++ [.ref ai])){cs ct:ArR}
  (ht:IsT W s.heap ai (Aw4 [cs,ct]))(hs:VR (CW w h1 os) W s.heap (.str Bl) cs)(hq:Mh (CW w h1 os) W.ρ q (W.q q))(hv:VR (CW w h1 os) W s.heap (W.q q).1 ct):mG w h1 os e tp σ W s vi fr By lv vr q A env:=by
 have O:=a.he.tp;obtain⟨Bq,mem,σ1,ρ1,t1,o1,hρ,_,l1,F,hn,hc,hoE⟩:=a.he.HH a.h9 hq.1;have rel:=pZ O mem;obtain⟨n,hn'⟩:=rel.Am;obtain⟨pk,vc,Cw,ck,P9,hh⟩:=a.Sk;obtain⟨pv,tv,vl,b⟩:=a.I.obj _ _ a.vals;obtain⟨pc,tc,oc⟩:=a.I.obj _ _ a.call;obtain⟨fe,ft,ofr⟩:=IF a.fra;unfold bR at ofr;rw[O.run,O.call] at ofr;obtain⟨pf,tf,obf⟩:=a.I.obj _ _ ofr;have G:RP w h1 os W s tp vi fr pc pw pv pk pf vr vl vc Cw cs ct ai (W.q q).1 fe ft:=⟨tc,oc,wk,ht,hs,hv,br,⟨tv,b.ep,b.one.il,b.nd⟩,b.v.length.symm▸AtH a.lvf (by decide),ck,P9,Awi.mp<|Av6 hh<|Av6 a.vP (by decide),tf,obf⟩;have lt:∀{i p},W.τ[i]?=some p->i<σ.n:=λh=>a.I.nτ▸(Ar2.mp h).1
 have hl:∀i∈C9 vi fr,i<W.τ.length:=λi hi=>a.I.nτ.symm▸cR a.ZX (lt tv) (lt tf) i hi
 refine .mk Bq ρ1 vl vc Cw n σ1 t1 o1 _ hq.2.1 hoE b.v P9 hh λσn R Gz hk hR=>?_
 have an:=a.Gz Gz;have IG:=bT a.he rel an.I hρ F hc hl (O1 a.hv a.f19 a.fv) an.DJ an.sp G hn';have KA:N9 (CW w h1 os) (AX 1995):=RW.ag _;have EO:FL (CW w h1 os) ⟨TD Mw,aU Mw⟩ (m+3+30):=RW.uH (Ot RW m Mw);have sL:SL (CW w h1 os) ⟨TD Mw,aU Mw⟩ (m+3+30) true Dy.scope pV eB:=.of (Jl KA EO (vQ λz z=>rfl) 40 true _) _ zI;have evG:AD (CW w h1 os) A (Wg W vi fr ρ1 vr vl<|vc.drop n++Cw) Dy.scope ⟨Bq.n0+1,[]⟩ env:=by obtain⟨p,tp1,el⟩:=ev.fr;obtain rfl:=uniq (hE▸tp1) tf;exact⟨ev.scope,ev.kind,ev.glob,ev.bi,⟨pf,rel.n0.symm▸BL (i:=19) rfl tf,el⟩,λx j nm q=>ns q,ev.full,ev.around⟩
 have fin:∀{σ' W' s'},Ext (MM Bq σ1 t1) (Wg W vi fr ρ1 vr vl<|vc.drop n++Cw) s σ' W' s'->Inv (CW w h1 os) W' σ' s'->Mi Bq σ1.k σ'->Behind w h1 os e tp σn W s ⟨Bq,vi,fr,ρ1,vr,vl,vc,Cw,n,σ1,t1,σ',W',s'⟩:=λX I' st=>⟨a.he,rel,hn',an.I,X,I',a.hv,hl,hρ,a.l11,F.k,an.DJ,an.sp,st⟩
 refine ZE ((P8 KA EO 40).b _ _ _ zH) sL f 40 _ _ s R IG evG hn (λσ' W' s' q0 q1 X' I'=>have u:=wQ rel q1;hk σ' W' s' q0 u.1 (fin X' I' u.2)) λx s' P=>?_
 obtain⟨⟨j,C,ld,σp,W',p,g1,_,g2,g3,g4,_,g5,g6⟩,y,hy,tr⟩:=P;obtain rfl:p.1=y:=Ayy (g4.symm.trans hy);have u:=oO rel g1;exact g4▸hR j C ld σp W' p s' u.1 g2 g3 tr (fin g5 g6<|u.2.after a.he rel u.1.lo)
theorem At.run(RW:Ap (CW w h1 os) (KF w) tt Bi)(a:At w h1 os e tp σ W s vi fr By lv)(f:BQ (m+3+30) true A)(ev:AD (CW w h1 os) A W Dy.scope E env)(hE:E.fr=fr)(br:vr.length≤5000){cv:ArR}(wk:Lies W s 15 pw (vr++ [cv]))(rL:VR (CW w h1 os) W s.heap (.Af [.str Bl,.Ee q]) cv):
  mG w h1 os e tp σ W s vi fr By lv vr q A env:=by
 generalize hG:mG w h1 os e tp σ W s vi fr By lv vr q A env=G;refine rL.inv (P:=λcv=>Lies W s 15 pw (vr++ [cv])->G) (λvs ai ht hvs wk=>Ae.two (P:=λvs=>IsT W s.heap ai (Aw4 vs)->G) hvs (λcs ct hs ho ht=>?_) ht) wk;exact ho.inv (P:=λct=>IsT W s.heap ai (Aw4 [cs,ct])->G) (λct z hq hv ht=>hG▸a.AfN RW f ev hE br wk ht hs hq hv) ht
end
section
variable{w:ArV}{h1:Asb}{os:Atn}
variable{σ:St}{W:Wd}{s:ArT}
variable{e:Int}{tp:AH}{vi fr:Nat}{By:Int}{lv:List AV}
variable{m:Nat}{A:Ar4}{E:AZ}{env:Env}{q:Nat}{pw:Ar0×Ar0}{vr:List ArR}
theorem V0{n:Nat}(h:iE o n=true):o=some (.old 114<|some n):=
 UA (P:=λo=>o=some (.old 114<|some n)) h (λC d h=>Cp (br h) λd' e q=>by rw[e,ArU<|bl h,ArU q]) ff
theorem gW(RW:Ap (CW w h1 os) (KF w) tt Bi)(a:At w h1 os e tp σ W s vi fr By lv)(f:BQ (m+3+30) true A)(ev:AD (CW w h1 os) A W Dy.scope E env)(hE:E.fr=fr)(br':vr.length≤5000){cv:ArR}(wk:Lies W s 15 pw (vr++ [cv])){rest:List AV}(jC:Ae (CW w h1 os) W s.heap rest.reverse vr)
  (rL:VR (CW w h1 os) W s.heap (.Af [.str Bl,.Ee q]) cv){k:K Unit}{ke:K AV}{R:Auh->ArT->Prop}(h:OY tp q vi fr rest lv By σ k ke=true)
  (hk:∀σ' W' s',k () σ'=true->Ext σ W s σ' W' s'->Inv (CW w h1 os) W' σ' s'->Ge w h1 os A env R s')(hR:∀e s',Ba (CW w h1 os) ke σ W s e s'->R (.error e) s'):Ge w h1 os A env R s:=by
 obtain⟨Bq,ρ1,vl,vc,Cw,n,σ1,t1,o1,o,VQ,oe,rU,P9,hh,go⟩:=a.run RW f ev hE br' wk rL;rcases oe.two with⟨l,x,et,hx,eo⟩|⟨b,et,eo⟩
 ·rw[eo] at VQ;obtain⟨x',hx',r1,r2⟩:=VQ;obtain rfl:x'=x:=uniq (Ad.Ci x) hx';obtain⟨σn,Gz,ZU⟩:=HS a.I r1 (bl h);refine go σn R Gz (λσ' W' s' q0 u B=>?_) λj C ld σp W' p s' u z z z z=>u.casesOn λz ho z z z z z z z z=>int_str (et.symm.trans ho)
  obtain⟨W2,I2,X2⟩:=bG B (Gz.2.2.2.1.symm▸a.ZX) (et▸u) q0 r2 hx jC rU P9 hh;exact hk _ W2 s' ZU (Gz.ext.trans X2) I2
 ·rw[eo] at VQ;obtain⟨σn,Gz,ZU⟩:=HS a.I VQ.1 (br h);have ho:=V0 (bl ZU);refine go σn R Gz (λσ' W' s' q0 u B=>u.casesOn λz ho z z z z z z z z z z=>int_str (ho.symm.trans et)) λj C ld σp W' p s' u g2 g3 g5 B=>?_
  obtain⟨W2,tj,I2,X2⟩:=bF B (Gz.2.2.2.1.symm▸a.ZX) rfl (et▸u) g2 VQ.2 P9 hh g3;have I3:=I2.after ho;exact hR _ _ ⟨.mk (σn.n+1) 114 (some σn.n) _ W2 p (br ZU) (AtH (Axm Gz.2.2.1.symm)<|Axp _) ho tj rfl (.inr g5) (Gz.ext.trans<|X2.trans I3.2) I3.1,_,rfl,g5⟩
end
theorem xV{α β:Type}{f:α->List α->Option β}{l:List α}{x:β}{P:List α->Prop}(h:LC none f l=some x)(k:∀a r,f a r=some x->P (a::r)):P l:=by
 induction l with
 |nil=>exact ns h
 |cons a r=>exact k a r h
theorem aF{l:List AV}(h:Qj v=some l):v= .Af l:=by
 cases v with
 |Af m=>exact congrArg AV.Af (Ase h)
 |_=>exact ns h
theorem Qi{q:Nat}(h:Qh v=some q):v= .Ee q:=by
 cases v with
 |Ee m=>exact congrArg AV.Ee (Ase h)
 |_=>exact ns h
theorem aE(h:Ul v=some q):v= .sel q.1 q.2:=by
 cases v with
 |sel a m=>exact congrArg (λq:Nat×List AV=>AV.sel q.1 q.2) (Ase h)
 |_=>exact ns h
theorem Uj(h:Ui o=some q):o=some (.inst q.1 q.2):=by
 induction o with
 |none=>exact ns h
 |some o=>induction o with
  |inst C l=>exact congrArg (λq:Nat×List (Nm×AV)=>some (AO.inst q.1 q.2)) (Ase h)
  |_=>exact ns h
inductive DZ(v:AV):Top->Prop
 |Ee {q:Nat}:v= .Af [.str Bl,.Ee q]->DZ v (.Ee q)
 |sel {a:Nat} {c:AV} {q:Nat}:v= .Af [.str Bl,.sel a [c,.Ee q]]->DZ v (.sel a c q)
theorem fE{a:Nat}{l:List AV}(h:qR a l=some t):DZ (.Af [.str Bl,.sel a l]) t:=
 xV (P:=λl=>DZ (.Af [.str Bl,.sel a l]) t) h λc l h=>xV (P:=λl=>DZ (.Af [.str Bl,.sel a (c::l)]) t) h λd l h=>by have q:=BK h;obtain⟨n,e,et⟩:=Ak q.2 rfl;refine(A6 q.1).symm▸?_;refine(Qi e).symm▸?_;exact Ase et▸ .sel rfl
theorem fD(h:qQ b=some t):DZ (.Af [.str Bl,b]) t:=by
 unfold qQ at h;cases e:Qh b with
 |some q=>rw[e] at h;refine(Qi e).symm▸?_;exact Ase h▸ .Ee rfl
 |none=>rw[e] at h;obtain⟨p,ep,h⟩:=Ak (show OR none (λp:Nat×List AV=>qR p.1 p.2) (Ul b)=some t from h) rfl;exact aE ep▸fE h
theorem Zx(h:jB v=some t):DZ v t:=by obtain⟨l,e,h⟩:=Ak h rfl;refine(aF e).symm▸?_;exact xV (P:=λl=>DZ (.Af l) t) h λa l h=>xV (P:=λl=>DZ (.Af (a::l)) t) h λb l h=>by have q:=BK h;refine(A6<|bl q.1).symm▸?_;refine(qL<|br q.1).symm▸?_;exact fD q.2
theorem OZ{items:List AV}(h:Lc items=some p):∃v,items=p.2.reverse++ [v]∧DZ v p.1:=by
 have e:=(Aw2 items).symm;unfold Lc at h;refine e.symm▸?_;refine xV (P:=λl=>∃v,l.reverse=p.2.reverse++ [v]∧DZ v p.1) h λv r h=>?_
 obtain⟨t,ht,h⟩:=Ak h rfl;exact Ase h▸⟨v,Aw1,Zx ht⟩
section
variable{w:ArV}{h1:Asb}{os:Atn}
variable{σ:St}{W:Wd}{s:ArT}
variable{e:Int}{tp:AH}
inductive fR(w:ArV)(h1:Asb)(os:Atn)(e:Int)(tp:AH)(σ:St)(W:Wd)(s:ArT)(fr:Nat)(p:HK):Prop
 |mk (v:AV) (t:DZ v p.t) (a:At w h1 os e tp σ W s p.vi fr p.By p.lv) (o:σ.obj 15=some (.list none (p.rest.reverse++ [v]) none)) (l:(p.rest.reverse++ [v]).length≤4000)
theorem SK(he:Em tp e)(I:Inv (CW w h1 os) W σ s){fr:Nat}(hf:isFrame tp (σ.obj fr)=true)(h:hookAt tp σ fr=some p):fR w h1 os e tp σ W s fr p:=by
 have O:=he.tp;obtain⟨⟨C,a⟩,ec,h⟩:=Ak h rfl;obtain⟨vi,ev,h⟩:=Ak h rfl;obtain⟨items,ew,h⟩:=Ak h rfl;obtain⟨lv,el,h⟩:=Ak h rfl;obtain⟨q,eq,h⟩:=Ak h rfl;obtain⟨By,eh,h⟩:=Ak h rfl;have z:=BK h;have c:=z.1;unfold VN at c;have ec:=Uj ec;have ew:=KJ ew;rw[O.n0,O.vals] at c;rw[O.call] at ec;rw[O.work] at ew;have c1:=bl c;have c2:=br (br c);have hs:=Hx (br<|br<|br<|br<|br c2);have hc:=bl (br<|br<|br<|br c2);obtain⟨v,ei,t⟩:=OZ eq;have fi:=Bn (bl<|br<|br c2);rw[ei] at ew fi;have cl:σ.obj 6=some (.inst 385<|AM tp.AY Aq<|.obj vi):=by rw[ec,ArU<|bl<|br c,CC (λa b q=>KY q)<|bl c2]
 have av:At w h1 os e tp σ W s vi fr By lv:=⟨he,I,KP I he hc,(CU I hc).1,λp hp=>hs p (.tail _ hp),hs _<|.head _,Asp<|bl c1,Asp<|bl<|bl<|br c1,AxB<|Ht<|br<|bl<|br c1,
  B9 (br<|br c1) (λq zz=>.inl (ArU q)) λzz q=>.inr (Asp q),cl,KJ el,Bn<|bl<|br<|br<|br c2,SI O I eh,Bs<|bl<|br c2,hf⟩
 exact Ase z.2▸ .mk v t av ew fi
variable{m fI:Nat}{cl:CL}{A:Ar4}{E:AZ}{env:Env}
theorem SM(RW:Ap (CW w h1 os) (KF w) tt Bi)(he:Em tp e)(f:BQ (m+3+30) true A)(ev:AD (CW w h1 os) A W Dy.scope E env){p:HK}(H:fR w h1 os e tp σ W s E.fr p){k:K Unit}{ke:K AV}{R:Auh->ArT->Prop}(hr:VM tp p.t p.vi E.fr p.rest p.lv p.By σ k ke=true)
  (hk:∀σ' W' s',k () σ'=true->Ext σ W s σ' W' s'->Inv (CW w h1 os) W' σ' s'->Ge w h1 os A env R s')(hR:∀e s',Ba (CW w h1 os) ke σ W s e s'->R (.error e) s'):Ge w h1 os A env R s:=by
 obtain⟨t,vi,rest,lv,By⟩:=p;obtain⟨v,ht,a,o,fi⟩:=H;obtain⟨pw,tw,vs,b⟩:=a.I.obj _ _ o;obtain⟨vr,cv,rfl,jC,rL⟩:=Ae.snoc b.v;have wk:Lies W s 15 pw (vr++ [cv]):=⟨tw,b.ep,b.one.il,b.nd⟩;have br':vr.length≤5000:=jC.length.symm▸AtH (Axn<|Axu (Axw _)<|Ar1▸fi) (by decide);cases ht with
 |Ee e=>exact gW RW a f ev rfl br' wk jC (e▸rL) hr hk hR
 | @sel aa c q e=>
  subst e;refine rL.inv (P:=λcv=>Lies W s 15 pw (vr++ [cv])->Ge w h1 os A env R s) (λvs ai ht hvs wk=>Ae.two (P:=λvs=>IsT W s.heap ai (Aw4 vs)->Ge w h1 os A env R s) hvs (λcs ct hs ho ht=>?_) ht) wk;refine ho.inv (P:=λct=>IsT W s.heap ai (Aw4 [cs,ct])->Ge w h1 os A env R s) (λj v' ct r1 r2 r3 ht=>?_) ht;have Jv:VR (CW w h1 os) W s.heap (.Af [.str Bl,v']) (.ref ai):=.Af ht (.cons hs<|.cons r3 .nil);cases j with
  |zero=>obtain rfl:c=v':=Ase r2;obtain⟨σn,Gz,ZU⟩:=HS a.I r1 (bl hr);have q:=Gz.1.put (i:=15) (o:=.list none (rest.reverse++ [.Af [.str Bl,c]]) none) tw (λb x z z e=>e) (λz=>⟨_,.of1 wk.e (jC.app (.cons Jv .nil)) wk.l wk.n⟩) (a.I.live pw (get_mem tw)).1 (a.I.live pw (get_mem tw)).2 (λa z x e q=>⟨x,e,q⟩) rfl rfl;exact hk _ _ _ (he.tp.work▸ZU) (Gz.ext.trans q.2) q.1
  |succ j=>cases j with
   |zero=>obtain rfl:AV.Ee q=v':=Ase r2;obtain⟨σn,Gz,ZU⟩:=HS a.I r1 (br hr);exact gW RW (a.Gz Gz) f ev rfl br' wk jC Jv ZU (λσ' W' s' q1 q2 q3=>hk σ' W' s' q1 (Gz.ext.trans q2) q3) λx s' P=>hR x s' (P.base Gz.ext)
   |succ j=>exact ns r2
theorem cM(RW:Ap (CW w h1 os) (KF w) tt Bi)(he:Em tp e):Hook (CW w h1 os) ⟨T1 tp fI,cl⟩ (m+3+30) true Dy.scope 1 iY eB:=λA σ W s E env r k ke R f I ev h hr hk hR=>by have h:=h;have q:=BK h;obtain⟨p,hp,er⟩:=Ak q.2 rfl;obtain rfl:=Ase er;exact SM RW he f ev (SK he I (br q.1) hp) hr hk hR
end
section
variable{w:ArV}{h1:Asb}{os:Atn}
variable{e:Int}{tp:AH}
theorem wN(w:ArV):keepIn (KF w) (.ref 2028)=true:=by kernel_rfl
theorem wM(w:ArV):keepIn (KF w) (.ref 2014)=true:=by kernel_rfl
theorem Aam{a x y z:Nat}{p q t u:Bool}{P:Nat->Prop}(h:bt (ArX a x) (some p) (bt (ArX a y) (some q)<|bt (ArX a z) (some t) none)=some u)(h1:p=u->P x)(h2:q=u->P y)(h3:t=u->P z):P a:=
 Df (P:=λo=>o=some u->P a) (b:=ArX a x) (λe h=>ArU e▸h1 (Ase h)) (λzz=>Df (P:=λo=>o=some u->P a) (b:=ArX a y) (λe h=>ArU e▸h2 (Ase h))
  λzz=>Df (P:=λo=>o=some u->P a) (b:=ArX a z) (λe h=>ArU e▸h3 (Ase h)) λzz=>ns) h
theorem RC{a:Nat}{k:K AV}{r:Bool}{P:Nat->Prop}(h:qM tp a vs σ k=some r)(h1:RD vs σ k=r->P 1967)(h2:P6 tp vs σ k=r->P 2028)(h3:LS tp vs σ k=r->P 2014):P a:=Aam h h1 h2 h3
theorem eT(RW:Ap (CW w h1 os) (KF w) tt Bi)(he:Em tp e)(NK:Ep tp){m fI n:Nat}(hn:m+3+30≤n):FN (CW w h1 os) (T1 tp fI) n:=λA σ W s a vs cvs k ke f I ar hv h=>
 RC (P:=λa=>Asu (model (CW w h1 os).prog (CW w h1 os).w) A (.call (.ref a) ⟨cvs,[]⟩) (AQ (CW w h1 os) k ke σ W s) s) (show qM tp a vs σ k=some true from h)
  (λe=>MB RW (m:=m) (f.le<|AtH (Axl _ _) hn) I ar hv e) (λe=>Th RW he NK (f.le hn) I ar hv e) λe=>dD RW he NK (f.le hn) I ar hv e
theorem m5(RW:Ap (CW w h1 os) (KF w) tt Bi)(he:Em tp e)(NK:Ep tp)(m fI:Nat):Cq (CW w h1 os) (m+3+30+20) (Qs (T1 tp fI) OP 20):=
 EJ (m+3+30) (RW.call (K4 RW (λE σ=>rfl) λn cl hn ok=>by
  obtain⟨d,rfl⟩:=Axj hn;have q:=cM RW he (m:=m+d) (fI:=fI) (cl:=cl)
  rwa [show m+d+3+30=m+3+30+d by lia] at q) QT λa vs σ k r h=>RC (P:=λa=>keepIn (KF w) (.ref a)=true) h (λz=>iG w) (λz=>wN w) λz=>wM w) (Rv RW.sys) (λi=>eT RW he NK (m:=m) (Axq<|Axl _ _)) 20
end
section
variable{C:Cx}
structure Jn(W Wc:Wd)(f:List Nat)(g:List Ad)(h:Asb):Prop where
 τ:∀(i j:Nat) (p:Ar0×Ar0),f[i]?=some j->W.τ[j]?=some p->Wc.τ[i]?=some p
 ρ:∀(a:Nat) (l:Ad) (x:Int),g[a]?=some l->l.ev W.ρ=some x->Wc.ρ[a]?=some x
 ev:∀l∈g,∃x,l.ev W.ρ=some x
 Af:AJ W Wc h h
theorem QV{l:Ad}{k:Nat->Bool}(h:dF l k=true):∃j,l=Ad.k (Ar6 j)∧k j=true:=by
 obtain⟨c,t⟩:=l;obtain rfl:=A6 (bl h);have q:=br h
 induction c with
 |ofNat j=>exact⟨j,rfl,q⟩
 |negSucc j=>exact ff q
theorem DT{α:Type}{l:List α}{i:Nat}{a:α}(h:BI l i=some a):l[i]?=some a:=(AI l i).symm.trans h
section
variable{W Wc:Wd}{f:List Nat}{g:List Ad}{h:Asb}
theorem TG(J:Jn W Wc f g h):∀{l:Ad},Zm g t=some l->∃x,l.ev W.ρ=some x∧EK Wc.ρ t=some x:=by
 induction t with
 |nil=>exact λ{l} e=>⟨0,Ase e▸rfl,rfl⟩
 |cons p r ih=>intro l e;obtain⟨l1,e1,e⟩:=Ak e rfl;obtain⟨m,e2,e⟩:=Ak e rfl;have e1:=DT e1;obtain⟨x,hx⟩:=J.ev l1 (Atq e1);obtain⟨y,hy,hz⟩:=ih e2;exact⟨p.2*x+y,Ase e▸Ad.OI (Ad.OJ hx) hy,BH (J.ρ _ _ _ e1 hx) hz⟩
theorem Ku(J:Jn W Wc f g h){z:Ad}(e:Zl g m=some z):∃x,z.ev W.ρ=some x∧m.ev Wc.ρ=some x:=by obtain⟨l,el,e⟩:=Ak e rfl;obtain⟨x,hx,hy⟩:=TG J el;obtain⟨y,h1,rfl⟩:=Ad.A2.mp hx;exact⟨m.c+(l.c+y),Ase e▸Ad.A2.mpr ⟨y,h1,(AvP m.c l.c y).symm⟩,Ad.A2.mpr ⟨_,hy,rfl⟩⟩
theorem Ae.B4{fw:AV->AV->Bool}(ih:∀v w cv,fw v w=true->VR C W h v cv->VR C Wc h w cv){l:List AV}(e:Mine.Internal.B4 fw l m=true)(r:Ae C W h l vs):Ae C Wc h m vs:=
 Hd (P:=λl m=>∀vs,Ae C W h l vs->Ae C Wc h m vs) (λvs r=>r.inv (P:=Ae C Wc h []) .nil) (λa b l m e q vs r=>r.inv (P:=Ae C Wc h (b::m)) λcv cl x r=>.cons (ih a b cv e x) (q cl r)) e vs r
theorem Qc(J:Jn W Wc f g h){d:Nat}:∀(v w:AV) (cv:ArR),jD f g d v w=true->VR C W h v cv->VR C Wc h w cv:=by
 induction d with
 |zero=>exact λzz zz zz=>ff
 |succ d ih=>
  intro v w cv e r;have e:wkW f g (jD f g d) v w=true:=e;cases w with
  |any=>exact .any
  |sel a ws=>
   exact Cp (show oS (BI g a) (λl=>dF l λj=>oS (BI ws j) λu=>jD f g d v u)=true from e) λl el e=>(QV e).elim λj q=>Cp q.2 λu eu e=>(J.ev l<|Atq<|DT el).elim λx hx=>
    .sel (Nd (q.1▸hx)▸J.ρ _ _ _ (DT el) hx) (DT eu) (ih _ _ _ e r)
  |AR=>exact AV.dR (Q:=λv=>VR C W h v cv->VR C Wc h .AR cv) e (λzz r=>r.inv (P:=VR C Wc h .AR) .AR) (λzz h zz=>ff h) r
  |bool y=>exact AV.He (Q:=λv=>VR C W h v cv->VR C Wc h (.bool y) cv) e (λx e r=>gM e▸r.inv (P:=VR C Wc h (.bool x)) .bool) (λzz h zz=>ff h) r
  |int y=>exact AV.FC (Q:=λv=>VR C W h v cv->VR C Wc h (.int y) cv) e (λx e r=>Cp e λz ez e=>(Ku J ez).elim λu q=>r.inv (P:=VR C Wc h (.int y)) λi t hi=>.int (uniq hi (Ad.eq_iff e▸q.1)▸q.2)) (λzz h zz=>ff h) r
  |str y=>exact AV.Hb (Q:=λv=>VR C W h v cv->VR C Wc h (.str y) cv) e (λx e r=>ArU e▸r.str_inv) (λzz h zz=>ff h) r
  |BG y=>exact AV.Sh (Q:=λv=>VR C W h v cv->VR C Wc h (.BG y) cv) e (λx e r=>Ih e▸r.Qp) (λzz h zz=>ff h) r
  |Af m=>exact AV.tupI (Q:=λv=>VR C W h v cv->VR C Wc h (.Af m) cv) e (λl e r=>r.inv (P:=VR C Wc h (.Af m)) λvs a ia r=>.Af (J.Af _ _ ia) (Ae.B4 ih e r)) (λzz h zz=>ff h) r
  |obj i=>exact AV.Pw (Q:=λv=>VR C W h v cv->VR C Wc h (.obj i) cv) e (λj e r=>Cp e λj' ej e=>r.inv (P:=VR C Wc h (.obj i)) λp hp=>.obj (J.τ _ _ _ (DT ej) (ArU e▸hp))) (λzz h zz=>ff h) r
  |Bd y=>exact AV.TM (Q:=λv=>VR C W h v cv->VR C Wc h (.Bd y) cv) e (λx e r=>MH e▸r.inv (P:=VR C Wc h (.Bd x)) .Bd) (λzz h zz=>ff h) r
  |Ee y=>exact ff e
theorem ZI(J:Jn W Wc f g h){l:List (Nm×AV)}(e:Mine.Internal.B4 (wkN f g) l m=true):KD (λu v=>∀cv,VR C W h u cv->VR C Wc h v cv) l m:=
 Hd (P:=λl m=>KD (λu v=>∀cv,VR C W h u cv->VR C Wc h v cv) l m) .nil (λa b l m e q=>by
  obtain⟨a1,a2⟩:=a;obtain⟨b1,b2⟩:=b;obtain rfl:a1=b1:=ArU (bl e);exact .cons (λcv=>Qc J _ _ cv (br e)) q) e
theorem Bh.join(J:Jn W Wc f g h){k:AV}{K:KK}(o:keyOk k'=true)(e:jD f g 12 k k'=true)(r:Bh W k K):Bh Wc k' K:=by
 have e:=e;cases k' with
 |str n=>exact AV.Hb (Q:=λk=>Bh W k K->Bh Wc (.str n) K) e (λx e r=>r.inv (P:=Bh Wc (.str n)) λs hs=>.str (ArU e▸hs)) (λzz h zz=>ff h) r
 |int n=>exact AV.FC (Q:=λk=>Bh W k K->Bh Wc (.int n) K) e (λx e r=>Cp e λz ez e=>(Ku J ez).elim λu q=>r.inv (P:=Bh Wc (.int n)) λi hi=>.int (uniq hi (Ad.eq_iff e▸q.1)▸q.2)) (λzz h zz=>ff h) r
 |_=>exact ff o
theorem Co.join(J:Jn W Wc f g h){l:List (AV×AV)}{Bk}(e:Mine.Internal.B4 (wkD f g) l m=true)(r:Co C W h l Bk):Co C Wc h m Bk:=
 Hd (P:=λl m=>∀Bk,Co C W h l Bk->Co C Wc h m Bk) (λBk r=>r.inv (P:=Co C Wc h []) .nil) (λa b l m e q Bk r=>r.inv (P:=Co C Wc h (b::m)) λK V n x y r=>.cons (x.join J (bl e)<|bl<|br e) (Qc J _ _ _ (br<|br e) y) (q n r)) e Bk r
theorem q7(J:Jn W Wc f g h)(e:wkO f g a b=true)(O:Ob C W h p a):Ob C Wc h p b:=by
 induction b with
 |dead=>trivial
 |list x m y=>
  exact Pk (P:=λx=>Ob C Wc h p (.list x m y)) e (λe=>Pk (P:=λy=>Ob C Wc h p (.list none m y)) e (λe=>AO.listI (Q:=λa=>Ob C W h p a->Ob C Wc h p (.list none m none)) e (λx l y e=>Pk (P:=λx=>Ob C W h p (.list x l y)->Ob C Wc h p (.list none m none)) e
   (λe=>Pk (P:=λy=>Ob C W h p (.list none l y)->Ob C Wc h p (.list none m none)) e (λe=>Avw λvs b=>⟨b.ep,Ae.B4 (λv w cv=>Qc J v w cv) e b.v,b.il,trivial,trivial,b.nd⟩) λh z=>ff h) λh z=>ff h) (λz h z=>ff h) O) ff) ff
 |dict m=>exact AO.UZ (Q:=λa=>Ob C W h p a->Ob C Wc h p (.dict m)) e (λl e=>Au2 (Avw λz=>Au2 (Co.join J e))) (λz h z=>ff h) O
 |inst B m=>exact AO.VW (Q:=λa=>Ob C W h p a->Ob C Wc h p (.inst B m)) e (λA l e=>by
   obtain rfl:A=B:=ArU (bl e);have r:=ZI (C:=C) J (br e);exact Au2 (Avw λz=>Avw λz=>Avw λz=>Au2 (Au2<|Au0 (λq=>r.len.symm▸q)<|Ej.rel r))) (λz h z=>ff h) O
 |frame m=>exact AO.OS (Q:=λa=>Ob C W h p a->Ob C Wc h p (.frame m)) e (λl e=>Au2 (Avw λz=>Au2 (Ej.rel (ZI J e)))) (λz h z=>ff h) O
 |_=>exact ff e
end
end
theorem WJ{a:Nat}{l:List Nat}(m:a∈l):isIn a l=true:=by
 induction l with
 |nil=>exact absurd m AwY
 |cons b l ih=>exact Df (P:=λx=>x=true) (b:=ArX b a) (λz=>rfl) λq=>(Ar3.mp m).elim (λe=>absurd e.symm (AxB q)) ih
theorem JG{l:List Nat}:IE l=true->l.Nodup:=by
 induction l with
 |nil=>exact λz=>AtM
 |cons a l ih=>exact λh=>B9 (b:=isIn a l) h (λz=>ff) λq h=>Atl.mpr ⟨λm=>AsJ (q.symm.trans (WJ m)),ih h⟩
theorem aC{α β:Type}{f:α->β->Bool}{l:List α}{m:List β}(h:all2 f l m=true):l.length=m.length∧∀(a:Nat) (x:α) (y:β),l[a]?=some x->m[a]?=some y->f x y=true:=
 Hd (P:=λl m=>l.length=m.length∧∀(a:Nat) (x:α) (y:β),l[a]?=some x->m[a]?=some y->f x y=true) ⟨rfl,λz z z=>ns⟩ (λb c l m e q=>⟨congrArg Auv q.1,λa=>Nat.casesOn (motive:=λa=>∀(x:α) (y:β),(b::l)[a]?=some x->(c::m)[a]?=some y->f x y=true) a
  (λx y q1 q2=>Ase q1▸Ase q2▸e) q.2⟩) h
theorem Vi{ρ:List Int}:aJ ρ.length t=true->∃x,EK ρ t=some x:=by
 induction t with
 |nil=>exact λz=>⟨0,rfl⟩
 |cons p r ih=>exact λh=>(ih (br h)).elim λy hy=>⟨_,BH (Ar8 (Asp (bl h))) hy⟩
theorem bJ{ρ:List Int}{l:Ad}(h:aJ ρ.length l.t=true):∃x,l.ev ρ=some x:=(Vi h).imp' (l.c+ ·) λy hy=>Ad.A2.mpr ⟨y,hy,rfl⟩
def gv(ρ:List Int)(g:List Ad):List Int:=g.map λl=>(l.ev ρ).getD 0
theorem vD{g:List Ad}{a:Nat}{l:Ad}{x:Int}(hg:g[a]?=some l)(hx:l.ev ρ=some x):(gv ρ g)[a]?=some x:=by unfold gv;rw[AwN,hg,AtB,hx];rfl
abbrev Wj(W:Wd)(f:List Nat)(g:List Ad)(ex:List Int):Wd:=⟨gv W.ρ g++ex,Gn W f,W.q,W.ls,W.fs,GO W⟩
section
variable{w:ArV}{h1:Asb}{os:Atn}
variable{A:Ar4}{σ:St}{W:Wd}{s:ArT}
structure sA(tp:AH)(f:List Nat)(σ:St)(g:List Ad):Prop where
 fl:f.length=tp.n0+1
 nd:f.Nodup
 lt:∀i∈f,i<σ.n
 f0:f[0]?=some 0
 f1:f[1]?=some 1
 rg:gRg g (DV tp.er).reverse σ=true
 objs:∀p∈Ra tp,oS (BI f p.1) (λj=>oS (σ.obj j) λo=>wkO f g o p.2)=true
theorem wJ{tp:AH}(h:GS tp f σ g=true):sA tp f σ g:=by
 unfold GS at h;have a:=bl h;have h:=br h;have q:f[0]?=some 0∧f[1]?=some 1:=RQ (P:=λf=>f[0]?=some 0∧f[1]?=some 1) (br<|br<|br a) λa l h=>RQ (P:=λl=>(a::l)[0]?=some 0∧(a::l)[1]?=some 1) h λb l h=>⟨congrArg some<|ArU<|bl h,congrArg some<|ArU<|br h⟩
 exact⟨ArU<|bl a,JG<|bl<|br a,λi m=>Asp (AN (bl<|br<|br a) i m),q.1,q.2,bl h,λp=>AN (br h) p⟩
theorem Xx{l:List BN}{i:Nat}(h:i<l.length):l[i]?=some (Bx l i):=by unfold Bx;rw[AI,Ar8 h]
theorem nQ{a:Nat}{x:Int}(h:(gv ρ g)[a]?=some x)(ev:∀l∈g,∃x,l.ev ρ=some x):∃l,g[a]?=some l∧l.ev ρ=some x:=by unfold gv at h;rw[AwN] at h;obtain⟨l,hl,e⟩:=AtW.mp h;exact(ev l<|Atq hl).elim λy hy=>⟨l,hl,hy.trans<|congrArg some<|(show((some y).getD 0:Int)=x from hy▸e)⟩
theorem V8{C:Cx}{er:BN}(I:Inv C W σ s)(h:gRg g (DV er).reverse σ=true)(ev:∀l∈g,∃x,l.ev W.ρ=some x):(gv W.ρ g).length=11∧∀a x,(gv W.ρ g)[a]?=some x->inR (Bx (DV er)<|11-1-a) x:=by have q:=aC h;have lg:(gv W.ρ g).length=11:=(AsQ ..).trans q.1;refine⟨lg,λa x hx=>?_⟩;have ha:a<11:=lg▸(Ar2.mp hx).1;obtain⟨l,hl,hv⟩:=nQ hx ev;have hr:(DV er).reverse[a]?=some (Bx (DV er)<|11-1-a):=(List.getElem?_reverse (l:=DV er) ha).trans (Xx<|Axs (AxF _ _) (by decide:11-1<11));exact NV (q.2 a l _ hl hr) (DI I.rng hv)
theorem V7{C:Cx}{tp:AH}{f:List Nat}{g:List Ad}(I:Inv C W σ s)(rM:tp.n0=18)(hj:GS tp f σ g=true)(hb:∀l∈g,aJ σ.k l.t=true){p0:Ar0×Ar0}{x y:Int}{t u:Nat}(hp:W.τ[0]?=some p0)(ep:p0.2=p0.1)(il:s.heap.IsList p0.1 #[.int x t,.int y u])(so:El x y)(nd:GB s.heap p0.1)
  {ex:List Int}{rg:List BN}{ZS:List (Int×Nat)}(hr:Fp rg ex)(hf:∀ρ:List Int,ρ.length=11->BO (ρ++ex) x y ZS):Inv C (Wj W f g ex) (Xw tp ZS rg) s∧(∀p∈(Wj W f g ex).τ,p∈W.τ)∧(Gn W f)[0]?=some p0∧f[1]?=some 1:=by
 have j:=wJ hj;have flt:∀i∈f,i<W.τ.length:=λi hi=>I.nτ.symm▸j.lt i hi
 have evg:∀l∈g,∃x,l.ev W.ρ=some x:=λl hl=>bJ (I.kρ.symm▸hb l hl)
 have r:=V8 I j.rg evg;have J:Jn W (Wj W f g ex) f g s.heap:=⟨λi j p=>BL,λa l x hg hx=>Ab (Asf _ _) (vD hg hx),evg,λa items q=>⟨λ⟨r,hr,e⟩=>q.un ⟨r,DH flt r hr,e⟩,Pt q,q.Af,q.nd⟩⟩;have ln:(Gn W f).length=tp.n0+1:=(AsQ ..).trans j.fl;refine⟨I.pick (DH flt) (Ja I j.nd flt) ln ((Ar1 ..).trans (by refine r.1.symm▸?_;refine hr.1▸?_;rfl)) ((Ar1 ..).trans<|Aw9 _ _) (λa x hx=>?_) (λp hp=>absurd hp AwY) (λp hp=>absurd hp AwY) I.GO λi o ho=>?_,DH flt,BL j.f0 hp,j.f1⟩
 ·show inR (Bx (rg++DV tp.er)<|11+rg.length-1-a) x;exact hr.1.symm▸Gq r.1 r.2 hr.1 hr.2 hx
 ·rcases FH (show(C4 ((0,.Ao ZS)::Ra tp)<|Mx<|tp.n0+1).get i=some o from ho) with hm |⟨hd,_⟩
  ·rcases Ar3.mp hm with q |hm
   ·obtain⟨rfl,rfl⟩:=Asy q;exact⟨p0,BL j.f0 hp,ep,x,y,t,u,il,so,hf _ r.1,nd⟩
   ·exact Cp (j.objs _ hm) λk ek h=>Cp h λo' eo h=>(I.obj k o' eo).elim λp q=>⟨p,BL (DT ek) q.1,q7 J h q.2⟩
  ·obtain⟨rfl,SJ⟩:=JY hd;exact⟨_,Ar8<|ln.symm▸SJ,trivial⟩
end
def gV(ms:List Int):Nat->List (Int×Nat):=LR (λz=>[]) (λm z ih k=>(m,k)::ih (k+1)) ms
theorem nO{ms:List Int}(pos:∀m∈ms,0<m):∀{ρ:List Int} {x y:Int} {k:Nat},ρ.length=k->BO (ρ++(N6 ms x y).1) x y (gV ms k):=by
 induction ms with
 |nil=>exact λ{ρ x y k} _=>trivial
 |cons m r ih=>intro ρ x y k h;have q:=ih (λm q=>pos m (.tail _ q)) (ρ:=ρ++ [(Au x y m).1]) (x:=(Au x y m).2.1) (y:=(Au x y m).2.2) (k:=k+1) ((Ar1 ..).trans (congrArg (· +1) h));rw[←Aww] at q;exact(BO.cons (pos m (.head _))).mpr ⟨Bb (i:=0) h,q⟩
def Oa(st:List (Int×BN)):Int->Int->Prop:=LR (λz z=>True) (λp z ih x y=>inR p.2 (Au x y p.1).1∧ih (Au x y p.1).2.1 (Au x y p.1).2.2) st
theorem Oa.rs{st:List (Int×BN)}:∀{x y:Int} {rg:List BN} {ρ:List Int},Oa st x y->Fp rg ρ->Fp ((st.map (·.2)).reverse++rg) (ρ++(N6 (st.map (·.1)) x y).1):=by
 induction st with
 |nil=>exact λ{x y rg ρ} _ h=>(Ar7 ρ).symm▸h
 |cons p r ih=>intro x y rg ρ d h;have q:=ih d.2 (h.snoc d.1);rw[←Aww] at q;show Fp ((p.2::r.map (·.2)).reverse++rg) _;rw[Aw1,AsE];exact q
def rz0(ms:List Int):List (Int×BN):=ms.map λm=>(m,R0 m)
theorem Io{ms:List Int}{st:List (Int×BN)}(pos:∀m∈ms,0<m):∀{x y:Int},El x y->Oa st (N6 ms x y).2.1 (N6 ms x y).2.2->Oa (rz0 ms++st) x y:=by
 induction ms with
 |nil=>exact λz h=>h
 |cons m r ih=>exact λsp h=>have d:=BV (pos m (.head _)) sp;⟨XA d.2.1 d.2.2,ih (λm q=>pos m (.tail _ q)) d.1 h⟩
noncomputable def yN:List Int:=[5,3,12,5,3,12]
noncomputable def msB:List Int:=[5,3,5,3,2,2]
theorem pR:∀m∈yN,0<m:=by decide
theorem posB:∀m∈msB,0<m:=by decide
def stM(f:Nat):List (Int×BN):=rz0 yN++ [(8,some 0,some 4),(10,Rk f)]
def stT(f:Nat):List (Int×BN):=rz0 yN++((8,some 5,some 7)::(rz0 msB++ [(6,Rk f)]))
theorem MA{m:Nat}{x y:Int}(hm:0<m)(sp:El x y):∃f,f<m∧(Au x y<|Ar6 m).1=Ar6 f:=by have d:=BV (Awj.mpr hm) sp;obtain⟨f,e⟩:=AsY d.2.1;exact⟨f,Awj.mp<|e▸d.2.2,e⟩
theorem XB{z:Int}{f:Nat}(e:z=Ar6 f):inR (Rk f) z:=e▸Rp
theorem draws{x y:Int}(sp:El x y):(∃f,f<10∧Oa (stM f) x y)∨∃f,f<6∧Oa (stT f) x y:=by
 have sp1:=U8 pR sp;have d:=BV (m:=8) (by decide) sp1;by_cases h5:(Au (N6 yN x y).2.1 (N6 yN x y).2.2 8).1<5
 ·exact .inl ((MA (m:=10) (by decide) d.1).imp λf q=>⟨q.1,Io (st:=[(8,some 0,some 4),(10,Rk f)]) pR sp ⟨B0 d.2.1<|Av5 h5,XB q.2,trivial⟩⟩)
 ·exact .inr ((MA (m:=6) (by decide)<|U8 posB d.1).imp λf q=>⟨q.1,Io (st:=(8,some 5,some 7)::(rz0 msB++ [(6,Rk f)])) pR sp ⟨B0 (Awg.mp h5)<|Av5 d.2.2,Io (st:=[(6,Rk f)]) posB d.1 ⟨XB q.2,trivial⟩⟩⟩)
def c6(σ:St):St:=match σ with
 |⟨n,_,k,rng,neg,BM,A8,low⟩=>⟨n,.Ai (some (.Ao [])) .nil .nil,k,rng,neg,BM,A8+1,low⟩
def gBd(σ:St):Bool:=Cu (σ.obj 1) (LC false λz=>LC false λp z=>oS (gOf p.2) λg=>allR (λl=>aJ σ.k l.t) g) false
def Afb(E:AZ):Bool:=both (ArX E.fr 1) (Bv E.cells)
def rJ:Cs:=λX E σ k ke=>both (Afb E) (both (iH A3 BA fSs .next σ) (both (gBd σ) (k (.ret (.bool true)) (c6 σ))))
inductive KC(σ:St):Prop
 |mk (tp:AH) (e:Int) (f:List Nat) (g:List Ad):Em tp e->GS tp f σ g=true->(∀l∈g,aJ σ.k l.t=true)->σ.obj 0=some (.Ao [])->KC σ
theorem SX(h:iH A3 BA fSs .next σ=true)(hb:gBd σ=true):KC σ:=by
 refine HJ (P:=λo=>σ.obj 0=o->KC σ) (show V6 A3 BA fSs σ=true from h) (λsp h e0=>?_) (λh z=>ff h) rfl;obtain rfl:=A6 (bl h);refine FR (P:=λo=>σ.obj 1=o->KC σ) (br h) (λl h e1=>?_) (λh z=>ff h) rfl;unfold gBd at hb;rw[e1] at hb
 induction l with
 |nil=>exact ff h
 |cons p l=>induction l with
  |nil=>exact ff h
  |cons q l=>
   refine Cp (show oS (gOf q.2) _=true from hb) λg hg hb=>Cp h λg' hg' h=>Cp h λl9 e9 h=>(QV h).elim λe q=>Cp q.2 λf hf h=>?_
   obtain rfl:=uniq hg hg';have hb:=AN hb
   induction e with
   |zero=>exact .mk A3 0 f g' (.inl ⟨rfl,rfl⟩) h hb e0
   |succ e=>induction e with
    |zero=>exact .mk BA 1 f g' (.inr ⟨rfl,rfl⟩) h hb e0
    |succ e=>exact absurd (Ar2.mp (DT hf)).1 (Nat.not_lt_of_le (Nat.le_add_left 2 e))
structure H8(tp:AH):Prop where
 m:∀f,f<10->Al tp f C8 (Dc f)=true
 t:∀f,f<6->Al tp f F2 (Gp f)=true
theorem uY:K5.body=FJ K5 0::FJ K5 1::GP:=by kernel_rfl
theorem nM:both (rH<|FJ K5 0).g (both (rH<|FJ K5 1).g<|BS rH GP)=true:=by kernel_rfl
section
variable{w:ArV}{h1:Asb}{os:Atn}
theorem eG(RW:Ap (CW w h1 os) (KF w) tt Bi){tp:AH}{e:Int}(he:Em tp e)(NK:Ep tp)(m fI:Nat):SL (CW w h1 os) ⟨T1 tp fI,Qs (T1 tp fI) OP 20⟩ (m+3+30+20) true K5.scope part2 GP:=
 .of (Jl (RW.ag _) (RW.uH<|m5 RW he NK m fI) (vQ λE σ=>rfl) 40 true K5.scope) _ (br<|br nM)
theorem V9(h:oN fl σ=true):fl= .ret (.bool true)∧σ.obj 0=some (.Ao []):=
 zZ (P:=λfl=>fl= .ret (.bool true)∧σ.obj 0=some (.Ao [])) h (λv h=>AV.He (Q:=λv=>Fl.ret v= .ret (.bool true)∧σ.obj 0=some (.Ao [])) h (λb h=>⟨bl h▸rfl,HJ (P:=λo=>o=some (.Ao [])) (br h) (λl h=>A6 h▸rfl) ff⟩) λz=>ff) ff
theorem Kr(RW:Ap (CW w h1 os) (KF w) tt Bi){tp:AH}{ei:Int}(he:Em tp ei)(NK:Ep tp)(m:Nat){A:Ar4}{σ:St}{W:Wd}{s:ArT}{E:AZ}{env:Env}(fit:BQ (m+3+30+20) true A)(I:Inv (CW w h1 os) W σ s)(e:AD (CW w h1 os) A W K5.scope E env)(e1:E.fr=1)
  {f:List Nat}{g:List Ad}(hj:GS tp f σ g=true)(hb:∀l∈g,aJ σ.k l.t=true){p0:Ar0×Ar0}(SN:W.τ[0]?=some p0)(ep:p0.2=p0.1){x y:Int}{t u:Nat}(il:s.heap.IsList p0.1 #[.int x t,.int y u])(so:El x y)(nd:GB s.heap p0.1){st:List (Int×BN)}{fI:Nat}(pos:∀m∈st.map (·.1),0<m)(d:Oa st x y)
  (run:Al tp fI (gV (st.map (·.1)) 11) ((st.map (·.2)).reverse++ [])=true){k:K Fl}{ke:K AV}(hk:k (.ret<|.bool true) (c6 σ)=true):Ar5 (model (CW w h1 os).prog (CW w h1 os).w) A (execs GP env) (Ah (CW w h1 os) k σ W s<|RF<|CW w h1 os) (Ac (CW w h1 os) ke σ W s) s:=by
 obtain⟨J,pick,z0,f1⟩:=V7 I he.tp.n0 hj hb SN ep il so nd (d.rs .nil) λρ h=>nO pos h
 obtain⟨pf,hpf,AeS⟩:=e.fr;refine ArY (eG RW he NK m fI A _ _ s ⟨1,[]⟩ env fit J ⟨e.scope,e.kind,e.glob,e.bi,⟨pf,BL f1<|e1▸hpf,AeS⟩,λx j nm h=>ns h,e.full,e.around⟩ oN HD run) (λfl s' hp=>?_) λer s' hp=>hp.HD.elim
 obtain⟨a,σ',W',VL,X,I',r⟩:=hp;obtain⟨rfl,ho⟩:=V9 VL;have q:=Sub.back (σ2:=c6 σ) (nw:=[]) (ex:=[]) (q:=W.q) (ls:=W.ls) ⟨I,X,I',pick,rfl⟩ ⟨λz h=>absurd h AwY,AtM,λz z=>rfl,λz z=>rfl,rfl,rfl,⟨[],rfl,rfl,λz z=>ns⟩,rfl,rfl,rfl,rfl,λi o hi=>by
  obtain⟨rfl,rfl⟩:=PC (show(PA.Ai (some<|.Ao []) .nil .nil).get i=some o from hi);exact .inr ⟨p0,(Ar7 _).symm▸SN,(I'.at (Ab X.τ z0) ho).imp id (Avw λz=>Avw λz=>Avw λz=>Avw λz=>Au2 (Au2 (Au1 λz=>trivial)))⟩⟩
 exact .mk (.ret<|.bool true) (c6 σ) _ hk q.2 q.1 (r.inv (P:=RF (CW w h1 os) _ _ (.ret<|.bool true)) λcv hv=>hv.inv (P:=λcv=>RF (CW w h1 os) _ _ (.ret<|.bool true) (.ret cv)) (.ret .bool))
theorem zA(RW:Ap (CW w h1 os) (KF w) tt Bi)(N0:Ep A3)(N1:Ep BA)(R0':H8 A3)(R1':H8 BA)(m:Nat):SL (CW w h1 os) X (m+3+30+20) true K5.scope rJ GP:=λA σ W s E env fit I e k ke q=>by
 obtain⟨tp,ei,f,g,he,hj,hb,h0⟩:=SX (bl<|br q) (bl<|br<|br q);have NK:=he.cases N0 N1;have RR:=he.cases R0' R1';obtain⟨p0,SN,ep,x,y,t,u,il,so,_,nd⟩:=I.obj 0 _ h0;have e1:=ArU (bl<|bl q);rcases draws so with⟨fI,hf,d⟩|⟨fI,hf,d⟩
 ·exact Kr (st:=stM fI) RW he NK m fit I e e1 hj hb SN ep il so nd (λm h=>(by decide:∀m∈([5,3,12,5,3,12,8,10]:List Int),0<m) m h) d (RR.m fI hf) (br<|br<|br q)
 ·exact Kr (st:=stT fI) RW he NK m fit I e e1 hj hb SN ep il so nd (λm h=>(by decide:∀m∈([5,3,12,5,3,12,8,5,3,5,3,2,2,6]:List Int),0<m) m h) d (RR.t fI hf) (br<|br<|br q)
end
theorem qE:F9 C6 0=true:=by kernel_rfl
theorem qF:F9 C6 1=true:=by kernel_rfl
theorem qG:F9 C6 2=true:=by kernel_rfl
theorem Yh:An C6 0 0=true:=by kernel_rfl
theorem Yi:An C6 0 1=true:=by kernel_rfl
theorem Yj:An C6 0 2=true:=by kernel_rfl
theorem PQ:An A3 0 3=true:=by kernel_rfl
theorem PS:An BA 0 3=true:=by kernel_rfl
theorem Yk:An C6 0 4=true:=by kernel_rfl
theorem Yl:An C6 0 5=true:=by kernel_rfl
theorem Ym:An C6 0 6=true:=by kernel_rfl
theorem Yn:An C6 0 7=true:=by kernel_rfl
theorem Yo:An C6 0 8=true:=by kernel_rfl
theorem Yp:An C6 0 9=true:=by kernel_rfl
theorem Tu:An C6 0 10=true:=by kernel_rfl
theorem Tv:An C6 0 11=true:=by kernel_rfl
theorem Yq:An C6 1 0=true:=by kernel_rfl
theorem Yr:An C6 1 1=true:=by kernel_rfl
theorem Ys:An C6 1 2=true:=by kernel_rfl
theorem PT:An A3 1 3=true:=by kernel_rfl
theorem PU:An BA 1 3=true:=by kernel_rfl
theorem Yt:An C6 1 4=true:=by kernel_rfl
theorem Yu:An C6 1 5=true:=by kernel_rfl
theorem Yv:An C6 1 6=true:=by kernel_rfl
theorem Yw:An C6 1 7=true:=by kernel_rfl
theorem Yx:An C6 1 8=true:=by kernel_rfl
theorem Yy:An C6 1 9=true:=by kernel_rfl
theorem Tw:An C6 1 10=true:=by kernel_rfl
theorem Tx:An C6 1 11=true:=by kernel_rfl
theorem Yz:An C6 2 0=true:=by kernel_rfl
theorem YA:An C6 2 1=true:=by kernel_rfl
theorem YC:An C6 2 2=true:=by kernel_rfl
theorem PV:An A3 2 3=true:=by kernel_rfl
theorem PW:An BA 2 3=true:=by kernel_rfl
theorem YD:An C6 2 4=true:=by kernel_rfl
theorem YF:An C6 2 5=true:=by kernel_rfl
theorem YG:An C6 2 6=true:=by kernel_rfl
theorem YH:An C6 2 7=true:=by kernel_rfl
theorem YI:An C6 2 8=true:=by kernel_rfl
theorem YJ:An C6 2 9=true:=by kernel_rfl
theorem Tz:An C6 2 10=true:=by kernel_rfl
theorem TA:An C6 2 11=true:=by kernel_rfl
theorem XK:Al A3 0 C8 (Dc 0)=true:=by kernel_rfl
theorem XM:Al A3 1 C8 (Dc 1)=true:=by kernel_rfl
theorem XN:Al A3 2 C8 (Dc 2)=true:=by kernel_rfl
theorem XO:Al A3 3 C8 (Dc 3)=true:=by kernel_rfl
theorem XP:Al A3 4 C8 (Dc 4)=true:=by kernel_rfl
theorem XQ:Al A3 5 C8 (Dc 5)=true:=by kernel_rfl
theorem XR:Al A3 6 C8 (Dc 6)=true:=by kernel_rfl
theorem XS:Al A3 7 C8 (Dc 7)=true:=by kernel_rfl
theorem XT:Al A3 8 C8 (Dc 8)=true:=by kernel_rfl
theorem XU:Al A3 9 C8 (Dc 9)=true:=by kernel_rfl
theorem YK:Al A3 0 F2 (Gp 0)=true:=by kernel_rfl
theorem YL:Al A3 1 F2 (Gp 1)=true:=by kernel_rfl
theorem YM:Al A3 2 F2 (Gp 2)=true:=by kernel_rfl
theorem YN:Al A3 3 F2 (Gp 3)=true:=by kernel_rfl
theorem YO:Al A3 4 F2 (Gp 4)=true:=by kernel_rfl
theorem YP:Al A3 5 F2 (Gp 5)=true:=by kernel_rfl
theorem XW:Al BA 0 C8 (Dc 0)=true:=by kernel_rfl
theorem XY:Al BA 1 C8 (Dc 1)=true:=by kernel_rfl
theorem XZ:Al BA 2 C8 (Dc 2)=true:=by kernel_rfl
theorem Ya:Al BA 3 C8 (Dc 3)=true:=by kernel_rfl
theorem Yb:Al BA 4 C8 (Dc 4)=true:=by kernel_rfl
theorem Yc:Al BA 5 C8 (Dc 5)=true:=by kernel_rfl
theorem Yd:Al BA 6 C8 (Dc 6)=true:=by kernel_rfl
theorem Ye:Al BA 7 C8 (Dc 7)=true:=by kernel_rfl
theorem Yf:Al BA 8 C8 (Dc 8)=true:=by kernel_rfl
theorem Yg:Al BA 9 C8 (Dc 9)=true:=by kernel_rfl
theorem YQ:Al BA 0 F2 (Gp 0)=true:=by kernel_rfl
theorem YR:Al BA 1 F2 (Gp 1)=true:=by kernel_rfl
theorem YU:Al BA 2 F2 (Gp 2)=true:=by kernel_rfl
theorem YV:Al BA 3 F2 (Gp 3)=true:=by kernel_rfl
theorem YW:Al BA 4 F2 (Gp 4)=true:=by kernel_rfl
theorem YX:Al BA 5 F2 (Gp 5)=true:=by kernel_rfl
theorem Q8{tp:AH}(h:∀b∈[0,1,2],An tp b 3=true):Ep tp:=
 have n:∀b∈[0,1,2],∀c∈[0,1,2,3,4,5,6,7,8,9,10,11],An (Kp tp c) b c=true:=(fa (fa Yh<|fa Yi<|fa Yj<|fa (h 0<|.head _)<|fa Yk<|fa Yl<|fa Ym<|fa Yn<|fa Yo<|fa Yp<|fa Tu<|fa Tv fn)<|fa (fa Yq<|fa Yr<|fa Ys<|fa (h 1<|.tail _<|.head _)<|fa Yt<|fa Yu<|fa Yv<|fa Yw<|fa Yx<|fa Yy<|fa Tw<|fa Tx fn)<|fa (fa Yz<|fa YA<|fa YC<|fa (h 2<|.tail _<|.tail _<|.head _)<|fa YD<|fa YF<|fa YG<|fa YH<|fa YI<|fa YJ<|fa Tz<|fa TA fn) fn)
 ⟨λb c hb hc=>n b ((by decide:∀b<3,b∈[0,1,2]) b hb) c ((by decide:∀c<12,c∈[0,1,2,3,4,5,6,7,8,9,10,11]) c hc),λb hb=>(fa qE (fa qF<|fa qG fn):∀b∈[0,1,2],F9 C6 b=true) b ((by decide:∀b<3,b∈[0,1,2]) b hb)⟩
theorem pK:Ep A3:=Q8 (fa PQ<|fa PT<|fa PV fn)
theorem pL:Ep BA:=Q8 (fa PS<|fa PU<|fa PW fn)
def cFR:Cs:=NI fr0 (NI fr1 rJ)
def aS:CF:=aT K5.params.args K5.scope [] cFR
def kSp:K AV:=λv σ=>v.cBool (λb=>both b (BU (σ.obj 0) Bv false)) false
def spS:St:=⟨1,.Ai (some (.Ao [])) .nil .nil,0,[],[],[],0,0⟩
theorem nN:qD (TD Mw) (aU Mw) aS [((HX,false),.obj 0)] spS kSp HD=true:=by kernel_rfl
theorem uX:Mo aS.params aS.defs [.obj 0]=some [((HX,false),.obj 0)]:=by kernel_rfl
theorem uW:MJ.get 2054=some (K5,[]):=by kernel_rfl
theorem wO(w:ArV):keepIn (KF w) (.ref 2054)=true:=by kernel_rfl
theorem NG{tp:AH}(h1:∀f∈[0,1,2,3,4,5,6,7,8,9],Al tp f C8 (Dc f)=true)(h2:∀f∈[0,1,2,3,4,5],Al tp f F2 (Gp f)=true):H8 tp:=
 ⟨λf h=>h1 f ((by decide:∀f<10,f∈[0,1,2,3,4,5,6,7,8,9]) f h),λf h=>h2 f ((by decide:∀f<6,f∈[0,1,2,3,4,5]) f h)⟩
theorem eL:H8 A3:=NG (fa XK<|fa XM<|fa XN<|fa XO<|fa XP<|fa XQ<|fa XR<|fa XS<|fa XT<|fa XU fn) (fa YK<|fa YL<|fa YM<|fa YN<|fa YO<|fa YP fn)
theorem eM:H8 BA:=NG (fa XW<|fa XY<|fa XZ<|fa Ya<|fa Yb<|fa Yc<|fa Yd<|fa Ye<|fa Yf<|fa Yg fn) (fa YQ<|fa YR<|fa YU<|fa YV<|fa YW<|fa YX fn)
theorem c7(h:kSp v σ=true):v= .bool true∧σ.obj 0=some (.Ao []):=
 AV.He (Q:=λv=>v= .bool true∧σ.obj 0=some (.Ao [])) h (λb h=>⟨bl h▸rfl,HJ (P:=λo=>o=some (.Ao [])) (br h) (λl h=>A6 h▸rfl) ff⟩) λz=>ff
def Zo(vs:List AV)(σ:St)(k:K AV):Bool:=FG vs λa=>a.Ay (λj=>BU (σ.obj j) (λf=>both (Bv f) (k (.bool true) ((σ.GV.atoms []).G7 j (.Ao [])))) false) false
section
variable{w:ArV}{h1:Asb}{os:Atn}
variable{A:Ar4}{σ:St}{W:Wd}{s:ArT}
theorem uV(RW:Ap (CW w h1 os) (KF w) tt Bi)(m:Nat)(ok:Cq (CW w h1 os) (m+3+30+20) cl):SL (CW w h1 os) ⟨TD Mw,cl⟩ (m+3+30+20) true K5.scope cFR K5.body:=
 have S:=Jl (RW.ag<|OR [] (λl=>l)<|AW msL 2054) (RW.uH (sum:=Aan) (loop:=Q1) (dc:=Mw) ok) (vQ λE σ=>rfl) 40 true K5.scope
 uY▸SL.cons (S _<|bl nM) (SL.cons (S _<|bl<|br nM)<|zA RW pK pL eL eM m)
theorem uZ(RW:Ap (CW w h1 os) (KF w) tt Bi)(m:Nat):Oc (CW w h1 os) (TD Mw) (m+3+30+20) aS 2054:=QB RW uW λcl ok=>uV RW m ok
theorem bQ(RW:Ap (CW w h1 os) (KF w) tt Bi){m:Nat}(f:BQ (m+3+30+20+1) true A)(I:Inv (CW w h1 os) W σ s)(ar:As A W)(hv:Ae (CW w h1 os) W s.heap vs cvs){k:K AV}(h:Zo vs σ k=true):
  Asu (model (CW w h1 os).prog (CW w h1 os).w) A (.call (.ref 2054) ⟨cvs,[]⟩) (AQ (CW w h1 os) k ke σ W s) s:=by
 obtain⟨v,rfl,h⟩:=Gk h;refine Ae.one (P:=λcvs=>Asu (model (CW w h1 os).prog (CW w h1 os).w) A (.call (.ref 2054) ⟨cvs,[]⟩) (AQ (CW w h1 os) k ke σ W s) s) hv λcv r=>?_
 refine VR.Ay (P:=λcv=>Asu (model (CW w h1 os).prog (CW w h1 os).w) A (.call (.ref 2054) ⟨[cv],[]⟩) (AQ (CW w h1 os) k ke σ W s) s) r h (λj p h hj=>I.BU hj h (λfu h z b=>?_) ff) ff;have pick:=get_mem hj;have ok:Cq (CW w h1 os) (m+3+30+20) (aU Mw):=by
  have q:=Ot RW (m+20) Mw
  rwa [show m+20+3+30=m+3+30+20 by lia] at q
 have ob:=b.imp id (Avw λz=>Avw λz=>Avw λz=>Avw λz=>Au2 (Au2 (Au1 λz=>trivial)));have Ig:Inv (CW w h1 os) ⟨[],[p],W.q,W.ls,W.fs,W.fo⟩ spS s:=I.Xh pick rfl rfl (λz z=>ns) I.fo ob;refine Aub (JS RW.lim (uZ RW m) ok f Ig (ar.fs rfl) (vs:=[.obj 0]) (cvs:=[.ref p.1]) (.cons (.obj (i:=0) (p:=p) rfl) .nil) (bs:=[((HX,false),.obj 0)]) uX (ke:=HD) nN) λr s' q=>?_
 induction r with
 |error e=>exact(Ac.HD q).elim
 |ok fl=>
  induction fl with
  |next=>exact q.elim
  |brk=>exact q.elim
  |cont=>exact q.elim
  |ret v=>obtain⟨av,σ',W',hk,X,I',r⟩:=q;obtain⟨rfl,ho⟩:=c7 hk;have B:Sub (CW w h1 os) σ W ⟨[],[p],W.q,W.ls,W.fs,W.fo⟩ s spS σ' W' s':=⟨I,X,I',λq hq=>Ash.mp hq▸pick,rfl⟩;have Y:=B.Uq rfl hj (ex:=[]) (er:=[]) rfl (λz z=>ns) (q:=W.q) (λz z=>rfl) (o:=.Ao []) ((I'.at (Ab X.τ (show([p]:List (Ar0×Ar0))[0]?=some p from rfl)) ho).imp id (Avw λz=>Avw λz=>Avw λz=>Avw λz=>Au2 (Au2 (Au1 λz=>trivial))));exact .mk _ _ _ (br h) Y.2 Y.1 (r.inv (P:=VR (CW w h1 os) _ _ (.bool true)) .bool)
end
def qN(a:Nat)(vs:List AV)(σ:St)(k:K AV):Option Bool:=bt (ArX a 2007) (some (Zq vs σ k)) (bt (ArX a 1960) (some (Zp vs σ k)) (bt (ArX a 2054) (some (Zo vs σ k)) none))
def TL:Tab:=tt.tab qN Q1 Mw
theorem dB:Qs TL OP 2 (.Bd<|.ref 2061) [.Bd (.ref BP)] e0 isTrue HD=true:=by kernel_rfl
theorem wL(w:ArV):keepIn (KF w) (.ref 2007)=true:=by kernel_rfl
theorem wK(w:ArV):keepIn (KF w) (.ref 1960)=true:=by kernel_rfl
theorem uQ(w:ArV):ZR (KF w) 2061=true:=by kernel_rfl
theorem RE{a:Nat}{k:K AV}{r:Bool}{P:Nat->Prop}(h:qN a vs σ k=some r)(h1:Zq vs σ k=r->P 2007)(h2:Zp vs σ k=r->P 1960)(h3:Zo vs σ k=r->P 2054):P a:=Aam h h1 h2 h3
section
variable{w:ArV}{h0 h1:Asb}{os:Atn}
structure sJ(h0 h1:Asb)(items:List ArR):Prop where
 sub:∀b o,h0.get? b=some o->h1.get? b=some o
 new:h0.get? BP=none
 obj:h1.get? BP=some {cls:=.type "list",data:=.seq items.toArray}
 len:items.length≤63
 nums:∀v∈items,∃i t,v= .int i t
theorem eV(RW:Ap (CW w h1 os) (KF w) tt Bi)(R0:Ap (CW w h0 os) (KF w) tt Bi){items:List ArR}(S:sJ h0 h1 items){n:Nat}(hn2:60≤n):FN (CW w h1 os) TL n:=λA σ W s a vs cvs k ke f I ar hv h=>
 RE (P:=λa=>Asu (model (CW w h1 os).prog (CW w h1 os).w) A (.call (.ref a) ⟨cvs,[]⟩) (AQ (CW w h1 os) k ke σ W s) s) (show qN a vs σ k=some true from h)
  (λe=>fC RW (m:=0) (f.le<|AtH (by decide) hn2) I ar hv e) (λe=>Zh R0 S.sub S.new S.obj S.len S.nums (m:=0) (f.le<|AtH (by decide) hn2) I ar hv e) λe=>bQ RW (m:=0) (f.le<|AtH (by decide) hn2) I ar hv e
theorem m6(RW:Ap (CW w h1 os) (KF w) tt Bi)(R0:Ap (CW w h0 os) (KF w) tt Bi){items:List ArR}(S:sJ h0 h1 items):Cq (CW w h1 os) (60+2) (Qs TL OP 2):=
 EJ 60 (RW.call (K4 RW (λE σ=>rfl) λn cl hn ok=>Hook.none λz z=>rfl) QT λa vs σ k r h=>RE (P:=λa=>keepIn (KF w) (.ref a)=true) h (λz=>wL w) (λz=>wK w) λz=>wO w) (Rv RW.sys)
  (λi=>eV RW R0 S (Axq<|Axl _ _)) 2
end
theorem O6(h:isTrue v σ=true):v= .bool true:=AV.He (Q:=λv=>v= .bool true) h (λb e=>congrArg AV.bool e) λz=>ff
noncomputable def W00:Wd:=⟨[],[],λz=>(.AR,.AR),λz=>[],[],[]⟩
theorem v9{C:Cx}{s:ArT}(hb:∀a o,C.h1.get? a=some o->s.heap.get? a=some o)(hg:s.gens= #[])(ho:s.os=C.os):Inv C W00 e0 s:=
 have nm:∀{α:Type} {a:α} {P:Prop},a∈([]:List α)->P:=λh=>absurd h AwY
 ⟨rfl,rfl,rfl,λa x=>ns,λp=>nm,λp=>nm,λi o=>ns,λi j p q=>ns,λp=>nm,λp=>nm,λa=>nm,hb,hg,ho,λa=>nm⟩
theorem aQ(w:ArV)(s s₁:ArT)(args:List WData)(vs:List ArR)(as:List Ar0)(D:B2 (K1 w) 2062 3501 s)(hg:s.gens= #[])(SQ:OL.row.toRowW.claim.pre args=true)(n8:AyA args=true)(L:Laid [] w s s₁ args vs as):
  Ar5 (model OL.prog w) AyK (Ayh (.ref 2061) vs) (λv s'=>AvL OL.row.toRowW.claim (AyN s.heap) (AuV s.heap) args s₁ (.ok<|.ret v) s')
   (λe s'=>AvL OL.row.toRowW.claim (AyN s.heap) (AuV s.heap) args s₁ (.error e) s') s₁:=by
 obtain⟨a,items,S⟩:=TB SQ L;have ea:a=BP:=S.at_.trans D.size;subst ea;refine S.vs.symm▸?_;have RW:Ap (CW w s₁.heap s₁.os) (KF w) tt Bi:=XH λa o h=>L.keeps _ _ (D.here a o h)
 have R0:Ap (CW w s.heap s₁.os) (KF w) tt Bi:=XH D.here;have I:Inv (CW w s₁.heap s₁.os) W00 e0 s₁:=v9 (λz z h=>h) L.gens rfl;have ar:As AyK W00:=⟨[],rfl,λe h=>absurd h AwY⟩;have ft:BQ 62 true AyK:=⟨by decide,by decide,λz=>rfl⟩;have ok:=m6 RW R0 ⟨L.keeps,S.new,S.obj,S.len,S.nums⟩;have run:=AQ.sp (ok.code AyK e0 _ s₁ 2061 [.Bd (.ref BP)] [.ref BP] isTrue HD ft I ar (FZ RW<|uQ w) (.cons .Bd .nil) dB);refine ArY run (λv s' q=>?_) λe s' q=>(Ac.HD q).elim
 obtain⟨av,σ',W',hk,X,I',r⟩:=q;rw[O6 hk] at r;exact r.inv (P:=λv=>AvL OL.row.toRowW.claim (AyN s.heap) (AuV s.heap) args s₁ (.ok<|.ret v) s') (b6 I'.base I'.os I'.gens)
theorem holds(PX:OL.wellSaid=true):OL.Holds:=head PX aQ
end
end Mine.Internal
theorem PySem.Challenge.cw_xw0060_01_holds : PySem.Challenge.rw_xw0060_01.Holds :=
  Mine.Internal.holds Mine.Internal.PX
