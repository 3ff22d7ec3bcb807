import PyProof.Rows.All
import Wide.All
import OpenK.AllK
import Lean
import PySem.Challenge.RW_xw0060_01
open PySem.Str renaming ofString → Ao1
open PySem renaming wpAny_bind → Ao2, Value → Ao3, wpAny_pure → Ao4, Shared → Ao5, World → Ao7, wpAny_mono → Apa, Addr → Apc, Around → Apg, wpAny → Aph, Heap → Apn, wpAny_loadPart' → Apq, wpAny_holding → ApA, DictEntry → ApE, sizeLine_eq → ApF, codeAny → ApG, Scope → ApH, wpAny_field → ApJ, wpAny_newObj_type → ApR, wpAny_standAt → ApT, wpAny_callSpecial?_slot → ApZ, Program → Ap3, mainGlobals → Ap4, wpAny_setField_rec → Aqg, wpAny_call_entry → Aqm, NameKind → Aqw, OsState → Aqz, builtinsNs → AqG, treeTable → AqL, wpAny_rule → AqR, notedBy → AqW, rawInt → Aq1, codeAny_builtin → Aq2, sizeLine → Aq9, wpAny_setField → Arb, wpAny_seqItems → Arc, call_isinstance → Arj, getMethod_builtin → Arm, codeAny_mono → Arn, nsFind → Aro, plainId_quiet → Arq, wpAny_getItem_list_slice → Art, Result → Aru, Stmt → Arw, Thread → Arx, richCompare_meets_room → ArE, cStatics → ArH, Model → ArJ, letOwnedTupleGo → ArK, codeAny_of_tree → ArL, holding → ArM, compareOp → ArN, wpAny_attempt → ArO, wpAny_loadPart_at → ArU, wpAny_loadPart → ArV, sysModules → ArX, isInstance → ArY, assignEach → ArZ, firstArgMember → Ar0, cLine → Ar4, mainNs → Ar5, IsPair → Ar6, Comprehension → Asa, compStart → Asc
open Nat renaming eq_of_beq_eq_true → Ao6, beq → Ao9, le_of_ble_eq_true → ApB, ble → Ap0, mod → Ap7, le_refl → Aqc, div → Aqy, le_of_not_lt → AqQ, le_trans → AqT, ne_of_lt → AqU, ne_of_gt → AqV, blt → Aq0, zero_le → ArB, beq_refl → ArD, succ → ArI, lt_succ_of_lt → ArT
open PySem.Heap renaming get?_push_of_some → Ao8, get?_push_size → Apl, get?_update_self → Apm, get?_update_other → Apw, SameBut → ApP, lt_size → Aqe, ExtBut → Aqs, size_push → AqF, get?_none_of_le → Ar1
open List renaming prefix_refl → Apb, length_append → Apd, getElem?_eq_some_iff → Ape, mem_cons → Apf, append_nil → Apj, getElem?_eq_getElem → Apk, getElem?_append_right → Apo, prefix_append → Aps, size_toArray → Apt, mem_singleton → Apu, lookup_cons → Apy, getElem?_append_left → Apz, nil_append → ApC, length_cons → ApD, mem_append → ApM, append_assoc → ApQ, length_map → Ap2, take_of_length_le → Ap5, map_cons → Aqb, zip_cons_cons → Aqf, take_append_drop → Aqh, drop_eq_nil_of_le → Aql, drop_eq_getElem_cons → Aqo, take_append_of_le_length → Aqt, nodup_cons → Aqx, forIn_cons → AqB, mem_of_getElem? → AqC, length_take → AqD, drop_of_length_le → AqK, length_nil → AqM, mem_append_right → AqO, mem_append_left → AqX, nodup_nil → AqY, forIn_nil → AqZ, lookup → Aq8, contains_cons → Ara, mem_map → Ark, length_range → Arl, cons_append → Ary, any_eq_true → Arz, eq_nil_of_length_eq_zero → ArC, getElem?_take → ArG, isEmpty_iff → Ar3, drop → Asd
open Int renaming ofNat → Api, ofNat_eq_natCast → ApU, eq_ofNat_of_zero_le → Aqa, le_refl → Aqd, fmod_eq_emod_of_nonneg → Aqj, natCast_nonneg → AqS, toNat_natCast → ArS
open Option.some renaming inj → Apr
open PySem.PyData renaming keyHash → Apv
open Pure renaming pure → Apx
open Bool renaming and_eq_true_iff → ApI, false_ne_true → ApV, false_eq_true → ApY, and_eq_true → Ap8, eq_iff_iff → AqA
open Prod.mk renaming inj → ApK
open PySem.Builtin.Range renaming rangeSize → ApL
open List.Mem renaming head → ApN, tail → ApO
open ForInStep renaming yield → ApS
open PySem.Heap.SameBut renaming update → ApW
open PySem.Obj renaming putName → ApX, mapSeq → Aqq, mapFields → AqE, data_mapFields → Ard, isFreed_of_fields → Arf
open PySem.F renaming slot_list_getitem → Ap1, slot_list_append → Arv, plainAttrs_list → ArA
open PySem.W renaming look_both → Ap6, noRoadLSs → Aqn, boot_o_0 → AqH, Frag → AqI, boot_o_4 → AqP, boot_o_1 → Aq4, Looks → Aq6, boot_heap → Ar2, findIn → Ar8
open Array renaming getElem?_eq_some_iff → Ap9, length_toList → Aq5
open PySem.Around renaming under_plainId → Aqi
open PySem.NameKind renaming free → Aqk, cell → ArP
open PySem.Value renaming none → Aqp, ref → Aqu, type → Aq3, notImplemented → ArW, bool → Asb
open PySem.Builtin.SmallTypes renaming ownedTupleHandOut → Aqr, ownedTupleIsFree → Aqv, nextOf → Ari
open PySem.Env renaming kindOf → AqJ
open Option renaming map_some → AqN, map_eq_some_iff → Aq7
open PySem.W.FB renaming slot_bytes_getitem → Are
open PySem.Builtin.Slice renaming slicePlaces → Arh
open PySem.AutoSeq1 renaming sub_tuple_tuple → Arp
open PySem.Builtin.Tuple renaming tupleExact → Ars
open PUnit renaming unit → ArF
open Ne renaming symm → ArQ
open PySem.TablesWhole renaming holds → ArR
open Lean renaming Name → Ar7
open PySem.ExcName renaming means → Ar9
set_option Elab.async false
set_option linter.unusedVariables false
set_option maxRecDepth 100000
set_option maxHeartbeats 0
open PySem PySem.W PySem.W.Fast PySem.Calls PyProof.Rows
namespace Mine
noncomputable section
abbrev KM:=List (Nat×Obj)
def AL:KM->Nat->Option Obj
 | [],_=>none
 |p::l,a=>match Ao9 p.1 a with
  |true=>some p.2 |false=>AL l a
def TY:KM->Nat->Obj->KM
 | [],_,_=>[]
 |p::l,a,o=>match Ao9 p.1 a with
  |true=>(p.1,o)::l |false=>p::TY l a o
theorem A6(p:Nat×Obj)(l:KM)(a:Nat):AL (p::l) a=if p.1=a then some p.2 else AL l a:=by
 show(match Ao9 p.1 a with |true=>some p.2 |false=>AL l a)=_;cases h:Ao9 p.1 a with
 |true=>rw[if_pos (Ao6 h)]
 |false=>rw[if_neg (Nat.ne_of_beq_eq_false h)]
theorem Hx(a:Nat)(o:Obj)(b:Nat):∀K:KM,AL (TY K a o) b=if a=b then(AL K a).map (λ_=>o) else AL K b
 | []=>by simp[TY,AL]
 |p::l=>by
  unfold TY;cases h:Ao9 p.1 a with
  |true=>have e:=Ao6 h;show AL ((p.1,o)::l) b=_;rw[A6,A6,A6];subst e;by_cases q:p.1=b<;>simp[q]
  |false=>
   have e:=Nat.ne_of_beq_eq_false h;show AL (p::TY l a o) b=_;rw[A6,Hx a o b l,A6,A6,if_neg e];by_cases q:p.1=b
   ·subst q;rw[if_pos rfl,if_neg<|ArQ e,if_pos rfl]
   ·rw[if_neg q,if_neg q]
structure Cr(K:KM)(n tk:Nat)(s:Ao5):Prop where
 size:s.heap.objs.size=n
 toks:s.toks=tk
 here:∀a o,AL K a=some o->s.heap.get? a=some o
def aS:List Frame->Bool
 | .gen .. ::_=>true |_=>false
def cW:List Nat->List Char->Bool
 | [],_=>true |_::_,[]=>false
 |n::l,c::r=>match Ao9 n c.toNat with
  |true=>cW l r |false=>false
theorem SW:∀{l r:List Char},l<+:r->cW (l.map Char.toNat) r=true
 | [],_,_=>rfl |a::l,[],h=>by simp at h
 |a::l,b::r,h=>by obtain⟨rfl,h'⟩:=List.cons_prefix_cons.mp h;show(match Ao9 a.toNat a.toNat with |true=>cW (l.map Char.toNat) r |false=>false)=true;rw[ArD];exact SW h'
def Xi:Code->Bool
 | .builtin id _=>match cW [108,105,102,101,116,105,109,101,46] id.toList with
  |true=>false |false=>true
 |_=>true
theorem Q0{id:String}{args:Args}(h:Xi (.builtin id args)=true):id.startsWith "lifetime."=false:=by
 cases q:id.startsWith "lifetime." with
 |false=>rfl |true=>have:=SW (String.startsWith_string_iff.mp q);unfold Xi at h;rw[show("lifetime.":String).toList.map Char.toNat= [108,105,102,101,116,105,109,101,46] from by decide] at this;dsimp only at h;rw[this] at h;cases h
def pD(n₀:Nat)(ann:Option Ao3)(a:Apc):Bool:=Ap0 n₀ a||a==Ar5||a==ArH||ann==some (.ref a)
def stepK(den:Code->Sem Fin)(p:Ap3)(w:Ao7)(n₀:Nat)(ann:Option Ao3)(K:KM)(n tk:Nat)(t:Arx):Option (KM×Nat×Nat×Arx):=
 match t.cur with
 | .load a _ k=>match AL K a with
  |some o=>some (K,n,tk,⟨k o,t.code,t.pos,t.stack⟩) |none=>none
 | .loadIfAlive a k=>match AL K a with
  |some o=>some (K,n,tk,⟨k (some o),t.code,t.pos,t.stack⟩) |none=>none
 | .update a _ f k=>match AL K a with
  |some o=>match pD n₀ ann a with
   |false=>none
   |true=>match(f o).isFreed with
    |true=>none |false=>some (TY K a (f o),n,tk,⟨k (),t.code,t.pos,t.stack⟩)
  |none=>none
 | .alloc o k=>match o.isFreed with
  |true=>none |false=>some ((n,o)::K,n+1,tk,⟨k n,t.code,t.pos,t.stack⟩)
 | .fresh k=>some (K,n,tk+1,⟨k tk,t.code,t.pos,t.stack⟩)
 | .pure (.done _)| .raise _=>match aS t.stack with
  |true=>none
  |false=>match step den p w {} t with
   | .go _ t'=>some (K,n,tk,t') | .halt _ _=>none
 | .pure (.again c)=>match Xi c with
  |false=>none
  |true=>match step den p w {} t with
   | .go _ t'=>some (K,n,tk,t') | .halt _ _=>none
 | .rule .. | .at .. | .point .. | .ask _ | .call .. | .handled .. | .stack _=>match step den p w {} t with
   | .go _ t'=>some (K,n,tk,t') | .halt _ _=>none
 |_=>none
def RK(K:KM)(s s':Ao5):Prop:=∀a o,s.heap.get? a=some o->AL K a=none->s'.heap.get? a=some o
theorem PM{n₀:Nat}{K:KM}{n tk:Nat}{r:KM×Nat×Nat×Arx}(h:stepK den p w n₀ ann K n tk t=some r):stepOk n₀ ann t=true:=by
 obtain⟨cur,code,pos,stack⟩:=t;cases cur with
 |pure f=>
  cases f with
  |done f=>rfl
  |again c=>
   simp only[stepK] at h;split at h
   ·cases h
   ·rename_i hm;cases c with
    |builtin id args=>have hm':=Q0 hm;simp[stepOk,Thread.calm,Thread.atCollectorCode,Thread.yieldsInsideHandler,hm']
    |_=>rfl
 |update a q f k=>
  simp only[stepK] at h;split at h
  ·split at h
   ·cases h
   ·rename_i hm;have hm':(Ap0 n₀ a||a==Ar5||a==ArH||ann==some (.ref a))=true:=hm;simp[stepOk,Thread.calm,Thread.atCollectorCode,Thread.yieldsInsideHandler];simpa [Bool.or_eq_true,or_assoc] using hm'
  ·cases h
 |_=>first |rfl |(cases h)
theorem Ib{n₀:Nat}{K K':KM}{n n' tk Ie:Nat}{t':Arx}(h:stepK den p w n₀ ann K n tk t=some (K',n',Ie,t'))(D:Cr K n tk s):
  ∃s',step den p w s t= .go s' t'∧Cr K' n' Ie s'∧RK K s s'∧(∀a,AL K a=none->(s.heap.get? a).isSome=true->AL K' a=none)∧s'.gens=s.gens∧s'.drawn=s.drawn∧s'.os=s.os:=by
 obtain⟨cur,code,pos,stack⟩:=t;obtain⟨heap,gens,drawn,toks,os⟩:=s;have same:∀{RD:Arx} (hs:step den p w ⟨heap,gens,drawn,toks,os⟩ ⟨cur,code,pos,stack⟩= .go ⟨heap,gens,drawn,toks,os⟩ RD),∃s',step den p w ⟨heap,gens,drawn,toks,os⟩ ⟨cur,code,pos,stack⟩= .go s' RD∧Cr K n tk s'∧RK K ⟨heap,gens,drawn,toks,os⟩ s'∧(∀a,AL K a=none->(heap.get? a).isSome=true->AL K a=none)∧s'.gens=gens∧s'.drawn=drawn∧s'.os=os:=λhs=>
  ⟨_,hs,D,λ_ _ e _=>e,λ_ e _=>e,rfl,rfl,rfl⟩
 have quiet:∀(hq:∀RD,(∃s₀,step den p w {} ⟨cur,code,pos,stack⟩= .go s₀ RD)->step den p w ⟨heap,gens,drawn,toks,os⟩ ⟨cur,code,pos,stack⟩= .go ⟨heap,gens,drawn,toks,os⟩ RD),
   (match step den p w {} ⟨cur,code,pos,stack⟩ with | .go _ t'=>some (K,n,tk,t')| .halt _ _=>none)=some (K',n',Ie,t')->∃s',step den p w ⟨heap,gens,drawn,toks,os⟩ ⟨cur,code,pos,stack⟩= .go s' t'∧Cr K' n' Ie s'∧RK K ⟨heap,gens,drawn,toks,os⟩ s'∧(∀a,AL K a=none->(heap.get? a).isSome=true->AL K' a=none)∧s'.gens=gens∧s'.drawn=drawn∧s'.os=os:=by
  intro hq e;cases hs:step den p w {} ⟨cur,code,pos,stack⟩ with
  |halt o s₂=>rw[hs] at e;cases e
  |go s₂ t₂=>rw[hs] at e;cases e;exact same (hq _ ⟨_,hs⟩)
 cases cur with
 |pure f=>
  cases f with
  |again c=>
   simp only[stepK] at h;split at h
   ·cases h
   ·exact quiet (λRD ⟨s₀,e⟩=>by simp only[step] at e ⊢;cases e;rfl) h
  |done f=>
   simp only[stepK] at h;split at h
   ·cases h
   ·rename_i hg;refine quiet (λRD ⟨s₀,e⟩=>?_) h;cases stack with
    |nil=>simp[step,finish,leftWithCleanup] at e
    |cons f rest=>cases f with
     |ret=>simp only[step] at e ⊢;cases e;rfl
     |gen=>cases hg
 |raise e₀=>
  simp only[stepK] at h;split at h
  ·cases h
  ·rename_i hg;refine quiet (λRD ⟨s₀,e⟩=>?_) h;cases stack with
   |nil=>simp[step,finish,leftWithCleanup] at e
   |cons f rest=>cases f with
    |ret=>simp only[step] at e ⊢;cases e;rfl
    |gen=>cases hg
 |rule tag k=>exact quiet (λRD ⟨s₀,e⟩=>by simp only[step] at e ⊢;cases e;rfl) h
 | «at» q k=>exact quiet (λRD ⟨s₀,e⟩=>by simp only[step] at e ⊢;cases e;rfl) h
 |point l k=>exact quiet (λRD ⟨s₀,e⟩=>by simp only[step] at e ⊢;cases e;rfl) h
 |ask k=>exact quiet (λRD ⟨s₀,e⟩=>by simp only[step] at e ⊢;cases e;rfl) h
 |call c hd g l k=>exact quiet (λRD ⟨s₀,e⟩=>by simp only[step] at e ⊢;cases e;rfl) h
 |handled own k=>exact quiet (λRD ⟨s₀,e⟩=>by simp only[step] at e ⊢;cases e;rfl) h
 |stack k=>exact quiet (λRD ⟨s₀,e⟩=>by simp only[step] at e ⊢;cases e;rfl) h
 |load a q k=>
  simp only[stepK] at h;split at h
  ·rename_i o e;cases h;have ho:=D.here a o e;exact same (by simp only[step];rw[show heap.get? a=some o from ho])
  ·cases h
 |loadIfAlive a k=>
  simp only[stepK] at h;split at h
  ·rename_i o e;cases h;have ho:=D.here a o e;exact same (by simp only[step];rw[show heap.get? a=some o from ho])
  ·cases h
 |fresh k=>cases h;refine⟨⟨heap,gens,drawn,toks+1,os⟩,?_,⟨D.size,congrArg (·+1) D.toks,D.here⟩,λ_ _ e _=>e,λ_ e _=>e,rfl,rfl,rfl⟩;simp only[step];rw[show toks=tk from D.toks]
 |alloc o k=>
  simp only[stepK] at h;split at h
  ·cases h
  ·rename_i hf;cases h;have hn:heap.objs.size=n:=D.size;refine⟨⟨heap.push o,gens,drawn,toks,os⟩,?_,⟨by show(heap.push o).objs.size=n+1;rw[AqF,hn],D.toks,λa o' e=>?_⟩,λa o' e _=>Ao8 _ e,λa e q=>?_,rfl,rfl,rfl⟩
   ·simp only[step];rw[hn]
   ·rw[A6] at e;by_cases q:n=a
    ·subst q;rw[if_pos rfl] at e;cases e;rw[←hn];exact Apl _ hf
    ·rw[if_neg q] at e;exact Ao8 _ (D.here a o' e)
   ·rw[A6];by_cases z:n=a
    ·obtain⟨o',Dx⟩:=Option.isSome_iff_exists.mp q;have:=Aqe Dx;rw[show heap.objs.size=n from hn,z] at this;exact absurd this (Nat.lt_irrefl _)
    ·rw[if_neg z];exact e
 |update a q f k=>
  simp only[stepK] at h;split at h
  ·rename_i o e;split at h
   ·cases h
   split at h
   ·cases h
   ·rename_i hf;cases h;have ho:heap.get? a=some o:=D.here a o e;refine⟨⟨heap.update a f,gens,drawn,toks,os⟩,?_,⟨(ApW (h:=heap) (a:=a) (f:=f)).1.trans D.size,D.toks,λb o' e'=>?_⟩,λb o' e' z=>?_,λb z _=>?_,rfl,rfl,rfl⟩
    ·simp only[step];rw[ho];rfl
    ·rw[Hx] at e';by_cases hb:a=b
     ·subst hb;rw[if_pos rfl,e] at e';cases e';exact Apm _ ho hf
     ·rw[if_neg hb] at e';exact(Heap.get?_update_ne _ _ _ _<|ArQ hb).trans (D.here b o' e')
    ·have hb:b≠a:=λq=>by rw[q,e] at z;cases z
     exact(Heap.get?_update_ne _ _ _ _ hb).trans e'
    ·rw[Hx];have hb:a≠b:=λq=>by rw[←q,e] at z;cases z
     rw[if_neg hb];exact z
  ·cases h
 |_=>cases h
def segK(tb:String->Option Builtin)(p:Ap3)(w:Ao7)(n₀:Nat)(ann:Option Ao3)(b:Nat):Nat->KM->Nat->Nat->Arx->Option (Flow×KM×Nat×Nat×Code×Pos)
 |0,_,_,_,_=>none
 |N+1,K,n,tk,t=>match endAt b t with
  |some f=>some (f,K,n,tk,t.code,t.pos)
  |none=>match stepK (denote tb) p w n₀ ann K n tk t with
   |some (K',n',Ie,t')=>segK tb p w n₀ ann b N K' n' Ie t' |none=>none
theorem J4{n₀:Nat}{b:Nat}:∀{N:Nat} {K K':KM} {n n' tk Ie:Nat} {t:Arx} {f:Flow} {c:Code} {q:Pos},segK tb p w n₀ ann b N K n tk t=some (f,K',n',Ie,c,q)->
  ∀{s:Ao5},Cr K n tk s->∃s',segRun tb p w n₀ ann b N s t=some (f,s',c,q)∧Cr K' n' Ie s'∧RK K s s'∧(∀a,AL K a=none->(s.heap.get? a).isSome=true->AL K' a=none)∧s'.gens=s.gens∧s'.drawn=s.drawn∧s'.os=s.os
 |0,_,_,_,_,_,_,_,_,_,_,h,_,_=>by cases h
 |N+1,K,K',n,n',tk,Ie,t,f,c,q,h,s,D=>by
  unfold segK at h;unfold segRun;cases he:endAt b t with
  |some f'=>rw[he] at h;cases h;exact⟨s,rfl,D,λ_ _ e _=>e,λ_ e _=>e,rfl,rfl,rfl⟩
  |none=>
   rw[he] at h;cases hs:stepK (denote tb) p w n₀ ann K n tk t with
   |none=>rw[hs] at h;cases h
   |some r=>
     obtain⟨K₁,n₁,tk₁,t₁⟩:=r;have hk:=PM hs;rw[hk];rw[hs] at h;obtain⟨s₁,e1,D1,S1,Z1,g1,d1,o1⟩:=Ib hs D;obtain⟨s',e2,D2,S2,Z2,g2,d2,o2⟩:=J4 h D1;refine⟨s',?_,D2,λa o e z=>S2 a o (S1 a o e z) (Z1 a z (by rw[e];rfl)),λa z i=>?_,g2.trans g1,d2.trans d1,o2.trans o1⟩
     ·dsimp only;rw[e1];exact e2
     ·obtain⟨o,ho⟩:=Option.isSome_iff_exists.mp i;exact Z2 a (Z1 a z i) (by rw[S1 a o ho z];rfl)
lay_quick Mine.segK
def Agree(h h':Apn):Prop:=h.get? 0=h'.get? 0∧h.get? 2=h'.get? 2∧h.get? 3=h'.get? 3∧h.get? 4=h'.get? 4
section
variable{h h':Apn}{a:Apc}
theorem EY(e:h.get? a=h'.get? a):h.isNs a=h'.isNs a:=by unfold Heap.isNs;rw[e]
theorem GX(e:h.get? a=h'.get? a):h.nsKeys a=h'.nsKeys a:=by unfold Heap.nsKeys;rw[e]
theorem Ud(e:h.get? a=h'.get? a):h.nsPairs a=h'.nsPairs a:=by unfold Heap.nsPairs;rw[e]
theorem Fx(e:h.get? a=h'.get? a):h.nsMap a=h'.nsMap a:=by funext x;unfold Heap.nsMap;rw[e]
end
theorem Up{k:Apn}{ms:List Str}(A:Agree h h')(B:Agree k k'):staticsOk ms h k=staticsOk ms h' k':=by unfold staticsOk;rw[EY (a:=ArH) A.2.1,EY (a:=ArH) B.2.1,GX (a:=ArH) A.2.1,GX (a:=ArH) B.2.1,Fx (a:=ArH) A.2.1,Fx (a:=ArH) B.2.1]
theorem ZG{p:Ap3}(A:Agree h h'):namesBound p h=namesBound p h':=by unfold namesBound;rw[EY (a:=Ap4) A.2.2.1,GX (a:=Ap4) A.2.2.1]
theorem pA{k:Apn}(A:Agree h h')(B:Agree k k'):laidKept h k=laidKept h' k':=by unfold laidKept;rw[EY (a:=Ap4) A.2.2.1,EY (a:=Ap4) B.2.2.1,Fx (a:=Ap4) A.2.2.1,Fx (a:=Ap4) B.2.2.1]
theorem sP{ms:List Str}(A:Agree h h'):h.accountedOkI ms=h'.accountedOkI ms:=by unfold Heap.accountedOkI;rw[EY (a:=ArH) A.2.1,GX (a:=ArH) A.2.1,Fx (a:=ArH) A.2.1]
theorem tA(A:Agree h h'):h.bltView=h'.bltView:=by unfold Heap.bltView;rw[Ud (a:=AqG) A.1]
def QW(p:Ap3)(name:Str)(aL:Apc)(h₀ h₁:Apn):Bool:=
 staticsOk (importedModules p.main.body) h₀ h₁&&namesBound p h₁&&laidKept h₀ h₁&&h₁.accountedOkI (importedModules p.main.body)&&h₁.isNs AqG&&h₁.isNs Ap4&&
 (match h₁.nsMap Ap4 "__builtins__" with |some (.ref b)=>b==4 |_=>false)&&(match h₁.nsMap Ap4 name with |some (.ref a)=>a==aL |_=>false)
theorem ZF(P:Params):(Ar2 P).isNs Ap4=true:=by kernel_rfl
theorem UX(P:Params):(Ar2 P).nsMap Ap4 "__annotations__"=some (.ref 6):=by kernel_rfl
theorem ML{l:OpenLaw}{N M n₁ t₁ aL:Nat}{K₁:Ao7->KM}{h₀ h₁:Ao7->Apn}{slots:Array (Option Ao3)}
  (Rx:l.wellSaid=true)(hb:l.prog.bare)(hop:opensWell l.prog=true)(hw:l.row.toRowW.promised)(JA:(frees l.row.toRowW&&l.row.within.isEmpty)=true)(hwr:l.writes=false)
  (e0:opening l.prog=plainProg l.prog.main.scope.names)(hN:Ap0 600 N=true)(hf:∀s,fenceModules? l.prog s=some s)
  (run:∀(w:Ao7) (s₀:Ao5),s₀.heap=Ar2 w.params->s₀.gens= #[]->s₀.toks=boot_toks->
   ∃s₁,topRun AqL l.prog w 11 (some<|.ref 6) M s₀ (topStub l.prog)=some s₁∧s₁.gens= #[]∧Cr (K₁ w) n₁ t₁ s₁)
  (a0:∀w:Ao7,Agree (Ar2 w.params)<|h₀ w)(a1:∀(w:Ao7) (s:Ao5),Cr (K₁ w) n₁ t₁ s->Agree s.heap (h₁ w))
  (xS:∀w:Ao7,QW l.prog l.name aL (h₀ w) (h₁ w)=true)(blt:∀w:Ao7,(h₁ w).bltView=bltViewBooted)
  (bm:∀w:Ao7,AL (K₁ w) 4=some ⟨.type "module",some AqG,.plain,slots⟩)
  (pin:∀(w:Ao7),∃o fd args body scope,AL (K₁ w) aL=some o∧o.data= .func fd∧l.prog.theDef l.name=some (args,body,scope)∧fd.name=l.name∧fd.qualname=l.name∧fd.params=args∧fd.body= .stmts body∧fd.scope=scope∧
   fd.globals=Ar5∧fd.closure= []∧fd.builtins=AqG∧args.defaults= []∧fd.defaults= .none∧kwWritten? args.kwonlyargs args.kw_defaults=some []∧fd.kwdefaults= .none)
  (call:∀(w:Ao7) (s s₁:Ao5) (args:List WData) (vs:List Ao3) (as:List Apc),Cr (K₁ w) n₁ t₁ s->s.gens= #[]->l.row.toRowW.claim.pre args=true->WData.layableAll args=true->Laid [] w s s₁ args vs as->
   Aph (model l.prog w) callerA (PySem.call (.ref aL) vs) (λv s'=>GoodWG l.row.toRowW.claim (classAt s.heap) (Ar9 s.heap) args s₁ (.ok<|.ret v) s')
    (λe s'=>GoodWG l.row.toRowW.claim (classAt s.heap) (Ar9 s.heap) args s₁ (.error e) s') s₁):l.Holds:=by
 obtain⟨AeH,hwi⟩:=ApI.mp JA;obtain⟨iW,hu,ha,hap,hm⟩:=frees_parts AeH;refine⟨Rx,row_said Rx,hw,⟨hb,hop,rfl⟩,hw.witness,λw=>?_⟩;have h:=boot_open e0 hN hf w;obtain⟨s₀,h2,e'⟩:=Aq7.mp h;rw[←table_eq_tree] at h2;obtain⟨s,h4,h5⟩:=Option.bind_eq_some_iff.mp h2;have A:=AfterImport.of_importEnds h4;refine⟨⟨s,A⟩,λs' Kx=>?_⟩;obtain rfl:s'=s:=AfterImport.unique Kx A;have z:s₀.asleep:=Shared.asleep_of_life (fence_lifeW h5) A.life;have E1:s₀.heap=Ar2 w.params:=congrArg Prod.fst e';have E2:s₀.gens= #[]:=congrArg (λx=>x.2.1) e';have E3:s₀.toks=boot_toks:=congrArg (λx=>x.2.2.2) e';obtain⟨s₁,r,g1,D⟩:=run w s₀ E1 E2 E3;rw[←table_eq_tree] at r;obtain⟨ra,lf,os,fr⟩:=topRun_spec _ _ _ _ z r;have A0:Agree s₀.heap (h₀ w):=E1▸a0 w;have A1:=a1 w s₁ D;have L:=xS w;unfold QW at L;simp only[Ap8] at L;obtain⟨⟨⟨⟨⟨⟨⟨L1,L2⟩,L3⟩,L4⟩,L5⟩,L6⟩,L7⟩,L8⟩:=L;rw[←Up A0 A1] at L1;rw[←ZG A1] at L2;rw[←pA A0 A1] at L3;rw[←sP A1] at L4;rw[←EY (a:=AqG) A1.1] at L5;rw[←EY (a:=Ap4) A1.2.2.1] at L6;have hmm:s₁.heap.nsMap Ap4=(h₁ w).nsMap Ap4:=Fx (a:=Ap4) A1.2.2.1;rw[←hmm] at L7 L8;have hbm:s₁.heap.nsMap Ap4 "__builtins__"=some (.ref 4):=by
  revert L7
  split
  ·rename_i b e;intro q;rw[e,beq_iff_eq.mp q]
  ·intro q;cases q
 have u7:s₁.heap.nsMap Ap4 l.name=some (.ref aL):=by
  revert L8
  split
  ·rename_i b e;intro q;rw[e,beq_iff_eq.mp q]
  ·intro q;cases q
 have Aer:s₁.heap.bltView=bltViewBooted:=(tA A1).trans (blt w);have z1:s₁.asleep:=Shared.asleep_of_life lf z;have hT:TopRan l.prog w s₀ s₁:=⟨ra,lf,Shared.rest_eq os,λb o hb hn=>fr b o (by
   have:=Aqe hb;rw[E1] at this;exact this) (λq=>hn (.inl q)) (λq=>hn (.inr<|.inl q)) (λq=>hn (.inr (.inr (by
   have hg:s₀.heap.isNs Ap4=true:=by rw[E1];exact ZF _
   exact(Pin.globalOf_eq hg _).trans<|(E1▸UX w.params).trans q)))) hb,
  Heap.accountedI_of_ok L4,statics_of_ok L1,Pin.keysAreStrs_of L6,λx hx=>(Pin.builtinOf_eq L5 x).trans (Heap.of_bltView L5 Aer x hx),
  ⟨4,_,(Pin.globalOf_eq L6 _).trans hbm,D.here _ _<|bm w,rfl,rfl⟩,λg hg=>(by rw[g1] at hg;simp at hg),names_of_bound L2,laid_of_kept L3⟩
 refine⟨s₀,h5,E2,s₁,hT,λn hn=>?_,λx hx=>(nomatch hx),λx hx=>(nomatch hx),?_⟩
 ·obtain rfl:n=l.name:=by
   have:n∈[l.name]:=hn;simpa using this
  obtain⟨o,fd,args,body,scope,p1,p2,p3,p4,p5,p6,p7,p8,p9,p10,p11,p12,p13,p14,p15⟩:=pin w;exact⟨aL,o,fd,args,body,scope,(Pin.globalOf_eq L6 _).trans u7,D.here _ _ p1,p2,p3,p4,p5,p6,p7,p8,p9,p10,p11,.inl ⟨p12,p13⟩,[],p14,.inl ⟨rfl,p15⟩⟩
 ·refine ClaimW.callFrom_of_specG (c:=l.row.toRowW.claim) (tree:=λvs=>do match←nsGet Ar5 l.name with
   |some f=>do ret (←PySem.call f vs)
   |none=>unsupported "claim.caller:no-such-global") z1 g1 λargs TQ oN ord vF=>?_
  obtain⟨⟨vs,s₂⟩,Ou⟩:=Option.isSome_iff_exists.mp (layAllW_isSome (P:=w.params) (ord:=ord) (R:=[]) (cl:=classAt s₁.heap) (λc hc=>(nomatch hc)) args l.row.args s₁ (pre_splitW (r:=l.row.toRowW) TQ).1);have keeps:=layAllW_keeps _ _ _ Ou;have hal:=layAllW_rest _ _ _ Ou;obtain⟨as,vG,hin,hold⟩:=reads_layAllW vF _ _ _ Ou oN s₂.heap (λ_ _ e=>e);have LL:Laid [] w s₁ s₂ args vs as:=⟨⟨ord,vF,Ou⟩,vG,hin,hold,keeps,hal.1.trans g1,hal.2.2.1⟩;have hi:=ident_freeW hu ha hap;have vK:l.row.toRowW.claim.within= []:=Ar3.mp hwi;have cc:=call w s₁ s₂ args vs as D g1 TQ oN LL;have hg₂:s₂.heap.Ns Ap4 (s₁.heap.nsMap Ap4):=by obtain⟨o,es,ep,x1,x2⟩:=Heap.Ns.of_isNs L6;exact⟨o,es,ep,keeps _ _ x1,x2⟩
  have nw:l.row.writes=true->False:=λq=>absurd (show l.writes=true from q) (by rw[hwr];exact ApV)
  refine⟨vs,s₂,Ou,Ao2<|wpAny_nsGet hg₂ ?_⟩;rw[u7];exact Ao2 (Apa cc (λv s' g=>Ao4 ⟨_,rfl,have y:=g.laid (c:=l.row.toRowW.claim) iW vK hi LL;⟨y.1,y.2.1,y.2.2,λq=>(nw q).elim⟩⟩) λe s' g=>have y:=g.laid (c:=l.row.toRowW.claim) iW vK hi LL;⟨y.1,y.2.1,y.2.2,λq=>(nw q).elim⟩)
def goK(tb:String->Option Builtin)(p:Ap3)(w:Ao7)(n₀:Nat)(ann:Option Ao3):Nat->KM->Nat->Nat->Arx->Option (KM×Nat×Nat×Arx)
 |0,K,n,tk,t=>some (K,n,tk,t)
 |N+1,K,n,tk,t=>match through t with
  |true=>none
  |false=>match stepK (denote tb) p w n₀ ann K n tk t with
   |some (K',n',Ie,t')=>goK tb p w n₀ ann N K' n' Ie t' |none=>none
theorem Lc{n₀:Nat}:∀{N:Nat} {K K':KM} {n n' tk Ie:Nat} {t t':Arx},goK tb p w n₀ ann N K n tk t=some (K',n',Ie,t')->
  ∀{s:Ao5},Cr K n tk s->∃s',topGo tb p w n₀ ann N s t=some (s',t')∧Cr K' n' Ie s'∧s'.gens=s.gens
 |0,_,_,_,_,_,_,_,_,h,s,D=>by cases h;exact⟨s,rfl,D,rfl⟩
 |N+1,K,K',n,n',tk,Ie,t,t',h,s,D=>by
  unfold goK at h;unfold topGo;cases he:through t with
  |true=>rw[he] at h;cases h
  |false=>
   rw[he] at h;cases hs:stepK (denote tb) p w n₀ ann K n tk t with
   |none=>rw[hs] at h;cases h
   |some r=>obtain⟨K₁,n₁,tk₁,t₁⟩:=r;rw[hs] at h;obtain⟨s₁,e1,D1,_,_,g1,_,_⟩:=Ib hs D;obtain⟨s',e2,D2,g2⟩:=Lc h D1;refine⟨s',?_,D2,g2.trans g1⟩;rw[PM hs];dsimp only;rw[e1];exact e2
def kz:List Nat->List (Option Obj)->KM
 |a::as,some o::os=>(a,o)::kz as os |_::as,none::os=>kz as os |_,_=>[]
theorem IE(K:KM):∀(as:List Nat) (a:Nat) (o:Obj),AL (kz as<|as.map<|AL K) a=some o->AL K a=some o
 | [],_,_,h=>by cases h
 |b::as,a,o,h=>by
  rw[Aqb] at h;cases q:AL K b with
  |none=>rw[q] at h;exact IE K as a o h
  |some x=>
   rw[q] at h;have h':AL ((b,x)::kz as (as.map<|AL K)) a=some o:=h;rw[A6] at h';by_cases e:b=a
   ·subst e;rw[if_pos rfl] at h';rw[q];exact h'
   ·rw[if_neg e] at h';exact IE K as a o h'
def ob(as:List Nat)(r:Option (Flow×KM×Nat×Nat×Code×Pos)):Option (Flow×List (Option Obj)×Nat×Nat×Code×Pos):=match r with
 |some (f,K,n,tk,c,p)=>some (f,as.map (AL K),n,tk,c,p) |none=>none
def obG(as:List Nat)(r:Option (KM×Nat×Nat×Arx)):Option (List (Option Obj)×Nat×Nat×Arx):=match r with
 |some (K,n,tk,t)=>some (as.map (AL K),n,tk,t) |none=>none
theorem Ln(K X:KM)(a:Nat):AL (K++X) a=(AL K a).or (AL X a):=by
 induction K with
 |nil=>rfl |cons p K ih=>rw[Ary,A6,A6,ih];by_cases e:p.1=a<;>simp[e]
theorem QI{K:KM}{a:Nat}(h:a∉K.map (·.1)):AL K a=none:=by
 induction K with
 |nil=>rfl |cons p K ih=>rw[A6,if_neg (λe=>h (by rw[Aqb,e];exact .head _)),ih λq=>h (by rw[Aqb];exact .tail _ q)]
theorem TX{K:KM}{a:Nat}{o:Obj}(hd:(K.map (·.1)).Nodup)(h:(a,o)∈K):AL K a=some o:=by
 induction K with
 |nil=>cases h
 |cons p K ih=>
  rw[A6];rw[Aqb,Aqx] at hd;rcases Apf.mp h with e |h
  ·subst e;exact if_pos rfl
  ·rw[if_neg (λe=>hd.1 (by rw[e];exact List.mem_map_of_mem (f:=λx:Nat×Obj=>x.1) h))];exact ih hd.2 h
structure RE(K R:KM)(n tk:Nat)(s:Ao5):Prop where
 k:Cr K n tk s
 r:∀p∈R,s.heap.get? p.1=some p.2
 g:s.gens= #[]
theorem EL{p:Ap3}{w:Ao7}{c:Code}{pos':Pos}{N n tk n' Ie:Nat}{t:Arx}{K K2 X R:KM}{as:List Nat}{os:List (Option Obj)}
  (h:ob as (segK AqL p w 11 (some<|.ref 6) 1 N K n tk t)=some (.next,os,n',Ie,c,pos'))(hz:kz as os=K2++X)
  (hX:((K2++X).map (·.1)).Nodup)(hR:∀b∈R.map (·.1),b∉K.map (·.1)){s:Ao5}(D:RE K R n tk s):
  ∃s',segRun AqL p w 11 (some<|.ref 6) 1 N s t=some (.next,s',c,pos')∧RE K2 (X++R) n' Ie s':=by
 cases hs:segK AqL p w 11 (some<|.ref 6) 1 N K n tk t with
 |none=>rw[hs] at h;cases h
 |some r=>
  obtain⟨f,K',n₁,tk₁,c₁,p₁⟩:=r;rw[hs] at h;have h':some (f,as.map<|AL K',n₁,tk₁,c₁,p₁)=some (Flow.next,os,n',Ie,c,pos'):=h;simp only[Option.some.injEq,Prod.mk.injEq] at h';obtain⟨rfl,rfl,rfl,rfl,rfl,rfl⟩:=h';obtain⟨s',e,D',S,_,g,_,_⟩:=J4 hs D.k;have hk:∀a o,AL (K2++X) a=some o->s'.heap.get? a=some o:=λa o q=>D'.here a o (IE K' as a o (by rw[hz];exact q))
  refine⟨s',e,⟨D'.size,D'.toks,λa o q=>hk a o (by rw[Ln,q];rfl)⟩,λz bD=>?_,g.trans D.g⟩;rcases ApM.mp bD with m |m
  ·exact hk z.1 z.2 (TX hX<|AqO _ m)
  ·exact S z.1 z.2 (D.r z m) (QI<|hR _<|List.mem_map_of_mem m)
theorem BS{p:Ap3}{w:Ao7}{env:Env}{c:Code}{q pos p':Pos}{n N:Nat}{s s' r:Ao5}{B:List Arw}(i j:Nat)
  (h:segRun AqL p w 11 (some<|.ref 6) 1 n s (piecesOf ((B.drop i).take j) env c pos [topFrame q])=some (.next,s',c,p'))
  (k:topRun AqL p w 11 (some<|.ref 6) N s' (restOf (B.drop<|i+j) env c p' [topFrame q])=some r):topRun AqL p w 11 (some<|.ref 6) (n+N) s (restOf (B.drop i) env c pos [topFrame q])=some r:=by
 have e:B.drop i=(B.drop i).take j++B.drop (i+j):=by rw[←List.drop_drop,Aqh]
 rw[e];exact piece_app h k
theorem nV{p:Ap3}{w:Ao7}{env:Env}{c:Code}{q pos:Pos}{s:Ao5}:topRun AqL p w 11 (some<|.ref 6) 2 s (restOf [] env c pos [topFrame q])=some s:=rfl
lay_quick Mine.segK Mine.goK
abbrev PR:Ap3:=PySem.Challenge.pw_xw0060_01
abbrev OL:OpenLaw:=PySem.Challenge.rw_xw0060_01
def rZ:Look:={strict:= !(importedModules PR.main.body).all cThrough.contains,foot:=none,bare:=(["vars","dir","locals"]:List Str).filter (readsOut PR PR.main.body)}
def Lp:Look:={strict:=false,foot:=none,bare:=[]}
def xP:Bool:=rZ.strict==false&&rZ.bare== []
def S4:Bool:=OL.row.loose.isEmpty&&OL.row.makers.isEmpty&&
 (OL.row.records.isEmpty||OL.row.raises.all λct=>ct.1 != .builtin "AttributeError"&&ct.1 != .builtin "TypeError")&&
 (OL.row.raises.all λct=>match ct.1 with | .builtin n=> !OL.row.prog.boundNames.contains (Ao1 n)&& !ofTheWorld.contains n | .own _=>true)&&
 decide (OL.row.records.map (·.1)).Nodup&&(OL.row.records.all λx=> !x.1.opensWith "__"&& !builtinNamed x.1&&OL.row.prog.boundNames.contains x.1&&x.2.all λf=> !f.1.opensWith "__")&&
 OL.row.toRowW.solid&&OL.row.pre.litsOk&&OL.row.post.litsOk&&OL.row.raises.all (·.2.litsOk)&&
 OL.row.mutates.all (λi=>match OL.row.args[i]? with
  |some sh=> !sh.arms.any WShape.isObj
  |none=>false)&&
 OL.row.within.all (λi=>decide (i<OL.row.args.length))&&OL.row.same.all (λi=>decide (i<OL.row.args.length))
def M1:Bool:=sreFenced PR.main
theorem OJ:M1=M1:=rfl
name_quick Afn for M1 by OJ
theorem o9:M1=true:=Afn_eq.trans (by kernel_rfl)
def II:Bool:=((moduleNames PR.main.body).isEmpty||lookedIntoSs (moduleNames PR.main.body) PR.main.body)
theorem MY:II=II:=rfl
name_quick Ac3 for II by MY
theorem b6:II=true:=Ac3_eq.trans (by kernel_rfl)
def M0:Bool:=namesResolve PR
theorem OH:M0=M0:=rfl
name_quick Afl for M0 by OH
theorem o7:M0=true:=Afl_eq.trans (by kernel_rfl)
def OG:Bool:=xP
theorem QU:OG=OG:=rfl
name_quick Ahm for OG by QU
theorem xH:OG=true:=Ahm_eq.trans (by kernel_rfl)
def GF:Bool:=Aqn Lp ((PR.main.body.drop 0).take 31)
theorem KC:GF=GF:=rfl
name_quick wA for GF by KC
theorem WQ:GF=true:=wA_eq.trans (by kernel_rfl)
def GG:Bool:=Aqn Lp ((PR.main.body.drop 31).take 31)
theorem KD:GG=GG:=rfl
name_quick wB for GG by KD
theorem WR:GG=true:=wB_eq.trans (by kernel_rfl)
def GH:Bool:=Aqn Lp ((PR.main.body.drop 62).take 31)
theorem KH:GH=GH:=rfl
name_quick wC for GH by KH
theorem WS:GH=true:=wC_eq.trans (by kernel_rfl)
def GI:Bool:=Aqn Lp ((PR.main.body.drop 93).take 31)
theorem KI:GI=GI:=rfl
name_quick wD for GI by KI
theorem WT:GI=true:=wD_eq.trans (by kernel_rfl)
def GJ:Bool:=Aqn Lp ((PR.main.body.drop 124).take 31)
theorem KJ:GJ=GJ:=rfl
name_quick wF for GJ by KJ
theorem WU:GJ=true:=wF_eq.trans (by kernel_rfl)
def GK:Bool:=Aqn Lp ((PR.main.body.drop 155).take 31)
theorem KL:GK=GK:=rfl
name_quick wG for GK by KL
theorem WV:GK=true:=wG_eq.trans (by kernel_rfl)
def GL:Bool:=Aqn Lp ((PR.main.body.drop 186).take 31)
theorem KN:GL=GL:=rfl
name_quick wH for GL by KN
theorem WW:GL=true:=wH_eq.trans (by kernel_rfl)
def GN:Bool:=Aqn Lp ((PR.main.body.drop 217).take 31)
theorem KO:GN=GN:=rfl
name_quick wI for GN by KO
theorem WX:GN=true:=wI_eq.trans (by kernel_rfl)
def IJ:Bool:=namesMeet PR PR.main.body λ_ n=>attrL n
theorem MZ:IJ=IJ:=rfl
name_quick Ac4 for IJ by MZ
theorem b7:IJ=true:=Ac4_eq.trans (by kernel_rfl)
def lk_row:Bool:=S4
theorem OI:lk_row=lk_row:=rfl
name_quick Afm for lk_row by OI
theorem o8:lk_row=true:=Afm_eq.trans (by kernel_rfl)
def Sw:Bool:=noClassBlock PR OL.footing
theorem QP:Sw=Sw:=rfl
name_quick Ahh for Sw by QP
theorem wW:Sw=true:=Ahh_eq.trans (by kernel_rfl)
def Sx:Bool:=Aqn {strict:=true,foot:=some OL.bound',writes:=OL.writes,may:=OL.may} OL.footing
theorem QQ:Sx=Sx:=rfl
name_quick Ahi for Sx by QQ
theorem wZ:Sx=true:=Ahi_eq.trans (by kernel_rfl)
def Sy:Bool:=namesMeet PR OL.footing (λsc n=>(!(["type","isinstance","issubclass","getattr","hasattr"]:List Str).contains n||sc.names.lookup n==some .globalImplicit)&&(OL.may != some n||sc.kind== .module||sc.names.lookup n==some .globalImplicit))
theorem QR:Sy=Sy:=rfl
name_quick Ahj for Sy by QR
theorem xA:Sy=true:=Ahj_eq.trans (by kernel_rfl)
def Sz:Bool:=namesMeet PR OL.above (λ_ n=> !OL.own.contains n)
theorem QS:Sz=Sz:=rfl
name_quick Ahk for Sz by QS
theorem xE:Sz=true:=Ahk_eq.trans (by kernel_rfl)
def SA:Bool:=namesMeet PR OL.footing λsc n=>sc.kind== .module||sc.names.lookup n != some .globalExplicit
theorem QT:SA=SA:=rfl
name_quick Ahl for SA by QT
theorem xF:SA=true:=Ahl_eq.trans (by kernel_rfl)
def SD:Bool:=(PR.boundNames.all (λn=> !worldNames.contains n))&&((PR.boundNames.contains OL.row.name)&&((!startupNames.contains OL.row.name)&&((decide (OL.foot≤(behindTheImports PR).length))&&((OL.footing.all footLine)&&((OL.most.all (λn=>decide (63≤n)))&&((OL.bound.all (λn=>decide (2^63≤n)))&&((defStands OL.about OL.above)&&((OL.namesIt)&&((((["type","isinstance","issubclass","getattr","hasattr"]:List Str).all (λn=>OL.about != [n])))&&((OL.bound'.all (λn=> !builtinNamed n||OL.about== [n]|| !OL.reads n))&&(((!OL.writes||(PR.main.body.flatMap importedNames).all λn=> !OL.reads n))&&((((PR.main.body.flatMap importedNames).all (λn=> !OL.reads n||(drawsOf n PR.main.body).all λmn=>mn.2 != ("attrgetter":Str)&&mn.2 != ("methodcaller":Str))))&&((OL.own.contains OL.name)&&((OL.own.eraseDups.length==OL.own.length)&&(OL.own.all (λn=> !builtinNamed n))))))))))))))))
theorem QV:SD=SD:=rfl
name_quick Ahn for SD by QV
theorem xI:SD=true:=Ahn_eq.trans (by kernel_rfl)
theorem P5{a b:Bool}(h:(a&&b)=true):a=true:=(ApI.mp h).1
theorem P6{a b:Bool}(h:(a&&b)=true):b=true:=(ApI.mp h).2
abbrev mm0:=xI
abbrev xJ:=P5 mm0
abbrev mm1:=P6 mm0
abbrev wQ:=P5 mm1
abbrev mm2:=P6 mm1
abbrev wR:=P5 mm2
abbrev mm3:=P6 mm2
abbrev wU:=P5 mm3
abbrev mm4:=P6 mm3
abbrev wV:=P5 mm4
abbrev mm5:=P6 mm4
abbrev wX:=P5 mm5
abbrev mm6:=P6 mm5
abbrev wY:=P5 mm6
abbrev mm7:=P6 mm6
abbrev w4:=P5 mm7
abbrev mm8:=P6 mm7
abbrev w5:=P5 mm8
abbrev mm9:=P6 mm8
abbrev w6:=P5 mm9
abbrev xZ:=P6 mm9
abbrev w7:=P5 xZ
abbrev x4:=P6 xZ
abbrev w8:=P5 x4
abbrev x5:=P6 x4
abbrev w9:=P5 x5
abbrev x6:=P6 x5
abbrev xB:=P5 x6
abbrev x7:=P6 x6
abbrev xC:=P5 x7
abbrev Afx:=P6 x7
abbrev xD:=Afx
theorem Pa(lk:Look):∀a b:List Arw,Aqn lk (a++b)=(Aqn lk a&&Aqn lk b)
 | [],_=>by simp[Aqn]
 |s::a,b=>by simp only[Ary,Aqn,Pa lk a b,Bool.and_assoc]
theorem DO(lk:Look)(B:List Arw)(i j:Nat)(h:Aqn lk ((B.drop i).take j)=true)(k:Aqn lk (B.drop<|i+j)=true):Aqn lk (B.drop i)=true:=by
 have e:B.drop i=(B.drop i).take j++B.drop (i+j):=by rw[←List.drop_drop,Aqh]
 rw[e,Pa,h,k];rfl
theorem XQ:PR.main.body.drop 248= []:=by kernel_rfl
theorem xQ:rZ=Lp:=by have h:=xH;unfold OG xP at h;obtain⟨h1,h2⟩:=ApI.mp h;have e1:=beq_iff_eq.mp h1;have e2:=beq_iff_eq.mp h2;unfold rZ at e1 e2;unfold rZ Lp;dsimp only at e1 e2;rw[e1,e2]
theorem b8:Aqn rZ PR.main.body=true:=by rw[xQ];show Aqn Lp (PR.main.body.drop 0)=true;refine DO Lp PR.main.body 0 31 WQ ?_;refine DO Lp PR.main.body 31 31 WR ?_;refine DO Lp PR.main.body 62 31 WS ?_;refine DO Lp PR.main.body 93 31 WT ?_;refine DO Lp PR.main.body 124 31 WU ?_;refine DO Lp PR.main.body 155 31 WV ?_;refine DO Lp PR.main.body 186 31 WW ?_;refine DO Lp PR.main.body 217 31 WX ?_;show Aqn Lp (PR.main.body.drop 248)=true;rw[XQ];rfl
theorem pB:looksOpen PR=true:=Ap6 (Ap6 (Ap6 (Ap6 (Ap6 o9 b6) o7) xJ) b8) b7
theorem part0:OL.row.partSaid=true:=by have h:=o8;unfold lk_row S4 at h;unfold OpenRow.partSaid;simp only[Ap8,and_assoc] at h ⊢;exact⟨pB,h⟩
theorem zL:OL.row.wellSaid=true:=Ap6 (Ap6 part0 wQ) wR
theorem Rx:OL.wellSaid=true:=
 Ap6 (Ap6 (Ap6 (Ap6 (Ap6 (Ap6 (Ap6 (Ap6 (Ap6 (Ap6 (Ap6 (Ap6 (Ap6 (Ap6 (Ap6 (Ap6 (Ap6 (Ap6 zL wU) wV) wW) wX) wY) wZ) w4) w5) w6) w7) w8) w9) xA) xB) xC) xD) xE) xF
structure IS where
 name:Str
 params:Arguments
 body:List Arw
 scope:ApH
def jD:IS:=⟨Str.empty,⟨[],[],none,[],[],none,[]⟩,[],default⟩
def iB(b:List Arw)(i:Nat):IS:=match b[i]? with
 |some (.FunctionDef n a b _ _ _ sc _ _ _)=>⟨n,a,b,sc⟩ |_=>jD
def dT(i:Nat):IS:=iB PR.main.body i
def dM(i j:Nat):IS:=match PR.main.body[i]? with
 |some (.ClassDef _ _ _ b _ _ _ _ _ _ _)=>iB b j |_=>jD
def t7(d:IS)(qual:Str)(dfl kw md:Ao3)(code:Nat)(sl:Array (Option Ao3)):Obj:=
 {cls:=.type "function",data:=.func {name:=d.name,qualname:=qual,params:=d.params,body:=.stmts d.body,scope:=d.scope,globals:=3,closure:=[],defaults:=dfl,kwdefaults:=kw,doc:=.none,pyModule:=md,annotations:=none,code:=.ref code,closureTuple:=.none,builtins:=0},slots:=sl}
def en(w:Ao7)(x:Str)(t:Nat)(v:Ao3):ApE:=⟨Apv w.params x,.str x t,v⟩
def dO(es:List ApE)(n:Nat):Obj:={cls:=.type "dict",data:=.dict ⟨es⟩ n}
def tO(vs:List Ao3):Obj:={cls:=.none,data:=.fields ⟨vs⟩}
def Iv:List Nat->List Ao3
 |l::a::r=>.int (Api l) 0:: .int 0 0:: .ref a::Iv r |_=>[]
def cdP(n q:Str)(t:Nat)(l c f:Int)(a:Nat)(x:Int)(u:Nat):Obj:={cls:=.type "code",data:=.fields #[.str n t,.str q (t+1),.str (Ao1 "/claim/cut.py") (t+2),.int l 0,.int c 0,.int 0 0,.int 0 0,.int f 0,.ref a,.bool true,.int 181 0,.ref (a+1),.none,.none,.none,.ref (a+2),.int x 0,.int l 0,.str (Ao1 "/claim/cut.py") u]}
def clO(n:Str)(b m:List Ao3)(ns:Apc)(s:Array (Option Ao3)):Obj:={cls:=.type "type",data:=.cls {name:=n,bases:=b,mro:=m,ns:=ns,qualname:=n,hasDict:=true,slotNames:=[],subclasses:=[],abstract:=false,collection:=none,hasDel:=false},slots:=s}
def cdO(n q:Str)(t:Nat)(l c f:Int)(a:Nat)(x:Int)(u:Nat):Obj:={cls:=.type "code",data:=.fields #[.str n t,.str q (t+1),.str "/claim/cut.py" (t+2),.int l 0,.int c 0,.int 0 0,.int 0 0,.int f 0,.ref a,.bool true,.int 181 0,.ref (a+1),.none,.ref (a+2),.ref (a+3),.ref (a+4),.int x 0,.int l 0,.str "/claim/cut.py" u]}
abbrev xV:Ao3:=.str "chancore.errors" 194
abbrev md1:Ao3:=.str "chancore.dispatch" 540
abbrev pF:Ao3:=.str "chancore.integers" 551
abbrev pG:Ao3:=.str "chancore.plain_frames" 667
abbrev md4:Ao3:=.str "chancore.values" 848
abbrev md5:Ao3:=.str "chancore.plain_store" 926
abbrev md6:Ao3:=.str "chancore.types" 1250
abbrev md7:Ao3:=.str "chancore.plain_ways" 1403
abbrev md8:Ao3:=.str "chancore.texts" 1451
abbrev Lr:Ao3:=.str "chancore.reader_exprs" 1546
abbrev xW:Ao3:=.str "chancore.check_state" 1773
abbrev xX:Ao3:=.str "chancore.choices" 1816
abbrev pE:Ao3:=.str "chancore.plain_channels" 1857
abbrev xY:Ao3:=.str "chancore.plain_gates" 2058
abbrev Xj:Ao3:=.str "chancore.plain_reader" 2894
abbrev Q1:Ao3:=.str "chancore.world" 3150
abbrev E6:Ao3:=.str "law_xw0060_01" 3267
def fT(d:IS)(m:Ao3)(c:Nat):Obj:=t7 d d.name .none .none m c #[]
def fM(d:IS)(q:Str)(m:Ao3)(c:Nat):Obj:=t7 d q .none .none m c #[]
def F4(n q:Str)(t:Nat)(l c:Int)(a x:Nat):Obj:=cdO n q t l c 3 a (Api x) (x+1)
def cPM(n q:Str)(t:Nat)(l c:Int)(a x:Nat):Obj:=cdP n q t l c 3 a (Api x) (x+1)
def C9(d:IS):Nat->Int->Int->Nat->Nat->Obj:=F4 d.name d.name
def Zm(d:IS):Nat->Int->Int->Nat->Nat->Obj:=cPM d.name d.name
def Vw(n:Str)(a d t u:Nat):Obj:=clO n [.type "object"] [.ref a,.type "object"] d #[none,none,some (.str n t),some (.str n u),some (.builtin "object.__new__"),some (.bool true)]
def er(w:Ao7)(x:Str)(t a:Nat):ApE:=en w x t (.ref a)
def ZZ:Env:={scope:=PR.main.scope,locals:=Ar5,globals:=Ar5,cells:=[],code:=.ref 13,frame:=some 14}
def Mo:Code:=.body PR.main.body ZZ
def J3(w:Ao7)(N i j:Nat)(K:KM)(n tk:Nat)(pos:Pos):=segK AqL PR w 11 (some (.ref 6)) 1 N K n tk (piecesOf ((PR.main.body.drop i).take j) ZZ Mo pos [topFrame ⟨0,0,0,0⟩])
def o13:Obj:={cls:=(.type "code"),data:=.fields #[.str "<module>" 182,.str "<module>" 183,.str "/claim/cut.py" 184,.int 1 0,.int 0 0,.int 0 0,.int 0 0,.int 0 0,.ref 11,.bool false,.int 181 0,.ref 12,.none,.none,.none,.none,.int 185 0,.int 1 0,.str "/claim/cut.py" 186]}
abbrev T7:List Nat:=[3,12,13,4,0,2,1]
def XW(g t s:Obj)(X:KM)(n tk:Nat)(p:Pos)(w:Ao7):Option (Flow×List (Option Obj)×Nat×Nat×Code×Pos):=some (.next,[some g,some t,some o13,some (AqP w.params),some (AqH w.params),some s,some (Aq4 w.params)]++X.map (λp=>some p.2),n,tk,Mo,p)
def KTop(g t s:Obj)(w:Ao7):KM:=[(3,g),(12,t),(13,o13),(4,AqP w.params),(0,AqH w.params),(2,s),(1,Aq4 w.params)]
def C6(w:Ao7):List ApE:=[en w "__doc__" 166 .none,en w "__package__" 167 .none,en w "__loader__" 168 (.builtin "__main__.__loader__#opaque"),en w "__spec__" 169 .none,er w "__annotations__" 170 6,er w "__builtins__" 171 4,en w "__file__" 173 (.str "/claim/cut.py" 172),en w "__cached__" 174 .none,er w "_wall" 193 21,er w "ChanError" 227 39,er w "NameFault" 243 52,er w "TypeFault" 259 64,er w "MachineFault" 285 83,er w "FuelFault" 301 95,er w "GoPanic" 326 114,er w "RUNTIME_ERROR" 329 117,er w "runtime_panic" 336 124,er w "Reached" 371 142,er w "without_pointer" 378 153,er w "own_methods" 386 160,er w "members_at" 392 165,er w "embedded_in" 406 172,er w "Levels" 448 196,er w "start_type" 458 207,er w "find_member" 472 214,er w "names_of_methods" 488 221,er w "member_or_none" 497 228,er w "is_in_set" 503 233,er w "method_set" 516 240,er w "lack_of" 527 247,er w "implements" 539 254,er w "face_fits" 550 261,er w "KIND_BITS" 583 262,er w "SHIFTING_OPS" 586 263,er w "has_sign" 593 270,er w "least_int" 600 277,er w "wrapped_int" 609 284,er w "cut_quotient" 618 291,er w "shifted_int" 628 298,er w "exact_result" 638 305,er w "int_arithmetic" 648 312,er w "int_unary" 657 319,er w "is_ordered_so" 666 326,er w "PlainPanic" 698 343,er w "PlainCall" 760 385,er w "PlainRoutine" 792 406,er w "PlainRoutines" 847 446,er w "LOOSE_TAGS" 853 451,en w "MOST_PARTS" 857 (.int 1048576 856),er w "need_few" 865 458,er w "value_tag" 872 465,er w "values_equal" 887 473,er w "value_key" 900 481,er w "leaf_text" 908 488,er w "value_text" 925 496,en w "MOST_ELEMENTS" 931 (.int 1048576 930),er w "part_along" 940 503,er w "with_part_along" 950 510,er w "place_of_pointer" 957 517,er w "pointer_to" 964 524,er w "inner_place" 972 531,er w "PlainMap" 1027 567,er w "PlainStore" 1212 691,er w "MapRound" 1249 717,er w "underlying_of" 1259 728,er w "is_comparable" 1265 733,er w "zero_value" 1271 738,er w "POINTED_NAMES" 1281 739,er w "face_receiver" 1299 746,er w "part_of_receiver" 1314 753,er w "resolved_call" 1325 760,er w "begun_call" 1331 765,er w "begun_builtin" 1341 772,er w "enter_later" 1354 779,er w "run_defers" 1364 786,er w "results_of" 1370 791,er w "behind_deferred" 1380 798,er w "lead_on" 1395 805,er w "recovered_by" 1402 812,er w "is_place_at" 1413 819,er w "way_of_place" 1424 826,er w "begin_of_way" 1434 833,er w "place_on_way" 1450 840,en w "WRONG_RUNE" 1454 (.int 65533 1453),en w "LAST_RUNE" 1456 (.int 1114111 1455),en w "FIRST_HALF" 1458 (.int 55296 1457),en w "LAST_HALF" 1460 (.int 57343 1459),er w "LONG_HEADS" 1470 844,er w "is_right_rune" 1477 851,er w "head_of" 1488 858,er w "rune_at" 1502 865,er w "runes_of" 1513 872,er w "rune_places" 1524 879,er w "octets_of_rune" 1530 884,er w "octets_of" 1536 889,er w "cut_text" 1545 896,er w "COMPARING_SIGNS" 1554 897,er w "OCTET_KIND" 1557 898,en w "MOST_OCTETS" 1561 (.int 1048576 1560),er w "asked_values" 1567 903,er w "ask_value" 1579 910,er w "told_value" 1585 915,er w "parts_asked" 1591 920,er w "parts_of_value" 1597 925,er w "do_load" 1608 932,er w "do_pointer" 1619 939,er w "do_second" 1630 946,er w "do_made" 1642 953,er w "count_of_parts" 1648 958,er w "made_of" 1660 965,er w "part_of_value" 1669 972,er w "joined_texts" 1677 979,er w "plain_binary" 1688 986,er w "plain_converted" 1700 993,er w "plain_asserted" 1712 1000,er w "plain_looked_up" 1724 1007,er w "plain_cut" 1742 1014,er w "new_thing" 1748 1019,er w "bound_method" 1757 1026,er w "do_call" 1772 1033,er w "TypedFn" 1815 1050,er w "Choices" 1856 1078,en w "CLOSED_SEND" 1860 (.str "send on closed channel" 1859),en w "CLOSED_TWICE" 1862 (.str "close of closed channel" 1861),en w "CLOSED_NIL" 1864 (.str "close of nil channel" 1863),er w "PlainChannel" 1895 1099,er w "PlainChannels" 2057 1216,er w "PlainGates" 2122 1263,er w "CountedRound" 2175 1298,er w "ToldRound" 2223 1333,er w "round_over" 2233 1344,en w "MOST_ROOM" 2239 (.int 1048576 2238),er w "NOTHING_TOLD" 2241 1346,er w "GATE_NAMES" 2248 1347,er w "do_builtin" 2260 1354,er w "builtin_value" 2273 1361,er w "deed_done" 2279 1366,er w "values_listed" 2287 1373,er w "chosen_of" 2297 1380,er w "size_told" 2307 1387,er w "made_thing" 2319 1394,er w "pass_gate" 2333 1401,er w "number_of_channel" 2340 1408,er w "do_send" 2352 1415,er w "do_receive" 2363 1422,er w "meet_channel" 2378 1429,er w "do_sent" 2388 1436,er w "do_got" 2401 1443,er w "received_told" 2410 1450,er w "statements_told" 2419 1457,er w "do_rows" 2433 1464,er w "do_statement" 2445 1471,er w "plain_tasks" 2453 1478,er w "later_tasks" 2463 1485,er w "long_tasks" 2471 1492,er w "do_drop" 2481 1499,er w "do_either" 2492 1506,er w "do_behind" 2502 1513,er w "parts_of_target" 2510 1520,er w "assign_at" 2521 1527,er w "value_before" 2533 1534,er w "assigning_tasks" 2539 1539,er w "values_told" 2547 1546,er w "do_assign" 2553 1551,er w "do_before" 2564 1558,er w "do_update" 2582 1565,er w "do_let" 2598 1572,er w "do_give" 2611 1579,er w "do_given" 2624 1586,er w "do_return" 2637 1593,er w "read_callee" 2646 1600,er w "do_go" 2662 1607,er w "do_defer" 2675 1614,er w "do_turn" 2686 1621,er w "do_turned" 2696 1628,er w "begin_turn" 2704 1635,er w "do_again" 2716 1642,er w "do_walk" 2728 1649,er w "name_given" 2736 1656,er w "walk_on" 2750 1663,er w "do_item" 2764 1670,er w "do_take" 2777 1677,er w "do_taken" 2792 1684,er w "do_ask" 2807 1691,er w "do_asked" 2821 1698,er w "enter_row" 2832 1705,er w "do_typed" 2849 1712,er w "begin_named" 2860 1719,er w "select_parts" 2870 1726,er w "do_select" 2876 1731,er w "do_selected" 2893 1738,er w "do_point" 2905 1745,er w "do_defers" 2915 1752,er w "TASK_DEEDS" 2994 1753,er w "all_functions" 3000 1760,er w "PlainRun" 3149 1861,er w "PLAIN" 3153 1868,er w "NamedRow" 3188 1885,er w "known_rows" 3201 1896,er w "World" 3266 1928,er w "_law_whole" 3271 1933,er w "_law_text" 3273 1934,er w "_law_bool" 3275 1935,er w "_law_any" 3277 1937,er w "_law_three" 3282 1939,er w "_law_row" 3286 1941,er w "_law_map" 3292 1944,er w "_law_pair" 3300 1950,er w "_law_func" 3302 1953,er w "_law_spool" 3311 1960,er w "_law_drawn" 3320 1967,er w "_law_one" 3328 1974,er w "_law_held" 3338 1981,er w "_law_run" 3361 1988,er w "_law_read" 3372 1995,er w "_law_shown" 3378 2000,er w "_law_told_right" 3389 2007,er w "_law_leaf" 3399 2014,er w "_law_at" 3407 2021,er w "_law_number" 3426 2028,er w "_law_cut" 3437 2035,er w "_law_made_form" 3456 2042,er w "_law_told_form" 3486 2049,er w "_law_form_right" 3492 2054,er w "law" 3500 2061]
def Kc:List Nat:=[1,20,5,27,11,48,13,60,15,72,20,91,22,103,28,123,31,130,37,152,39,159,41,164,55,171,64,178,83,206,91,213,110,220,121,227,126,232,130,239,140,246,146,253,155,260,162,269,164,276,166,283,169,290,172,297,177,304,194,311,198,318,202,325,213,332,218,353,246,395,253,416,283,457,286,464,294,472,317,480,334,487,341,495,365,502,369,509,374,516,378,523,380,530,382,537,404,577,494,701,510,727,512,732,527,737,542,745,564,752,570,759,582,764,596,771,602,778,611,785,624,790,629,797,637,804,650,811,656,818,665,825,676,832,684,839,701,850,703,857,709,864,722,871,729,878,736,883,744,888,746,895,754,902,756,909,772,914,783,919,800,924,817,931,820,938,823,945,828,952,832,957,836,964,857,971,864,978,868,985,876,992,888,999,896,1006,901,1013,916,1018,936,1025,942,1032,949,1039,960,1060,976,1088,982,1109,1068,1226,1109,1273,1127,1308,1140,1343,1155,1353,1165,1360,1182,1365,1194,1372,1196,1379,1202,1386,1216,1393,1231,1400,1246,1407,1248,1414,1251,1421,1254,1428,1263,1435,1265,1442,1269,1449,1274,1456,1276,1463,1281,1470,1296,1477,1305,1484,1309,1491,1320,1498,1322,1505,1328,1512,1330,1519,1334,1526,1343,1533,1348,1538,1356,1545,1358,1550,1366,1557,1369,1564,1375,1571,1382,1578,1385,1585,1388,1592,1394,1599,1397,1606,1406,1613,1412,1620,1418,1627,1421,1634,1423,1641,1431,1648,1434,1655,1436,1662,1449,1669,1452,1676,1455,1683,1461,1690,1470,1697,1476,1704,1482,1711,1492,1718,1496,1725,1501,1730,1521,1737,1531,1744,1533,1751,1536,1759,1543,1766,1625,1874,1632,1895,1641,1902,1689,1959,1693,1966,1700,1973,1702,1980,1707,1987,1722,1994,1731,1999,1738,2006,1757,2013,1761,2020,1763,2027,1773,2034,1777,2041,1784,2048,1794,2053,1804,2060]
def YS:List Ao3:=Iv Kc
def zA(w:Ao7):List ApE:=(C6 w).take 8
def Uq:List Ao3:=[]
def g0(w:Ao7):Obj:=dO (en w "__name__" 165 (.str "__main__" 164)::zA w) 9
def sH(w:Ao7):Obj:={cls:=.none,data:=.dict #[] 0}
def zB(w:Ao7):List ApE:=(C6 w).take 17
def qL:List Ao3:=Iv (Kc.take 16)
def g1(w:Ao7):Obj:=dO (en w "__name__" 165 (.str "chancore.lookup" 337)::zB w) 18
def EK(w:Ao7):Obj:={cls:=.none,data:=.dict #[en w "type.__subclasses__.Exception.0" 224 (.int 39 0),en w "type.__subclasses__.Exception.n" 225 (.int 1 0)] 2}
def x29:Obj:={cls:=(.type "tuple"),data:=.seq #[.int 0 208] 0}
def x35:Obj:=F4 "__init__" "ChanError.__init__" 209 7 3 30 215
def x36:Obj:=t7 (dM 2 0) "ChanError.__init__" (.ref 29) .none xV 35 #[]
def x38(w:Ao7):Obj:={cls:=(.type "dict"),data:=.dict #[en w "__module__" 203 xV,en w "__firstlineno__" 207 (.int 5 206),er w "__init__" 217 36,er w "__static_attributes__" 220 37,er w "__weakref__" 222 40,en w "__doc__" 223 .none] 3}
def x39:Obj:={cls:=(.type "type"),data:=.cls {name:="ChanError",bases:=[.type "Exception"],mro:=[.ref 39,.type "Exception",.type "BaseException",.type "object"],ns:=38,qualname:="ChanError",hasDict:=true,slotNames:=[],subclasses:=[.ref 52,.ref 64,.ref 83,.ref 95,.ref 114],abstract:=false,collection:=none,hasDel:=false},slots:= #[some (.ref 22),none,some (.str "ChanError" 196),some (.str "ChanError" 204),some (.builtin "Exception.__new__"),some (.bool true)]}
def Aal:Obj:=F4 "__init__" "GoPanic.__init__" 314 24 2 105 319
def Aam:Obj:=fM (dM 7 0) "GoPanic.__init__" xV 110
def Aan(w:Ao7):Obj:={cls:=(.type "dict"),data:=.dict #[en w "__module__" 309 xV,en w "__firstlineno__" 313 (.int 22 312),er w "__init__" 321 111,er w "__static_attributes__" 323 112,en w "__doc__" 324 .none] 2}
def Aao:Obj:=clO "GoPanic" [.ref 39] [.ref 114,.ref 39,.type "Exception",.type "BaseException",.type "object"] 113 #[some (.ref 98),none,some (.str "GoPanic" 302),some (.str "GoPanic" 310),some (.builtin "Exception.__new__"),some (.bool true)]
def Aap:Obj:=C9 (dT 9) 330 28 1 118 334
def Aaq:Obj:=fT (dT 9) xV 123
def X0(w:Ao7):KM:=[(29,x29),(35,x35),(36,x36),(38,x38 w),(39,x39),(110,Aal),(111,Aam),(113,Aan w),(114,Aao),(123,Aap),(124,Aaq)]
def l0(w:Ao7):=ob (T7++(X0 w).map (·.1)) (J3 w 1451 0 11 (KTop (g0 w) (tO Uq) (sH w) w) 15 187 ⟨0,0,0,0⟩)
def r0(w:Ao7):=XW (g1 w) (tO qL) (EK w) (X0 w) 125 339 ⟨30,0,30,8⟩ w
theorem bR:l0=l0:=rfl
theorem cX:r0=r0:=rfl
name_quick lF0 for l0 by bR
name_quick rF0 for r0 by cX
def zC(w:Ao7):List ApE:=(C6 w).take 43
def qM:List Ao3:=Iv (Kc.take 64)
def g2(w:Ao7):Obj:=dO (en w "__name__" 165 pG::zC w) 44
def Aar:Obj:=C9 (dT 27) 542 155 3 255 548
def Aas:Obj:=fT (dT 27) md1 260
def Uv(w:Ao7):Obj:={cls:=(.type "dict"),data:=.dict #[en w "int" 553 (.int 64 554),en w "int8" 555 (.int 8 556),en w "int16" 557 (.int 16 558),en w "int32" 559 (.int 32 560),en w "int64" 561 (.int 64 562),en w "uint" 563 (.int 64 564),en w "uint8" 565 (.int 8 566),en w "uint16" 567 (.int 16 568),en w "uint32" 569 (.int 32 570),en w "uint64" 571 (.int 64 572)] 10}
def Aat:Obj:={cls:=(.type "tuple"),data:=.seq #[.str "<<" 584,.str ">>" 585] 0}
def Aau:Obj:=C9 (dT 31) 587 162 1 264 591
def Aav:Obj:=fT (dT 31) pF 269
def Aaw:Obj:=C9 (dT 32) 594 164 1 271 598
def Aax:Obj:=fT (dT 32) pF 276
def Aay:Obj:=C9 (dT 33) 601 166 2 278 607
def Aaz:Obj:=fT (dT 33) pF 283
def AaA:Obj:=C9 (dT 36) 629 177 3 299 636
def AaB:Obj:=fT (dT 36) pF 304
def AaC:Obj:=C9 (dT 37) 639 194 4 306 646
def AaD:Obj:=fT (dT 37) pF 311
def AaE:Obj:=C9 (dT 38) 649 198 3 313 655
def AaF:Obj:=fT (dT 38) pF 318
def AaG:Obj:=C9 (dT 39) 658 202 3 320 664
def AaH:Obj:=fT (dT 39) pF 325
def X1(w:Ao7):KM:=[(260,Aar),(261,Aas),(262,Uv w),(263,Aat),(269,Aau),(270,Aav),(276,Aaw),(277,Aax),(283,Aay),(284,Aaz),(304,AaA),(305,AaB),(311,AaC),(312,AaD),(318,AaE),(319,AaF),(325,AaG),(326,AaH)]
def l1(w:Ao7):=ob (T7++(X1 w).map (·.1)) (J3 w 1388 11 30 (KTop (g1 w) (tO qL) (EK w) w) 125 339 ⟨30,0,30,8⟩)
def r1(w:Ao7):=XW (g2 w) (tO qM) (EK w) (X1 w) 327 669 ⟨212,0,212,8⟩ w
theorem bS:l1=l1:=rfl
theorem cY:r1=r1:=rfl
name_quick lF1 for l1 by bS
name_quick rF1 for r1 by cY
def zD(w:Ao7):List ApE:=(C6 w).take 59
def qN:List Ao3:=Iv (Kc.take 90)
def g3(w:Ao7):Obj:=dO (en w "__name__" 165 md5::zD w) 60
def AaI:Obj:=F4 "__init__" "PlainCall.__init__" 711 220 2 355 716
def AaJ:Obj:=fM (dM 42 0) "PlainCall.__init__" pG 360
def AaK:Obj:=F4 "do_later" "PlainCall.do_later" 719 229 2 362 724
def AaL:Obj:=fM (dM 42 1) "PlainCall.do_later" pG 367
def AaM:Obj:=F4 "take" "PlainCall.take" 727 232 2 369 734
def AaN:Obj:=fM (dM 42 2) "PlainCall.take" pG 374
def AaO(w:Ao7):Obj:={cls:=(.type "dict"),data:=.dict #[en w "__module__" 706 pG,en w "__firstlineno__" 710 (.int 218 709),er w "__init__" 718 361,er w "do_later" 726 368,er w "take" 736 375,er w "leave_to" 745 382,er w "__static_attributes__" 753 383,er w "__dict__" 755 386,er w "__weakref__" 757 387,en w "__doc__" 758 .none] 4}
def AaP:Obj:=Vw "PlainCall" 385 384 699 707
def AaQ:Obj:=F4 "__init__" "PlainRoutines.__init__" 805 255 2 418 810
def AaR:Obj:=fM (dM 44 0) "PlainRoutines.__init__" pG 423
def AaS(w:Ao7):Obj:={cls:=(.type "dict"),data:=.dict #[en w "__module__" 800 pG,en w "__firstlineno__" 804 (.int 253 803),er w "__init__" 812 424,er w "new_one" 820 431,er w "pick_one" 826 436,er w "wake_one" 836 443,er w "__static_attributes__" 840 444,er w "__dict__" 842 447,er w "__weakref__" 844 448,en w "__doc__" 845 .none] 4}
def AaT:Obj:=Vw "PlainRoutines" 446 445 793 801
def AaU:Obj:={cls:=(.type "tuple"),data:=.seq #[.str "slice" 850,.str "map" 851,.str "func" 852] 0}
def AaV:Obj:=C9 (dT 48) 858 283 2 452 863
def AaW:Obj:=fT (dT 48) md4 457
def AaX:Obj:=C9 (dT 49) 866 286 1 459 870
def AaY:Obj:=fT (dT 49) md4 464
def AaZ:Obj:={cls:=(.type "tuple"),data:=.seq #[.none] 0}
def Aa0:Obj:=F4 "value_key" "value_key" 888 317 3 475 898
def Aa1:Obj:=t7 (dT 51) "value_key" (.ref 474) .none md4 480 #[]
def Aa2:Obj:=C9 (dT 56) 932 365 2 497 938
def Aa3:Obj:=fT (dT 56) md5 502
def Aa4:Obj:=C9 (dT 57) 941 369 3 504 948
def Aa5:Obj:=fT (dT 57) md5 509
def Aa6:Obj:=C9 (dT 58) 951 374 1 511 955
def Aa7:Obj:=fT (dT 58) md5 516
def X2(w:Ao7):KM:=[(360,AaI),(361,AaJ),(367,AaK),(368,AaL),(374,AaM),(375,AaN),(384,AaO w),(385,AaP),(423,AaQ),(424,AaR),(445,AaS w),(446,AaT),(451,AaU),(457,AaV),(458,AaW),(464,AaX),(465,AaY),(474,AaZ),(480,Aa0),(481,Aa1),(502,Aa2),(503,Aa3),(509,Aa4),(510,Aa5),(516,Aa6),(517,Aa7)]
def l2(w:Ao7):=ob (T7++(X2 w).map (·.1)) (J3 w 1450 41 18 (KTop (g2 w) (tO qM) (EK w) w) 327 669 ⟨212,0,212,8⟩)
def r2(w:Ao7):=XW (g3 w) (tO qN) (EK w) (X2 w) 518 958 ⟨374,0,377,47⟩ w
theorem bT:l2=l2:=rfl
theorem cZ:r2=r2:=rfl
name_quick lF2 for l2 by bT
name_quick rF2 for r2 by cZ
def zE(w:Ao7):List ApE:=(C6 w).take 66
def qO:List Ao3:=Iv (Kc.take 104)
def g4(w:Ao7):Obj:=dO (en w "__name__" 165 md6::zE w) 67
def Aa8:Obj:=C9 (dT 59) 958 378 1 518 962
def Aa9:Obj:=fT (dT 59) md5 523
def Aba:Obj:=C9 (dT 60) 965 380 2 525 970
def Abb:Obj:=fT (dT 60) md5 530
def Abd:Obj:=F4 "__init__" "PlainMap.__init__" 985 384 1 539 989
def Abe:Obj:=fM (dM 61 0) "PlainMap.__init__" md5 544
def Abf:Obj:=F4 "entry_of" "PlainMap.entry_of" 992 388 2 546 998
def Abg:Obj:=fM (dM 61 1) "PlainMap.entry_of" md5 551
def Abh:Obj:=F4 "put" "PlainMap.put" 1001 394 4 553 1009
def Abi:Obj:=fM (dM 61 2) "PlainMap.put" md5 558
def Abj(w:Ao7):Obj:={cls:=(.type "dict"),data:=.dict #[en w "__module__" 980 md5,en w "__firstlineno__" 984 (.int 382 983),er w "__init__" 991 545,er w "entry_of" 1000 552,er w "put" 1011 559,er w "take_out" 1017 564,er w "__static_attributes__" 1020 565,er w "__dict__" 1022 568,er w "__weakref__" 1024 569,en w "__doc__" 1025 .none] 4}
def Abk:Obj:=Vw "PlainMap" 567 566 973 981
def Abl:Obj:=F4 "__init__" "PlainStore.__init__" 1040 406 2 579 1045
def Abm:Obj:=fM (dM 62 0) "PlainStore.__init__" md5 584
def Abn:Obj:=F4 "new_cell" "PlainStore.new_cell" 1048 412 2 586 1053
def Abo:Obj:=fM (dM 62 1) "PlainStore.new_cell" md5 591
def Abp:Obj:=F4 "new_row" "PlainStore.new_row" 1056 416 2 593 1061
def Abq:Obj:=fM (dM 62 2) "PlainStore.new_row" md5 598
def Abr:Obj:=F4 "load" "PlainStore.load" 1064 420 2 600 1072
def Abs:Obj:=fM (dM 62 3) "PlainStore.load" md5 605
def Abt:Obj:=F4 "store" "PlainStore.store" 1075 426 3 607 1085
def Abu:Obj:=fM (dM 62 4) "PlainStore.store" md5 612
def Abv:Obj:=F4 "whole_slice" "PlainStore.whole_slice" 1088 434 2 614 1093
def Abw:Obj:=fM (dM 62 5) "PlainStore.whole_slice" md5 619
def Abx:Obj:=F4 "element_place" "PlainStore.element_place" 1096 437 3 621 1102
def Aby:Obj:=fM (dM 62 6) "PlainStore.element_place" md5 626
def Abz:Obj:=cPM "slice_listed" "PlainStore.slice_listed" 1105 442 2 628 1108
def AbA:Obj:=fM (dM 62 7) "PlainStore.slice_listed" md5 631
def AbB:Obj:=F4 "part_of_slice" "PlainStore.part_of_slice" 1123 449 5 640 1136
def AbC:Obj:=fM (dM 62 9) "PlainStore.part_of_slice" md5 645
def AbD:Obj:=F4 "new_map" "PlainStore.new_map" 1153 473 1 654 1157
def AbE:Obj:=fM (dM 62 11) "PlainStore.new_map" md5 659
def AbF:Obj:=F4 "map_of" "PlainStore.map_of" 1160 477 2 661 1165
def AbG:Obj:=fM (dM 62 12) "PlainStore.map_of" md5 666
def AbH:Obj:=F4 "looked_up" "PlainStore.looked_up" 1168 480 3 668 1177
def AbI:Obj:=fM (dM 62 13) "PlainStore.looked_up" md5 673
def AbJ:Obj:=F4 "put_key" "PlainStore.put_key" 1180 485 4 675 1187
def AbK:Obj:=fM (dM 62 14) "PlainStore.put_key" md5 680
def AbL(w:Ao7):Obj:={cls:=(.type "dict"),data:=.dict #[en w "__module__" 1035 md5,en w "__firstlineno__" 1039 (.int 404 1038),er w "__init__" 1047 585,er w "new_cell" 1055 592,er w "new_row" 1063 599,er w "load" 1074 606,er w "store" 1087 613,er w "whole_slice" 1095 620,er w "element_place" 1104 627,er w "slice_listed" 1110 632,er w "put_listed" 1122 639,er w "part_of_slice" 1138 646,er w "joined_slice" 1152 653,er w "new_map" 1159 660,er w "map_of" 1167 667,er w "looked_up" 1179 674,er w "put_key" 1189 681,er w "drop_key" 1200 688,er w "__static_attributes__" 1205 689,er w "__dict__" 1207 692,er w "__weakref__" 1209 693,en w "__doc__" 1210 .none] 4}
def AbM:Obj:=Vw "PlainStore" 691 690 1028 1036
def AbN:Obj:=C9 (dT 65) 1252 510 2 722 1257
def AbO:Obj:=fT (dT 65) md6 727
def X3(w:Ao7):KM:=[(523,Aa8),(524,Aa9),(530,Aba),(531,Abb),(544,Abd),(545,Abe),(551,Abf),(552,Abg),(558,Abh),(559,Abi),(566,Abj w),(567,Abk),(584,Abl),(585,Abm),(591,Abn),(592,Abo),(598,Abp),(599,Abq),(605,Abr),(606,Abs),(612,Abt),(613,Abu),(619,Abv),(620,Abw),(626,Abx),(627,Aby),(631,Abz),(632,AbA),(645,AbB),(646,AbC),(659,AbD),(660,AbE),(666,AbF),(667,AbG),(673,AbH),(674,AbI),(680,AbJ),(681,AbK),(690,AbL w),(691,AbM),(727,AbN),(728,AbO)]
def l3(w:Ao7):=ob (T7++(X3 w).map (·.1)) (J3 w 1431 59 8 (KTop (g3 w) (tO qN) (EK w) w) 518 958 ⟨374,0,377,47⟩)
def r3(w:Ao7):=XW (g4 w) (tO qO) (EK w) (X3 w) 734 1266 ⟨512,0,526,15⟩ w
theorem bU:l3=l3:=rfl
theorem dA:r3=r3:=rfl
name_quick lF3 for l3 by bU
name_quick rF3 for r3 by dA
def zF(w:Ao7):List ApE:=(C6 w).take 116
def qP:List Ao3:=Iv (Kc.take 186)
def g5(w:Ao7):Obj:=dO (en w "__name__" 165 Lr::zF w) 117
def AbP:Obj:=Zm (dT 67) 1266 527 2 734 1269
def AbQ:Obj:=fT (dT 67) md6 737
def AbR:Obj:=C9 (dT 82) 1405 656 2 813 1411
def AbS:Obj:=fT (dT 82) md7 818
def AbT:Obj:=C9 (dT 83) 1414 665 2 820 1422
def AbU:Obj:=fT (dT 83) md7 825
def AbV:Obj:=C9 (dT 84) 1425 676 4 827 1432
def AbW:Obj:=fT (dT 84) md7 832
def AbX:Obj:=C9 (dT 85) 1435 684 4 834 1448
def AbY:Obj:=fT (dT 85) md7 839
def AbZ:Obj:=C9 (dT 99) 1537 746 3 890 1543
def Ab0:Obj:=fT (dT 99) md8 895
def Ab1:Obj:={cls:=(.type "tuple"),data:=.seq #[.str "==" 1548,.str "!=" 1549,.str "<" 1550,.str "<=" 1551,.str ">" 1552,.str ">=" 1553] 0}
def Ab2:Obj:=Zm (dT 104) 1562 754 1 899 1565
def Ab3:Obj:=fT (dT 104) Lr 902
def Ab4:Obj:=C9 (dT 105) 1568 756 4 904 1577
def Ab5:Obj:=fT (dT 105) Lr 909
def Ab6:Obj:=Zm (dT 106) 1580 772 3 911 1583
def Ab7:Obj:=fT (dT 106) Lr 914
def Ab8:Obj:=Zm (dT 107) 1586 783 2 916 1589
def Ab9:Obj:=fT (dT 107) Lr 919
def Aca:Obj:=Zm (dT 108) 1592 800 1 921 1595
def Acb:Obj:=fT (dT 108) Lr 924
def Acd:Obj:=C9 (dT 109) 1598 817 4 926 1606
def Ace:Obj:=fT (dT 109) Lr 931
def Acf:Obj:=C9 (dT 110) 1609 820 4 933 1617
def Acg:Obj:=fT (dT 110) Lr 938
def Ach:Obj:=C9 (dT 111) 1620 823 4 940 1628
def Aci:Obj:=fT (dT 111) Lr 945
def Acj:Obj:=C9 (dT 112) 1631 828 4 947 1640
def Ack:Obj:=fT (dT 112) Lr 952
def Acl:Obj:=Zm (dT 113) 1643 832 1 954 1646
def Acm:Obj:=fT (dT 113) Lr 957
def Acn:Obj:=C9 (dT 114) 1649 836 3 959 1658
def Aco:Obj:=fT (dT 114) Lr 964
def Acp:Obj:=C9 (dT 115) 1661 857 2 966 1667
def Acq:Obj:=fT (dT 115) Lr 971
def Acr:Obj:=C9 (dT 117) 1678 868 5 980 1686
def Acs:Obj:=fT (dT 117) Lr 985
def Acu:Obj:=C9 (dT 118) 1689 876 4 987 1698
def Acv:Obj:=fT (dT 118) Lr 992
def Acw:Obj:=C9 (dT 119) 1701 888 4 994 1710
def jN:Obj:=fT (dT 119) Lr 999
def jO:Obj:=C9 (dT 120) 1713 896 3 1001 1722
def jP:Obj:=fT (dT 120) Lr 1006
def X4(w:Ao7):KM:=[(737,AbP),(738,AbQ),(818,AbR),(819,AbS),(825,AbT),(826,AbU),(832,AbV),(833,AbW),(839,AbX),(840,AbY),(895,AbZ),(896,Ab0),(897,Ab1),(902,Ab2),(903,Ab3),(909,Ab4),(910,Ab5),(914,Ab6),(915,Ab7),(919,Ab8),(920,Ab9),(924,Aca),(925,Acb),(931,Acd),(932,Ace),(938,Acf),(939,Acg),(945,Ach),(946,Aci),(952,Acj),(953,Ack),(957,Acl),(958,Acm),(964,Acn),(965,Aco),(971,Acp),(972,Acq),(985,Acr),(986,Acs),(992,Acu),(993,Acv),(999,Acw),(1000,jN),(1006,jO),(1007,jP)]
def l4(w:Ao7):=ob (T7++(X4 w).map (·.1)) (J3 w 1451 67 54 (KTop (g4 w) (tO qO) (EK w) w) 734 1266 ⟨512,0,526,15⟩)
def r4(w:Ao7):=XW (g5 w) (tO qP) (EK w) (X4 w) 1008 1725 ⟨896,0,900,59⟩ w
theorem bV:l4=l4:=rfl
theorem dB:r4=r4:=rfl
name_quick lF4 for l4 by bV
name_quick rF4 for r4 by dB
def zG(w:Ao7):List ApE:=(C6 w).take 126
def qQ:List Ao3:=Iv (Kc.take 200)
def g6(w:Ao7):Obj:=dO (en w "__name__" 165 pE::zG w) 127
def jQ:Obj:=C9 (dT 121) 1725 901 3 1008 1740
def jR:Obj:=fT (dT 121) Lr 1013
def jS:Obj:=Zm (dT 122) 1743 916 3 1015 1746
def jT:Obj:=fT (dT 122) Lr 1018
def jU:Obj:=C9 (dT 123) 1749 936 3 1020 1755
def jV:Obj:=fT (dT 123) Lr 1025
def jW:Obj:=F4 "__init__" "TypedFn.__init__" 1787 951 8 1041 1798
def jX:Obj:=fM (dM 126 0) "TypedFn.__init__" xW 1046
def jY(w:Ao7):Obj:={cls:=(.type "dict"),data:=.dict #[en w "__module__" 1782 xW,en w "__firstlineno__" 1786 (.int 949 1785),er w "__init__" 1800 1047,er w "__static_attributes__" 1808 1048,er w "__dict__" 1810 1051,er w "__weakref__" 1812 1052,en w "__doc__" 1813 .none] 4}
def jZ:Obj:=Vw "TypedFn" 1050 1049 1775 1783
def j0:Obj:=F4 "__init__" "Choices.__init__" 1830 962 2 1062 1835
def j3:Obj:=fM (dM 128 0) "Choices.__init__" xX 1067
def j4(w:Ao7):Obj:={cls:=(.type "dict"),data:=.dict #[en w "__module__" 1825 xX,en w "__firstlineno__" 1829 (.int 960 1828),er w "__init__" 1837 1068,er w "pick" 1846 1075,er w "__static_attributes__" 1849 1076,er w "__dict__" 1851 1079,er w "__weakref__" 1853 1080,en w "__doc__" 1854 .none] 4}
def j5:Obj:=Vw "Choices" 1078 1077 1818 1826
def X5(w:Ao7):KM:=[(1013,jQ),(1014,jR),(1018,jS),(1019,jT),(1025,jU),(1026,jV),(1046,jW),(1047,jX),(1049,jY w),(1050,jZ),(1067,j0),(1068,j3),(1077,j4 w),(1078,j5)]
def l5(w:Ao7):=ob (T7++(X5 w).map (·.1)) (J3 w 903 121 13 (KTop (g5 w) (tO qP) (EK w) w) 1008 1725 ⟨896,0,900,59⟩)
def r5(w:Ao7):=XW (g6 w) (tO qQ) (EK w) (X5 w) 1104 1896 ⟨976,0,981,30⟩ w
theorem bW:l5=l5:=rfl
theorem dC:r5=r5:=rfl
name_quick lF5 for l5 by bW
name_quick rF5 for r5 by dC
def zH(w:Ao7):List ApE:=(C6 w).take 129
def qR:List Ao3:=Iv (Kc.take 206)
def g7(w:Ao7):Obj:=dO (en w "__name__" 165 (.str "chancore.plain_rounds" 2123)::zH w) 130
def j6:Obj:=F4 "__init__" "PlainChannels.__init__" 1908 984 1 1111 1912
def j7:Obj:=fM (dM 134 0) "PlainChannels.__init__" pE 1116
def j8(w:Ao7):Obj:={cls:=(.type "dict"),data:=.dict #[en w "__module__" 1903 pE,en w "__firstlineno__" 1907 (.int 982 1906),er w "__init__" 1914 1117,er w "make_one" 1922 1124,er w "size_of" 1930 1131,er w "room_of" 1938 1138,er w "first_waiting" 1948 1145,er w "let_go" 1954 1150,er w "may_send" 1963 1157,er w "may_take" 1972 1164,er w "may_do" 1981 1171,er w "send_now" 1992 1178,er w "take_now" 2003 1185,er w "do_now" 2013 1192,er w "close_now" 2022 1199,er w "ended" 2034 1206,er w "wait_for" 2047 1213,er w "__static_attributes__" 2050 1214,er w "__dict__" 2052 1217,er w "__weakref__" 2054 1218,en w "__doc__" 2055 .none] 4}
def j9:Obj:=Vw "PlainChannels" 1216 1215 1896 1904
def kA:Obj:=F4 "__init__" "PlainGates.__init__" 2072 1070 1 1228 2076
def kB:Obj:=fM (dM 136 0) "PlainGates.__init__" xY 1233
def kC(w:Ao7):Obj:={cls:=(.type "dict"),data:=.dict #[en w "__module__" 2067 xY,en w "__firstlineno__" 2071 (.int 1068 2070),er w "__init__" 2078 1234,er w "lock_now" 2087 1241,er w "unlock_now" 2096 1248,er w "add_now" 2102 1253,er w "wait_now" 2111 1260,er w "__static_attributes__" 2115 1261,er w "__dict__" 2117 1264,er w "__weakref__" 2119 1265,en w "__doc__" 2120 .none] 4}
def kD:Obj:=Vw "PlainGates" 1263 1262 2060 2068
def X6(w:Ao7):KM:=[(1116,j6),(1117,j7),(1215,j8 w),(1216,j9),(1233,kA),(1234,kB),(1262,kC w),(1263,kD)]
def l6(w:Ao7):=ob (T7++(X6 w).map (·.1)) (J3 w 1350 134 5 (KTop (g6 w) (tO qQ) (EK w) w) 1104 1896 ⟨976,0,981,30⟩)
def r6(w:Ao7):=XW (g7 w) (tO qR) (EK w) (X6 w) 1303 2176 ⟨1109,0,1126,76⟩ w
theorem bX:l6=l6:=rfl
theorem dD:r6=r6:=rfl
name_quick lF6 for l6 by bX
name_quick rF6 for r6 by dD
def zI(w:Ao7):List ApE:=(C6 w).take 166
def qS:List Ao3:=Iv (Kc.take 274)
def g8(w:Ao7):Obj:=dO (en w "__name__" 165 (.str "chancore.reader_statements" 2411)::zI w) 167
def X7(w:Ao7):KM:=[]
def l7(w:Ao7):=ob (T7++(X7 w).map (·.1)) (J3 w 1414 139 39 (KTop (g7 w) (tO qR) (EK w) w) 1303 2176 ⟨1109,0,1126,76⟩)
def r7(w:Ao7):=XW (g8 w) (tO qS) (EK w) (X7 w) 1566 2583 ⟨1369,0,1374,53⟩ w
theorem bY:l7=l7:=rfl
theorem dE:r7=r7:=rfl
name_quick lF7 for l7 by bY
name_quick rF7 for r7 by dE
def zJ(w:Ao7):List ApE:=(C6 w).take 193
def qT:List Ao3:=Iv (Kc.take 328)
def g9(w:Ao7):Obj:=dO (en w "__name__" 165 Xj::zJ w) 194
def X8(w:Ao7):KM:=[]
def l8(w:Ao7):=ob (T7++(X8 w).map (·.1)) (J3 w 933 178 28 (KTop (g8 w) (tO qS) (EK w) w) 1566 2583 ⟨1369,0,1374,53⟩)
def r8(w:Ao7):=XW (g9 w) (tO qT) (EK w) (X8 w) 1753 2916 ⟨1533,0,1534,34⟩ w
theorem bZ:l8=l8:=rfl
theorem dF:r8=r8:=rfl
name_quick lF8 for l8 by bZ
name_quick rF8 for r8 by dF
def qB(w:Ao7):List ApE:=(C6 w).take 196
def YR:List Ao3:=Iv (Kc.take 332)
def g10(w:Ao7):Obj:=dO (en w "__name__" 165 Q1::qB w) 197
def LY(w:Ao7):Obj:={cls:=(.type "dict"),data:=.dict #[er w "value" 2916 910,er w "load" 2918 932,er w "pointer" 2920 939,er w "second" 2922 946,er w "made" 2924 953,er w "call" 2926 1033,er w "builtin" 2928 1354,er w "send" 2930 1415,er w "sent" 2932 1436,er w "receive" 2934 1422,er w "got" 2936 1443,er w "rows" 2938 1464,er w "run" 2940 1471,er w "drop" 2942 1499,er w "either" 2944 1506,er w "behind" 2946 1513,er w "assign" 2948 1551,er w "before" 2950 1558,er w "update" 2952 1565,er w "let" 2954 1572,er w "give" 2956 1579,er w "given" 2958 1586,er w "return" 2960 1593,er w "go" 2962 1607,er w "defer" 2964 1614,er w "turn" 2966 1621,er w "turned" 2968 1628,er w "again" 2970 1642,er w "walk" 2972 1649,er w "item" 2974 1670,er w "take" 2976 1677,er w "taken" 2978 1684,er w "ask" 2980 1691,er w "asked" 2982 1698,er w "typed" 2984 1712,er w "select" 2985 1731,er w "selected" 2986 1738,er w "point" 2987 1745,er w "defers" 2988 1752] 39}
def kE:Obj:=Zm (dT 207) 2995 1536 1 1756 2998
def kF:Obj:=fT (dT 207) Xj 1759
def kG:Obj:=F4 "__init__" "PlainRun.__init__" 3013 1545 5 1768 3022
def kH:Obj:=fM (dM 208 0) "PlainRun.__init__" Xj 1773
def kI:Obj:=fM (dM 208 1) "PlainRun.may_compare" Xj 1780
def kJ(w:Ao7):Obj:={cls:=(.type "dict"),data:=.dict #[en w "__module__" 3008 Xj,en w "__firstlineno__" 3012 (.int 1543 3011),er w "__init__" 3024 1774,er w "may_compare" 3032 1781,er w "run" 3040 1788,er w "step" 3052 1795,er w "caught" 3061 1802,er w "wait_here" 3069 1809,er w "next_one" 3076 1816,er w "routine_is_over" 3084 1823,er w "wake_rows" 3095 1830,er w "answer_of" 3103 1837,er w "walk_of" 3112 1844,er w "is_of_type" 3121 1851,er w "held_as" 3130 1858,er w "__static_attributes__" 3142 1859,er w "__dict__" 3144 1862,er w "__weakref__" 3146 1863,en w "__doc__" 3147 .none] 4}
def kK:Obj:=Vw "PlainRun" 1861 1860 3001 3009
def X9(w:Ao7):KM:=[(1753,LY w),(1759,kE),(1760,kF),(1773,kG),(1774,kH),(1781,kI),(1860,kJ w),(1861,kK)]
def l9(w:Ao7):=ob (T7++(X9 w).map (·.1)) (J3 w 1446 206 4 (KTop (g9 w) (tO qT) (EK w) w) 1753 2916 ⟨1533,0,1534,34⟩)
def r9(w:Ao7):=XW (g10 w) (tO YR) (EK w) (X9 w) 1866 3152 ⟨1623,0,1623,8⟩ w
theorem b5:l9=l9:=rfl
theorem dG:r9=r9:=rfl
name_quick lF9 for l9 by b5
name_quick rF9 for r9 by dG
def rP(w:Ao7):Obj:=dO (en w "__name__" 165 E6::C6 w) 226
def kL:Obj:=F4 "__init__" "NamedRow.__init__" 3166 1627 5 1876 3174
def kM:Obj:=fM (dM 211 0) "NamedRow.__init__" Q1 1881
def kN(w:Ao7):Obj:={cls:=(.type "dict"),data:=.dict #[en w "__module__" 3161 Q1,en w "__firstlineno__" 3165 (.int 1625 3164),er w "__init__" 3176 1882,er w "__static_attributes__" 3181 1883,er w "__dict__" 3183 1886,er w "__weakref__" 3185 1887,en w "__doc__" 3186 .none] 4}
def kO:Obj:=Vw "NamedRow" 1885 1884 3154 3162
def kP:Obj:=C9 (dT 212) 3189 1632 0 1890 3199
def kQ:Obj:=fT (dT 212) Q1 1895
def kR:Obj:={cls:=(.type "tuple"),data:=.seq #[.none] 0}
def kS:Obj:=F4 "__init__" "World.__init__" 3214 1643 2 1905 3219
def kT:Obj:=t7 (dM 213 0) "World.__init__" (.ref 1904) .none Q1 1910 #[]
def kV:Obj:=F4 "base_of" "World.base_of" 3222 1665 2 1912 3228
def kW:Obj:=fM (dM 213 1) "World.base_of" Q1 1917
def kX(w:Ao7):Obj:={cls:=(.type "dict"),data:=.dict #[en w "__module__" 3209 Q1,en w "__firstlineno__" 3213 (.int 1641 3212),er w "__init__" 3221 1911,er w "base_of" 3230 1918,er w "settled" 3238 1925,er w "__static_attributes__" 3259 1926,er w "__dict__" 3261 1929,er w "__weakref__" 3263 1930,en w "__doc__" 3264 .none] 4}
def kY:Obj:=Vw "World" 1928 1927 3202 3210
def kZ:Obj:={cls:=(.type "tuple"),data:=.seq #[.str "int" 3269,.str "int" 3270] 0}
def k4:Obj:={cls:=(.type "tuple"),data:=.seq #[.str "string" 3272] 0}
def k6:Obj:={cls:=(.type "tuple"),data:=.seq #[.str "int" 3280,.str "int" 3281] 0}
def k7:Obj:={cls:=(.type "tuple"),data:=.seq #[.str "array" 3278,.int 3 3279,.ref 1938] 0}
def k8:Obj:={cls:=(.type "tuple"),data:=.seq #[.str "int" 3284,.str "int" 3285] 0}
def k9:Obj:={cls:=(.type "tuple"),data:=.seq #[.str "slice" 3283,.ref 1940] 0}
def lA:Obj:={cls:=(.type "tuple"),data:=.seq #[.str "int" 3295,.str "int" 3296] 0}
def lB:Obj:={cls:=(.type "tuple"),data:=.seq #[.str "p" 3294,.ref 1945,.bool false] 0}
def lC:Obj:={cls:=(.type "tuple"),data:=.seq #[.str "int" 3298,.str "int" 3299] 0}
def lD:Obj:={cls:=(.type "tuple"),data:=.seq #[.str "q" 3297,.ref 1947,.bool false] 0}
def lE:Obj:={cls:=(.type "tuple"),data:=.seq #[.ref 1946,.ref 1948] 0}
def lG:Obj:={cls:=(.type "tuple"),data:=.seq #[.str "struct" 3293,.ref 1949] 0}
def lH:Obj:=C9 (dT 224) 3303 1689 1 1954 3309
def lI:Obj:=fT (dT 224) E6 1959
def lJ:Obj:=C9 (dT 225) 3312 1693 2 1961 3318
def lK:Obj:=fT (dT 225) E6 1966
def lL:Obj:=C9 (dT 226) 3321 1700 2 1968 3326
def lM:Obj:=fT (dT 226) E6 1973
def lN:Obj:=C9 (dT 227) 3329 1702 1 1975 3336
def lO:Obj:=fT (dT 227) E6 1980
def lP:Obj:=C9 (dT 228) 3339 1707 1 1982 3359
def lQ:Obj:=fT (dT 228) E6 1987
def lR:Obj:=C9 (dT 229) 3362 1722 3 1989 3370
def lS:Obj:=fT (dT 229) E6 1994
def lT:Obj:=Zm (dT 230) 3373 1731 2 1996 3376
def lU:Obj:=fT (dT 230) E6 1999
def lV:Obj:=C9 (dT 231) 3379 1738 0 2001 3387
def lW:Obj:=fT (dT 231) E6 2006
def lX:Obj:=C9 (dT 232) 3390 1757 2 2008 3397
def lY:Obj:=fT (dT 232) E6 2013
def lZ:Obj:=C9 (dT 233) 3400 1761 2 2015 3405
def mA:Obj:=fT (dT 233) E6 2020
def mB:Obj:=C9 (dT 234) 3408 1763 2 2022 3424
def mC:Obj:=fT (dT 234) E6 2027
def mD:Obj:=C9 (dT 235) 3427 1773 5 2029 3435
def mE:Obj:=fT (dT 235) E6 2034
def mF:Obj:=C9 (dT 236) 3438 1777 4 2036 3454
def mG:Obj:=fT (dT 236) E6 2041
def mH:Obj:=C9 (dT 237) 3457 1784 4 2043 3484
def mI:Obj:=fT (dT 237) E6 2048
def mJ:Obj:=Zm (dT 238) 3487 1794 1 2050 3490
def mK:Obj:=fT (dT 238) E6 2053
def mL:Obj:=C9 (dT 239) 3493 1804 1 2055 3498
def Zg:Obj:=fT (dT 239) E6 2060
def mU(w:Ao7):KM:=[(1881,kL),(1882,kM),(1884,kN w),(1885,kO),(1895,kP),(1896,kQ),(1904,kR),(1910,kS),(1911,kT),(1917,kV),(1918,kW),(1927,kX w),(1928,kY),(1933,kZ),(1934,k4),(1938,k6),(1939,k7),(1940,k8),(1941,k9),(1945,lA),(1946,lB),(1947,lC),(1948,lD),(1949,lE),(1950,lG),(1959,lH),(1960,lI),(1966,lJ),(1967,lK),(1973,lL),(1974,lM),(1980,lN),(1981,lO),(1987,lP),(1988,lQ),(1994,lR),(1995,lS),(1999,lT),(2000,lU),(2006,lV),(2007,lW),(2013,lX),(2014,lY),(2020,lZ),(2021,mA),(2027,mB),(2028,mC),(2034,mD),(2035,mE),(2041,mF),(2042,mG),(2048,mH),(2049,mI),(2053,mJ),(2054,mK),(2060,mL),(2061,Zg)]
def l10(w:Ao7):=ob (T7++(mU w).map (·.1)) (J3 w 1280 210 30 (KTop (g10 w) (tO YR) (EK w) w) 1866 3152 ⟨1623,0,1623,8⟩)
def sE(w:Ao7):=XW (rP w) (tO YS) (EK w) (mU w) 2062 3501 ⟨1804,0,1808,60⟩ w
theorem WO:l10=l10:=rfl
theorem XK:sE=sE:=rfl
name_quick AjW for l10 by WO
name_quick Akg for sE by XK
def KB(w:Ao7):KM:=[(0,AqH w.params),(1,Aq4 w.params),(2,boot_o_2 w.params),(3,boot_o_3 w.params),(4,AqP w.params),(5,boot_o_5 w.params),(6,boot_o_6 w.params),(7,boot_o_7 w.params),(8,boot_o_8 w.params),(9,boot_o_9 w.params),(10,boot_o_10 w.params)]
def Xa(w:Ao7):=obG [3,12,13,4,0,2,1] (goK AqL PR w 11 (some (.ref 6)) 12 (KB w) 11 181 (topStub PR))
def XU(w:Ao7):Option (List (Option Obj)×Nat×Nat×Arx):=some ([some (g0 w),some (tO Uq),some o13,some (AqP w.params),some (AqH w.params),some (sH w),some (Aq4 w.params)],15,187,⟨denote AqL Mo,Mo,⟨0,0,0,0⟩,[topFrame ⟨0,0,0,0⟩]⟩)
def cA(w:Ao7):=ob [3,12,13,4,0,2,1] (segK AqL PR w 11 (some (.ref 6)) 1 1 (KTop (g0 w) (tO Uq) (sH w) w) 15 187 (blockOf PR.main.body ZZ Mo ⟨0,0,0,0⟩ [topFrame ⟨0,0,0,0⟩]))
def dJ(w:Ao7):Option (Flow×List (Option Obj)×Nat×Nat×Code×Pos):=some (.next,[some (g0 w),some (tO Uq),some o13,some (AqP w.params),some (AqH w.params),some (sH w),some (Aq4 w.params)],15,187,Mo,⟨0,0,0,0⟩)
theorem T5:Xa=Xa:=rfl
theorem Um:XU=XU:=rfl
theorem T3:cA=cA:=rfl
theorem Uj:dJ=dJ:=rfl
name_quick Ahp for Xa by T5
name_quick AhQ for XU by Um
name_quick Aho for cA by T3
name_quick AhP for dJ by Uj
theorem pq{α:Type}{l r lF rF:Ao7->α}(e1:l=lF)(e2:r=rF)(h:∀w,lF w=rF w)(w:Ao7):l w=r w:=by rw[e1,e2];exact h w
theorem AfH:∀w:Ao7,Xa w=XU w:=pq Ahp_eq AhQ_eq (by intro w;kernel_rfl)
theorem AfF:∀w:Ao7,cA w=dJ w:=pq Aho_eq AhP_eq (by intro w;kernel_rfl)
theorem p0:∀w:Ao7,l0 w=r0 w:=pq lF0_eq rF0_eq (by intro w;kernel_rfl)
theorem p1:∀w:Ao7,l1 w=r1 w:=pq lF1_eq rF1_eq (byRow2 "special-get-raises" (P:=λw=>lF1 w=rF1 w) (by intro w;kernel_rfl) (by intro w;kernel_rfl))
theorem p2:∀w:Ao7,l2 w=r2 w:=pq lF2_eq rF2_eq (by intro w;kernel_rfl)
theorem p3:∀w:Ao7,l3 w=r3 w:=pq lF3_eq rF3_eq (by intro w;kernel_rfl)
theorem p4:∀w:Ao7,l4 w=r4 w:=pq lF4_eq rF4_eq (by intro w;kernel_rfl)
theorem p5:∀w:Ao7,l5 w=r5 w:=pq lF5_eq rF5_eq (by intro w;kernel_rfl)
theorem p6:∀w:Ao7,l6 w=r6 w:=pq lF6_eq rF6_eq (by intro w;kernel_rfl)
theorem p7:∀w:Ao7,l7 w=r7 w:=pq lF7_eq rF7_eq (by intro w;kernel_rfl)
theorem p8:∀w:Ao7,l8 w=r8 w:=pq lF8_eq rF8_eq (by intro w;kernel_rfl)
theorem p9:∀w:Ao7,l9 w=r9 w:=pq lF9_eq rF9_eq (byRow2 "special-get-raises" (P:=λw=>lF9 w=rF9 w) (by intro w;kernel_rfl) (by intro w;kernel_rfl))
theorem p10:∀w:Ao7,l10 w=sE w:=pq AjW_eq Akg_eq (by intro w;kernel_rfl)
def RR(w:Ao7):KM:=mU w++(X9 w++(X8 w++(X7 w++(X6 w++(X5 w++(X4 w++(X3 w++(X2 w++(X1 w++(X0 w++([])))))))))))
def K1(w:Ao7):KM:=KTop (rP w) (tO YS) (EK w) w++RR w
theorem SG{K:KM}{a:Nat}{o:Obj}(h:AL K a=some o):∃p∈K,p.1=a∧p.2=o:=by
 induction K with
 |nil=>cases h
 |cons p K ih=>
  rw[A6] at h;by_cases z:p.1=a
  ·rw[if_pos z] at h;exact⟨p,.head _,z,Apr h⟩
  ·rw[if_neg z] at h;obtain⟨q,m,e⟩:=ih h;exact⟨q,.tail _ m,e⟩
theorem WN{K:KM}{n tk:Nat}(D:RE K R n tk s):Cr (K++R) n tk s:=by
 refine⟨D.k.size,D.k.toks,λa o e=>?_⟩;rw[Ln] at e;cases q:AL K a with
 |some x=>rw[q] at e;cases e;exact D.k.here a _ q
 |none=>rw[q] at e;obtain⟨p,m,rfl,rfl⟩:=SG (show AL R a=some o from e);exact D.r p m
theorem ZE(w:Ao7)(s:Ao5)(E1:s.heap=Ar2 w.params)(E3:s.toks=boot_toks):Cr (KB w) 11 181 s:=by
 refine⟨by rw[E1];kernel_rfl,by rw[E3];kernel_rfl,λa o e=>?_⟩;rw[E1];have all:∀p∈KB w,(Ar2 w.params).get? p.1=some p.2:=by
  have h:∀P:Params,([0,1,2,3,4,5,6,7,8,9,10]:List Nat).map (Ar2 P).get?= [some (AqH P),some<|Aq4 P,some<|boot_o_2 P,some<|boot_o_3 P,some<|AqP P,some<|boot_o_5 P,some<|boot_o_6 P,some<|boot_o_7 P,some<|boot_o_8 P,some<|boot_o_9 P,some<|boot_o_10 P]:=by intro P;kernel_rfl
  have h':=h w.params;simp only[Aqb,List.map_nil,List.cons.injEq,and_true] at h';obtain⟨h0,h1,h2,h3,h4,h5,h6,h7,h8,h9,iO⟩:=h';intro p hp;simp only[KB,Apf,List.not_mem_nil,or_false] at hp;rcases hp with rfl |rfl |rfl |rfl |rfl |rfl |rfl |rfl |rfl |rfl |rfl<;>assumption
 obtain⟨p,m,rfl,rfl⟩:=SG e;exact all p m
theorem apart{R K:KM}{L W:List Nat}(e1:R.map (·.1)=L)(e2:K.map (·.1)=W)(h:∀b∈L,b∉W):∀b∈R.map (·.1),b∉K.map (·.1):=by rw[e1,e2];exact h
theorem len:PR.main.body.drop 240= []:=by kernel_rfl
abbrev RL0:List Nat:=[]
abbrev AA0:List Nat:=[29,35,36,38,39,110,111,113,114,123,124]
abbrev AD0:List Nat:=T7++AA0
abbrev RL1:List Nat:=AA0++RL0
abbrev AA1:List Nat:=[260,261,262,263,269,270,276,277,283,284,304,305,311,312,318,319,325,326]
abbrev AD1:List Nat:=T7++AA1
abbrev RL2:List Nat:=AA1++RL1
abbrev AA2:List Nat:=[360,361,367,368,374,375,384,385,423,424,445,446,451,457,458,464,465,474,480,481,502,503,509,510,516,517]
abbrev AD2:List Nat:=T7++AA2
abbrev RL3:List Nat:=AA2++RL2
abbrev AA3:List Nat:=[523,524,530,531,544,545,551,552,558,559,566,567,584,585,591,592,598,599,605,606,612,613,619,620,626,627,631,632,645,646,659,660,666,667,673,674,680,681,690,691,727,728]
abbrev AD3:List Nat:=T7++AA3
abbrev RL4:List Nat:=AA3++RL3
abbrev AA4:List Nat:=[737,738,818,819,825,826,832,833,839,840,895,896,897,902,903,909,910,914,915,919,920,924,925,931,932,938,939,945,946,952,953,957,958,964,965,971,972,985,986,992,993,999,1000,1006,1007]
abbrev AD4:List Nat:=T7++AA4
abbrev RL5:List Nat:=AA4++RL4
abbrev AA5:List Nat:=[1013,1014,1018,1019,1025,1026,1046,1047,1049,1050,1067,1068,1077,1078]
abbrev AD5:List Nat:=T7++AA5
abbrev RL6:List Nat:=AA5++RL5
abbrev AA6:List Nat:=[1116,1117,1215,1216,1233,1234,1262,1263]
abbrev AD6:List Nat:=T7++AA6
abbrev RL7:List Nat:=AA6++RL6
abbrev AA7:List Nat:=[]
abbrev AD7:List Nat:=T7++AA7
abbrev RL8:List Nat:=AA7++RL7
abbrev AA8:List Nat:=[]
abbrev AD8:List Nat:=T7++AA8
abbrev RL9:List Nat:=AA8++RL8
abbrev AA9:List Nat:=[1753,1759,1760,1773,1774,1781,1860,1861]
abbrev AD9:List Nat:=T7++AA9
abbrev AdA:List Nat:=AA9++RL9
abbrev Ady:List Nat:=[1881,1882,1884,1885,1895,1896,1904,1910,1911,1917,1918,1927,1928,1933,1934,1938,1939,1940,1941,1945,1946,1947,1948,1949,1950,1959,1960,1966,1967,1973,1974,1980,1981,1987,1988,1994,1995,1999,2000,2006,2007,2013,2014,2020,2021,2027,2028,2034,2035,2041,2042,2048,2049,2053,2054,2060,2061]
abbrev Adz:List Nat:=T7++Ady
theorem run(w:Ao7)(s₀:Ao5)(E1:s₀.heap=Ar2 w.params)(E2:s₀.gens= #[])(E3:s₀.toks=boot_toks):
  ∃s₁,topRun AqL PR w 11 (some<|.ref 6) (12+(1+(1451+(1388+(1450+(1431+(1451+(903+(1350+(1414+(933+(1446+(1280+2))))))))))))) s₀ (topStub PR)=some s₁∧s₁.gens= #[]∧Cr (K1 w) 2062 3501 s₁:=by
 have D0:=ZE w s₀ E1 E3;have hp:=AfH w;unfold Xa XU at hp;obtain⟨sa,ea,Da⟩:∃sa,topGo AqL PR w 11 (some<|.ref 6) 12 s₀ (topStub PR)=some (sa,⟨denote AqL Mo,Mo,⟨0,0,0,0⟩,[topFrame ⟨0,0,0,0⟩]⟩)∧RE (KTop (g0 w) (tO Uq) (sH w) w) [] 15 187 sa:=by
  cases hs:goK AqL PR w 11 (some<|.ref 6) 12 (KB w) 11 181 (topStub PR) with
  |none=>rw[hs] at hp;cases hp
  |some r=>obtain⟨K',n₁,tk₁,t₁⟩:=r;rw[hs] at hp;simp only[obG,Option.some.injEq,Prod.mk.injEq] at hp;obtain⟨l,rfl,rfl,rfl⟩:=hp;obtain⟨s',e,D',g⟩:=Lc hs D0;refine⟨s',e,⟨D'.size,D'.toks,λa o q=>D'.here a o (IE K' [3,12,13,4,0,2,1] a o (by rw[l];exact q))⟩,λp hp=>(nomatch hp),g.trans E2⟩
 obtain⟨sb,eb,Db⟩:=EL (K2:=KTop (g0 w) (tO Uq) (sH w) w) (X:=[]) (AfF w) rfl (show([3,12,13,4,0,2,1]:List Nat).Nodup by decide) (λb hb=>by cases hb) Da;obtain⟨s0,e0,D0⟩:=EL (K2:=KTop (g1 w) (tO qL) (EK w) w) (X:=X0 w) (R:=[]) (p0 w) rfl (show AD0.Nodup by decide) (apart (L:=RL0) (W:=[3,12,13,4,0,2,1]) rfl rfl (by decide)) Db;obtain⟨s1,e1,D1⟩:=EL (K2:=KTop (g2 w) (tO qM) (EK w) w) (X:=X1 w) (R:=X0 w++([])) (p1 w) rfl (show AD1.Nodup by decide) (apart (L:=RL1) (W:=[3,12,13,4,0,2,1]) rfl rfl (by decide)) D0;obtain⟨s2,e2,D2⟩:=EL (K2:=KTop (g3 w) (tO qN) (EK w) w) (X:=X2 w) (R:=X1 w++(X0 w++([]))) (p2 w) rfl (show AD2.Nodup by decide) (apart (L:=RL2) (W:=[3,12,13,4,0,2,1]) rfl rfl (by decide)) D1;obtain⟨s3,e3,D3⟩:=EL (K2:=KTop (g4 w) (tO qO) (EK w) w) (X:=X3 w) (R:=X2 w++(X1 w++(X0 w++([])))) (p3 w) rfl (show AD3.Nodup by decide) (apart (L:=RL3) (W:=[3,12,13,4,0,2,1]) rfl rfl (by decide)) D2;obtain⟨s4,e4,D4⟩:=EL (K2:=KTop (g5 w) (tO qP) (EK w) w) (X:=X4 w) (R:=X3 w++(X2 w++(X1 w++(X0 w++([]))))) (p4 w) rfl (show AD4.Nodup by decide) (apart (L:=RL4) (W:=[3,12,13,4,0,2,1]) rfl rfl (by decide)) D3;obtain⟨s5,e5,D5⟩:=EL (K2:=KTop (g6 w) (tO qQ) (EK w) w) (X:=X5 w) (R:=X4 w++(X3 w++(X2 w++(X1 w++(X0 w++([])))))) (p5 w) rfl (show AD5.Nodup by decide) (apart (L:=RL5) (W:=[3,12,13,4,0,2,1]) rfl rfl (by decide)) D4;obtain⟨s6,e6,D6⟩:=EL (K2:=KTop (g7 w) (tO qR) (EK w) w) (X:=X6 w) (R:=X5 w++(X4 w++(X3 w++(X2 w++(X1 w++(X0 w++([]))))))) (p6 w) rfl (show AD6.Nodup by decide) (apart (L:=RL6) (W:=[3,12,13,4,0,2,1]) rfl rfl (by decide)) D5;obtain⟨s7,e7,D7⟩:=EL (K2:=KTop (g8 w) (tO qS) (EK w) w) (X:=X7 w) (R:=X6 w++(X5 w++(X4 w++(X3 w++(X2 w++(X1 w++(X0 w++([])))))))) (p7 w) rfl (show AD7.Nodup by decide) (apart (L:=RL7) (W:=[3,12,13,4,0,2,1]) rfl rfl (by decide)) D6;obtain⟨s8,e8,D8⟩:=EL (K2:=KTop (g9 w) (tO qT) (EK w) w) (X:=X8 w) (R:=X7 w++(X6 w++(X5 w++(X4 w++(X3 w++(X2 w++(X1 w++(X0 w++([]))))))))) (p8 w) rfl (show AD8.Nodup by decide) (apart (L:=RL8) (W:=[3,12,13,4,0,2,1]) rfl rfl (by decide)) D7;obtain⟨s9,e9,D9⟩:=EL (K2:=KTop (g10 w) (tO YR) (EK w) w) (X:=X9 w) (R:=X8 w++(X7 w++(X6 w++(X5 w++(X4 w++(X3 w++(X2 w++(X1 w++(X0 w++([])))))))))) (p9 w) rfl (show AD9.Nodup by decide) (apart (L:=RL9) (W:=[3,12,13,4,0,2,1]) rfl rfl (by decide)) D8;obtain⟨s10,e10,D10⟩:=EL (K2:=KTop (rP w) (tO YS) (EK w) w) (X:=mU w) (R:=X9 w++(X8 w++(X7 w++(X6 w++(X5 w++(X4 w++(X3 w++(X2 w++(X1 w++(X0 w++([]))))))))))) (p10 w) rfl (show Adz.Nodup by decide) (apart (L:=AdA) (W:=[3,12,13,4,0,2,1]) rfl rfl (by decide)) D9;refine⟨s10,go_top ea<|piece_block eb ?_,D10.g,WN D10⟩;refine BS 0 11 e0 ?_;refine BS 11 30 e1 ?_;refine BS 41 18 e2 ?_;refine BS 59 8 e3 ?_;refine BS 67 54 e4 ?_;refine BS 121 13 e5 ?_;refine BS 134 5 e6 ?_;refine BS 139 39 e7 ?_;refine BS 178 28 e8 ?_;refine BS 206 4 e9 ?_;refine BS 210 30 e10 ?_;show topRun AqL PR w 11 (some<|.ref 6) 2 _ (restOf (PR.main.body.drop 240) ZZ Mo _ [topFrame _])=_;rw[len];exact nV
def QA(w:Ao7):Apn:=⟨#[AqH w.params,default,boot_o_2 w.params,boot_o_3 w.params,AqP w.params],{}⟩
def Zr(w:Ao7):Apn:=⟨#[AqH w.params,default,EK w,rP w,AqP w.params],{}⟩
def llk(w:Ao7):Bool:=QW PR (Ao1 "law") 2061 (QA w) (Zr w)
theorem W6:llk=llk:=rfl
name_quick Afo for llk by W6
theorem pC(w:Ao7):llk w=true:=by
 have h:∀w,Afo w=true:=by intro w;kernel_rfl
 rw[Afo_eq];exact h w
theorem AdI(w:Ao7):(Zr w).bltView=bltViewBooted:=by kernel_rfl
theorem mX(w:Ao7):Agree (Ar2 w.params) (QA w):=⟨by kernel_rfl,by kernel_rfl,by kernel_rfl,by kernel_rfl⟩
theorem bB(w:Ao7):(Zr w).get? 0=some (AqH w.params)∧(Zr w).get? 2=some (EK w)∧(Zr w).get? 3=some (rP w)∧(Zr w).get? 4=some (AqP w.params):=⟨by kernel_rfl,by kernel_rfl,by kernel_rfl,by kernel_rfl⟩
theorem mY(w:Ao7)(s:Ao5)(D:Cr (K1 w) 2062 3501 s):Agree s.heap (Zr w):=by obtain⟨e0,e2,e3,e4⟩:=bB w;exact⟨(D.here 0 _ rfl).trans e0.symm,(D.here 2 _ rfl).trans e2.symm,(D.here 3 _ rfl).trans e3.symm,(D.here 4 _ rfl).trans e4.symm⟩
abbrev twX:TablesWhole.Ctx:=⟨PR.main.scope,[],[],[],none⟩
abbrev NA(l:List Arw):Bool:=TablesWhole.wSs ArR PR.main.scope twX PR.main.scope l
def twg:List Str:=TablesWhole.wSs TablesWhole.gather PR.main.scope twX PR.main.scope PR.main.body
theorem Zc:twg=twg:=rfl
name_quick wJ for twg by Zc
theorem Aaj:twg= []:=by
 have h:wJ= []:=by kernel_rfl
 rw[wJ_eq];exact h
def twn:Bool:=TablesWhole.noTwice PR.main.scope
theorem Zd:twn=twn:=rfl
name_quick Ahy for twn by Zd
theorem Aak:twn=true:=Ahy_eq.trans (by kernel_rfl)
theorem Tg:∀a b:List Arw,NA (a++b)=(NA a&&NA b)
 | [],b=>by simp[NA,TablesWhole.wSs,ArR]
 |s::a,b=>by have ih:=Tg a b;simp only[NA,Ary,TablesWhole.wSs] at ih ⊢;rw[ih];exact(Bool.and_assoc _ _ _).symm
theorem DR(i n j:Nat)(e:i+n=j)(h:NA ((PR.main.body.drop i).take n)=true)(r:NA (PR.main.body.drop j)=true):NA (PR.main.body.drop i)=true:=by subst e;rw[←Aqh n (PR.main.body.drop i),Tg,h,List.drop_drop,r];rfl
theorem q7(m:Module)(t:List Str)(hg:TablesWhole.wSs TablesWhole.gather m.scope ⟨m.scope,[],[],[],none⟩ m.scope m.body=t)(hn:TablesWhole.noTwice m.scope=true)(hs:TablesWhole.wSs ArR m.scope ⟨m.scope,[],t,[],none⟩ m.scope m.body=true):TablesWhole.wModule ArR m=true:=by subst hg;show(true&&(TablesWhole.noTwice m.scope&&(TablesWhole.wSs ArR m.scope ⟨m.scope,[],_,[],none⟩ m.scope m.body&&true)))=true;rw[hn,hs];rfl
theorem eN(p:Ap3)(h:TablesWhole.wModule ArR p.main=true)(h1:p.modules= [])(h2:p.parses= [])(h3:p.harvested= []):p.tablesWhole=true:=by unfold Program.tablesWhole TablesWhole.wProgram;rw[h1,h2,h3,h];rfl
def tq0:Bool:=NA ((PR.main.body.drop 0).take 30)
theorem YW:tq0=tq0:=rfl
name_quick Ahq for tq0 by YW
theorem Aaa:tq0=true:=Ahq_eq.trans (by kernel_rfl)
def tq1:Bool:=NA ((PR.main.body.drop 30).take 30)
theorem YX:tq1=tq1:=rfl
name_quick Ahr for tq1 by YX
theorem Aab:tq1=true:=Ahr_eq.trans (by kernel_rfl)
def tq2:Bool:=NA ((PR.main.body.drop 60).take 30)
theorem YY:tq2=tq2:=rfl
name_quick Ahs for tq2 by YY
theorem Aac:tq2=true:=Ahs_eq.trans (by kernel_rfl)
def tq3:Bool:=NA ((PR.main.body.drop 90).take 30)
theorem YZ:tq3=tq3:=rfl
name_quick Aht for tq3 by YZ
theorem Aad:tq3=true:=Aht_eq.trans (by kernel_rfl)
def tq4:Bool:=NA ((PR.main.body.drop 120).take 30)
theorem Y6:tq4=tq4:=rfl
name_quick Ahu for tq4 by Y6
theorem Aae:tq4=true:=Ahu_eq.trans (by kernel_rfl)
def tq5:Bool:=NA ((PR.main.body.drop 150).take 30)
theorem Y7:tq5=tq5:=rfl
name_quick Ahv for tq5 by Y7
theorem Aaf:tq5=true:=Ahv_eq.trans (by kernel_rfl)
def tq6:Bool:=NA ((PR.main.body.drop 180).take 30)
theorem Y8:tq6=tq6:=rfl
name_quick Ahw for tq6 by Y8
theorem Aag:tq6=true:=Ahw_eq.trans (by kernel_rfl)
def tq7:Bool:=NA ((PR.main.body.drop 210).take 30)
theorem Y9:tq7=tq7:=rfl
name_quick Ahx for tq7 by Y9
theorem Aah:tq7=true:=Ahx_eq.trans (by kernel_rfl)
theorem qZ:NA (PR.main.body.drop 240)=true:=by
 have h:PR.main.body.drop 240= []:=by kernel_rfl
 rw[h];rfl
theorem qY:NA (PR.main.body.drop 0)=true:=(DR 0 30 30 rfl Aaa (DR 30 30 60 rfl Aab (DR 60 30 90 rfl Aac (DR 90 30 120 rfl Aad (DR 120 30 150 rfl Aae (DR 150 30 180 rfl Aaf (DR 180 30 210 rfl Aag (DR 210 30 240 rfl Aah qZ))))))))
theorem tw1:PR.tablesWhole=true:=eN PR (q7 PR.main [] Aaj Aak qY) rfl rfl rfl
theorem sV:OL.prog.bare:=⟨rfl,rfl,rfl,rfl,rfl,tw1⟩
def lop:Bool:=opensWell PR
theorem W8:lop=lop:=rfl
name_quick Afp for lop by W8
theorem op1:lop=true:=by
 have h:Afp=true:=by kernel_rfl
 rw[Afp_eq];exact h
theorem uI:(frees OL.row.toRowW&&OL.row.within.isEmpty)=true:=by kernel_rfl
theorem yO:OL.row.toRowW.promised:=⟨[.list []],by decide +kernel,by decide +kernel⟩
theorem yM:opening OL.prog=plainProg OL.prog.main.scope.names:=by kernel_rfl
theorem nU(s:Ao5):fenceModules? OL.prog s=some s:=by kernel_rfl
theorem AfG(w:Ao7):∃o fd args body scope,AL (K1 w) 2061=some o∧o.data= .func fd∧OL.prog.theDef OL.name=some (args,body,scope)∧fd.name=OL.name∧fd.qualname=OL.name∧fd.params=args∧fd.body= .stmts body∧fd.scope=scope∧
   fd.globals=Ar5∧fd.closure= []∧fd.builtins=AqG∧args.defaults= []∧fd.defaults= .none∧kwWritten? args.kwonlyargs args.kw_defaults=some []∧fd.kwdefaults= .none:=by
 have h1:AL (K1 w) 2061=some Zg:=by kernel_rfl
 have h2:OL.prog.theDef OL.name=some ((dT 239).params,(dT 239).body,(dT 239).scope):=by kernel_rfl
 have h3:(dT 239).name=OL.name:=by kernel_rfl
 have h4:(dT 239).params.defaults= []:=by kernel_rfl
 have h5:kwWritten? (dT 239).params.kwonlyargs (dT 239).params.kw_defaults=some []:=by kernel_rfl
 exact⟨_,_,_,_,_,h1,rfl,h2,h3,rfl,rfl,rfl,rfl,rfl,rfl,rfl,h4,rfl,h5,rfl⟩
theorem head(Rx:OL.wellSaid=true)
  (call:∀(w:Ao7) (s s₁:Ao5) (args:List WData) (vs:List Ao3) (as:List Apc),Cr (K1 w) 2062 3501 s->s.gens= #[]->OL.row.toRowW.claim.pre args=true->WData.layableAll args=true->Laid [] w s s₁ args vs as->
   Aph (model OL.prog w) callerA (PySem.call (.ref 2061) vs) (λv s'=>GoodWG OL.row.toRowW.claim (classAt s.heap) (Ar9 s.heap) args s₁ (.ok<|.ret v) s')
    (λe s'=>GoodWG OL.row.toRowW.claim (classAt s.heap) (Ar9 s.heap) args s₁ (.error e) s') s₁):OL.Holds:=by
 refine ML (N:=100000) (slots:= #[]) Rx sV op1 yO uI rfl yM rfl nU (λw s₀ a b c=>run w s₀ a b c) mX mY pC AdI (λw=>?_) AfG call;kernel_rfl
theorem dX:OL.row.toRowW.pre= .and (.not<|.lt (.lit<|.int (63:Nat))<|.len<|.arg 0) (.lit<|.bool true):=by kernel_rfl
theorem Nb:OL.row.toRowW.records= []:=rfl
theorem XR:OL.row.toRowW.args= [.list .int]:=rfl
theorem Sr{cl:Str->Option Apc}{h:Apn}:∀{ns:List Int} {vs:List Ao3} {as:List Apc},ReadsAllW [] cl h vs (ns.map .int) as->vs.length=ns.length∧∀v∈vs,∃i t,v= .int i t
 | [],_,_,r=>by cases r;exact⟨rfl,λv h=>nomatch h⟩
 |n::ns,_,_,r=>by
  cases r with
  |cons a b=>
   cases a;obtain⟨i1,i2⟩:=Sr b;refine⟨by rw[ApD,ApD,i1],λv hv=>?_⟩;rcases Apf.mp hv with rfl |hv
   ·exact⟨_,_,rfl⟩
   ·exact i2 v hv
structure mS(s s₁:Ao5)(vs:List Ao3)(a:Apc)(items:List Ao3):Prop where
 vs:vs= [.ref a]
 len:items.length≤63
 at_:a=s.heap.objs.size
 new:s.heap.get? a=none
 obj:s₁.heap.get? a=some {cls:=.type "list",data:=.seq items.toArray}
 nums:∀v∈items,∃i t,v= .int i t
theorem Un{w:Ao7}{s s₁:Ao5}{args:List WData}{vs:List Ao3}{as:List Apc}(TQ:OL.row.toRowW.claim.pre args=true)(L:Laid [] w s s₁ args vs as):∃a items,mS s s₁ vs a items:=by
 obtain⟨h1,h2⟩:=pre_splitW TQ;rw[XR,Nb] at h1;rw[dX,Nb] at h2;obtain⟨d,r,rfl,hd,hr⟩:=hasAllW_cons h1;cases hasAllW_nil hr;obtain⟨xs,rfl,hx⟩:=hasW_list hd;obtain⟨ns,rfl⟩:=items_int hx;have rd:=L.reads;cases rd with
 |cons a b=>
  cases b;cases a with
  |list ho hc hdt ra=>
   rename_i a o its n as';have nw:s.heap.get? a=none:=L.new (AqX _<|.head _);have eo:=L.list nw ho hc hdt;obtain⟨l1,l2⟩:=Sr ra;have L':Laid [] w s s₁ [ofPy (PyData.list<|ns.map PyData.int)] [.ref a] (a::as'++ []):=by
    have e:ofPy (PyData.list<|ns.map PyData.int)= .list (ns.map .int):=by rw[ofPy,ofPys_ints]
    rw[e];exact L
   refine⟨a,its.toList,rfl,?_,(X.script_at L').1,nw,by rw[ho,eo],l2⟩;rw[l1];simp[WTm.holds,WTm.value] at h2;split at h2
   ·rename_i h3;rw[show less? (WData.int 63) (WData.int (ns.length:Int))=some (decide ((63:Int)<(ns.length:Int))) from rfl] at h3;rcases Nat.lt_or_ge 63 ns.length with q |q
    ·rw[decide_eq_true (show(63:Int)<(ns.length:Int) by omega)] at h3;cases h3
    ·exact q
   ·cases h2
theorem ofPys_ints:∀ns:List Int,ofPys (ns.map PyData.int)=ns.map WData.int
 | []=>rfl |n::ns=>by rw[Aqb,Aqb,ofPys,ofPys_ints ns];rfl
theorem XT(args:List WData):OL.row.toRowW.claim.post args (.bool true) args=true:=by have h1:OL.row.toRowW.post= .eq .res (.lit<|.bool true):=rfl;have h2:OL.row.toRowW.returns= .bool:=rfl;show(WShape.has OL.row.toRowW.records (.bool true) OL.row.toRowW.returns&&OL.row.toRowW.post.holds OL.row.toRowW.records {args:=args,res:=some (.bool true),after:=args})=true;rw[h1,h2,Nb];simp[WTm.holds,WTm.value,WShape.has,WShape.arms];rw[same_self]
theorem aH{cl:Str->Option Apc}{Afw:ExcName->Option Ao3}{args:List WData}{s₁ s':Ao5}(hk:∀b o,s₁.heap.get? b=some o->s'.heap.get? b=some o)(os:s'.os=s₁.os)(g:s'.gens= #[]):GoodWG OL.row.toRowW.claim cl Afw args s₁ (.ok<|.ret<|.bool true) s':=
 ⟨.inl ⟨_,_,[],rfl,λ_=>rfl,ReadsW.bool true,XT args,λ_=>⟨AqY,λ_ hm=>(nomatch hm)⟩⟩,.of_keep hk,os,g▸AllBare.empty⟩
def bt{α:Type}(b:Bool)(x y:α):α:= @Bool.rec (λ_=>α) y x b
def LR{α β:Type}(n:β)(c:α->List α->β->β)(l:List α):β:= @List.rec α (λ_=>β) n c l
def LC{α β:Type}(n:β)(c:α->List α->β)(l:List α):β:= @List.rec α (λ_=>β) n (λa r _=>c a r) l
def NR{β:Type}(z:β)(s:Nat->β->β)(n:Nat):β:= @Nat.rec (λ_=>β) z s n
def NC{β:Type}(z:β)(s:Nat->β)(n:Nat):β:= @Nat.rec (λ_=>β) z (λm _=>s m) n
def OR{α β:Type}(n:β)(s:α->β)(o:Option α):β:= @Option.rec α (λ_=>β) n s o
def IR{β:Type}(p:Nat->β)(q:Nat->β)(i:Int):β:= @Int.rec (λ_=>β) p q i
abbrev Nm:=Nat
structure Ap where
 c:Int
 t:List (Nat×Int)
 deriving Inhabited
def Ap.k(i:Int):Ap:=⟨i,[]⟩
def Ap.at(a:Nat):Ap:=⟨0,[(a,1)]⟩
def Fm(a b:Int):Bool:=IR (λx=>IR (λy=>Ap0 x y) (λ_=>false) b) (λx=>IR (λ_=>true) (λy=>Ap0 y x) b) a
def CH(a b:Int):Bool:=IR (λx=>IR (λy=>Ap0 (ArI x) y) (λ_=>false) b) (λx=>IR (λ_=>true) (λy=>Ap0 (ArI y) x) b) a
def FW(a b:Int):Bool:=IR (λx=>IR (λy=>Ao9 x y) (λ_=>false) b) (λx=>IR (λ_=>false) (λy=>Ao9 x y) b) a
def P7:List (Nat×Int)->Nat->Int->List (Nat×Int)
 | [],a,f=>[(a,f)]
 |(b,g)::r,a,f=>match Ao9 a b with
  |true=>(match FW (g+f) 0 with |true=>r |false=>(b,g+f)::r) |false=>(b,g)::P7 r a f
def NH:List (Nat×Int)->List (Nat×Int)->List (Nat×Int)
 | [],t=>t |(a,f)::r,t=>NH r (P7 t a f)
def Ap.add(x y:Ap):Ap:=⟨Int.add x.c y.c,NH y.t x.t⟩
def Ls(m:Int):List (Nat×Int)->List (Nat×Int)
 | []=>[] |(a,f)::r=>(a,m*f)::Ls m r
def Ap.mul(m:Int)(x:Ap):Ap:=bt (FW m 0) ⟨0,[]⟩ ⟨Int.mul m x.c,Ls m x.t⟩
def Ap.neg(x:Ap):Ap:=⟨Int.neg x.c,Ls (-1) x.t⟩
def Ap.sub(x y:Ap):Ap:=⟨Int.sub x.c y.c,NH (Ls (-1) y.t) x.t⟩
def eK:List (Nat×Int)->List (Nat×Int)->Bool
 | [],[]=>true
 |(a,f)::r,(b,g)::s=>match Ao9 a b with
  |true=>(match FW f g with |true=>eK r s |false=>false) |false=>false
 |_,_=>false
def Ap.eq(x y:Ap):Bool:=match FW x.c y.c with |true=>eK x.t y.t |false=>false
inductive AV where
 |A4
 |bool(b:Bool)
 |int(l:Ap)
 |str(s:Nm)
 |B4(b:List UInt8)
 |Ak(l:List AV)
 |obj(i:Nat)
 |Au(v:Ao3)
 |sel(k:Nat)(l:List AV)
 |ED(k:Nat)
 |any
 deriving Inhabited
inductive It where
 |seq(l:List AV)
 |lst(src:Nat)(k:Nat)
 |Bi(cur stop step:Int)
 |VQ(j:Nat)(cnt:Int)
 |zip(a b:Nat)
 deriving Inhabited
inductive AO where
 |list(pre:Option Nat)(l:List AV)(suf:Option Nat)
 |mid(l:List AV)(p:Nat)(m:List AV)
 |dict(l:List (AV×AV))
 |inst(C:Nat)(l:List (Nm×AV))
 |exc(C:Nat)(d:Option Nat)
 |old(C:Nat)(d:Option Nat)
 |ed(l:List (Nm×AV))
 |frame(l:List (Nm×AV))
 |cell(v:Option AV)
 |iter(it:It)
 |G2(a b s:Int)
 |AE(f:List (Int×Nat))
 |dead
 deriving Inhabited
inductive PA where
 |nil
 |Ae(v:Option AO)(l r:PA)
 deriving Inhabited
def PA.fold{β:Type}(n:β)(f:Option AO->PA->PA->β->β->β)(t:PA):β:= @PA.rec (λ_=>β) n f t
def PA.get(t:PA):Nat->Option AO:=PA.fold (λ_=>none) (λv _ _ gl gr i=>NC v (λj=>bt (Ao9 (Ap7 j 2) 0) (gl (Aqy j 2)) (gr (Aqy j 2))) i) t
def PA.set(t:PA)(x:AO):Nat->PA:=PA.fold (λi=>NC (.Ae (some x) .nil .nil) (λ_=>.nil) i)
 (λv l r sl sr i=>NC (.Ae (some x) l r) (λj=>bt (Ao9 (Ap7 j 2) 0) (.Ae v (sl<|Aqy j 2) r) (.Ae v l<|sr<|Aqy j 2)) i) t
abbrev DB:=Option Int×Option Int
structure St where
 n:Nat
 objs:PA
 k:Nat
 Bi:List DB
 neg:List (Ap×Bool)
 Ca:List (Ap×Bool)
 Bq:Nat
 low:Nat
 deriving Inhabited
abbrev K(α:Type):=α->St->Bool
abbrev M(α:Type):=K α->K AV->Bool
def bad(Ail:String):Bool:=false
def Bs{α:Type}(l:List α):Nat->Option α:=LR (λ_=>none) (λa _ ih i=>NC (some a) (λj=>ih j) i) l
def HJ{α:Type}(l:List α)(v:α):Nat->List α:=LR (λ_=>[]) (λa r ih i=>NC (v::r) (λj=>a::ih j) i) l
def St.obj(σ:St)(i:Nat):Option AO:=σ.objs.get i
def St.put(σ:St)(i:Nat)(o:AO):St:=
 match σ with
 |⟨n,objs,k,Bi,neg,Ca,Bq,low⟩=>⟨n,objs.set o i,k,Bi,neg,Ca,(bt (Aq0 i low) (Bq+1) Bq),low⟩
def St.new(σ:St)(o:AO):St:=match σ with
 |⟨n,objs,k,Bi,neg,Ca,Bq,low⟩=>⟨n+1,objs.set o n,k,Bi,neg,Ca,Bq,low⟩
def BB(l:List DB)(i:Nat):DB:=match Bs l i with |some r=>r |none=>(none,none)
def St.rg(σ:St)(a:Nat):DB:=BB σ.Bi (σ.k-1-a)
def St.B2(σ:St)(a:Nat)(r:DB):St:=match σ with
 |⟨n,objs,k,Bi,neg,Ca,Bq,low⟩=>⟨n,objs,k,HJ Bi r (k-1-a),neg,Ca,Bq,low⟩
def St.atom(σ:St)(r:DB):St:=match σ with
 |⟨n,objs,k,Bi,neg,Ca,Bq,low⟩=>⟨n,objs,k+1,r::Bi,neg,Ca,Bq,low⟩
def St.atoms(σ:St)(er:List DB):St:=match σ with
 |⟨n,objs,k,Bi,neg,Ca,Bq,low⟩=>⟨n,objs,k+er.length,er++Bi,neg,Ca,Bq,low⟩
def Cv(o:AO):AO:=match o with
 | .exc .. =>.dead | .old .. =>.dead | .iter _=>.dead | .G2 .. =>.dead |o=>o
def PA.kill(t:PA):PA:=PA.fold .nil (λv _ _ l r=>.Ae (OR none (λo=>some (Cv o)) v) l r) t
def St.after(σ:St)(j C:Nat)(a:Option Nat):St:=match σ with
 |⟨n,objs,k,Bi,neg,Ca,Bq,low⟩=>⟨n,objs.kill.set (.old C a) j,k,Bi,neg,Ca,Bq+1,low⟩
def St.Fv(σ:St)(l:Ap)(b:Bool):St:=match σ with
 |⟨n,objs,k,Bi,neg,Ca,Bq,low⟩=>⟨n,objs,k,Bi,(l,b)::neg,Ca,Bq,low⟩
def St.Fw(σ:St)(l:Ap)(b:Bool):St:=match σ with
 |⟨n,objs,k,Bi,neg,Ca,Bq,low⟩=>⟨n,objs,k,Bi,neg,(l,b)::Ca,Bq,low⟩
def KP:Option Int->Option Int->Option Int
 |some a,some b=>some (a+b) |_,_=>none
def Iq(m:Int):Option Int->Option Int
 |some a=>some (m*a) |none=>none
def DN(σ:St):List (Nat×Int)->DB
 | []=>(some 0,some 0)
 |(a,f)::r=>match CH f 0 with
  |true=>(KP (Iq f (σ.rg a).2) (DN σ r).1,KP (Iq f (σ.rg a).1) (DN σ r).2) |false=>(KP (Iq f (σ.rg a).1) (DN σ r).1,KP (Iq f (σ.rg a).2) (DN σ r).2)
def Ap.range(l:Ap)(σ:St):DB:=match l.t with
 | []=>(some l.c,some l.c) |t=>(KP (some l.c) (DN σ t).1,KP (some l.c) (DN σ t).2)
def dH(r:DB):Option Bool:=match(match r.2 with |some h=>CH h 0 |none=>false) with
 |true=>some true
 |false=>(match(match r.1 with |some h=>Fm 0 h |none=>false) with
  |true=>some false
  |false=>none)
def dI(r:DB):Option Bool:=match(match r.2 with |some h=>CH h 0 |none=>false) with
 |true=>some false
 |false=>(match(match r.1 with |some h=>CH 0 h |none=>false) with
  |true=>some false
  |false=>(match r with
   |(some a,some b)=>(match FW a 0 with |true=>(match FW b 0 with |true=>some true |false=>none)|false=>none)
   |_=>none))
def known:List (Ap×Bool)->Ap->Option Bool
 | [],_=>none |(m,b)::r,l=>match m.eq l with |true=>some b |false=>known r l
def OX(σ:St):List (Ap×Bool)->Bool
 | []=>true
 |(l,b)::r=>match dH (l.range σ) with
  |some c=>(match Bool.xor b c with |true=>false |false=>OX σ r) |none=>OX σ r
def OZ(σ:St):List (Ap×Bool)->Bool
 | []=>true
 |(l,b)::r=>match dI (l.range σ) with
  |some c=>(match Bool.xor b c with |true=>false |false=>OZ σ r) |none=>OZ σ r
def room(r:DB):Bool:=match r with
 |(some a,some b)=>Fm a b |_=>true
def narrow(σ:St)(a:Nat)(r:DB)(f:St->Bool):Bool:=match room r with
 |false=>true
 |true=>(match OX (σ.B2 a r) σ.neg with
  |false=>true
  |true=>(match OZ (σ.B2 a r) σ.Ca with
   |false=>true
   |true=>f (σ.B2 a r)))
def CG(σ:St):Int->List (Nat×Int)->Int×List (Nat×Int)
 |c,[]=>(c,[])
 |c,(a,f)::r=>match σ.rg a with
  |(some x,some y)=>(match FW x y with
   |true=>CG σ (c+f*x) r
   |false=>(match CG σ c r with |(d,t)=>(d,(a,f)::t)))
  |_=>(match CG σ c r with |(d,t)=>(d,(a,f)::t))
def both(a b:Bool):Bool:=bt a b false
def Nt(l:Ap)(σ:St)(k:K Bool):Bool:=both (k true (σ.Fv l true)) (k false (σ.Fv l false))
def J5(l:Ap)(σ:St)(k:K Bool):Bool:=match CG σ l.c l.t with
 |(c,[(a,f)])=>(match FW f 1 with
  |true=>both (narrow σ a ((σ.rg a).1,some (-c-1)) (k true)) (narrow σ a (some (-c),(σ.rg a).2) (k false))
  |false=>(match FW f (-1) with
   |true=>both (narrow σ a (some (c+1),(σ.rg a).2) (k true)) (narrow σ a ((σ.rg a).1,some c) (k false))
   |false=>Nt l σ k))
 |_=>Nt l σ k
def WD(l:Ap)(σ:St)(k:K Bool):Bool:=match dH (l.range σ) with
 |some b=>k b σ
 |none=>(match known σ.neg l with
  |some b=>k b σ
  |none=>J5 l σ k)
def isNeg(l:Ap)(σ:St)(k:K Bool):Bool:=match l.t with
 | []=>k (CH l.c 0) σ |_=>WD l σ k
def Nu(l:Ap)(σ:St)(k:K Bool):Bool:=both (k true (σ.Fw l true)) (k false (σ.Fw l false))
def UR(a:Nat)(z:Int)(σ:St)(k:K Bool):Bool:=both (narrow σ a (some z,some z) (k true))
  (both (match(match(σ.rg a).1 with |some x=>CH x z |none=>true) with
   |true=>narrow σ a ((σ.rg a).1,some (z-1)) (k false)
   |false=>true)
   (match(match(σ.rg a).2 with |some y=>CH z y |none=>true) with
   |true=>narrow σ a (some (z+1),(σ.rg a).2) (k false)
   |false=>true))
def J6(l:Ap)(σ:St)(k:K Bool):Bool:=match CG σ l.c l.t with
 |(c,[(a,f)])=>(match FW f 1 with
  |true=>UR a (-c) σ k
  |false=>(match FW f (-1) with
   |true=>UR a c σ k
   |false=>Nu l σ k))
 |_=>Nu l σ k
def Su(l:Ap)(σ:St)(k:K Bool):Bool:=match known σ.Ca l with
 |some b=>k b σ
 |none=>(match known σ.Ca l.neg with
  |some b=>k b σ
  |none=>J6 l σ k)
def Ss(l:Ap)(σ:St)(k:K Bool):Bool:=match dI (l.range σ) with
 |some b=>k b σ |none=>Su l σ k
def isZero(l:Ap)(σ:St)(k:K Bool):Bool:=match l.t with
 | []=>k (FW l.c 0) σ |_=>Ss l σ k
def Jp(σ:St)(a:Nat)(f:St->Bool):Int->Nat->Bool
 |_,0=>true |x,n+1=>both (narrow σ a (some x,some x) f) (Jp σ a f (x+1) n)
def MG:Nat->Ap->St->K Int->Bool
 |0,_,_,_=>bad "force"
 |fuel+1,l,σ,k=>match CG σ l.c l.t with
  |(c,[])=>k c σ
  |(_,(a,_)::_)=>(match σ.rg a with
   |(some x,some y)=>(match CH (y-x) 200 with
    |true=>Jp σ a (λσ=>MG fuel l σ k) x (y-x+1).toNat
    |false=>bad "force: wide")
   |_=>bad "force: open")
def FV(l:Ap)(σ:St)(k:K Int):Bool:=match l.t with
 | []=>k l.c σ |_=>MG 6 l σ k
inductive Fl where
 |next |brk |cont
 |ret(v:AV)
 deriving Inhabited
structure Bo where
 fr:Nat
 cells:List (Nm×Nat)
 deriving Inhabited
inductive NB where
 |data
 |FR
 |FI(f:Nat)
abbrev CL:=AV->List AV->St->M AV
def A2{α:Type}(l:List (Nm×α))(x:Nm):Option α:=LR none (λp _ ih=>bt (Ao9 x p.1) (some p.2) ih) l
def BM{α:Type}(l:List (Nm×α))(x:Nm)(v:α):List (Nm×α):=LR [(x,v)] (λp r ih=>bt (Ao9 x p.1) ((p.1,v)::r) (p::ih)) l
def ZO{α:Type}(l:List (Nm×α))(x:Nm):List (Nm×α):=LR [] (λp _ ih=>bt (Ao9 x p.1) ih (p::ih)) l
def M7(σ:St)(a:Nat)(k:K AV):Nat->List AV->Bool
 |_,[]=>true |j,v::r=>both (narrow σ a (some (Api j),some (Api j)) (k v)) (M7 σ a k (j+1) r)
def JZ(a:Nat)(l:List AV)(σ:St)(k:K AV):Bool:=match σ.rg a with
 |(some x,some y)=>(match FW x y with
  |true=>(match Fm 0 x with
   |true=>(match Bs l x.toNat with |some v=>k v σ |none=>bad "sel")
   |false=>bad "sel")
  |false=>(match both (Fm 0 x) (CH y l.length) with
   |true=>M7 σ a k 0 l
   |false=>bad "sel range"))
 |_=>bad "sel"
def pX(v:AV)(σ:St)(k:K AV):Bool:=match v with
 | .sel .. =>bad "choice" |v=>k v σ
def pY(v:AV)(σ:St)(k:K AV):Bool:=match v with
 | .sel a l=>JZ a l σ λv σ=>pX v σ k |v=>k v σ
def pZ(v:AV)(σ:St)(k:K AV):Bool:=match v with
 | .sel a l=>JZ a l σ λv σ=>pY v σ k |v=>k v σ
def res(v:AV)(σ:St)(k:K AV):Bool:=match v with
 | .sel a l=>JZ a l σ λv σ=>pZ v σ k |v=>k v σ
def OM(E:Bo)(x:Nm)(σ:St)(k:K AV):Bool:=match σ.obj E.fr with
 |some (.frame m)=>(match A2 m x with |some v=>k v σ |none=>bad "unbound") |_=>bad "frame"
def OK(E:Bo)(x:Nm)(σ:St)(k:K AV):Bool:=match A2 E.cells x with
 |some c=>(match σ.obj c with |some (.cell (some v))=>k v σ |_=>bad "cell") |none=>bad "no cell"
def Co(E:Bo)(x:Nm)(v:AV)(σ:St)(k:K Unit):Bool:=match σ.obj E.fr with
 |some (.frame m)=>k () (σ.put E.fr (.frame (BM m x v))) |_=>bad "frame"
def EH(E:Bo)(x:Nm)(v:AV)(σ:St)(k:K Unit):Bool:=match A2 E.cells x with
 |some c=>(match σ.obj c with |some (.cell _)=>k () (σ.put c (.cell (some v)))|_=>bad "cell") |none=>bad "no cell"
def G7:AV->Nat
 | .A4=>0 | .bool _=>1 | .int _=>2 | .str _=>3 | .B4 _=>4 | .Ak _=>5 | .obj _=>6 | .Au _=>7 | .sel .. =>8 | .ED _=>9 | .any=>10
def CK:List UInt8->List UInt8->Bool
 | [],[]=>true |a::r,b::s=>match Ao9 a.toNat b.toNat with |true=>CK r s |false=>false
 |_,_=>false
def eqL(f:AV->AV->St->K Bool->Bool)(l:List AV):List AV->St->K Bool->Bool:=LR
 (λm σ k=>k (match m with | []=>true |_=>false) σ)
 (λa _ ih m σ k=>LC (k false σ) (λb s=>f a b σ λc σ=>bt c (ih s σ k) (k false σ)) m) l
def XF(n:Nat):Bool:=match n with |0=>true |2=>true |3=>true |5=>true |_=>false
def R7(a b:AV)(σ:St)(k:K Bool):Bool:=match both (XF (G7 a)) (both (XF (G7 b)) (!(Ao9 (G7 a) (G7 b)))) with
 |true=>k false σ |false=>bad "eq kinds"
def iG(f:AV->AV->St->K Bool->Bool)(x y:List AV)(σ:St)(k:K Bool):Bool:=match Ao9 x.length y.length with
 |true=>eqL f x y σ k |false=>k false σ
def VT(f:AV->AV->St->K Bool->Bool)(x y:Nat)(σ:St)(k:K Bool):Bool:=match σ.obj x,σ.obj y with
 |some (.list none l none),some (.list none m none)=>iG f l m σ k |some (.list none [] none),some (.list (some _) (_::_) none)=>k false σ |some (.list (some _) (_::_) none),some (.list none [] none)=>k false σ |_,_=>bad "eq objs"
def eqA(f:AV->AV->St->K Bool->Bool)(a b:AV)(σ:St)(k:K Bool):Bool:=match a,b with
 | .A4,.A4=>k true σ | .bool x,.bool y=>k (x==y) σ | .int x,.int y=>isZero (x.sub y) σ k | .str x,.str y=>k (Ao9 x y) σ | .B4 x,.B4 y=>k (CK x y) σ | .Ak x,.Ak y=>eqL f x y σ k | .obj x,.obj y=>VT f x y σ k |a,b=>R7 a b σ k
def eqZ(_ _:AV)(_:St)(_:K Bool):Bool:=bad "eq fuel"
def eqS(f:AV->AV->St->K Bool->Bool)(a b:AV)(σ:St)(k:K Bool):Bool:=res a σ λa σ=>res b σ λb σ=>eqA f a b σ k
def rM(n:Nat):AV->AV->St->K Bool->Bool:=NR eqZ (λ_ f=>eqS f) n
def isNone(a:AV)(σ:St)(k:K Bool):Bool:=res a σ λa σ=>match a with
 | .A4=>k true σ | .any=>bad "is any" | .Au _=>bad "is top" | .sel .. =>bad "is sel" |_=>k false σ
def bN(a b:AV)(σ:St)(k:K Bool):Bool:=match b with
 | .A4=>isNone a σ k |_=>bad "is"
def inL(a:AV)(l:List AV):St->K Bool->Bool:=LR (λσ k=>k false σ) (λb _ ih σ k=>rM 40 b a σ λc σ=>bt c (k true σ) (ih σ k)) l
def FY(a b:AV)(σ:St)(k:K Bool):Bool:=match a,b with
 | .str x,.str y=>k (Ao9 x y) σ | .int x,.int y=>isZero (x.sub y) σ k | .str _,.int _=>k false σ | .int _,.str _=>k false σ |_,_=>bad "key"
def keyOk(i:AV):Bool:=match i with | .str _=>true | .int _=>true |_=>false
def MJ(l:List (AV×AV))(i:AV)(σ:St)(k:K Bool):Bool:=match keyOk i with
 |true=>LR (λσ k=>k false σ) (λp _ ih σ k=>FY p.1 i σ λc σ=>bt c (k true σ) (ih σ k)) l σ k |false=>bad "key kind"
def keysOf:List (AV×AV)->List AV
 | []=>[] |(a,_)::r=>a::keysOf r
structure Tab where
 init:Nat->Option Nat
 isExc:Nat->Bool
 attr:Nat->Nm->Option NB
 U0:Nat->Nm->Option Nat
 Jc:Nat->Option (List<|AV×AV)
 sum:Nat->List AV->St->K AV->Option Bool
 J9:Nat->Nat->Bool
 loop:Nat->Bo->St->Option (M Unit)
 dc:Nat->Bool
 enc:Nm->Option (List UInt8)
 ch:Nm->Nat->Option Nm
 whole:AV
 CI:Nm
 OQ:Nm
 DL:Nm
 E8:Nm
 DK:Nm
 E9:Nm
 E7:Nm
def i4(T:Tab)(a b:AV)(σ:St)(k:K Bool):Bool:=match b with
 | .Ak l=>inL a l σ k
 | .obj i=>(match σ.obj i with
  |some (.list none l none)=>inL a l σ k |some (.dict l)=>MJ l a σ k
  |_=>bad "in obj")
 | .Au (.ref d)=>(match T.Jc d with |some l=>MJ l a σ k |none=>bad "in top") |_=>bad "in"
def Ox(T:Tab)(a b:AV)(σ:St)(k:K Bool):Bool:=res a σ λa σ=>res b σ λb σ=>i4 T a b σ k
def two(a b:AV)(σ:St)(f:Ap->Ap->St->Bool):Bool:=res a σ λa σ=>res b σ λb σ=>match a,b with
 | .int x,.int y=>f x y σ |_,_=>bad "ints"
def neg(k:K Bool):K Bool:=λc σ=>k (!c) σ
def Dm(T:Tab)(op:CmpOp)(a b:AV)(σ:St)(k:K Bool):Bool:=match op with
 | .Eq=>rM 40 a b σ k | .NotEq=>rM 40 a b σ (neg k) | .Lt=>two a b σ λx y σ=>isNeg (x.sub y) σ k | .Gt=>two a b σ λx y σ=>isNeg (y.sub x) σ k | .LtE=>two a b σ λx y σ=>isNeg (y.sub x) σ (neg k) | .GtE=>two a b σ λx y σ=>isNeg (x.sub y) σ (neg k) | .Is=>bN a b σ k | .IsNot=>bN a b σ (neg k) | .In=>Ox T a b σ k | .NotIn=>Ox T a b σ (neg k)
def XH(a:Int):Nat->Int
 |0=>1 |n+1=>a*XH a n
def rep{α:Type}(l:List α):Nat->List α
 |0=>[] |n+1=>l++rep l n
def small(n:Int):Bool:=both (Fm 0 n) (CH n 1000)
def newObj(o:AO)(σ:St)(k:K AV):Bool:=k (.obj σ.n) (σ.new o)
def E4{α:Type}(l:List α):Nat:=LR 0 (λ_ _ n=>ArI n) l
def fits{α:Type}(l:List α):Bool:=Ap0 (E4 l) 4000
def newList(l:List AV)(σ:St)(k:K AV):Bool:=both (fits l) (newObj (.list none l none) σ k)
def C3(l:List AV)(σ:St)(k:K AV):Bool:=both (fits l) (k (.Ak l) σ)
def word(c:Int):Bool:=both (CH (-4611686018427387904) c) (CH c 4611686018427387904)
def pJ(x y:Ap)(σ:St)(k:K AV):Bool:=match y.t with
 | []=>both (word y.c) (match x.t with
  | []=>k (.int ⟨Int.mul x.c y.c,[]⟩) σ
  |_=>k (.int (x.mul y.c)) σ)
 |_=>(match x.t with
  | []=>both (word x.c) (k (.int (y.mul x.c)) σ)
  |_=>bad "product")
def nM(x y:Ap)(σ:St)(k:K AV):Bool:=match x.t,y.t with
 | [],[]=>(match both (CH 0 y.c) (CH y.c 1073741824) with |true=>k (.int (.k (Int.fdiv x.c y.c))) σ |false=>bad "div") |_,_=>bad "div"
def x8(x y:Ap)(σ:St)(k:K AV):Bool:=match x.range σ with
 |(some lo,some hi)=>(match both (Fm 0 lo) (CH hi y.c) with
  |true=>k (.int x) σ
  |false=>bad "mod")
 |_=>bad "mod"
def pI(x y:Ap)(σ:St)(k:K AV):Bool:=match y.t with
 | []=>(match CH 0 y.c with
  |true=>(match x.t with
   | []=>k (.int (.k (Int.fmod x.c y.c))) σ
   |_=>x8 x y σ k)
  |false=>bad "mod")
 |_=>bad "mod"
def pS(x y:Ap)(σ:St)(k:K AV):Bool:=match x.t,y.t with
 | [],[]=>(match both (CH 0 x.c) (both (CH x.c 100) (small y.c)) with
  |true=>k (.int (.k (XH x.c y.c.toNat))) σ
  |false=>bad "pow")
 |_,_=>bad "pow"
def binI(op:Operator)(x y:Ap)(σ:St)(k:K AV):Bool:=match op with
 | .Add=>k (.int (x.add y)) σ | .Sub=>k (.int (x.sub y)) σ | .Mult=>pJ x y σ k | .FloorDiv=>nM x y σ k | .Mod=>pI x y σ k | .Pow=>pS x y σ k |_=>bad "int op"
def mV(x y:Nat)(σ:St)(k:K AV):Bool:=match σ.obj x,σ.obj y with
 |some (.list none l none),some (.list none m none)=>newList (l++m) σ k |_,_=>bad "list +"
def Xk(x:Nat)(y:Ap)(σ:St)(k:K AV):Bool:=match σ.obj x with
 |some (.list none l none)=>FV y σ λn σ=>(match small n with
  |true=>newList (rep l n.toNat) σ k
  |false=>bad "list *")
 |_=>bad "list *"
def sZ(op:Operator)(a b:AV)(σ:St)(k:K AV):Bool:=match op with
 | .Add=>(match a,b with
  | .Ak x,.Ak y=>C3 (x++y) σ k | .obj x,.obj y=>mV x y σ k
  |_,_=>bad "+")
 | .Mult=>(match a,b with
  | .Ak _,.int _=>bad "tuple *" | .obj x,.int y=>Xk x y σ k
  |_,_=>bad "*")
 |_=>bad "binop"
def sY(op:Operator)(a b:AV)(σ:St)(k:K AV):Bool:=match a,b with
 | .int x,.int y=>binI op x y σ k |a,b=>sZ op a b σ k
def binOp(op:Operator)(a b:AV)(σ:St)(k:K AV):Bool:=res a σ λa σ=>res b σ λb σ=>sY op a b σ k
def truth(v:AV)(σ:St)(k:K Bool):Bool:=res v σ λv σ=>match v with
 | .bool b=>k b σ | .A4=>k false σ |_=>bad "truth"
def place(n:Nat)(i:Int):Option Nat:=match both (Fm (-4000) i) (Fm i 4000) with
 |true=>(match CH i 0 with
  |true=>(match CH (i+n) 0 with |true=>none |false=>some (i+n).toNat)
  |false=>(match CH i n with |true=>some i.toNat |false=>none))
 |false=>none
def clip(n:Nat)(d:Nat):Option Int->Nat
 |none=>d
 |some i=>match CH i 0 with
  |true=>(i+n).toNat |false=>(match CH i n with |true=>i.toNat |false=>n)
def cut{α:Type}(l:List α)(a b:Option Int):List α:=
 (l.drop<|clip l.length 0 a).take (clip l.length l.length b-clip l.length 0 a)
def Qk(l:List (AV×AV))(i:AV):St->K AV->Bool:=LR (λ_ _=>bad "key") (λp _ ih σ k=>FY p.1 i σ λc σ=>bt c (k p.2 σ) (ih σ k)) l
def JS(l:List AV)(x:Ap)(σ:St)(k:K AV):Bool:=FV x σ λx σ=>match place l.length x with
 |some j=>(match Bs l j with |some v=>k v σ |none=>bad "idx") |none=>bad "index"
def i6(l:List AV)(x:Ap)(a:Nat)(f:Int)(σ:St)(k:K AV):Bool:=match σ.rg a with
 |(some lo,some hi)=>(match both (FW f 1) (both (Fm 0 lo) (both (CH hi l.length) (both (Fm hi 4000) (!(FW lo hi))))) with
  |true=>k (.sel a l) σ
  |false=>JS l x σ k)
 |_=>JS l x σ k
def Hy(l:List AV)(x:Ap)(σ:St)(k:K AV):Bool:=match x.t with
 | [(a,f)]=>(match FW x.c 0 with
  |true=>i6 l x a f σ k
  |false=>JS l x σ k)
 |_=>JS l x σ k
def Aek(l:List UInt8)(x:Ap)(σ:St)(k:K AV):Bool:=FV x σ λx σ=>match place l.length x with
 |some j=>(match Bs l j with |some v=>k (.int (.k (Api v.toNat))) σ |none=>bad "idx") |none=>bad "bytes index"
def Qu(l:List AV)(x:Ap)(σ:St)(k:K AV):Bool:=FV x σ λx σ=>match both (Fm 0 x) (Fm x 4000) with
 |true=>(match Bs l x.toNat with |some v=>k v σ |none=>bad "idx suf") |false=>bad "idx suf"
def We(l:List AV)(x:Ap)(σ:St)(k:K AV):Bool:=FV x σ λx σ=>match both (CH x 0) (both (Fm (-x) l.length) (Fm (-4000) x)) with
 |true=>(match Bs l (x+l.length).toNat with |some v=>k v σ |none=>bad "idx") |false=>bad "idx pre"
def getL(pre:Option Nat)(l:List AV)(suf:Option Nat)(i:AV)(σ:St)(k:K AV):Bool:=match i with
 | .int x=>(match pre,suf with
  |none,none=>Hy l x σ k |none,some _=>Qu l x σ k |some _,none=>We l x σ k
  |_,_=>bad "idx")
 |_=>bad "idx"
def JG(p:Nat)(x:Ap):Option Nat:=match x.t with
 | [(q,f)]=>(match both (Ao9 q p) (both (FW f 1) (Fm 0 x.c)) with |true=>some x.c.toNat |false=>none) |_=>none
def BF(σ:St)(p:Option Nat):Bool:=match p with
 |none=>true |some a=>(match(σ.rg a).2 with |some y=>Fm y 1000000 |none=>false)
def getM(l:List AV)(p:Nat)(m:List AV)(i:AV)(σ:St)(k:K AV):Bool:=match i with
 | .int x=>(match JG p x with
  |some n=>both (both (both (fits l) (fits m)) (BF σ (some p))) (match Fm l.length (Api n) with
   |true=>(match Bs m (n-l.length) with |some v=>k v σ |none=>bad "idx mid")
   |false=>bad "idx mid")
  |none=>Qu l x σ k)
 |_=>bad "idx"
def uL(j:Nat)(i:AV)(σ:St)(k:K AV):Bool:=match σ.obj j with
 |some (.list p l s)=>getL p l s i σ k |some (.mid l p m)=>getM l p m i σ k |some (.dict l)=>Qk l i σ k |_=>bad "getI obj"
def uN(T:Tab)(s:Nm)(i:AV)(σ:St)(k:K AV):Bool:=match i with
 | .int x=>(match x.t,Fm 0 x.c with
  | [],true=>(match T.ch s x.c.toNat with |some y=>k (.str y) σ |none=>bad "sign")
  |_,_=>bad "sign")
 |_=>bad "sign"
def uM(T:Tab)(i:AV)(σ:St)(k:K AV):Bool:=match i with
 | .int x=>(match x.t,FW x.c 1 with
  | [],true=>k T.whole σ
  |_,_=>bad "opq index")
 |_=>bad "opq index"
def n5(T:Tab)(o i:AV)(σ:St)(k:K AV):Bool:=match o with
 | .Ak l=>(match i with | .int x=>Hy l x σ k |_=>bad "tuple index") | .B4 l=>(match i with | .int x=>Aek l x σ k |_=>bad "bytes index") | .obj j=>uL j i σ k | .Au (.ref d)=>(match T.Jc d with |some l=>Qk l i σ k |none=>bad "getI top") | .str s=>uN T s i σ k | .ED _=>uM T i σ k |_=>bad "getI"
def TJ(T:Tab)(o i:AV)(σ:St)(k:K AV):Bool:=res o σ λo σ=>res i σ λi σ=>n5 T o i σ k
def Q7(v:AV)(σ:St)(k:K (Option Int)):Bool:=res v σ λv σ=>match v with
 | .A4=>k none σ | .int x=>FV x σ λx σ=>k (some x) σ |_=>bad "slice part"
def VA(p:Nat)(l:List AV)(lo hi:AV)(σ:St)(k:K AV):Bool:=match lo,hi with
 | .int x,.A4=>(match JG p x with
  |some n=>newList (l.drop n) σ k
  |none=>bad "cut pre")
 | .A4,.int x=>(match JG p x with
  |some n=>newObj (.list (some p) (l.take n) none) σ k
  |none=>bad "cut pre")
 |_,_=>bad "cut pre"
def tM(j:Nat)(lo hi:AV)(σ:St)(k:K AV):Bool:=match σ.obj j with
 |some (.list none l none)=>Q7 lo σ λa σ=>Q7 hi σ λb σ=>both (fits l) (newList (cut l a b) σ k) |some (.list (some p) l none)=>both (both (fits l) (BF σ (some p))) (res lo σ λlo σ=>res hi σ λhi σ=>VA p l lo hi σ k) |_=>bad "cut obj"
def nK(o lo hi:AV)(σ:St)(k:K AV):Bool:=match o with
 | .Ak l=>Q7 lo σ λa σ=>Q7 hi σ λb σ=>both (fits l) (C3 (cut l a b) σ k) | .B4 l=>Q7 lo σ λa σ=>Q7 hi σ λb σ=>both (fits l) (k (.B4 (cut l a b)) σ) | .obj j=>tM j lo hi σ k |_=>bad "cut"
def zK(o:AV)(σ:St)(k:K AV):Bool:=match o with
 | .obj j=>(match σ.obj j with
  |some (.list none l none)=>newList l.reverse σ k
  |_=>bad "rev")
 |_=>bad "rev"
def oX(v:AV):Bool:=match v with
 | .int x=>(match x.t with | []=>FW x.c (-1)|_=>false) |_=>false
def Sh(o lo hi st:AV)(σ:St)(k:K AV):Bool:=res o σ λo σ=>match st with
 | .A4=>nK o lo hi σ k
 |st=>(match oX st,lo,hi with
  |true,.A4,.A4=>zK o σ k
  |_,_,_=>bad "step")
def VL(i v:AV)(done:List (AV×AV))(j:Nat):List (AV×AV)->St->K Unit->Bool
 | [],σ,k=>k () (σ.put j (.dict (done++ [(i,v)])))
 |(a,u)::r,σ,k=>FY a i σ λc σ=>match c with
  |true=>k () (σ.put j (.dict (done++(a,v)::r))) |false=>VL i v (done++ [(a,u)]) j r σ k
def Gi(j:Nat)(i v:AV)(σ:St)(k:K Unit):Bool:=match σ.obj j with
 |some (.list none l none)=>(match i with
  | .int x=>FV x σ λx σ=>(match Fm 0 x,place l.length x with
   |true,some n=>k () (σ.put j (.list none (HJ l v n) none))
   |_,_=>bad "store idx")
  |_=>bad "store idx")
 |some (.dict l)=>(match both (keyOk i) (Ap0 l.length 1000) with |true=>VL i v [] j l σ k |false=>bad "store key") |_=>bad "setI"
def Uo(o i v:AV)(σ:St)(k:K Unit):Bool:=res o σ λo σ=>res i σ λi σ=>match o with
 | .obj j=>Gi j i v σ k |_=>bad "setI"
def iQ(v:AV):Bool:=match v with
 | .any=>false | .Au (.builtin _)=>false |_=>true
def Om:Nat->AV->Bool
 |0,_=>false
 |n+1,v=>match v with
  | .sel _ l=>LR true (λv _ ih=>both (Om n v) ih) l |v=>iQ v
def EW(l:List (Nm×AV))(x:Nm)(σ:St)(k:K AV):Bool:=match A2 l x with |some v=>both (Om 4 v) (k v σ)|none=>bad "attr"
def iK(T:Tab)(C:Nat)(l:List (Nm×AV))(x:Nm)(σ:St)(k:K AV):Bool:=match T.attr C x with
 |some .data=>EW l x σ k |some (.FI _)=>(match A2 l x with |none=>newObj .dead σ k |some _=>bad "own method") |_=>bad "attr?"
def Wb(T:Tab)(o:AV)(x:Nm)(σ:St)(k:K AV):Bool:=res o σ λo σ=>match o with
 | .obj j=>(match σ.obj j with
  |some (.inst C l)=>iK T C l x σ k
  |some (.old C (some d))=>(match T.attr C x,σ.obj d with
   |some .FR,some (.ed l)=>EW l x σ k
   |_,_=>bad "attr of exc")
  |_=>bad "getA obj")
 |_=>bad "getA"
def YJ(T:Tab)(o:AV)(x:Nm)(v:AV)(σ:St)(k:K Unit):Bool:=res o σ λo σ=>match o with
 | .obj j=>(match σ.obj j with
  |some (.inst C l)=>(match T.attr C x with
   |some .data=>both (Ap0 (E4 l) 900) (k () (σ.put j (.inst C (BM l x v))))
   |_=>bad "setA")
  |some (.exc C none)=>(match T.attr C x with
   |some .FR=>k () ((σ.new (.ed [(x,v)])).put j (.exc C (some σ.n)))
   |_=>bad "setA")
  |some (.exc C (some d))=>(match T.attr C x,σ.obj d with
   |some .FR,some (.ed l)=>both (Ap0 (E4 l) 900) (k () (σ.put d (.ed (BM l x v))))
   |_,_=>bad "setA")
  |_=>bad "setA obj")
 |_=>bad "setA"
def near(a:Int):Bool:=both (Fm (-1000000) a) (Fm a 1000000)
def S3(a b s:Int):Bool:=both (near a) (both (near b) (both (near s) (!(FW s 0))))
def Bv(v:AV)(σ:St)(k:K Nat):Bool:=res v σ λv σ=>match v with
 | .Ak l=>k σ.n (σ.new (.iter (.seq l)))
 | .obj j=>(match σ.obj j with
  |some (.list none _ none)=>k σ.n (σ.new (.iter (.lst j 0))) |some (.G2 a b s)=>both (S3 a b s) (k σ.n (σ.new (.iter (.Bi a b s)))) |some (.iter (.VQ ..))=>k j σ |some (.iter (.zip ..))=>k j σ
  |_=>bad "iter obj")
 |_=>bad "iter"
def yG(j:Nat)(l:List AV)(σ:St)(k:K (Option AV)):Bool:=match l with
 |v::r=>k (some v) (σ.put j (.iter (.seq r))) | []=>k none (σ.put j .dead)
def jB(j s n:Nat)(σ:St)(k:K (Option AV)):Bool:=match σ.obj s with
 |some (.list none l none)=>(match Bs l n with
  |some v=>k (some v) (σ.put j (.iter (.lst s (n+1))))
  |none=>k none (σ.put j .dead))
 |_=>bad "next list"
def jC(j:Nat)(c e s:Int)(σ:St)(k:K (Option AV)):Bool:=match(match CH 0 s with |true=>CH c e |false=>CH e c) with
 |true=>k (some (.int (.k c))) (σ.put j (.iter (.Bi (c+s) e s))) |false=>k none σ
def H6(j:Nat)(σ:St)(k:K (Option AV)):Bool:=match σ.obj j with
 |some (.iter (.seq l))=>yG j l σ k |some (.iter (.lst s n))=>jB j s n σ k |_=>bad "next"
def Xp(j:Nat)(σ:St)(k:K (Option AV)):Bool:=match σ.obj j with
 |some (.iter (.Bi c e s))=>jC j c e s σ k |_=>H6 j σ k
def nextOf(own:Bool)(j:Nat)(σ:St)(k:K (Option AV)):Bool:=match σ.obj j with
 |some (.iter (.VQ i n))=>both own (H6 i σ λr σ=>(match r with
  |some v=>k (some (.Ak [.int (.k n),v])) (σ.put j (.iter (.VQ i (n+1))))
  |none=>k none (σ.put j .dead)))
 |some (.iter (.zip a b))=>both (both own (both (!(Ao9 a j)) (!(Ao9 b j)))) (H6 a (σ.put j .dead) λr σ=>(match r with
  |none=>k none (σ.put j .dead)
  |some v=>H6 b (σ.put j .dead) λr σ=>(match r with
   |none=>k none (σ.put j .dead)
   |some u=>k (some (.Ak [v,u])) (σ.put j (.iter (.zip a b))))))
 |_=>Xp j σ k
def Qq:Nat:=64
def turned(f:Fl)(k:K Fl)(go:St->Bool)(σ:St):Bool:=match f with
 | .brk=>k .next σ
 | .ret v=>k (.ret v) σ |_=>go σ
def BZ(own:Bool)(turn:AV->St->M Fl)(j:Nat)(n:Nat):St->M Fl:=NR (λ_ _ _=>bad "loop lim")
 (λ_ ih σ k ke=>nextOf own j σ λr σ=>OR (k .next σ) (λv=>turn v σ (λf σ=>turned f k (λσ=>ih σ k ke) σ) ke) r) n
def BR(i:Nat)(v:AV)(σ:St)(k:K Unit):Bool:=match σ.obj i with
 |some (.list p l none)=>both (both (fits l) (BF σ p)) (k () (σ.put i (.list p (l++ [v]) none))) |some (.mid l p m)=>both (both (both (fits l) (fits m)) (BF σ (some p))) (k () (σ.put i (.mid l p (m++ [v])))) |_=>bad "push"
def putD(j:Nat)(i v:AV)(σ:St)(k:K Unit):Bool:=res i σ λi σ=>match σ.obj j with
 |some (.dict l)=>(match both (keyOk i) (Ap0 l.length 1000) with |true=>VL i v [] j l σ k |false=>bad "store key") |_=>bad "put"
def Em(i:Nat):List (AV×AV)->St->K Unit->Bool
 | [],σ,k=>k () σ |(a,v)::r,σ,k=>putD i a v σ λ_ σ=>Em i r σ k
def IC:List AV->Option (List AV×List AV)
 | []=>some ([],[]) | .Ak (v::r)::l=>(match IC l with |some (hs,ts)=>some (v::hs,.Ak r::ts)|none=>none) |_=>none
def Mh:List AV->Bool
 | []=>true | .Ak []::r=>Mh r |_=>false
def Fd(a:Nat):Nat->List AV->Option (List AV)
 |0,l=>(match Mh l with |true=>some [] |false=>none)
 |n+1,l=>(match IC l with
  |some (hs,ts)=>(match Fd a n ts with |some r=>some (.sel a hs::r)|none=>none)
  |none=>none)
def unp(v:AV)(σ:St)(f:List AV->St->Bool):Bool:=match v with
 | .Ak l=>f l σ | .obj j=>(match σ.obj j with |some (.list none l none)=>f l σ |_=>bad "unpack obj") |_=>bad "unpack"
def IQ(n:Nat)(v:AV)(σ:St)(f:List AV->St->Bool):Bool:=match v with
 | .sel a l=>(match Fd a n l with
  |some vs=>f vs σ
  |none=>res v σ λv σ=>unp v σ f)
 |v=>unp v σ f
def idx:List AV->Ap->Nat->St->K AV->Bool
 | [],_,_,_,_=>bad "index"
 |a::r,y,n,σ,k=>(match a with
  | .int x=>isZero (x.sub y) σ λc σ=>bt c (k (.int (.k (Api n))) σ) (idx r y (n+1) σ k)
  |_=>bad "index part")
def Qa:List AV->Bool
 | []=>true | .int _::r=>Qa r |_=>false
def bG(l:List AV)(v:AV)(σ:St)(k:K AV):Bool:=both (both (fits l) (Qa l)) (res v σ λv σ=>match v with
 | .int y=>idx l y 0 σ k
 |_=>bad "index")
def XG(j:Nat)(σ:St)(k:K AV):Bool:=match σ.obj j with
 |some (.list p l none)=>both (both (fits l) (BF σ p)) (match l.reverse with
  |v::r=>k v (σ.put j (.list p r.reverse none))
  | []=>bad "pop")
 |_=>bad "pop"
def V2(j i:Nat)(σ:St)(k:K AV):Bool:=match σ.obj j,σ.obj i with
 |some (.list p l none),some (.list none m none)=>both (both (fits (l++m)) (BF σ p)) (k .A4 (σ.put j (.list p (l++m) none))) |_,_=>bad "extend"
inductive MK where
 |fn(f:Nat)(self:Bool)
 |pop |app |ext |exc |enc |idx
def iH(T:Tab)(j:Nat)(x:Nm)(σ:St)(f:MK->Bool):Bool:=match σ.obj j with
 |some (.inst C l)=>(match T.attr C x,A2 l x with
  |some (.FI g),none=>f (.fn g true)
  |_,_=>bad "method")
 |some (.mid ..)=>bt (Ao9 x T.CI) (f .app) (bad "mid method") |some (.list ..)=>bt (Ao9 x T.OQ) (f .pop) (bt (Ao9 x T.CI) (f .app) (bt (Ao9 x T.DL) (f .ext) (bad "list method"))) |_=>bad "method of obj"
def Sd(T:Tab)(o:AV)(x:Nm)(σ:St)(f:MK->Bool):Bool:=match o with
 | .obj j=>iH T j x σ f
 | .Au (.ref C)=>(match T.U0 C x with
  |some g=>f (.fn g false)
  |none=>bad "class attr")
 | .Au (.type t)=>bt (both (Ao9 x T.E9) (t=="Exception")) (f .exc) (bad "type attr") | .str _=>bt (Ao9 x T.DK) (f .enc) (bad "str method") | .Ak _=>bt (Ao9 x T.E8) (f .idx) (bad "tuple method") |_=>bad "findM"
def Ew(vs:List AV)(σ:St)(k:K AV):Bool:=match vs with
 | [.obj j,_]=>(match σ.obj j with |some (.exc C l)=>k .A4 (σ.put j (.exc C l))|_=>bad "Exception.__init__") |_=>bad "Exception."
def FQ(T:Tab)(cl:CL)(m:MK)(o:AV)(vs:List AV)(σ:St):M AV:=λk ke=>match m with
 | .fn g self=>cl (.Au (.ref g)) (bt self (o::vs) vs) σ k ke | .pop=>(match o,vs with | .obj j,[]=>XG j σ k |_,_=>bad "pop") | .app=>(match o,vs with | .obj j,[v]=>BR j v σ λ_ σ=>k .A4 σ |_,_=>bad "append") | .ext=>(match o,vs with | .obj j,[.obj i]=>V2 j i σ k |_,_=>bad "extend")
 | .exc=>Ew vs σ k | .enc=>(match o,vs with | .str s,[.str e]=>bt (Ao9 e T.E7) (match T.enc s with |some b=>k (.B4 b) σ |none=>bad "encode") (bad "encoding")|_,_=>bad "encode") | .idx=>(match o,vs with | .Ak l,[v]=>bG l v σ k |_,_=>bad "index")
def St.lower(σ:St):St:=match σ with
 |⟨n,objs,k,Bi,neg,Ca,Bq,_⟩=>⟨n,objs,k,Bi,neg,Ca,Bq,n⟩
def forget(f:St->M AV)(σ:St)(k:K AV):Bool:=both (f σ.lower (λ_ σ'=>Ao9 σ'.Bq σ.Bq) (λ_ _=>bad "forget: raises")) (k .any σ)
def Z9(f:St->M AV)(σ:St)(k:K AV):Bool:=both (f σ.lower (λv σ'=>match v with | .bool _=>Ao9 σ'.Bq σ.Bq |_=>bad "forget: no truth") (λ_ _=>bad "forget: raises")) (k (.sel σ.k [.bool false,.bool true]) (σ.atom (some 0,some 1)))
mutual
inductive CE where
 |A4
 |tru(b:Bool)
 |int(i:Int)
 |str(i:Nm)
 |B4(b:List UInt8)
 |l(x:Nm)
 |Mp(x:Nm)
 |iL(x:Nm)(v:AV)
 |DY(op:BoolOp)(l:List CE)
 |bin(op:Operator)(a b:CE)
 |not(a:CE)
 |neg(a:CE)
 |Oz(t a b:CE)
 |dict(ks vs:List CE)
 |list(l:List CE)
 |Ak(l:List CE)
 |comp(elt:CE)(t:CT)(it:CE)(ifs:List CE)
 |NX(elt:CE)(t:CT)(it:CE)(t2:CT)(o4:CE)
 |VE(k v:CE)(t:CT)(it:CE)
 |K4(a:CE)(ops:List CmpOp)(bs:List CE)
 |call(f:CE)(args:List CE)
 |FI(o:CE)(x:Nm)(args:List CE)
 |attr(o:CE)(x:Nm)
 |sub(o i:CE)
 |zQ(o a b c:CE)
 |mark(n:Nat)(e:CE)
inductive CT where
 |l(x:Nm)
 |Mp(x:Nm)
 |attr(o:CE)(x:Nm)
 |sub(o i:CE)
 |Ak(l:List CT)
end
instance:Inhabited CE:=⟨.A4⟩
instance:Inhabited CT:=⟨.l 0⟩
inductive CS where
 |expr(e:CE)
 |pass
 |brk
 |cont
 |ret(e:CE)
 |rH(t:CT)(e:CE)
 |zW(ts:List CT)(e:CE)
 |asc(tg:CT)(elt:CE)(t:CT)(it:CE)(ifs:List CE)
 |Oz(t:CE)(b o:List CS)
 |Zx(tag:Nat)(t:CE)(b:List CS)
 |V6(t:CT)(it:CE)(b:List CS)
 |zM(e:CE)
 |Nl(b:List CS)(c:CE)(x:Nm)(h:List CS)
 deriving Inhabited
structure CX where
 T:Tab
 cl:CL
abbrev Cd:=CX->Bo->St->M AV
abbrev Cb:=CX->Bo->St->M Bool
abbrev Ct:=CX->Bo->AV->St->M Unit
abbrev Cs:=CX->Bo->St->M Fl
def ZD:Cd:=λ_ _ _ _ _=>bad "code"
def AdG:Ct:=λ_ _ _ _ _ _=>bad "target"
def Dz(v:AV):Cd:=λ_ _ σ k _=>k v σ
def xR(x:Nm):Cd:=λ_ E σ k _=>OM E x σ k
def tF(x:Nm):Cd:=λ_ E σ k _=>OK E x σ k
def sX(op:Operator)(a b:Cd):Cd:=λX E σ k ke=>a X E σ (λx σ=>b X E σ (λy σ=>binOp op x y σ k) ke) ke
def yK(a:Cd):Cd:=λX E σ k ke=>a X E σ (λv σ=>truth v σ λc σ=>k (.bool (!c)) σ) ke
def Xn(v:AV)(σ:St)(k:K AV):Bool:=res v σ λv σ=>match v with | .int l=>k (.int l.neg) σ |_=>bad "neg"
def yF(a:Cd):Cd:=λX E σ k ke=>a X E σ (λv σ=>Xn v σ k) ke
def vT(t:Cb)(a b:Cd):Cd:=λX E σ k ke=>t X E σ (λc σ=>bt c (a X E σ k ke) (b X E σ k ke)) ke
def Ny(X:CX)(E:Bo)(l:List Cd):St->M (List AV):=LR (λσ k _=>k [] σ)
 (λa _ ih σ k ke=>a X E σ (λv σ=>ih σ (λvs σ=>k (v::vs) σ) ke) ke) l
def MB(X:CX)(E:Bo):List Cd->List Cd->St->M (List (AV×AV))
 | [],[],σ,k,_=>k [] σ |a::ks,b::vs,σ,k,ke=>a X E σ (λa σ=>b X E σ (λb σ=>MB X E ks vs σ (λr σ=>k ((a,b)::r) σ) ke) ke) ke |_,_,_,_,_=>bad "dict display"
def iC(ks vs:List Cd):Cd:=λX E σ k ke=>both (Ap0 (E4 vs) 15)<|MB X E ks vs (σ.new (.dict [])) (λps σ'=>Em σ.n ps σ' λ_ σ'=>k (.obj σ.n) σ') ke
def i8(l:List Cd):Cd:=λX E σ k ke=>Ny X E l σ (λl σ=>newList l σ k) ke
def Aai(l:List Cd):Cd:=λX E σ k ke=>Ny X E l σ (λl σ=>C3 l σ k) ke
def KY(op:BoolOp):List Cd->Cd
 | []=>ZD
 |a::r=>match r with
  | []=>a
  |_=>λX E σ k ke=>a X E σ (λv σ=>truth v σ λc σ=>match op,c with
   | .And,false=>k v σ | .Or,true=>k v σ
   |_,_=>KY op r X E σ k ke) ke
def Cz(X:CX)(E:Bo)(a:AV):List CmpOp->List Cd->St->M Bool
 | [],_,_,_,_=>bad "chain"
 |op::ops,bs,σ,k,ke=>match bs with
  | []=>bad "chain"
  |b::bs=>b X E σ (λb σ=>match ops with
   | []=>(match bs with | []=>Dm X.T op a b σ k |_=>bad "chain")
   |_=>Dm X.T op a b σ λc σ=>match c with
    |true=>Cz X E b ops bs σ k ke
    |false=>k false σ) ke
def tK(a:Cd)(ops:List CmpOp)(bs:List Cd):Cd:=λX E σ k ke=>a X E σ (λa σ=>Cz X E a ops bs σ (λc σ=>k (.bool c) σ) ke) ke
def callC(f:Cd)(args:List Cd):Cd:=λX E σ k ke=>f X E σ (λf σ=>Ny X E args σ (λvs σ=>X.cl f vs σ k ke) ke) ke
def jA(o:Cd)(x:Nm)(args:List Cd):Cd:=λX E σ k ke=>o X E σ (λo σ=>res o σ λo σ=>Sd X.T o x σ λm=>Ny X E args σ (λvs σ=>FQ X.T X.cl m o vs σ k ke) ke) ke
def eU(o:Cd)(x:Nm):Cd:=λX E σ k ke=>o X E σ (λo σ=>Wb X.T o x σ k) ke
def zT(o i:Cd):Cd:=λX E σ k ke=>o X E σ (λo σ=>i X E σ (λi σ=>TJ X.T o i σ k) ke) ke
def zR(o a b c:Cd):Cd:=λX E σ k ke=>o X E σ (λo σ=>a X E σ (λa σ=>b X E σ (λb σ=>c X E σ (λc σ=>Sh o a b c σ k) ke) ke) ke) ke
def Xh(n:Nat)(e:Cd):Cd:=λX E σ k ke=>match X.T.dc n with |true=>(match Ap0 2000 n with |true=>Z9 (e X E) σ k |false=>forget (e X E) σ k)|false=>e X E σ k ke
def yJ(a:Cb):Cb:=λX E σ k ke=>a X E σ (neg k) ke
def vS(t a b:Cb):Cb:=λX E σ k ke=>t X E σ (λc σ=>bt c (a X E σ k ke) (b X E σ k ke)) ke
def allB(op:BoolOp):List Cb->Cb
 | []=>λ_ _ σ k _=>k (match op with | .And=>true | .Or=>false) σ
 |a::r=>λX E σ k ke=>a X E σ (λc σ=>match op,c with
  | .And,false=>k false σ | .Or,true=>k true σ
  |_,_=>allB op r X E σ k ke) ke
def tJ(a:Cd)(ops:List CmpOp)(bs:List Cd):Cb:=λX E σ k ke=>a X E σ (λa σ=>Cz X E a ops bs σ k ke) ke
def q9(a:Cd):Cb:=λX E σ k ke=>a X E σ (λv σ=>truth v σ k) ke
def cI(x:Nm):Ct:=λ_ E v σ k _=>Co E x v σ k
def tH(x:Nm):Ct:=λ_ E v σ k _=>EH E x v σ k
def eV(o:Cd)(x:Nm):Ct:=λX E v σ k ke=>o X E σ (λo σ=>YJ X.T o x v σ k) ke
def zV(o i:Cd):Ct:=λX E v σ k ke=>o X E σ (λo σ=>i X E σ (λi σ=>Uo o i v σ k) ke) ke
def UN(X:CX)(E:Bo):List Ct->List AV->St->M Unit
 | [],[],σ,k,_=>k () σ |t::ts,v::vs,σ,k,ke=>t X E v σ (λ_ σ=>UN X E ts vs σ k ke) ke |_,_,_,_,_=>bad "unpack number"
def Zb(ts:List Ct):Ct:=λX E v σ k ke=>IQ ts.length v σ λl σ=>match Ao9 ts.length l.length with
 |true=>UN X E ts l σ k ke |false=>bad "unpack number"
def G8(X:CX)(E:Bo)(t:Ct)(ifs:List Cb)(emit:St->M Unit)(v:AV)(σ:St):M Fl:=λk ke=>
 t X E v σ (λ_ σ=>allB .And ifs X E σ (λc σ=>match c with
  |false=>k .next σ
  |true=>emit σ (λ_ σ=>k .next σ) ke) ke) ke
def Mz(f:Nat)(σ:St)(k:St->Bool):Bool:=match σ.obj f with
 |some (.frame _)=>k (σ.put f .dead) |_=>bad "comprehension's names"
def iA(own:Bool)(elt:Cd)(t:Ct)(it:Cd)(ifs:List Cb):Cd:=λX E σ k ke=>it X E σ (λx σ=>Bv x σ λj σ=>
 BZ own (G8 X ⟨σ.n+1,E.cells⟩ t ifs (λσ' k' Zt=>elt X ⟨σ.n+1,E.cells⟩ σ' (λv σ'=>BR σ.n v σ' k') Zt)) j Qq
  ((σ.new<|.list none [] none).new<|.frame []) (λ_ σ'=>Mz (σ.n+1) σ' λσ'=>k (.obj σ.n) σ') (λe σ'=>Mz (σ.n+1) σ' λσ'=>ke e σ')) ke
def Vx(own Q8:Bool)(elt:Cd)(t:Ct)(it:Cd)(t2:Ct)(o4:Cd):Cd:=λX E σ k ke=>it X E σ (λx σ=>Bv x σ λj σ=>
 BZ own (G8 X ⟨σ.n+1,E.cells⟩ t [] (λσ' k' Zt=>o4 X ⟨σ.n+1,E.cells⟩ σ' (λx σ'=>Bv x σ' λi σ'=>
   BZ Q8 (G8 X ⟨σ.n+1,E.cells⟩ t2 [] (λσ' k' Zt=>elt X ⟨σ.n+1,E.cells⟩ σ' (λv σ'=>BR σ.n v σ' k') Zt)) i Qq σ' (λ_ σ'=>k' () σ') Zt) Zt)) j Qq
  ((σ.new<|.list none [] none).new<|.frame []) (λ_ σ'=>Mz (σ.n+1) σ' λσ'=>k (.obj σ.n) σ') (λe σ'=>Mz (σ.n+1) σ' λσ'=>ke e σ')) ke
def nL(own:Bool)(a b:Cd)(t:Ct)(it:Cd):Cd:=λ_ _ _ _ _=>bad "dict comprehension"
def V1(e:Cd):Cs:=λX E σ k ke=>e X E σ (λ_ σ=>k .next σ) ke
def Dq(f:Fl):Cs:=λ_ _ σ k _=>k f σ
def retS(e:Cd):Cs:=λX E σ k ke=>e X E σ (λv σ=>k (.ret v) σ) ke
def sT(t:Ct)(e:Cd):Cs:=λX E σ k ke=>e X E σ (λv σ=>t X E v σ (λ_ σ=>k .next σ) ke) ke
def vU(t:Cb)(a b:Cs):Cs:=λX E σ k ke=>t X E σ (λc σ=>bt c (a X E σ k ke) (b X E σ k ke)) ke
def Zf(X:CX)(E:Bo)(t:Cb)(body:Cs)(ih:St->M Fl)(σ:St):M Fl:=λk ke=>
 t X E σ (λc σ=>bt c (body X E σ (λf σ=>turned f k (λσ=>ih σ k ke) σ) ke) (k .next σ)) ke
def DS(X:CX)(E:Bo)(tag:Nat)(t:Cb)(body:Cs)(n:Nat):St->M Fl:=NR (λ_ _ _=>bad "while lim")
 (λ_ ih σ k ke=>OR (Zf X E t body ih σ k ke) (λr=>r (λ_ σ=>ih σ k ke) ke) (X.T.loop tag E σ)) n
def rB(tag:Nat)(t:Cb)(b:Cs):Cs:=λX E σ k ke=>DS X E tag t b Qq σ k ke
def uA(own:Bool)(t:Ct)(it:Cd)(b:Cs):Cs:=λX E σ k ke=>it X E σ (λx σ=>Bv x σ λj σ=>
 BZ own (λv σ k ke=>t X E v σ (λ_ σ=>b X E σ k ke) ke) j Qq σ k ke) ke
def zX(n:Nat)(ts:List Ct)(e:Cd):Cs:=λX E σ k ke=>e X E σ (λv σ=>IQ n v σ λl σ=>match Ao9 n (E4 l) with
 |true=>UN X E ts l.reverse σ (λ_ σ=>k .next σ) ke
 |false=>bad "unpack number") ke
def sS(own:Bool)(tg:Ct)(elt:Cd)(t:Ct)(it:Cd)(ifs:List Cb):Cs:=λX E σ k ke=>it X E σ (λx σ=>Bv x σ λj σ=>
 BZ own (G8 X ⟨σ.n+1,E.cells⟩ t ifs (λσ' k' Zt=>elt X ⟨σ.n+1,E.cells⟩ σ' (λv σ'=>BR σ.n v σ' k') Zt)) j Qq
  ((σ.new<|.list none [] none).new<|.frame []) (λ_ σ'=>tg X E (.obj σ.n) σ' (λ_ σ'=>Mz (σ.n+1) σ' λσ'=>k .next σ') ke) (λe σ'=>Mz (σ.n+1) σ' λσ'=>ke e σ')) ke
def zO(v:AV)(σ:St)(ke:K AV):Bool:=match v with
 | .obj j=>(match σ.obj j with |some (.exc C l)=>ke v (σ.put j (.old C l))|_=>bad "raise") |_=>bad "raise"
def zN(e:Cd):Cs:=λX E σ _ ke=>e X E σ (λv σ=>zO v σ ke) ke
def VO(E:Bo)(f:Fl)(σ:St)(k:K Fl):Bool:=match f with
 | .ret v=>(match σ.obj E.fr with
  |some (.frame _)=>k (.ret v) (σ.put E.fr .dead)
  |_=>bad "handler's end")
 |_=>bad "handler's end"
def AeM(T:Tab)(D:Nat)(c:AV):Bool:=match c with
 | .Au (.ref C)=>T.J9 D C |_=>false
def oE(X:CX)(E:Bo)(c:Cd)(x:Nm)(h:Cs)(j D:Nat)(σ:St):M Fl:=λk ke=>c X E σ (λc σ=>bt (AeM X.T D c)
 (Co E x (.obj j) σ λ_ σ=>h X E σ (λf σ=>VO E f σ k) (λ_ _=>bad "handler raises")) (bad "no clause")) ke
def qV(b:Cs)(c:Cd)(x:Nm)(h:Cs):Cs:=λX E σ k ke=>b X E σ k (λe σ=>match e with
 | .obj j=>(match σ.obj j with
  |some (.old D l)=>oE X E c x h j D (σ.after j D l) k ke
  |_=>bad "caught")
 |_=>bad "caught")
def Ir(a b:Cs):Cs:=λX E σ k ke=>a X E σ (λf σ=>match f with
 | .next=>b X E σ k ke
 |f=>k f σ) ke
def isTup:CT->Bool
 | .Ak _=>true |_=>false
def Ba{α β:Type}(f:α->β)(l:List α):List β:=LR [] (λa _ ih=>f a::ih) l
def m8(n:Nat):(CE->Cd)×(CE->Cb)×(CT->Ct):=NR (λ_=>ZD,λ_=>q9 ZD,λ_=>AdG) (λ_ ih=>(λe=>match e with
  | .A4=>Dz .A4 | .tru b=>Dz (.bool b) | .int i=>Dz (.int (.k i)) | .str i=>Dz (.str i) | .B4 b=>Dz (.B4 b) | .l x=>xR x | .Mp x=>tF x | .iL _ v=>Dz v | .DY op l=>KY op (Ba (ih.1) l) | .bin op a b=>sX op (ih.1 a) (ih.1 b) | .not a=>yK (ih.1 a) | .neg a=>yF (ih.1 a) | .Oz t a b=>vT (ih.2.1 t) (ih.1 a) (ih.1 b) | .dict ks vs=>iC (Ba (ih.1) ks) (Ba (ih.1) vs) | .list l=>i8 (Ba (ih.1) l) | .Ak l=>Aai (Ba (ih.1) l) | .comp elt t it ifs=>iA (isTup t) (ih.1 elt) (ih.2.2 t) (ih.1 it) (Ba (ih.2.1) ifs) | .NX elt t it t2 o4=>Vx (isTup t) (isTup t2) (ih.1 elt) (ih.2.2 t) (ih.1 it) (ih.2.2 t2) (ih.1 o4) | .VE a b t it=>nL (isTup t) (ih.1 a) (ih.1 b) (ih.2.2 t) (ih.1 it) | .K4 a ops bs=>tK (ih.1 a) ops (Ba (ih.1) bs) | .call f args=>callC (ih.1 f) (Ba (ih.1) args) | .FI o x args=>jA (ih.1 o) x (Ba (ih.1) args) | .attr o x=>eU (ih.1 o) x | .sub o i=>zT (ih.1 o) (ih.1 i) | .zQ o a b c=>zR (ih.1 o) (ih.1 a) (ih.1 b) (ih.1 c) | .mark m e=>Xh m (ih.1 e),
 λe=>match e with
  | .not a=>yJ (ih.2.1 a) | .DY op l=>allB op (Ba (ih.2.1) l) | .Oz t a b=>vS (ih.2.1 t) (ih.2.1 a) (ih.2.1 b) | .K4 a ops bs=>tJ (ih.1 a) ops (Ba (ih.1) bs) |e=>q9 (ih.1 e),
 λt=>match t with
  | .l x=>cI x | .Mp x=>tH x | .attr o x=>eV (ih.1 o) x | .sub o i=>zV (ih.1 o) (ih.1 i)
  | .Ak l=>Zb (Ba (ih.2.2) l))) n
def cE(n:Nat):CE->Cd:=(m8 n).1
def cB(n:Nat):CE->Cb:=(m8 n).2.1
def cT(n:Nat):CT->Ct:=(m8 n).2.2
def B9(l:List Cs):Cs:=LR (Dq .next) (λa _ ih=>Ir a ih) l
def cS(n:Nat):CS->Cs:=NR (λ_=>V1 ZD) (λn ih s=>match s with
  | .expr e=>V1 (cE n e) | .pass=>Dq .next
  | .brk=>Dq .brk | .cont=>Dq .cont | .ret e=>retS (cE n e) | .rH t e=>sT (cT n t) (cE n e) | .zW ts e=>zX (E4 ts) (Ba (cT n) ts) (cE n e) | .asc tg e t i f=>sS (isTup t) (cT n tg) (cE n e) (cT n t) (cE n i) (Ba (cB n) f) | .Oz t b o=>vU (cB n t) (B9 (Ba (ih) b)) (B9 (Ba (ih) o)) | .Zx tag t b=>rB tag (cB n t) (B9 (Ba (ih) b)) | .V6 t it b=>uA (isTup t) (cT n t) (cE n it) (B9 (Ba (ih) b)) | .zM e=>zN (cE n e)
  | .Nl b c x h=>qV (B9 (Ba (ih) b)) (cE n c) x (B9 (Ba (ih) h))) n
structure CF where
 params:List (Nm×Bool)
 defs:List AV
 cells:List Nm
 body:Cs
def RX(ps:List (Nm×Bool))(ds vs:List AV):Option (List ((Nm×Bool)×AV)):=match both (Ap0 vs.length ps.length) (Ap0 (ps.length-vs.length) ds.length) with
 |true=>some (ps.zip (vs++ds.drop (ds.length-(ps.length-vs.length)))) |false=>none
def storeAll(E:Bo)(l:List ((Nm×Bool)×AV)):St->K Unit->Bool:=LR (λσ k=>k () σ)
 (λp _ ih σ k=>bt p.1.2 (EH E p.1.1 p.2 σ λ_ σ=>ih σ k) (Co E p.1.1 p.2 σ λ_ σ=>ih σ k)) l
def JK:List Nm->St->List (Nm×Nat)->(St->List (Nm×Nat)->Bool)->Bool
 | [],σ,c,f=>f σ c |x::r,σ,c,f=>JK r (σ.new (.cell none)) ((x,σ.n)::c) f
def items(v:AV)(σ:St)(k:K (List AV)):Bool:=res v σ λv σ=>match v with
 | .Ak l=>k l σ
 | .obj j=>(match σ.obj j with
  |some (.list none l none)=>k l σ
  |_=>bad "items")
 |_=>bad "items"
def rint(v:AV)(σ:St)(k:K Int):Bool:=res v σ λv σ=>match v with | .int l=>FV l σ k |_=>bad "range arg"
def isIn(t:Nat):List Nat->Bool
 | []=>false |a::r=>match Ao9 a t with |true=>true |false=>isIn t r
def EZ(t:Nat)(l:List Nat)(σ:St)(k:K AV):Bool:=match Ap0 6 t with
 |true=>bad "kind"
 |false=>(match isIn t l with
  |true=>k (.bool true) σ
  |false=>k (.bool false) σ)
def PJ:List AV->Option (List AV)
 | []=>some [] | [.str a]=>some [.str a] |_=>none
def xK(j:Nat)(σ:St)(k:K AV):Bool:=match σ.obj j with
 |some (.list none l none)=>both (fits l) (k (.int (.k l.length)) σ) |some (.list (some p) l none)=>both (both (fits l) (BF σ (some p))) (k (.int ((Ap.at p).add (.k l.length))) σ) |some (.mid l p m)=>both (both (both (fits l) (fits m)) (BF σ (some p))) (k (.int ((Ap.at p).add (.k (Api (l.length+m.length))))) σ) |_=>bad "len obj"
def xM(v:AV)(σ:St)(k:K AV):Bool:=res v σ λv σ=>match v with
 | .Ak l=>both (fits l) (k (.int (.k l.length)) σ) | .B4 l=>both (fits l) (k (.int (.k l.length)) σ) | .obj j=>xK j σ k |_=>bad "len"
def isI(v:AV)(t:String)(σ:St)(k:K AV):Bool:=res v σ λv σ=>match t with
 | "bool"=>EZ (G7 v) [1] σ k | "int"=>EZ (G7 v) [1,2] σ k | "bytes"=>EZ (G7 v) [4] σ k | "tuple"=>EZ (G7 v) [5] σ k |_=>bad "isinstance"
def YN(v:AV)(σ:St)(k:K AV):Bool:=match v with
 | .obj j=>(match σ.obj j with
  |some (.dict l)=>(match PJ (keysOf l) with
   |some m=>newList m σ k
   |none=>bad "sorted")
  |_=>bad "sorted")
 |_=>bad "sorted"
def Qb(f:String)(vs:List AV)(σ:St)(k:K AV):Bool:=match f,vs with
 | "len",[v]=>xM v σ k | "isinstance",[v,.Au (.type t)]=>isI v t σ k | "sorted",[v]=>YN v σ k | "max",[u,v]=>two u v σ λx y σ=>isNeg (x.sub y) σ λc σ=>bt c (k (.int y) σ) (k (.int x) σ) |_,_=>bad "builtin"
def Rh(vs:List AV)(σ:St)(k:K AV):Bool:=match vs with
 | [b]=>rint b σ λb σ=>newObj (.G2 0 b 1) σ k | [a,b]=>rint a σ λa σ=>rint b σ λb σ=>newObj (.G2 a b 1) σ k | [a,b,s]=>rint a σ λa σ=>rint b σ λb σ=>rint s σ λs σ=>both (S3 a b s) (newObj (.G2 a b s) σ k) |_=>bad "range"
def Li(v:AV)(σ:St)(b:Bool):Bool:=match v with
 | .obj j=>(match σ.obj j with |some (.list none _ none)=>b |_=>bad "a list is wanted") |_=>bad "a list is wanted"
def vR(v:AV):Bool:=match v with
 | .Ak _=>true |_=>false
def Qc(f:String)(vs:List AV)(σ:St)(k:K AV):Bool:=match f,vs with
 | "tuple",[v]=>items v σ λl σ=>C3 l σ k | "list",[v]=>items v σ λl σ=>newList l σ k | "range",vs=>Rh vs σ k | "enumerate",[v]=>Li v σ (Bv v σ λi σ=>newObj (.iter (.VQ i 0)) σ k) | "zip",[u,v]=>both (vR u)<|Li v σ (Bv u σ λi σ=>Bv v σ λj σ=>newObj (.iter (.zip i j)) σ k) |_,_=>bad "type"
def qF(T:Tab)(cl:CL)(fd:CF)(bs:List ((Nm×Bool)×AV))(σ:St):M AV:=λk ke=>
 JK fd.cells (σ.new<|.frame []) [] λσ' cs=>storeAll ⟨σ.n,cs⟩ bs σ' λ_ σ'=>fd.body ⟨T,cl⟩ ⟨σ.n,cs⟩ σ' (λfl σ'=>match fl with
  | .ret v=>k v σ' | .next=>k .A4 σ'
  |_=>bad "flow") ke
def Oy(r:AV)(b:Bool):Bool:=match r with
 | .A4=>b |_=>bad "__init__ returned a value"
def Xe(T:Tab)(cl:CL)(a:Nat)(vs:List AV)(σ:St):M AV:=λk ke=>match T.init a with
 |some i=>both (fits vs)<|cl (.Au (.ref i)) (.obj σ.n::vs) (σ.new (match T.isExc a with |true=>.exc a none |false=>.inst a [])) (λr σ'=>Oy r (k (.obj σ.n) σ')) ke |none=>bad "call ref"
def R1(T:Tab)(fn:Nat->Option CF)(cl:CL)(a:Nat)(vs:List AV)(σ:St):M AV:=λk ke=>match T.sum a vs σ k with
 |some r=>r
 |none=>(match fn a with
  |some fd=>(match RX fd.params fd.defs vs with
   |some bs=>qF T cl fd bs σ k ke
   |none=>bad "args")
  |none=>Xe T cl a vs σ k ke)
def RZ(T:Tab)(fn:Nat->Option CF)(cl:CL):CL:=λf vs σ k ke=>match f with
 | .Au v=>(match v with
  | .ref a=>R1 T fn cl a vs σ k ke | .builtin s=>Qb s vs σ k | .type s=>Qc s vs σ k
  |_=>bad "call")
 |_=>bad "call"
def Qf(T:Tab)(fn:Nat->Option CF)(n:Nat):CL:=NR (λ_ _ _ _ _=>bad "fuel") (λ_ ih=>RZ T fn ih) n
section
structure Cx where
 nm:List Str
 prog:Ap3
 w:Ao7
 h1:Apn
 os:Aqz
 whole:AV
 way:List Int->AV->AV->Prop
 Ze:∀{ρ ρ' t o},ρ<+:ρ'->way ρ t o->way ρ' t o
structure Wd where
 ρ:List Int
 τ:List (Apc×Apc)
 q:Nat->AV×AV
 ls:Nat->List Ao3
 fs:List Apc
 fo:List Apc
def CN(ρ:List Int):List (Nat×Int)->Option Int
 | []=>some 0
 |(a,f)::r=>match ρ[a]?,CN ρ r with
  |some x,some y=>some (f*x+y) |_,_=>none
def Ap.ev(ρ:List Int)(l:Ap):Option Int:=(CN ρ l.t).map (l.c+ ·)
def Tn(ρ:List Int)(k:Nat):AV->Prop
 | .int l=>∃x,l.ev ρ=some x∧ρ[k+1]?=some 0∧ρ[k+2]?=some x | .str n=>ρ[k+1]?=some 1∧ρ[k+3]?=some (Api n) |_=>False
def own(τ:List (Apc×Apc))(a:Apc):Prop:=∃p∈τ,a=p.1∨a=p.2
structure IsT(W:Wd)(h:Apn)(a:Apc)(items:Array Ao3):Prop where
 un:¬own W.τ a
 fo:a∉W.fo
 Ak:h.IsTuple a items
 nd:∃o,h.get? a=some o∧o.dict=none
variable(C:Cx)
def Zz(ρ:List Int)(k:Nat)(t:AV×AV):Prop:=C.way ρ t.1 t.2∧Tn ρ k t.2∧∃a r,t.1= .Ak (a::C.whole::r)
mutual
inductive VR(W:Wd)(h:Apn):AV->Ao3->Prop
 |A4:VR W h .A4 .none
 |bool {b}:VR W h (.bool b) (.bool b)
 |int {l:Ap} {i t}:l.ev W.ρ=some i->VR W h (.int l) (.int i t)
 |str {s x t}:C.nm[s]?=some x->VR W h (.str s) (.str x t)
 |B4 {b:List UInt8} {t}:VR W h (.B4 b) (.bytes b.toArray t)
 |Ak {l vs a}:IsT W h a (List.toArray vs)->AM W h l vs->VR W h (.Ak l) (.ref a)
 |obj {i p}:W.τ[i]?=some p->VR W h (.obj i) (.ref p.1)
 |Au {v}:VR W h (.Au v) v
 |sel {k l j v cv}:W.ρ[k]?=some (Api j)->l[j]?=some v->VR W h v cv->VR W h (.sel k l) cv
 |ED {k t cv}:k<W.ρ.length->W.q k=t->Zz C W.ρ k t->VR W h t.1 cv->VR W h (.ED k) cv
 |any {cv}:VR W h .any cv
inductive AM(W:Wd)(h:Apn):List AV->List Ao3->Prop
 |nil:AM W h [] []
 |cons {v l cv cl}:VR W h v cv->AM W h l cl->AM W h (v::l) (cv::cl)
end
def Bk(_:Obj):Prop:=True
def C0(o:Obj):Prop:=o.cls= .type "frame"∧∃es n,o.data= .dict es n
theorem Bk.GZ{o:Obj}{es n}(h:o.data= .dict es n):Bk o:=trivial
theorem Bk.EC{o:Obj}(h:o.cls= .type "list"):Bk o:=trivial
def Bj(o:Obj):Prop:=∀vs,o.data≠ .fields vs
structure Ext(σ:St)(W:Wd)(s:Ao5)(σ':St)(W':Wd)(s':Ao5):Prop where
 τ:W.τ<+:W'.τ
 ρ:W.ρ<+:W'.ρ
 q:∀a,a<W.ρ.length->W'.q a=W.q a
 ls:∀a,a<W.ρ.length->W'.ls a=W.ls a
 low:σ'.low=σ.low
 Bq:σ.Bq≤σ'.Bq
 keep:∀a o,s.heap.get? a=some o->Bj o->¬own W.τ a->∃sl,s'.heap.get? a=some {o with slots:=sl}∧(o.cls≠ .type "frame"->sl=o.slots)
 exact:σ'.Bq=σ.Bq->∀a o,s.heap.get? a=some o->(¬own W.τ a∨own (W.τ.take σ.low) a)->s'.heap.get? a=some o
 fresh:∀p∈W'.τ,p∈W.τ∨(s.heap.get? p.1=none∧s.heap.get? p.2=none)
 alive:∀a o,s.heap.get? a=some o->∃o',s'.heap.get? a=some o'
 fr:∀a o,s.heap.get? a=some o->C0 o->∃o',s'.heap.get? a=some o'∧C0 o'
 fs:W.fs<+:W'.fs
 fo:W'.fo=W.fo
theorem XC{τ τ':List (Apc×Apc)}(h:∀p,p∈τ->p∈τ'):own τ a->own τ' a:=λ⟨p,hp,e⟩=>⟨p,h p hp,e⟩
theorem YT{α:Type}{l l':List α}(h:l<+:l')(n:Nat)(p:α)(hp:p∈l.take n):p∈l'.take n:=by obtain⟨r,rfl⟩:=h;rw[List.take_append];exact AqX _ hp
theorem Ext.refl(σ:St)(W:Wd)(s:Ao5):Ext σ W s σ W s:=
 ⟨Apb _,Apb _,λ_ _=>rfl,λ_ _=>rfl,rfl,Aqc _,λa o e _ _=>⟨o.slots,e,λ_=>rfl⟩,λ_ a o e _=>e,λp h=>.inl h,λa o e=>⟨o,e⟩,λa o e d=>⟨o,e,d⟩,Apb _,rfl⟩
theorem Ext.trans(x:Ext σ W s σ1 W1 s1)(y:Ext σ1 W1 s1 σ2 W2 s2):Ext σ W s σ2 W2 s2:=by
 have un:∀{a o},s.heap.get? a=some o->¬own W.τ a->¬own W1.τ a:=by
  rintro a o e n ⟨p,hp,hq⟩;rcases x.fresh p hp with h |⟨h1,h2⟩
  ·exact n ⟨p,h,hq⟩
  ·rcases hq with rfl |rfl
   ·rw[h1] at e;cases e
   ·rw[h2] at e;cases e
 refine⟨x.τ.trans y.τ,x.ρ.trans y.ρ,λa h=>?_,λa h=>?_,y.low.trans x.low,AqT x.Bq y.Bq,λa o e nf n=>?_,λv a o e h=>?_,λp hp=>?_,λa o e=>?_,λa o e d=>?_,x.fs.trans y.fs,y.fo.trans x.fo⟩
 ·rw[y.q a (Nat.lt_of_lt_of_le h x.ρ.length_le),x.q a h]
 ·rw[y.ls a (Nat.lt_of_lt_of_le h x.ρ.length_le),x.ls a h]
 ·obtain⟨sl,e1,g1⟩:=x.keep a o e nf n;obtain⟨zP,e2,g2⟩:=y.keep a _ e1 nf (un e n);exact⟨zP,e2,λq=>(g2 q).trans (g1 q)⟩
 ·have v1:σ1.Bq=σ.Bq:=Nat.le_antisymm (v▸y.Bq) x.Bq;have v2:σ2.Bq=σ1.Bq:=v.trans v1.symm;refine y.exact v2 a o (x.exact v1 a o e h) ?_;rcases h with h |h
  ·exact .inl (un e h)
  ·exact .inr (XC (λp hp=>by rw[x.low];exact YT x.τ _ _ hp) h)
 ·rcases y.fresh p hp with h |⟨h1,h2⟩
  ·exact x.fresh p h
  ·refine(Classical.em<|p∈W.τ).imp id λhn=>?_
   have no:∀a,s1.heap.get? a=none->s.heap.get? a=none:=by
    intro a h;cases q:s.heap.get? a with
    |none=>rfl |some o=>obtain⟨o',e⟩:=x.alive a o q;rw[h] at e;cases e
   exact⟨no _ h1,no _ h2⟩
 ·obtain⟨o1,e1⟩:=x.alive a o e;exact y.alive a o1 e1
 ·obtain⟨o1,e1,d1⟩:=x.fr a o e d;exact y.fr a o1 e1 d1
theorem Ah{α:Type}{l l':List α}(h:l<+:l'){i:Nat}{a:α}(e:l[i]?=some a):l'[i]?=some a:=by obtain⟨r,rfl⟩:=h;rw[Apz (Ape.mp e).1];exact e
theorem Sa{ρ ρ':List Int}(h:ρ<+:ρ'):∀{t:List (Nat×Int)} {x:Int},CN ρ t=some x->CN ρ' t=some x
 | [],x,e=>e
 |(a,f)::r,x,e=>by
  simp only[CN] at e ⊢;split at e
  ·rename_i u v hu hv;rw[Ah h hu,Sa h hv];exact e
  ·cases e
theorem Ap.CZ{ρ ρ':List Int}(h:ρ<+:ρ'){l:Ap}{x:Int}(e:l.ev ρ=some x):l.ev ρ'=some x:=by unfold Ap.ev at e ⊢;obtain⟨y,hy,rfl⟩:=Aq7.mp e;rw[Sa h hy];rfl
theorem Tn.pre{ρ ρ':List Int}(h:ρ<+:ρ'){k:Nat}:∀{o:AV},Tn ρ k o->Tn ρ' k o
 | .int l,⟨x,a,b,c⟩=>⟨x,Ap.CZ h a,Ah h b,Ah h c⟩ | .str n,⟨a,b⟩=>⟨Ah h a,Ah h b⟩ | .A4,a=>a.elim | .bool _,a=>a.elim | .B4 _,a=>a.elim | .Ak _,a=>a.elim | .obj _,a=>a.elim | .Au _,a=>a.elim | .sel ..,a=>a.elim | .ED _,a=>a.elim | .any,a=>a.elim
theorem Zz.pre{C:Cx}{ρ ρ':List Int}(h:ρ<+:ρ'){k:Nat}:Zz C ρ k t->Zz C ρ' k t:=λ⟨a,b,c⟩=>⟨C.Ze h a,b.pre h,c⟩
def Bb(W W':Wd)(h h':Apn):Prop:=∀a items,IsT W h a items->IsT W' h' a items
mutual
theorem VR.keep{C:Cx}{W W':Wd}{h:Apn}(hρ:W.ρ<+:W'.ρ)(hτ:W.τ<+:W'.τ)(hq:∀a,a<W.ρ.length->W'.q a=W.q a)(ht:Bb W W' h h'):∀{v cv},VR C W h v cv->VR C W' h' v cv
 |_,_,.A4=>.A4 |_,_,.bool=>.bool |_,_,.int e=>.int (Ap.CZ hρ e) |_,_,.str e=>.str e |_,_,.B4=>.B4 |_,_,.Ak a r=>.Ak (ht _ _ a) (AM.keep hρ hτ hq ht r) |_,_,.obj e=>.obj (Ah hτ e) |_,_,.Au=>.Au |_,_,.sel a b c=>.sel (Ah hρ a) b (VR.keep hρ hτ hq ht c) |_,_,.ED a b c d=>.ED (Nat.lt_of_lt_of_le a hρ.length_le) ((hq _ a).trans b) (c.pre hρ) (VR.keep hρ hτ hq ht d) |_,_,.any=>.any
theorem AM.keep{C:Cx}{W W':Wd}{h:Apn}(hρ:W.ρ<+:W'.ρ)(hτ:W.τ<+:W'.τ)(hq:∀a,a<W.ρ.length->W'.q a=W.q a)(ht:Bb W W' h h'):∀{v cv},AM C W h v cv->AM C W' h' v cv
 |_,_,.nil=>.nil |_,_,.cons a r=>.cons (VR.keep hρ hτ hq ht a) (AM.keep hρ hτ hq ht r)
end
theorem AM.length{C:Cx}:∀{l vs},AM C W h l vs->vs.length=l.length
 |_,_,.nil=>rfl |_,_,.cons _ r=>by simp[r.length]
theorem AM.get{C:Cx}:∀{l vs} {i:Nat} {v},AM C W h l vs->l[i]?=some v->∃cv,vs[i]?=some cv∧VR C W h v cv
 |_,_,0,_,.cons a _,e=>by cases e;exact⟨_,rfl,a⟩
 |_,_,i+1,_,.cons _ r,e=>by simpa using r.get (i:=i) (by simpa using e)
theorem AM.app{C:Cx}:∀{l vs l' jL},AM C W h l vs->AM C W h l' jL->AM C W h (l++l') (vs++jL)
 |_,_,_,_,.nil,b=>b |_,_,_,_,.cons a r,b=>.cons a (r.app b)
end
abbrev KK:=Sum Str Int
def QG:KK->Ao3->Bool
 | .inl x,v=>Value.isStrOf x v | .inr i,v=>Value.isInt i v
theorem BQ{k:KK}(h:QG k v=true):(∃x t,k= .inl x∧v= .str x t)∨(∃i t,k= .inr i∧v= .int i t):=by
 cases k with
 |inl x=>obtain⟨t,rfl⟩:=Value.isStrOf_shape (show Value.isStrOf x v=true from h);exact .inl ⟨x,t,rfl,rfl⟩
 |inr i=>obtain⟨t,rfl⟩:=Value.isInt_shape (show Value.isInt i v=true from h);exact .inr ⟨i,t,rfl,rfl⟩
theorem JF(x:Str)(t:Tok):QG (.inl x) (.str x t)=true:=by simp[QG,Value.isStrOf]
theorem WB(i:Int)(t:Tok):QG (.inr i) (.int i t)=true:=by simp[QG,Value.isInt]
def Bt(prog:Ap3)(w:Ao7):KeyKind prog w KK where
 is:=QG
 hash:=λk=>match k with | .inl x=>hashStr w x | .inr i=>hashInt i
 inj:=λv a b ha hb=>by rcases BQ ha with⟨x,t,rfl,rfl⟩|⟨i,t,rfl,rfl⟩<;>rcases BQ hb with⟨y,u,rfl,e⟩|⟨j,u,rfl,e⟩<;>cases e<;>rfl
 byValue:=λk v h=>by rcases BQ h with⟨x,t,rfl,rfl⟩|⟨i,t,rfl,rfl⟩<;>rfl
 pyHash:=λhv h=>by
  rcases BQ hv with⟨x,t,rfl,rfl⟩|⟨i,t,rfl,rfl⟩
  ·exact wpAny_pyHash_str h
  ·exact wpAny_pyHash_int h
 eqBool:=λhu hv h=>by
  rcases BQ hu with⟨x,t,rfl,rfl⟩|⟨i,t,rfl,rfl⟩<;>rcases BQ hv with⟨y,u,rfl,rfl⟩|⟨j,u,rfl,rfl⟩
  ·exact wpAny_eqBool_str (by simpa using h)
  ·exact SeqAt.EqAt.str_int _ _ _ _ _ _ _ _ (by simpa using h)
  ·exact SeqAt.EqAt.int_str _ _ _ _ _ _ _ _ (by simpa using h)
  ·have e:decide ((Sum.inr i:KK)= .inr j)=decide (i=j):=by simp
   rw[e] at h;exact wpAny_eqBool_int h
 «strs» :=λk x t v h=>by
  rcases BQ h with⟨y,u,rfl,e⟩|⟨i,u,rfl,e⟩
  ·cases e;show Value.isStrOf x v=v.isStr x;cases v<;>rfl
  ·cases e
section
variable(C:Cx)
def EJ(W:Wd)(h:Apn)(l:List (Nm×AV))(m:Str->Option Ao3):Prop:=
 (∀x v,A2 l x=some v->∃nm cv,C.nm[x]?=some nm∧m nm=some cv∧VR C W h v cv)∧
 (∀nm cv,m nm=some cv->∃x v,C.nm[x]?=some nm∧A2 l x=some v)
def FrR(W:Wd)(h:Apn)(a:Apc)(l:List (Nm×AV)):Prop:=∃m,h.Ns a m∧EJ C W h l m
def Zj(W:Wd)(h:Apn)(a:Apc)(l:List (Nm×AV)):Prop:=∃es n sl,h.get? a=some ⟨.type "dict",none,.dict es n,sl⟩∧StrKeys es∧es.size≤l.length∧EJ C W h l (Aro es)
def part(W:Wd):Option Nat->List Ao3
 |none=>[] |some a=>W.ls a
def E0(W:Wd):Option Nat->Prop
 |none=>True |some a=>W.ρ[a]?=some (Api (W.ls a).length)
inductive Ii(W:Wd):AV->KK->Prop
 |str {s x}:C.nm[s]?=some x->Ii W (.str s) (.inl x)
 |int {l:Ap} {i}:l.ev W.ρ=some i->Ii W (.int l) (.inr i)
inductive Gp(W:Wd)(h:Apn):List (AV×AV)->List (KK×Ao3)->Prop
 |nil:Gp W h [] []
 |cons {k v K V l m}:Ii C W k K->VR C W h v V->Gp W h l m->Gp W h ((k,v)::l) ((K,V)::m)
def rD(W:Wd)(h:Apn)(p:Apc)(to:Apc):It->Prop
 | .seq l=>∃T i items,h.IsTupleIter p T i∧IsT W h T items∧AM C W h l (items.toList.drop i) | .lst s k=>∃q,W.τ[s]?=some q∧h.IsListIter p q.1 k | .Bi c e st=>IsRangeIter h p c (ApL c e st) st∧st≠0 | .VQ j n=>∃q old,W.τ[j]?=some q∧IsEnum h p q.1 n old | .zip a b=>∃TI qa qb x y,IsZip h p TI to .none∧IsT W h TI #[.ref qa.1,.ref qb.1]∧W.τ[a]?=some qa∧W.τ[b]?=some qb∧Ar6 h to x y
def HO(Cl:Apc):Prop:=∃K:AqI,K.In C.h1∧subIn K (.ref Cl) (.type "Exception")=some true∧subIn K (.ref Cl) (.type "BaseException")=some true∧∃o,C.h1.get? Cl=some o∧o.cls= .type "type"∧∃cd,o.data= .cls cd
def VH(W:Wd):Option Nat->Option Apc->Prop
 |none,dd=>dd=none |some j,dd=>∃q,W.τ[j]?=some q∧dd=some q.1
def Kq(h:Apn)(a:Apc):Prop:=∃o,h.get? a=some o∧o.dict=none∧o.slots= #[]
def Ij(x y:Int):Prop:=0≤x∧0≤y∧y<2147483647
def AS(x y m:Int):Int×Int×Int:=if x>0 then(x % m,x/m,y) else((((y*39373+7) % 2147483647)*((y*39373+7) % 2147483647)) % 2147483629/32 % m,x,(y*39373+7) % 2147483647)
def BU(ρ:List Int):Int->Int->List (Int×Nat)->Prop
 |_,_,[]=>True |x,y,(m,a)::r=>if m= -7 then ρ[a]?=some x∧ρ[a+1]?=some y else ρ[a]?=some (AS x y m).1∧BU ρ (AS x y m).2.1 (AS x y m).2.2 r
theorem BU.pre{ρ ρ':List Int}(h:ρ<+:ρ'):∀{f:List (Int×Nat)} {x y:Int},BU ρ x y f->BU ρ' x y f
 | [],_,_,_=>trivial
 |(m,c)::r,x,y,q=>by
  unfold BU at q ⊢;by_cases e:m= -7
  ·rw[if_pos e] at q ⊢;exact⟨Ah h q.1,Ah h q.2⟩
  ·rw[if_neg e] at q ⊢;exact⟨Ah h q.1,q.2.pre h⟩
theorem BU.cons{ρ:List Int}{x y m:Int}{a:Nat}{r:List (Int×Nat)}(hm:0<m):BU ρ x y ((m,a)::r)↔ρ[a]?=some (AS x y m).1∧BU ρ (AS x y m).2.1 (AS x y m).2.2 r:=by
 conv=>lhs;unfold BU
 rw[if_neg (by omega)]
theorem BU.mark{x y:Int}{a:Nat}{r:List (Int×Nat)}:BU ρ x y ((-7,a)::r)↔ρ[a]?=some x∧ρ[a+1]?=some y:=by
 conv=>lhs;unfold BU
 rw[if_pos rfl]
def Ob(W:Wd)(h:Apn)(p:Apc×Apc):AO->Prop
 | .list pre l suf=>p.2=p.1∧∃vs,AM C W h l vs∧h.IsList p.1 (part W pre++vs++part W suf).toArray∧E0 W pre∧E0 W suf∧Kq h p.1 | .mid l a m=>p.2=p.1∧∃vs ws,AM C W h l vs∧AM C W h m ws∧h.IsList p.1 (vs++W.ls a++ws).toArray∧E0 W (some a)∧Kq h p.1 | .dict l=>p.2=p.1∧∃Ci,h.DictOf (Bt C.prog C.w) p.1 Ci∧Gp C W h l Ci | .inst Cl l=>(∃sl,h.get? p.1=some ⟨.ref Cl,some p.2,.plain,sl⟩)∧Zj C W h p.2 l | .exc Cl d=>p.2=p.1∧HO C Cl∧∃dd fs sl,VH W d dd∧h.get? p.1=some ⟨.ref Cl,dd,.fields fs,sl⟩∧fs[1]?=some .none | .old Cl d=>p.2=p.1∧HO C Cl∧∃dd fs sl,VH W d dd∧h.get? p.1=some ⟨.ref Cl,dd,.fields fs,sl⟩ | .ed l=>p.2=p.1∧Zj C W h p.1 l | .frame l=>p.2=p.1∧FrR C W h p.1 l | .cell none=>p.2=p.1∧h.IsCell p.1 none | .cell (some v)=>p.2=p.1∧∃cv,h.IsCell p.1 (some cv)∧VR C W h v cv | .iter it=>(p.2=p.1∨∃a b,it= .zip a b)∧rD C W h p.1 p.2 it | .G2 a b st=>p.2=p.1∧∃t u v,IsRange h p.1 a b st t u v | .AE f=>p.2=p.1∧∃x y t u,h.IsList p.1 #[.int x t,.int y u]∧Ij x y∧BU W.ρ x y f∧Kq h p.1 | .dead=>True
def Based(W:Wd)(h:Apn):Prop:=(∀a o,C.h1.get? a=some o->h.get? a=some o)∧(∀p∈W.τ,C.h1.get? p.1=none∧C.h1.get? p.2=none)∧∀a∈W.fo,C.h1.get? a=none
def inR(r:DB)(x:Int):Prop:=(∀a,r.1=some a->a≤x)∧(∀b,r.2=some b->x≤b)
structure Inv(W:Wd)(σ:St)(s:Ao5):Prop where
 nτ:W.τ.length=σ.n
 kρ:W.ρ.length=σ.k
 rl:σ.Bi.length=σ.k
 Bi:∀a x,W.ρ[a]?=some x->inR (σ.rg a) x
 neg:∀p∈σ.neg,∃x,p.1.ev W.ρ=some x∧(decide (x<0))=p.2
 Ca:∀p∈σ.Ca,∃x,p.1.ev W.ρ=some x∧(decide (x=0))=p.2
 obj:∀i o,σ.obj i=some o->∃p,W.τ[i]?=some p∧Ob C W s.heap p o
 apart:∀(i j:Nat) (p q:Apc×Apc),W.τ[i]?=some p->W.τ[j]?=some q->i≠j->p.1≠q.1∧p.1≠q.2∧p.2≠q.1∧p.2≠q.2
 new:∀p∈W.τ,C.h1.get? p.1=none∧C.h1.get? p.2=none
 live:∀p∈W.τ,(∃o,s.heap.get? p.1=some o∧Bk o)∧∃o,s.heap.get? p.2=some o∧Bk o
 Kn:∀a∈W.fs,C.h1.get? a=none∧∃o,s.heap.get? a=some o∧C0 o
 base:∀a o,C.h1.get? a=some o->s.heap.get? a=some o
 gens:s.gens= #[]
 os:s.os=C.os
 fo:∀a∈W.fo,C.h1.get? a=none∧∃o,s.heap.get? a=some o
variable{C}
theorem Inv.based(I:Inv C W σ s):Based C W s.heap:=⟨I.base,I.new,λa h=>(I.fo a h).1⟩
theorem Based.Ak{W:Wd}{h:Apn}(B:Based C W h){a:Apc}{items:Array Ao3}(ht:C.h1.IsTuple a items)(nd:∃o,C.h1.get? a=some o∧o.dict=none):IsT W h a items:=by
 obtain⟨o,ho,r⟩:=ht;refine⟨λ⟨p,hp,q⟩=>?_,λq=>?_,⟨o,B.1 _ _ ho,r⟩,let⟨o,a,b⟩:=nd;⟨o,B.1 _ _ a,b⟩⟩
 rotate_left
 ·rw[B.2.2 a q] at ho;cases ho
 obtain⟨n1,n2⟩:=B.2.1 p hp;rcases q with rfl |rfl
 ·rw[n1] at ho;cases ho
 ·rw[n2] at ho;cases ho
theorem IsTuple.slots{h':Apn}{a:Apc}{o:Obj}{items:Array Ao3}{sl:Array (Option Ao3)}(e:h'.get? a=some {o with slots:=sl})(hc:o.cls= .type "tuple")(hd:∃n,o.data= .seq items n):h'.IsTuple a items:=
 ⟨_,e,hc,hd⟩
theorem IL{τ τ':List (Apc×Apc)}{a:Apc}(hf:∀p∈τ',p∈τ∨(p.1≠a∧p.2≠a))(h:¬own τ a):¬own τ' a:=by
 rintro⟨p,hp,hq⟩;rcases hf p hp with q |⟨q1,q2⟩
 ·exact h ⟨p,q,hq⟩
 ·rcases hq with rfl |rfl
  ·exact q1 rfl
  ·exact q2 rfl
theorem Inv.qW(I:Inv C W σ s)(x:Ext σ W s σ' W' s'):Bb W W' s.heap s'.heap:=by
 intro a items ⟨hn,hfo,ht,nd⟩;obtain⟨o,ho,hc,n,hd⟩:=ht;obtain⟨o',Dx,Kw⟩:=nd;rw[ho] at Dx;cases Dx;obtain⟨sl,e,_⟩:=x.keep a o ho (λvs q=>by rw[hd] at q;cases q) hn;refine⟨IL (λp hp=>(x.fresh p hp).imp id λ⟨q1,q2⟩=>⟨λe=>?_,λe=>?_⟩) hn,by rw[x.fo];exact hfo,⟨_,e,hc,n,hd⟩,_,e,Kw⟩
 ·rw[e,ho] at q1;cases q1
 ·rw[e,ho] at q2;cases q2
theorem Inv.vr(I:Inv C W σ s)(x:Ext σ W s σ' W' s'){v cv}(h:VR C W s.heap v cv):VR C W' s'.heap v cv:=h.keep x.ρ x.τ x.q (I.qW x)
theorem Inv.rA(I:Inv C W σ s)(x:Ext σ W s σ' W' s'){v cv}(h:AM C W s.heap v cv):AM C W' s'.heap v cv:=h.keep x.ρ x.τ x.q (I.qW x)
section
variable{W W':Wd}{h h':Apn}
structure DU(W W':Wd)(h h':Apn):Prop where
 ρ:W.ρ<+:W'.ρ
 τ:W.τ<+:W'.τ
 q:∀a,a<W.ρ.length->W'.q a=W.q a
 ls:∀a,a<W.ρ.length->W'.ls a=W.ls a
 Ak:Bb W W' h h'
theorem EJ.Bg(S:DU W W' h h'){l m}(x:EJ C W h l m):EJ C W' h' l m:=
 ⟨λy v hv=>let⟨nm,cv,a1,a2,a3⟩:=x.1 y v hv;⟨nm,cv,a1,a2,a3.keep S.ρ S.τ S.q S.Ak⟩,x.2⟩
theorem FrR.Bg(S:DU W W' h h'){a l}(e:h'.get? a=h.get? a):FrR C W h a l->FrR C W' h' a l:=
 λ⟨m,⟨o,es,n,ho,r⟩,x⟩=>⟨m,⟨o,es,n,e.trans ho,r⟩,x.Bg S⟩
theorem Zj.Bg(S:DU W W' h h'){a l}(e:h'.get? a=h.get? a):Zj C W h a l->Zj C W' h' a l:=
 λ⟨es,n,sl,ho,hk,hs,x⟩=>⟨es,n,sl,e.trans ho,hk,hs,x.Bg S⟩
theorem Ii.Bg(S:DU W W' h h'){k K}:Ii C W k K->Ii C W' k K
 | .str e=>.str e | .int e=>.int (Ap.CZ S.ρ e)
theorem Gp.Bg(S:DU W W' h h'):∀{l m},Gp C W h l m->Gp C W' h' l m
 |_,_,.nil=>.nil |_,_,.cons b c r=>.cons (b.Bg S) (c.keep S.ρ S.τ S.q S.Ak) (r.Bg S)
theorem DictOf.of_eq{a:Apc}{Ci}(e:h'.get? a=h.get? a):h.DictOf (Bt C.prog C.w) a Ci->h'.DictOf (Bt C.prog C.w) a Ci:=λ⟨o,es,ep,ho,r⟩=>⟨o,es,ep,e.trans ho,r⟩
theorem IsList.of_eq{a b:Apc}{items}(e:h'.get? a=h.get? a):h.IsList a items->h'.IsList a items:=λ⟨o,ho,r⟩=>⟨o,e.trans ho,r⟩
theorem Fz(S:DU W W' h h')(hx:E0 W x):part W' x=part W x∧E0 W' x:=by
 cases x with
 |none=>exact⟨rfl,trivial⟩
 |some a=>have hl:a<W.ρ.length:=(Ape.mp hx).1;refine⟨S.ls a hl,?_⟩;show W'.ρ[a]?=_;rw[S.ls a hl];exact Ah S.ρ hx
theorem rD.Bg(S:DU W W' h h'){a to:Apc}(e:h'.get? a=h.get? a)(e2:h'.get? to=h.get? to):∀{it},rD C W h a to it->rD C W' h' a to it
 | .seq l,⟨T,i,items,⟨o,ho,r⟩,b,c⟩=>⟨T,i,items,⟨o,e.trans ho,r⟩,S.Ak _ _ b,c.keep S.ρ S.τ S.q S.Ak⟩ | .lst s k,⟨q,hq,o,ho,r⟩=>⟨q,Ah S.τ hq,o,e.trans ho,r⟩ | .Bi c x st,⟨a,b⟩=>⟨e.trans a,b⟩ | .VQ j n,⟨q,old,hq,a⟩=>⟨q,old,Ah S.τ hq,e.trans a⟩ | .zip a b,⟨TI,qa,qb,x,y,c,d,f,g,h⟩=>⟨TI,qa,qb,x,y,e.trans c,S.Ak _ _ d,Ah S.τ f,Ah S.τ g,e2.trans h⟩
theorem VH.Bg(S:DU W W' h h'):∀{d dd},VH W d dd->VH W' d dd
 |none,_,e=>e |some j,_,⟨q,a,b⟩=>⟨q,Ah S.τ a,b⟩
theorem Ob.Bg(S:DU W W' h h'){p:Apc×Apc}(e1:h'.get? p.1=h.get? p.1)(e2:h'.get? p.2=h.get? p.2):∀{o},Ob C W h p o->Ob C W' h' p o
 | .list pre l suf,⟨ep,vs,a,b,c,d,o,ho,hr⟩=>by obtain⟨c1,c2⟩:=Fz S c;obtain⟨d1,d2⟩:=Fz S d;exact⟨ep,vs,a.keep S.ρ S.τ S.q S.Ak,by rw[c1,d1];exact IsList.of_eq (b:=p.1) e1 b,c2,d2,o,e1.trans ho,hr⟩
 | .mid l q m,⟨ep,vs,ws,a,b,c,d,o,ho,hr⟩=>by obtain⟨d1,d2⟩:=Fz S d;have d1:W'.ls q=W.ls q:=d1;exact⟨ep,vs,ws,a.keep S.ρ S.τ S.q S.Ak,b.keep S.ρ S.τ S.q S.Ak,by rw[d1];exact IsList.of_eq (b:=p.1) e1 c,d2,o,e1.trans ho,hr⟩
 | .dict l,⟨ep,Ci,a,b⟩=>⟨ep,Ci,DictOf.of_eq e1 a,b.Bg S⟩ | .inst Cl l,⟨⟨sl,a⟩,b⟩=>⟨⟨sl,e1.trans a⟩,b.Bg S e2⟩ | .exc Cl d,⟨ep,x,dd,fs,sl,a,b,c⟩=>⟨ep,x,dd,fs,sl,a.Bg S,e1.trans b,c⟩ | .old Cl d,⟨ep,x,dd,fs,sl,a,b⟩=>⟨ep,x,dd,fs,sl,a.Bg S,e1.trans b⟩ | .ed l,⟨ep,c⟩=>⟨ep,c.Bg S e1⟩ | .frame l,⟨ep,a⟩=>⟨ep,a.Bg S e1⟩ | .cell none,⟨ep,o,a,r⟩=>⟨ep,o,e1.trans a,r⟩ | .cell (some v),⟨ep,cv,⟨o,a,r⟩,b⟩=>⟨ep,cv,⟨o,e1.trans a,r⟩,b.keep S.ρ S.τ S.q S.Ak⟩ | .iter it,⟨ep,a⟩=>⟨ep,a.Bg S e1 e2⟩ | .G2 a b st,⟨ep,t,u,v,x⟩=>⟨ep,t,u,v,e1.trans x⟩ | .AE f,⟨ep,x,y,t,u,a,b,c,o,ho,hr⟩=>⟨ep,x,y,t,u,IsList.of_eq (b:=p.1) e1 a,b,c.pre S.ρ,o,e1.trans ho,hr⟩ | .dead,_=>trivial
end
end
section
theorem PA.get_set:∀(t:PA) (x:AO) (i j:Nat) (y:AO),(t.set x i).get j=some y->(j=i∧y=x)∨(j≠i∧t.get j=some y):=by
 intro t x
 induction t with
 |nil=>
  intro i j y h;cases i with
  |zero=>
   cases j with
   |zero=>exact .inl ⟨rfl,(Apr h).symm⟩
   |succ j=>exfalso;change bt (Ao9 (Ap7 j 2) 0) (PA.get .nil (Aqy j 2)) (PA.get .nil (Aqy j 2))=some y at h;cases q:Ao9 (Ap7 j 2) 0<;>(rw[q] at h;cases h)
  |succ i=>cases h
 |Ae v l r bI bJ=>
  intro i j y h;have gj:∀(v:Option AO) (l r:PA) (j:Nat),PA.get (.Ae v l r) (j+1)=bt (Ao9 (Ap7 j 2) 0) (l.get<|Aqy j 2) (r.get<|Aqy j 2):=λ_ _ _ _=>rfl
  have si:∀i:Nat,PA.set (.Ae v l r) x (i+1)=bt (Ao9 (Ap7 i 2) 0) (.Ae v (l.set x<|Aqy i 2) r) (.Ae v l<|r.set x<|Aqy i 2):=λ_=>rfl
  cases i with
  |zero=>
   cases j with
   |zero=>exact .inl ⟨rfl,(Apr h).symm⟩
   |succ j=>exact .inr ⟨by simp,h⟩
  |succ i=>
   rw[si] at h;cases j with
   |zero=>refine .inr ⟨by simp,?_⟩;cases q:Ao9 (Ap7 i 2) 0<;>(rw[q] at h;exact h)
   |succ j=>
    have hb:∀k:Nat,Ao9 (Ap7 k 2) 0=true↔k % 2=0:=λk=>⟨λh=>Ao6 h,λh=>by rw[show Ap7 k 2=0 from h];rfl⟩
    have BO:∀k:Nat,Ao9 (Ap7 k 2) 0=false↔¬k % 2=0:=λk=>by rw[←hb,Bool.not_eq_true]
    rw[gj v l r];cases q:Ao9 (Ap7 i 2) 0 with
    |true=>
     rw[q] at h;change PA.get (.Ae v (l.set x<|Aqy i 2) r) (j+1)=some y at h;rw[gj] at h;have qi:=(hb i).mp q;cases q':Ao9 (Ap7 j 2) 0 with
     |true=>
      rw[q'] at h;have qj:=(hb j).mp q';rcases bI _ _ _ h with⟨a,b⟩|⟨a,b⟩
      ·have a:j/2=i/2:=a;exact .inl ⟨by omega,b⟩
      ·have a:¬j/2=i/2:=a;exact .inr ⟨by omega,b⟩
     |false=>rw[q'] at h;have qj:=(BO j).mp q';exact .inr ⟨by omega,h⟩
    |false=>
     rw[q] at h;change PA.get (.Ae v l<|r.set x<|Aqy i 2) (j+1)=some y at h;rw[gj] at h;have qi:=(BO i).mp q;cases q':Ao9 (Ap7 j 2) 0 with
     |true=>rw[q'] at h;have qj:=(hb j).mp q';exact .inr ⟨by omega,h⟩
     |false=>
      rw[q'] at h;have qj:=(BO j).mp q';rcases bJ _ _ _ h with⟨a,b⟩|⟨a,b⟩
      ·have a:j/2=i/2:=a;exact .inl ⟨by omega,b⟩
      ·have a:¬j/2=i/2:=a;exact .inr ⟨by omega,b⟩
theorem PA.Jw:∀(t:PA) (j:Nat) (y:AO),t.kill.get j=some y->∃o,t.get j=some o∧y=Cv o:=by
 intro t
 induction t with
 |nil=>intro j y h;cases h
 |Ae v l r bI bJ=>
  intro j y h;cases j with
  |zero=>
   change OR none (λo=>some (Cv o)) v=some y at h;cases v with
   |none=>cases h
   |some o=>exact⟨o,rfl,(Apr h).symm⟩
  |succ j=>
   change bt (Ao9 (Ap7 j 2) 0) (l.kill.get<|Aqy j 2) (r.kill.get<|Aqy j 2)=some y at h;change∃o,bt (Ao9 (Ap7 j 2) 0) (l.get<|Aqy j 2) (r.get<|Aqy j 2)=some o∧y=Cv o;cases q:Ao9 (Ap7 j 2) 0 with
   |true=>rw[q] at h;exact bI _ _ h
   |false=>rw[q] at h;exact bJ _ _ h
theorem St.SP{σ:St}{i j:Nat}{y:AO}(h:(σ.put i o).obj j=some y):(j=i∧y=o)∨(j≠i∧σ.obj j=some y):=PA.get_set _ _ _ _ _ h
theorem St.cQ{σ:St}{j:Nat}{y:AO}(h:(σ.new o).obj j=some y):(j=σ.n∧y=o)∨(j≠σ.n∧σ.obj j=some y):=PA.get_set _ _ _ _ _ h
theorem St.M9(σ:St)(i o):(σ.put i o).Bq=bt (Aq0 i σ.low) (σ.Bq+1) σ.Bq:=rfl
variable{C:Cx}
theorem Df{α:Type}{l:List α}{a:α}(h:a∈l):∃i:Nat,l[i]?=some a:=List.getElem?_of_mem h
theorem get_mem{α:Type}{l:List α}{i:Nat}{a:α}(h:l[i]?=some a):a∈l:=AqC h
theorem Inv.grow{s':Ao5}(I:Inv C W σ s)(hk:∀b x,s.heap.get? b=some x->s'.heap.get? b=some x)(hg:s'.gens=s.gens)(ho:s'.os=s.os):
  Inv C W σ s'∧Ext σ W s σ W s':=by
 have T:Bb W W s.heap s'.heap:=λa items ⟨w,w2,⟨o,h,r⟩,o',h',r'⟩=>⟨w,w2,⟨o,hk _ _ h,r⟩,o',hk _ _ h',r'⟩
 have S:DU W W s.heap s'.heap:=⟨Apb _,Apb _,λ_ _=>rfl,λ_ _=>rfl,T⟩;have E:∀a,own W.τ a->s'.heap.get? a=s.heap.get? a:=by
  rintro a ⟨p,hp,rfl |rfl⟩
  ·obtain⟨⟨o,h,_⟩,_⟩:=I.live p hp;rw[h,hk _ _ h]
  ·obtain⟨_,o,h,_⟩:=I.live p hp;rw[h,hk _ _ h]
 refine⟨⟨I.nτ,I.kρ,I.rl,I.Bi,I.neg,I.Ca,λi o h=>?_,I.apart,I.new,λp hp=>?_,λa ha=>⟨(I.Kn a ha).1,let⟨o,h,q⟩:=(I.Kn a ha).2;⟨o,hk _ _ h,q⟩⟩,λa o h=>hk _ _ (I.base a o h),hg.trans I.gens,ho.trans I.os,λa ha=>⟨(I.fo a ha).1,let⟨o,h⟩:=(I.fo a ha).2;⟨o,hk _ _ h⟩⟩⟩,?_⟩
 ·obtain⟨p,hp,hb⟩:=I.obj i o h;exact⟨p,hp,hb.Bg S (E _ ⟨p,get_mem hp,.inl rfl⟩)<|E _ ⟨p,get_mem hp,.inr rfl⟩⟩
 ·obtain⟨⟨o,h,n⟩,o',h',n'⟩:=I.live p hp;exact⟨⟨o,hk _ _ h,n⟩,o',hk _ _ h',n'⟩
 ·exact⟨Apb _,Apb _,λ_ _=>rfl,λ_ _=>rfl,rfl,Aqc _,λa o e _ _=>⟨o.slots,hk _ _ e,λ_=>rfl⟩,λ_ a o e _=>hk _ _ e,λp h=>.inl h,
   λa o e=>⟨o,hk _ _ e⟩,λa o e d=>⟨o,hk _ _ e,d⟩,Apb _,rfl⟩
theorem Inv.put{W:Wd}{σ:St}{s s':Ao5}(I:Inv C W σ s){i:Nat}{o:AO}{p:Apc×Apc}(hp:W.τ[i]?=some p)
  (hk:∀b x,b≠p.1->b≠p.2->s.heap.get? b=some x->s'.heap.get? b=some x)
  (hb:Bb W W s.heap s'.heap->Ob C W s'.heap p o)
  (h1:∃x,s'.heap.get? p.1=some x∧Bk x)(h2:∃x,s'.heap.get? p.2=some x∧Bk x)
  (hd:∀a,a=p.1∨a=p.2->∀x,s.heap.get? a=some x->C0 x->∃x',s'.heap.get? a=some x'∧C0 x')
  (hg:s'.gens=s.gens)(ho:s'.os=s.os):Inv C W (σ.put i o) s'∧Ext σ W s (σ.put i o) W s':=by
 have T:Bb W W s.heap s'.heap:=by
  intro a items ⟨hn,hf,ht,y,hy,r'⟩;obtain⟨x,hx,r⟩:=ht;have k:=λx=>hk a x (λe=>hn ⟨p,get_mem hp,.inl e⟩) (λe=>hn ⟨p,get_mem hp,.inr e⟩)
  exact⟨hn,hf,⟨x,k _ hx,r⟩,y,k _ hy,r'⟩
 have S:DU W W s.heap s'.heap:=⟨Apb _,Apb _,λ_ _=>rfl,λ_ _=>rfl,T⟩;have E:∀(j:Nat) (q:Apc×Apc),W.τ[j]?=some q->j≠i->s'.heap.get? q.1=s.heap.get? q.1∧s'.heap.get? q.2=s.heap.get? q.2:=by intro j q hq aU;obtain⟨a1,a2,a3,a4⟩:=I.apart j i q p hq hp aU;obtain⟨⟨x,hx,_⟩,y,hy,_⟩:=I.live q (get_mem hq);exact⟨by rw[hx,hk _ _ a1 a2 hx],by rw[hy,hk _ _ a3 a4 hy]⟩
 refine⟨⟨I.nτ,I.kρ,I.rl,I.Bi,I.neg,I.Ca,λj y h=>?_,I.apart,I.new,λq hq=>?_,λa ha=>⟨(I.Kn a ha).1,?_⟩,λa x h=>?_,hg.trans I.gens,ho.trans I.os,λa ha=>⟨(I.fo a ha).1,?_⟩⟩,?_⟩
 ·rcases St.SP h with⟨rfl,rfl⟩|⟨aU,h⟩
  ·exact⟨p,hp,hb T⟩
  ·obtain⟨q,hq,vD⟩:=I.obj j y h;obtain⟨e1,e2⟩:=E j q hq aU;exact⟨q,hq,vD.Bg S e1 e2⟩
 ·obtain⟨j,hj⟩:=Df hq;by_cases aU:j=i
  ·subst aU;rw[hp] at hj;cases hj;exact⟨h1,h2⟩
  ·obtain⟨e1,e2⟩:=E j q hj aU;obtain⟨⟨x,hx,n⟩,y,hy,n'⟩:=I.live q hq;exact⟨⟨x,e1.trans hx,n⟩,y,e2.trans hy,n'⟩
 ·obtain⟨x,hx,fx⟩:=(I.Kn a ha).2;by_cases q:a=p.1∨a=p.2
  ·exact hd a q x hx fx
  ·exact⟨x,hk _ _ (λr=>q (.inl r)) (λr=>q (.inr r)) hx,fx⟩
 ·obtain⟨n1,n2⟩:=I.new p (get_mem hp);exact hk _ _ (λe=>by rw[e,n1] at h;cases h) (λe=>by rw[e,n2] at h;cases h) (I.base a x h)
 ·obtain⟨x,hx⟩:=(I.fo a ha).2;by_cases q1:a=p.1
  ·subst q1;exact⟨_,h1.choose_spec.1⟩
  ·by_cases q2:a=p.2
   ·subst q2;exact⟨_,h2.choose_spec.1⟩
   ·exact⟨x,hk _ _ q1 q2 hx⟩
 ·refine⟨Apb _,Apb _,λ_ _=>rfl,λ_ _=>rfl,rfl,?_,λa x e _ n=>⟨x.slots,hk _ _ (λq=>n ⟨p,get_mem hp,.inl q⟩) (λq=>n ⟨p,get_mem hp,.inr q⟩) e,λ_=>rfl⟩,λv a x e h=>?_,λp h=>.inl h,λa x e=>?_,λa x e d=>?_,Apb _,rfl⟩
  ·rw[St.M9];cases Aq0 i σ.low<;>simp[bt]
  ·rw[St.M9] at v;have vB:¬i<σ.low:=by
    intro hl;rw[show Aq0 i σ.low=true from by simpa using hl] at v;exact absurd v (by simp[bt])
   refine hk _ _ ?_ ?_ e
   all_goals
    rintro rfl;rcases h with h |⟨q,hq,hh⟩
    ·exact h ⟨p,get_mem hp,by simp⟩
    ·obtain⟨j,hj⟩:=Df hq;have hjl:j<σ.low:=by
      have:=(Ape.mp hj).1;rw[AqD] at this;omega
     rw[List.getElem?_take_of_lt hjl] at hj;have aU:j≠i:=by omega
     obtain⟨a1,a2,a3,a4⟩:=I.apart j i q p hj hp aU;rcases hh with hh |hh
     ·first |exact a1 hh.symm |exact a2 hh.symm
     ·first |exact a3 hh.symm |exact a4 hh.symm
  ·by_cases q1:a=p.1
   ·subst q1;obtain⟨x,hx,_⟩:=h1;exact⟨x,hx⟩
   ·by_cases q2:a=p.2
    ·subst q2;obtain⟨x,hx,_⟩:=h2;exact⟨x,hx⟩
    ·exact⟨x,hk _ _ q1 q2 e⟩
  ·by_cases q:a=p.1∨a=p.2
   ·exact hd a q x e d
   ·exact⟨x,hk _ _ (λr=>q (.inl r)) (λr=>q (.inr r)) e,d⟩
end
section
variable{C:Cx}
def Wd.more(W:Wd)(p:Apc×Apc)(fl:List Apc:=[]):Wd:={W with τ:=W.τ++ [p],fs:=W.fs++fl}
theorem Inv.i9{W:Wd}{σ:St}{s s':Ao5}(I:Inv C W σ s){o:AO}{p:Apc×Apc}{fl:List Apc}
  (hk:∀b x,s.heap.get? b=some x->s'.heap.get? b=some x)(n1:s.heap.get? p.1=none)(n2:s.heap.get? p.2=none)
  (hb:DU W (W.more p fl) s.heap s'.heap->Ob C (W.more p fl) s'.heap p o)
  (h1:∃x,s'.heap.get? p.1=some x∧Bk x)(h2:∃x,s'.heap.get? p.2=some x∧Bk x)
  (hg:s'.gens=s.gens)(ho:s'.os=s.os)(hfl:∀a∈fl,C.h1.get? a=none∧∃o,s'.heap.get? a=some o∧C0 o):Inv C (W.more p fl) (σ.new o) s'∧Ext σ W s (σ.new o) (W.more p fl) s':=by
 have T:Bb W (W.more p fl) s.heap s'.heap:=λa items ⟨w,w2,⟨o,h,r⟩,o',h',r'⟩=>by
  refine⟨IL (λq hq=>?_) w,w2,⟨o,hk _ _ h,r⟩,o',hk _ _ h',r'⟩;rcases ApM.mp hq with hq |hq
  ·exact .inl hq
  ·rw[Apu.mp hq];exact .inr ⟨λe=>(by rw[e,h] at n1;cases n1),λe=>(by rw[e,h] at n2;cases n2)⟩
 have S:DU W (W.more p fl) s.heap s'.heap:=⟨Apb _,Aps _ _,λ_ _=>rfl,λ_ _=>rfl,T⟩;have old:∀q∈W.τ,q.1≠p.1∧q.1≠p.2∧q.2≠p.1∧q.2≠p.2:=by
  intro q hq;obtain⟨⟨x,hx,_⟩,y,hy,_⟩:=I.live q hq;refine⟨λe=>?_,λe=>?_,λe=>?_,λe=>?_⟩
  ·rw[e,n1] at hx;cases hx
  ·rw[e,n2] at hx;cases hx
  ·rw[e,n1] at hy;cases hy
  ·rw[e,n2] at hy;cases hy
 have gx:∀(i:Nat) (q:Apc×Apc),(W.more p fl).τ[i]?=some q->(i<W.τ.length∧W.τ[i]?=some q)∨(i=W.τ.length∧q=p):=by
  intro i q h;by_cases hl:i<W.τ.length
  ·exact .inl ⟨hl,by rwa [show(W.more p fl).τ=W.τ++ [p] from rfl,Apz hl] at h⟩
  ·refine .inr ?_;rw[show(W.more p fl).τ=W.τ++ [p] from rfl,Apo<|AqQ hl] at h;have:i-W.τ.length=0:=by
    have:=(Ape.mp h).1;simp only[ApD,AqM] at this;omega
   rw[this] at h;exact⟨by omega,by cases h;rfl⟩
 refine⟨⟨?_,I.kρ,I.rl,I.Bi,I.neg,I.Ca,λj y h=>?_,λi j q r hq hr rT=>?_,λq hq=>?_,λq hq=>?_,λa ha=>?_,λa x h=>hk _ _ (I.base a x h),hg.trans I.gens,ho.trans I.os,λa ha=>⟨(I.fo a ha).1,let⟨o,h⟩:=(I.fo a ha).2;⟨o,hk _ _ h⟩⟩⟩,?_⟩
 ·show(W.τ++ [p]).length=σ.n+1;rw[Apd,I.nτ];rfl
 ·rcases St.cQ h with⟨rfl,rfl⟩|⟨aU,h⟩
  ·refine⟨p,?_,hb S⟩;show(W.τ++ [p])[σ.n]?=some p;rw[←I.nτ];simp
  ·obtain⟨q,hq,vD⟩:=I.obj j y h;obtain⟨⟨x,hx,_⟩,z,hz,_⟩:=I.live q (get_mem hq);exact⟨q,Ah S.τ hq,vD.Bg S (by rw[hx,hk _ _ hx]) (by rw[hz,hk _ _ hz])⟩
 ·rcases gx i q hq with⟨li,Ws⟩|⟨rfl,rfl⟩
  ·rcases gx j r hr with⟨lj,P1⟩|⟨rfl,rfl⟩
   ·exact I.apart i j q r Ws P1 rT
   ·exact old q (get_mem Ws)
  ·rcases gx j r hr with⟨lj,hr⟩|⟨rfl,rfl⟩
   ·obtain⟨a1,a2,a3,a4⟩:=old r (get_mem hr);exact⟨a1.symm,a3.symm,a2.symm,a4.symm⟩
   ·exact absurd rfl rT
 ·rcases ApM.mp hq with hq |hq
  ·exact I.new q hq
  ·rw[Apu.mp hq];refine⟨?_,?_⟩
   ·cases e:C.h1.get? p.1 with
    |none=>rfl |some x=>have:=I.base _ _ e;rw[n1] at this;cases this
   ·cases e:C.h1.get? p.2 with
    |none=>rfl |some x=>have:=I.base _ _ e;rw[n2] at this;cases this
 ·rcases ApM.mp hq with hq |hq
  ·obtain⟨⟨x,hx,n⟩,y,hy,n'⟩:=I.live q hq;exact⟨⟨x,hk _ _ hx,n⟩,y,hk _ _ hy,n'⟩
  ·rw[Apu.mp hq];exact⟨h1,h2⟩
 ·rcases ApM.mp ha with ha |ha
  ·exact⟨(I.Kn a ha).1,let⟨o,h,q⟩:=(I.Kn a ha).2;⟨o,hk _ _ h,q⟩⟩
  ·exact hfl a ha
 ·refine⟨Aps _ _,Apb _,λ_ _=>rfl,λ_ _=>rfl,rfl,Aqc _,λa o e _ _=>⟨o.slots,hk _ _ e,λ_=>rfl⟩,λ_ a o e _=>hk _ _ e,λq hq=>?_,λa o e=>⟨o,hk _ _ e⟩,λa o e d=>⟨o,hk _ _ e,d⟩,Aps _ _,rfl⟩;rcases ApM.mp hq with hq |hq
  ·exact .inl hq
  ·rw[Apu.mp hq];exact .inr ⟨n1,n2⟩
theorem Inv.make{W:Wd}{σ:St}{s s':Ao5}(I:Inv C W σ s){o:AO}{p:Apc×Apc}
  (hk:∀b x,s.heap.get? b=some x->s'.heap.get? b=some x)(n1:s.heap.get? p.1=none)(n2:s.heap.get? p.2=none)
  (hb:DU W (W.more p) s.heap s'.heap->Ob C (W.more p) s'.heap p o)
  (h1:∃x,s'.heap.get? p.1=some x∧Bk x)(h2:∃x,s'.heap.get? p.2=some x∧Bk x)
  (hg:s'.gens=s.gens)(ho:s'.os=s.os):Inv C (W.more p) (σ.new o) s'∧Ext σ W s (σ.new o) (W.more p) s':=I.i9 hk n1 n2 hb h1 h2 hg ho (λa h=>nomatch h)
def Traced(C:Cx)(h:Apn)(x:Apc):Prop:=∃o fs T oT ts m,h.get? x=some o∧o.data= .fields fs∧fs[1]?=some (.ref T)∧C.h1.get? T=none∧T≠x∧h.get? T=some oT∧oT.data= .fields ts∧ts[3]?=some m
def Ma(C:Cx)(h:Apn)(x:Apc):Prop:=(∃o fs,h.get? x=some o∧o.data= .fields fs∧fs[1]?=some .none)∨Traced C h x
def A7{α β:Type}(C:Cx)(k:K α)(σ:St)(W:Wd)(s:Ao5)(R:Wd->Apn->α->β->Prop)(b:β)(s':Ao5):Prop:=
 ∃a σ' W',k a σ'=true∧Ext σ W s σ' W' s'∧Inv C W' σ' s'∧R W' s'.heap a b
def AG(C:Cx)(ke:K AV)(σ:St)(W:Wd)(s:Ao5)(e:Ao3)(s':Ao5):Prop:=
 ∃j D l σ' W' p,ke (.obj j) σ'=true∧σ.Bq≤σ'.Bq∧σ'.obj j=some (.old D l)∧W'.τ[j]?=some p∧e= .ref p.1∧Ma C s'.heap p.1∧Ext σ W s (σ'.after j D l) W' s'∧Inv C W' (σ'.after j D l) s'
def Sp{α β:Type}(C:Cx)(A:Apg)(σ:St)(W:Wd)(s:Ao5)(t:Sem β)(m:M α)(R:Wd->Apn->α->β->Prop):Prop:=
 ∀k ke,m k ke=true->Aph (model C.prog C.w) A t (A7 C k σ W s R) (AG C ke σ W s) s
section
variable{α β γ δ:Type}{A:Apg}{σ σ':St}{W W':Wd}{s s':Ao5}{R:Wd->Apn->α->β->Prop}{R':Wd->Apn->γ->δ->Prop}
theorem A7.base{k:K α}{b:β}(x:Ext σ W s σ' W' s')(h:A7 C k σ' W' s' R b s2):A7 C k σ W s R b s2:=
 let⟨a,σ2,W2,h1,h2,h3,h4⟩:=h;⟨a,σ2,W2,h1,x.trans h2,h3,h4⟩
theorem AG.base(x:Ext σ W s σ' W' s')(h:AG C ke σ' W' s' e s2):AG C ke σ W s e s2:=
 let⟨j,D,l,σ2,W2,p,h1,h0,h2,h3,h4,h5,h6,h7⟩:=h;⟨j,D,l,σ2,W2,p,h1,AqT x.Bq h0,h2,h3,h4,h5,x.trans h6,h7⟩
theorem Sp.pure(I:Inv C W σ s){a:α}{b:β}{m:M α}(hm:∀k ke,m k ke=true->k a σ=true)(h:R W s.heap a b):Sp C A σ W s (Apx b) m R:=
 λk ke e=>Ao4 ⟨a,σ,W,hm k ke e,.refl _ _ _,I,h⟩
theorem Sp.here(x:Ext σ W s σ' W' s){t:Sem β}{m:M α}(h:Sp C A σ' W' s t m R):Sp C A σ W s t m R:=
 λk ke e=>Apa (h k ke e) (λ_ _ q=>q.base x) (λ_ _ q=>q.base x)
theorem Sp.bind{t:Sem β}{f:β->Sem δ}{m:M α}{g:α->St->M γ}(ht:Sp C A σ W s t m R)
  (hf:∀a b σ1 W1 s1,Ext σ W s σ1 W1 s1->Inv C W1 σ1 s1->R W1 s1.heap a b->Sp C A σ1 W1 s1 (f b) (g a σ1) R'):
  Sp C A σ W s (t>>=f) (λk ke=>m (λa σ=>g a σ k ke) ke) R':=by
 intro k ke e;refine Ao2<|Apa (ht _ ke e) (λb s1 hp=>?_) (λ_ _ q=>q);obtain⟨a,σ1,W1,h1,h2,h3,h4⟩:=hp;exact Apa (hf a b σ1 W1 s1 h2 h3 h4 k ke h1) (λ_ _ q=>q.base h2) (λ_ _ q=>q.base h2)
theorem Sp.holding{t:Sem β}{m:M α}(h:Sp C A σ W s t m R):Sp C A σ W s (ArM vs t) m R:=λk ke e=>ApA (h k ke e)
theorem Sp.standAt{f:Unit->Sem β}{m:M α}(h:Sp C A σ W s (f ()) m R):Sp C A σ W s (PySem.standAt pos>>=f) m R:=λk ke e=>Ao2 (ApT<|h k ke e)
theorem Sp.point{f:Unit->Sem β}{m:M α}(h:Sp C A σ W s (f ()) m R):Sp C A σ W s (PySem.point>>=f) m R:=λk ke e=>Ao2 (wpAny_point<|h k ke e)
theorem Sp.rule{tag:String}{f:Unit->Sem β}{m:M α}(h:Sp C A σ W s (f ()) m R):Sp C A σ W s (PySem.rule tag>>=f) m R:=λk ke e=>Ao2 (AqR<|h k ke e)
theorem Sp.mono{t:Sem β}{m:M α}{R2:Wd->Apn->α->β->Prop}(h:Sp C A σ W s t m R)(hr:∀(W':Wd) (s':Ao5) (a:α) (b:β),R W' s'.heap a b->R2 W' s'.heap a b):Sp C A σ W s t m R2:=
 λk ke e=>Apa (h k ke e) (λ_ _ ⟨a,σ',W',h1,h2,h3,h4⟩=>⟨a,σ',W',h1,h2,h3,hr _ _ _ _ h4⟩) (λ_ _ q=>q)
theorem Sp.of{t:Sem β}{m m':M α}(h:Sp C A σ W s t m' R)(e:∀k ke,m k ke=true->m' k ke=true):Sp C A σ W s t m R:=λk ke q=>h k ke (e k ke q)
theorem Sp.one{t:Sem β}{m:M α}(h:∀k ke,m k ke=true->Aph (model C.prog C.w) A t (A7 C k σ W s R) (AG C ke σ W s) s):Sp C A σ W s t m R:=h
theorem Sp.eq{t t':Sem β}{m:M α}(h:Sp C A σ W s t' m R)(e:t=t'):Sp C A σ W s t m R:=e▸h
end
def RV(C:Cx)(W:Wd)(h:Apn)(a:AV)(b:Ao3):Prop:=VR C W h a b
def RVs(C:Cx)(W:Wd)(h:Apn)(a:List AV)(b:List Ao3):Prop:=AM C W h a b
def RU(W:Wd)(h:Apn)(_:Unit)(_:Unit):Prop:=True
def RB(W:Wd)(h:Apn)(a b:Bool):Prop:=a=b
end
theorem Bl(name:Str)(Ov:Int)(key v:Ao3)(c:Ao3)(d:Option Apc)(es:List ApE)(n:Nat)(sl:Array (Option Ao3)):
  ApX name Ov key v ⟨c,d,.dict es.toArray n,sl⟩=⟨c,d,.dict (putL name Ov key v es).toArray<|putN name es n,sl⟩:=by
 rw[Obj.putName_eq];unfold Obj.putNameByArray putN;have h1:=putL_find name Ov key v es;have h2:=any_of_findIdx name es;simp only[List.findIdx?_toArray];cases h:List.findIdx? (λx=>x.key.isStr name) es with
 |none=>rw[h] at h1 h2;rw[←h2,←h1];simp
 |some i=>rw[h] at h1 h2;rw[←h2,←h1];simp
theorem Fu(e:ApE)(r:List ApE)(y:Str):Aro (e::r).toArray y=if e.key.isStr y then some e.val else Aro r.toArray y:=by unfold Aro findBy;simp only[List.find?_toArray,List.find?_cons];cases e.key.isStr y<;>simp
theorem TU{v:Ao3}{x y:Str}(h:v.isStr x=true):v.isStr y=(x==y):=by cases v<;>simp[Value.isStr] at h ⊢;rw[h]
theorem JL(nm:Str)(Ov:Int)(t:Tok)(v:Ao3)(y:Str):∀es:List ApE,Aro (putL nm Ov (.str nm t) v es).toArray y=if y=nm then some v else Aro es.toArray y
 | []=>by
  rw[putL,Fu];have e:Value.isStr (.str nm t) y=(nm==y):=rfl;rw[show(DictEntry.mk Ov (.str nm t) v).key= .str nm t from rfl,e];by_cases h:y=nm
  ·subst h;simp
  ·have h':¬nm=y:=λe=>h e.symm
   simp[h,h',Aro,findBy]
 |e::r=>by
  rw[putL];cases q:e.key.isStr nm with
  |true=>
   rw[if_pos rfl,Fu,Fu];rw[show(DictEntry.mk e.hash e.key v).key=e.key from rfl,TU (y:=y) q];by_cases h:y=nm
   ·subst h;simp
   ·have h':¬nm=y:=λe=>h e.symm
    simp[h,h']
  |false=>
   rw[if_neg (by simp),Fu,Fu,JL nm Ov t v y r];by_cases h:y=nm
   ·subst h;simp[q]
   ·simp[h]
theorem FC{nm:Str}{Ov:Int}{t:Tok}{v:Ao3}:∀{es:List ApE},(∀e∈es,∃n t,e.key= .str n t)->∀e∈putL nm Ov (.str nm t) v es,∃n t,e.key= .str n t
 | [],_,e,he=>by rw[putL,Apu] at he;subst he;exact⟨nm,t,rfl⟩
 |a::r,h,e,he=>by
  rw[putL] at he;split at he
  ·rcases Apf.mp he with rfl |he
   ·exact h a (.head _)
   ·exact h e (.tail _ he)
  ·rcases Apf.mp he with rfl |he
   ·exact h _ (.head _)
   ·exact FC (λe he=>h e (.tail _ he)) e he
theorem DM(nm:Str)(Ov:Int)(t:Tok)(v:Ao3):∀es:List ApE,(putL nm Ov (.str nm t) v es).length=if(Aro es.toArray nm).isSome then es.length else es.length+1
 | []=>by simp[putL,Aro,findBy]
 |e::r=>by
  rw[putL,Fu];cases q:e.key.isStr nm with
  |true=>simp
  |false=>rw[if_neg (by simp),ApD,DM nm Ov t v r];simp only[ApY,if_false];split<;>simp
section
variable{prog:Ap3}{w:Ao7}{A:Apg}{E:Ao3->Ao5->Prop}{s:Ao5}
theorem JR{a:Apc}{c:Ao3}{d:Option Apc}{es:List ApE}{n:Nat}{sl:Array (Option Ao3)}{nm:Str}{v:Ao3}{Q:Unit->Ao5->Prop}(ho:s.heap.get? a=some ⟨c,d,.dict es.toArray n,sl⟩)(hk:∀e∈es,∃n t,e.key= .str n t)
  (h:Q () {s with heap:=s.heap.update a (ApX nm (Apv w.params nm) (.str nm s.toks) v),toks:=s.toks+1}):Aph (model prog w) A (nsSet a nm v) Q E s:=by
 unfold nsSet;refine Ao2<|Ao2<|wpAny_askSetting<|Ao4<|Ao2<|wpAny_mkText<|Ao2<|ArV ho ?_;have cc:(!es.toArray.any (·.key.isStr nm)&&es.toArray.any (·.refKey))=false:=by
  have:es.toArray.any (·.refKey)=false:=by rw[Array.any_eq_false'];intro e he;obtain⟨m,t,hm⟩:=hk e (by simpa using he);simp[DictEntry.refKey,hm]
  rw[this,Bool.and_false]
 dsimp only;rw[aRefKeyMayBeTheName_at,cc];exact wpAny_updatePart ho h
theorem Ns.put{h:Apn}{a:Apc}{c:Ao3}{d:Option Apc}{es:List ApE}{n:Nat}{sl:Array (Option Ao3)}{m:Str->Option Ao3}(ho:h.get? a=some ⟨c,d,.dict es.toArray n,sl⟩)(hk:∀e∈es,∃n t,e.key= .str n t)(hm:∀y,Aro es.toArray y=m y)(nm:Str)(Ov:Int)(t:Tok)(v:Ao3):
  (h.update a<|ApX nm Ov (.str nm t) v).Ns a (λx=>if x=nm then some v else m x)∧∃VV n',(h.update a<|ApX nm Ov (.str nm t) v).get? a=some ⟨c,d,.dict VV n',sl⟩:=by
 have hf:(ApX nm Ov (.str nm t) v ⟨c,d,.dict es.toArray n,sl⟩).isFreed=false:=by rw[Bl];rfl
 have g:=Apm (ApX nm Ov (.str nm t) v) ho hf;rw[Bl] at g;refine⟨⟨_,_,_,g,rfl,λe he=>?_,λy=>?_⟩,_,_,g⟩
 ·exact FC hk e (by simpa using he)
 ·rw[JL,hm]
theorem EI{env:Env}{nm:Str}{m:Str->Option Ao3}{v:Ao3}{Q:Unit->Ao5->Prop}(hl:env.kindOf nm=some .local)(hn:s.heap.Ns env.locals m)
  (h:∀h',h'.Ns env.locals (λx=>if x=nm then some v else m x)->ApP env.locals s.heap h'->(∀o,s.heap.get? env.locals=some o->C0 o->∃o',h'.get? env.locals=some o'∧C0 o')->Q () {s with heap:=h',toks:=s.toks+1})
  (hp:(env.scope.kind== .class||(env.scope.kind== .module&&env.locals != env.globals))=false):Aph (model prog w) A (storeName env nm v) Q E s:=by
 rw[storeName_local hl hp];obtain⟨⟨c,d,dt,sl⟩,⟨es⟩,n,ho,hd,hk,hm⟩:=hn;cases(show dt= .dict ⟨es⟩ n from hd);have aV:∀e∈es,∃n t,e.key= .str n t:=λe he=>hk e (by simpa using he)
 refine JR ho aV ?_;obtain⟨a1,VV,n',a2⟩:=Ns.put ho aV hm nm (Apv w.params nm) s.toks v;refine h _ a1 (ApW ..) λo h1 h2=>⟨_,a2,?_⟩
 rw[ho] at h1;cases h1;exact⟨h2.1,_,_,rfl⟩
end
section
variable{C:Cx}
theorem Ce{α:Type}(p:Nm×α)(l:List (Nm×α))(x:Nm):A2 (p::l) x=bt (Ao9 x p.1) (some p.2) (A2 l x):=rfl
theorem LQ{α:Type}(p:Nm×α)(l:List (Nm×α))(x:Nm)(v:α):BM (p::l) x v=bt (Ao9 x p.1) ((p.1,v)::l) (p::BM l x v):=rfl
theorem TC{α:Type}(p:Nm×α)(l:List (Nm×α))(x:Nm):ZO (p::l) x=bt (Ao9 x p.1) (ZO l x) (p::ZO l x):=rfl
theorem Jd{α:Type}(x y:α):bt true x y=x:=rfl
theorem Gr{α:Type}(x y:α):bt false x y=y:=rfl
theorem Cy(x:Nat):Ao9 x x=true:=ArD x
theorem EO{x y:Nat}(h:x≠y):Ao9 x y=false:=by
 cases q:Ao9 x y with
 |false=>rfl |true=>exact absurd (Ao6 q) h
theorem Bc{α:Type}(x:Nm)(v:α)(y:Nm):∀l:List (Nm×α),A2 (BM l x v) y=if y=x then some v else A2 l y
 | []=>by
  show A2 [(x,v)] y=_;rw[Ce];by_cases h:y=x
  ·subst h;rw[Cy,if_pos rfl,Jd]
  ·rw[EO h,if_neg h,Gr]
 |p::l=>by
  rw[LQ,Ce];by_cases h:x=p.1
  ·rw[h,Cy,Jd,Ce];by_cases q:y=p.1
   ·rw[q,Cy,if_pos rfl,Jd]
   ·rw[EO q,if_neg q,Gr,Gr]
  ·rw[EO h,Gr,Ce,Bc x v y l];by_cases q:y=p.1
   ·rw[q,Cy,Jd,if_neg<|ArQ h,Jd]
   ·rw[EO q,Gr,Gr]
theorem Oh{α:Type}(x y:Nm):∀l:List (Nm×α),A2 (ZO l x) y=if y=x then none else A2 l y
 | []=>by
  show(none:Option α)=if y=x then none else none
  split<;>rfl
 |p::l=>by
  rw[TC,Ce];by_cases h:x=p.1
  ·rw[h,Cy,Jd,Oh p.1 y l];by_cases q:y=p.1
   ·rw[if_pos q,if_pos q]
   ·rw[if_neg q,if_neg q,EO q,Gr]
  ·rw[EO h,Gr,Ce,Oh x y l];by_cases q:y=p.1
   ·rw[q,Cy,Jd,if_neg<|ArQ h,Jd]
   ·rw[EO q,Gr,Gr]
structure Ok(C:Cx):Prop where
 nodup:C.nm.Nodup
theorem Ok.inj(O:Ok C){x y:Nm}{n:Str}(hx:C.nm[x]?=some n)(hy:C.nm[y]?=some n):x=y:=by
 obtain⟨lx,ex⟩:=Ape.mp hx;obtain⟨ly,ey⟩:=Ape.mp hy;have P:=List.pairwise_iff_getElem.mp O.nodup;rcases Nat.lt_trichotomy x y with h |h |h
 ·exact absurd (ex.trans ey.symm) (P x y lx ly h)
 ·exact h
 ·exact absurd (ey.trans ex.symm) (P y x ly lx h)
theorem EJ.set(O:Ok C){l m}(N:EJ C W h l m){x:Nm}{nm:Str}(hx:C.nm[x]?=some nm)(hv:VR C W h v cv):
  EJ C W h (BM l x v) (λy=>if y=nm then some cv else m y):=by
 refine⟨λy u hu=>?_,λn u hu=>?_⟩
 ·rw[Bc] at hu;by_cases q:y=x
  ·rw[if_pos q] at hu;cases hu;exact⟨nm,cv,q▸hx,if_pos rfl,hv⟩
  ·rw[if_neg q] at hu;obtain⟨n,w,a1,a2,a3⟩:=N.1 y u hu;exact⟨n,w,a1,(if_neg (λe:n=nm=>q (O.inj a1<|e▸hx))).trans a2,a3⟩
 ·dsimp only at hu;by_cases q:n=nm
  ·exact⟨x,v,q▸hx,by rw[Bc,if_pos rfl]⟩
  ·rw[if_neg q] at hu;obtain⟨y,w,a1,a2⟩:=N.2 n u hu;refine⟨y,w,a1,?_⟩;rw[Bc,if_neg (λe=>q ?_)]
   ·exact a2
   ·rw[e] at a1;rw[a1] at hx;exact Apr hx
theorem EJ.congr{l m m'}(N:EJ C W h l m)(e:∀y,m' y=m y):EJ C W h l m':=by rw[show m'=m from funext e];exact N
structure A8(C:Cx)(A:Apg)(W:Wd)(sc:ApH)(E:Bo)(env:Env):Prop where
 scope:env.scope=sc
 kind:sc.kind= .function
 glob:env.globals=Ar5
 bi:env.builtins=AqG
 fr:∃p,W.τ[E.fr]?=some p∧env.locals=p.1
 cells:∀x j nm,A2 E.cells x=some j->C.nm[x]?=some nm->(sc.names.lookup nm=some .cell∨sc.names.lookup nm=some .free)->∃p,W.τ[j]?=some p∧env.cells.lookup nm=some p.1
 full:∀nm,(sc.names.lookup nm=some .cell∨sc.names.lookup nm=some .free)->∃a,env.cells.lookup nm=some a
 around:∃l,A.frames=some l∧(∀e∈l,e.scope.kind≠ .module∧∃L∈W.fs,e.frame=some L)∧∃e∈l,e.frame=env.frame
theorem Ext.up(x:Ext σ W s σ' W' s'):W.τ<+:W'.τ∧W.fs<+:W'.fs:=⟨x.τ,x.fs⟩
theorem A8.up{W':Wd}{sc E env}(h:A8 C A W sc E env)(t:W.τ<+:W'.τ∧W.fs<+:W'.fs):A8 C A W' sc E env:=
 ⟨h.scope,h.kind,h.glob,h.bi,let⟨p,a,b⟩:=h.fr;⟨p,Ah t.1 a,b⟩,λx j nm q a k=>let⟨p,b,c⟩:=h.cells x j nm q a k;⟨p,Ah t.1 b,c⟩,h.full,
  let⟨l,a,b,c⟩:=h.around;⟨l,a,λe he=>let⟨x,L,y,z⟩:=b e he;⟨x,L,t.2.subset y,z⟩,c⟩⟩
section
variable{A:Apg}{σ:St}{W:Wd}{s:Ao5}{sc:ApH}{E:Bo}{env:Env}{x:Nm}{nm:Str}
theorem Sp.OM(I:Inv C W σ s)(e:A8 C A W sc E env)(hx:C.nm[x]?=some nm)(hk:sc.names.lookup nm=some .local):Sp C A σ W s (loadName env nm) (λk _=>OM E x σ k) (RV C):=by
 intro k ke q;unfold Mine.OM at q;split at q
 ·rename_i m hm;split at q
  ·rename_i v hv;obtain⟨p,hp,_,mm,Hv,hM⟩:=I.obj _ _ hm;obtain⟨p',BK,hl⟩:=e.fr;rw[hp] at BK;cases BK;obtain⟨nm',cv,a1,a2,a3⟩:=hM.1 x v hv;rw[hx] at a1;cases a1;exact wpAny_loadName_local (by rw[e.scope];exact e.kind) (by unfold AqJ;rw[e.scope];exact hk) (by rw[hl];exact Hv) a2 ⟨v,σ,W,q,.refl _ _ _,I,a3⟩
  ·cases q
 ·cases q
theorem Ns.cls{h:Apn}{a:Apc}{m}(x:h.Ns a m):∃o es n,h.get? a=some o∧o.data= .dict es n:=let⟨o,es,n,a,b,_⟩:=x;⟨o,es,n,a,b⟩
theorem Sp.Co(O:Ok C)(I:Inv C W σ s)(e:A8 C A W sc E env)(hx:C.nm[x]?=some nm)(hk:sc.names.lookup nm=some .local)(hv:VR C W s.heap v cv):
  Sp C A σ W s (storeName env nm cv) (λk _=>Co E x v σ k) RU:=by
 intro k ke q;unfold Mine.Co at q;split at q
 ·rename_i m hm;obtain⟨p,hp,ep,mm,Hv,hM⟩:=I.obj _ _ hm;obtain⟨p',BK,hl⟩:=e.fr;rw[hp] at BK;cases BK;refine EI (m:=mm) (by unfold AqJ;rw[e.scope];exact hk) (by rw[hl];exact Hv) (λh' hn hs hc=>?_) (by rw[e.scope,e.kind];rfl);rw[hl] at hn hs hc;have GV:∃o,h'.get? p.1=some o∧Bk o:=let⟨o,es,n,a,b⟩:=Ns.cls hn;⟨o,a,.GZ b⟩;obtain⟨J,X⟩:=I.put (s':={s with heap:=h',toks:=s.toks+1}) (o:=.frame (BM m x v)) hp (λb o h1 _ hb=>(hs.2 b h1).trans hb)
   (λT=>⟨ep,_,hn,(hM.Bg ⟨Apb _,Apb _,λ_ _=>rfl,λ_ _=>rfl,T⟩).set O hx<|hv.keep (Apb _) (Apb _) (λ_ _=>rfl) T⟩)
   GV (by rw[ep];exact GV)
   (λa ha o h1 h2=>by
    rcases ha with rfl |rfl
    ·exact hc o h1 h2
    ·rw[ep] at h1 ⊢;exact hc o h1 h2) rfl rfl
  exact⟨(),_,W,q,X,J,trivial⟩
 ·cases q
theorem Sp.OK(I:Inv C W σ s)(e:A8 C A W sc E env)(hx:C.nm[x]?=some nm)(hk:sc.names.lookup nm=some .cell∨sc.names.lookup nm=some .free)(hd:(nm==("__classdict__":Str))=false):
  Sp C A σ W s (loadName env nm) (λk _=>OK E x σ k) (RV C):=by
 intro k ke q;unfold Mine.OK at q;split at q
 ·rename_i c hc;split at q
  ·rename_i v hv;obtain⟨p,hp,_,cv,HV,hvr⟩:=I.obj _ _ hv;obtain⟨p',a2,a3⟩:=e.cells x c nm hc hx hk;rw[hp] at a2;cases a2;have fin:A7 C k σ W s (RV C) cv s:=⟨v,σ,W,q,.refl _ _ _,I,hvr⟩;rcases hk with hk |hk
   ·exact wpAny_loadName_cell (by rw[e.scope];exact e.kind) (by unfold AqJ;rw[e.scope];exact hk) a3 HV fin
   ·exact wpAny_loadName_free (by rw[e.scope];exact e.kind) (by unfold AqJ;rw[e.scope];exact hk) a3 HV fin hd
  ·cases q
 ·cases q
theorem Sp.EH(I:Inv C W σ s)(e:A8 C A W sc E env)(hx:C.nm[x]?=some nm)(hk:sc.names.lookup nm=some .cell)(hv:VR C W s.heap v cv):
  Sp C A σ W s (storeName env nm cv) (λk _=>EH E x v σ k) RU:=by
 intro k ke q;unfold Mine.EH at q;split at q
 ·rename_i c hc;split at q
  ·rename_i v0 hv0;obtain⟨p,hp,hb⟩:=I.obj _ _ hv0;obtain⟨p',a2,a3⟩:=e.cells x c nm hc hx (.inl hk);rw[hp] at a2;cases a2;obtain⟨ep,w0,HV⟩:p.2=p.1∧∃w0,s.heap.IsCell p.1 w0:=by
    cases v0 with
    |none=>exact⟨hb.1,_,hb.2⟩
    |some u=>exact⟨hb.1,_,hb.2.choose_spec.1⟩
   refine wpAny_storeName_cell (by rw[e.scope];exact e.kind) (by unfold AqJ;rw[e.scope];exact hk) a3 HV (λh' hn hs=>?_);have nt:∃o,h'.get? p.1=some o∧Bk o:=let⟨o,a,b⟩:=hn;⟨o,a,trivial⟩;obtain⟨J,X⟩:=I.put (s':={s with heap:=h'}) (o:=.cell (some v)) hp (λb o h1 _ hb=>(hs.2 b h1).trans hb)
    (λT=>⟨ep,_,hn,hv.keep (Apb _) (Apb _) (λ_ _=>rfl) T⟩) nt (by rw[ep];exact nt)
    (λa ha o ho hd=>by
     exfalso;obtain⟨o',h1,h2⟩:=HV;obtain⟨_,es,n,hd⟩:=hd;rcases ha with rfl |rfl
     ·rw[h1] at ho;cases ho;rw[h2] at hd;cases hd
     ·rw[ep,h1] at ho;cases ho;rw[h2] at hd;cases hd) rfl rfl
   exact⟨(),_,W,q,X,J,trivial⟩
  ·cases q
 ·cases q
end
end
section
theorem ble_iff{x y:Nat}:Ap0 x y=true↔x≤y:=⟨ApB,Nat.ble_eq_true_of_le⟩
theorem beq_iff{x y:Nat}:Ao9 x y=true↔x=y:=⟨Ao6,λh=>by rw[h];exact ArD y⟩
theorem BW(a b:Int):Fm a b=true↔a≤b:=by
 cases a with
 |ofNat x=>cases b with
  |ofNat y=>show Ap0 x y=true↔_;rw[ble_iff];constructor<;>intro h<;>(simp only[ApU] at *; omega)
  |negSucc y=>
   show false=true↔_;constructor
   ·intro h;cases h
   ·intro h;exfalso;simp only[ApU] at h;omega
 |negSucc x=>cases b with
  |ofNat y=>
   show true=true↔_;constructor
   ·intro _;simp only[ApU];omega
   ·intro _;rfl
  |negSucc y=>show Ap0 y x=true↔_;rw[ble_iff];omega
theorem AZ(a b:Int):CH a b=true↔a<b:=by
 cases a with
 |ofNat x=>cases b with
  |ofNat y=>show Ap0 (ArI x) y=true↔_;rw[ble_iff];constructor<;>intro h<;>(simp only[ApU] at *; omega)
  |negSucc y=>
   show false=true↔_;constructor
   ·intro h;cases h
   ·intro h;exfalso;simp only[ApU] at h;omega
 |negSucc x=>cases b with
  |ofNat y=>
   show true=true↔_;constructor
   ·intro _;simp only[ApU];omega
   ·intro _;rfl
  |negSucc y=>show Ap0 (ArI y) x=true↔_;rw[ble_iff];omega
theorem AR(a b:Int):FW a b=true↔a=b:=by
 cases a with
 |ofNat x=>cases b with
  |ofNat y=>show Ao9 x y=true↔_;rw[beq_iff];constructor<;>intro h<;>(simp only[ApU] at *; omega)
  |negSucc y=>
   show false=true↔_;constructor
   ·intro h;cases h
   ·intro h;cases h
 |negSucc x=>cases b with
  |ofNat y=>
   show false=true↔_;constructor
   ·intro h;cases h
   ·intro h;cases h
  |negSucc y=>show Ao9 x y=true↔_;rw[beq_iff];constructor<;>intro h<;>omega
theorem bK(a b:Int):CH a b=decide (a<b):=AqA.mpr ((AZ a b).trans decide_eq_true_iff.symm)
theorem bH(a b:Int):FW a b=decide (a=b):=AqA.mpr ((AR a b).trans decide_eq_true_iff.symm)
section
variable{ρ:List Int}
theorem VW{a:Nat}{f x y:Int}(hx:ρ[a]?=some x):CN ρ t=some y->CN ρ (P7 t a f)=some (y+f*x):=by
 induction t generalizing y with
 |nil=>intro h;cases h;simp[P7,CN,hx]
 |cons p r ih=>
  obtain⟨b,g⟩:=p;intro h;simp only[CN] at h;split at h
  ·rename_i u v hu hv;cases h;simp only[P7];split
   ·rename_i hb;have hb:=beq_iff.mp hb;subst hb;rw[hx] at hu;cases hu;split
    ·rename_i hz;rw[hv];have hz:=(AR _ _).mp hz;rw[show g*x+v+f*x=(g+f)*x+v from by rw[Int.add_mul];omega,hz,Int.zero_mul,Int.zero_add]
    ·simp only[CN,hx,hv];rw[show(g+f)*x+v=g*x+v+f*x from by rw[Int.add_mul];omega]
   ·simp only[CN,hu,ih hv];rw[show g*u+(v+f*x)=g*u+v+f*x from by omega]
  ·cases h
theorem K6{x y:Int}:CN ρ u=some x->CN ρ t=some y->CN ρ (NH u t)=some (x+y):=by
 induction u generalizing x y t with
 |nil=>intro h1 h2;cases h1;rw[Int.zero_add];exact h2
 |cons p r ih=>
  obtain⟨a,f⟩:=p;intro h1 h2;simp only[CN] at h1;split at h1
  ·rename_i v w hv hw;cases h1;simp only[NH];rw[ih hw (VW hv h2)];congr 1;omega
  ·cases h1
theorem Hq{m x:Int}:CN ρ t=some x->CN ρ (Ls m t)=some (m*x):=by
 induction t generalizing x with
 |nil=>intro h;cases h;rw[Int.mul_zero];rfl
 |cons p r ih=>
  obtain⟨a,f⟩:=p;intro h;simp only[CN] at h;split at h
  ·rename_i v w hv hw;cases h;simp only[Ls,CN,hv,ih hw];rw[Int.mul_add,Int.mul_assoc]
  ·cases h
theorem Ap.Bp{l:Ap}{x:Int}:l.ev ρ=some x↔∃y,CN ρ l.t=some y∧x=l.c+y:=by unfold Ap.ev;rw[Aq7];exact⟨λ⟨y,a,b⟩=>⟨y,a,b.symm⟩,λ⟨y,a,b⟩=>⟨y,a,b.symm⟩⟩
theorem Ap.CY(i:Int):(Ap.k i).ev ρ=some i:=Ap.Bp.mpr ⟨0,rfl,(Int.add_zero i).symm⟩
theorem Ap.FH{l:Ap}{x:Int}(h:l.t= [])(e:l.ev ρ=some x):x=l.c:=by obtain⟨y,a,b⟩:=Ap.Bp.mp e;rw[h] at a;cases a;rw[b,Int.add_zero]
theorem Ap.MC{l m:Ap}{x y:Int}(h1:l.ev ρ=some x)(h2:m.ev ρ=some y):(l.add m).ev ρ=some (x+y):=by obtain⟨u,a,rfl⟩:=Ap.Bp.mp h1;obtain⟨v,b,rfl⟩:=Ap.Bp.mp h2;exact Ap.Bp.mpr ⟨v+u,K6 b a,show l.c+u+(m.c+v)=(l.c+m.c)+(v+u) from by omega⟩
theorem Ap.Qo{l:Ap}{m x:Int}(h:l.ev ρ=some x):(l.mul m).ev ρ=some (m*x):=by
 obtain⟨u,a,rfl⟩:=Ap.Bp.mp h;unfold Ap.mul;cases q:FW m 0 with
 |true=>rw[(AR _ _).mp q,Jd,Int.zero_mul];rfl
 |false=>rw[Gr];exact Ap.Bp.mpr ⟨m*u,Hq a,Int.mul_add _ _ _⟩
theorem Ap.VY{l:Ap}{x:Int}(h:l.ev ρ=some x):l.neg.ev ρ=some (-x):=by obtain⟨u,a,rfl⟩:=Ap.Bp.mp h;exact Ap.Bp.mpr ⟨-1*u,Hq a,show -(l.c+u)= -l.c+ -1*u from by omega⟩
theorem Ap.Ea{l m:Ap}{x y:Int}(h1:l.ev ρ=some x)(h2:m.ev ρ=some y):(l.sub m).ev ρ=some (x-y):=by obtain⟨u,a,rfl⟩:=Ap.Bp.mp h1;obtain⟨v,b,rfl⟩:=Ap.Bp.mp h2;exact Ap.Bp.mpr ⟨-1*v+u,K6 (Hq b) a,show l.c+u-(m.c+v)=(l.c-m.c)+(-1*v+u) from by omega⟩
theorem PV:∀{t u:List (Nat×Int)},eK t u=true->t=u
 | [],[],_=>rfl
 |(a,f)::r,(b,g)::s,h=>by
  simp only[eK] at h;split at h
  ·rename_i h1;split at h
   ·rename_i h2;rw[beq_iff.mp h1,(AR _ _).mp h2,PV h]
   ·cases h
  ·cases h
 | [],_::_,h=>by cases h
 |_::_,[],h=>by cases h
theorem Ap.eq_iff{x:Ap}(h:x.eq y=true):x=y:=by
 obtain⟨c,t⟩:=x;obtain⟨d,u⟩:=y;simp only[Ap.eq] at h;split at h
 ·rename_i h1;rw[(AR _ _).mp h1,PV h]
 ·cases h
end
variable{C:Cx}
section
variable{W:Wd}{σ:St}{s:Ao5}
theorem inR.add{x y:Int}(h1:inR a x)(h2:inR b y):inR (KP a.1 b.1,KP a.2 b.2) (x+y):=by
 obtain⟨a1,a2⟩:=a;obtain⟨b1,b2⟩:=b;refine⟨λc hc=>?_,λc hc=>?_⟩
 ·cases a1<;>cases b1<;>simp only[KP] at hc<;>cases hc;have:=h1.1 _ rfl;have:=h2.1 _ rfl;omega
 ·cases a2<;>cases b2<;>simp only[KP] at hc<;>cases hc;have:=h1.2 _ rfl;have:=h2.2 _ rfl;omega
theorem inR.mul_pos{f x:Int}(h:inR a x)(hf:¬f<0):inR (Iq f a.1,Iq f a.2) (f*x):=by
 obtain⟨a1,a2⟩:=a;refine⟨λc hc=>?_,λc hc=>?_⟩
 ·cases a1<;>simp only[Iq] at hc<;>cases hc;exact Int.mul_le_mul_of_nonneg_left (h.1 _ rfl) (Int.not_lt.mp hf)
 ·cases a2<;>simp only[Iq] at hc<;>cases hc;exact Int.mul_le_mul_of_nonneg_left (h.2 _ rfl) (Int.not_lt.mp hf)
theorem inR.mul_neg{f x:Int}(h:inR a x)(hf:f<0):inR (Iq f a.2,Iq f a.1) (f*x):=by
 obtain⟨a1,a2⟩:=a;refine⟨λc hc=>?_,λc hc=>?_⟩
 ·cases a2<;>simp only[Iq] at hc<;>cases hc;exact Int.mul_le_mul_of_nonpos_left (Int.le_of_lt hf) (h.2 _ rfl)
 ·cases a1<;>simp only[Iq] at hc<;>cases hc;exact Int.mul_le_mul_of_nonpos_left (Int.le_of_lt hf) (h.1 _ rfl)
theorem JX(hr:∀a x,W.ρ[a]?=some x->inR (σ.rg a) x):∀{t:List (Nat×Int)} {x:Int},CN W.ρ t=some x->inR (DN σ t) x
 | [],x,h=>by cases h;exact⟨λa h=>by cases h;exact Aqd _,λa h=>by cases h;exact Aqd _⟩
 |(a,f)::r,x,h=>by
  simp only[CN] at h;split at h
  ·rename_i u v hu hv;cases h;simp only[DN];have i1:=hr a u hu;have i2:=JX hr hv;split
   ·rename_i hf;exact(i1.mul_neg<|(AZ _ _).mp hf).add i2
   ·rename_i hf;refine(i1.mul_pos (λq=>?_)).add i2;rw[(AZ _ _).mpr q] at hf;cases hf
  ·cases h
theorem Dt(hr:∀a x,W.ρ[a]?=some x->inR (σ.rg a) x){l:Ap}{x:Int}(h:l.ev W.ρ=some x):inR (l.range σ) x:=by
 obtain⟨y,hy,rfl⟩:=Ap.Bp.mp h;have i2:=JX hr hy;unfold Ap.range;split
 ·rename_i q;rw[q] at hy;cases hy;rw[Int.add_zero];exact⟨λa h=>by cases h;exact Aqd _,λa h=>by cases h;exact Aqd _⟩
 ·have i1:inR (some l.c,some l.c) l.c:=⟨λa h=>by cases h;exact Aqd _,λa h=>by cases h;exact Aqd _⟩;exact i1.add i2
theorem SX{x:Int}{b:Bool}(h:inR r x)(e:dH r=some b):decide (x<0)=b:=by
 obtain⟨lo,hi⟩:=r;unfold dH at e;split at e
 ·rename_i q;cases e;cases hi with
  |none=>cases q
  |some y=>have:=(AZ _ _).mp q;have:=h.2 y rfl;exact decide_eq_true (by omega)
 ·split at e
  ·rename_i q;cases e;cases lo with
   |none=>cases q
   |some y=>have:=(BW _ _).mp q;have:=h.1 y rfl;exact decide_eq_false (by omega)
  ·cases e
theorem SY{x:Int}{b:Bool}(h:inR r x)(e:dI r=some b):decide (x=0)=b:=by
 obtain⟨lo,hi⟩:=r;unfold dI at e;split at e
 ·rename_i q;cases e;cases hi with
  |none=>cases q
  |some y=>have:=(AZ _ _).mp q;have:=h.2 y rfl;exact decide_eq_false (by omega)
 ·split at e
  ·rename_i q;cases e;cases lo with
   |none=>cases q
   |some y=>have:=(AZ _ _).mp q;have:=h.1 y rfl;exact decide_eq_false (by omega)
  ·split at e
   ·rename_i u v hq;cases hq;split at e
    ·rename_i q1;split at e
     ·rename_i q2;cases e;have:=(AR _ _).mp q1;have:=(AR _ _).mp q2;have:=h.1 _ rfl;have:=h.2 _ rfl;exact decide_eq_true (by omega)
     ·cases e
    ·cases e
   ·cases e
theorem Fs:∀{f:List (Ap×Bool)} {l:Ap} {b:Bool},known f l=some b->(l,b)∈f
 |(m,c)::r,l,b,h=>by
  simp only[known] at h;split at h
  ·rename_i q;cases h;rw[Ap.eq_iff q];exact .head _
  ·exact .tail _ (Fs h)
theorem Ext.same(W:Wd)(s:Ao5){σ σ':St}(h1:σ'.low=σ.low)(h2:σ'.Bq=σ.Bq):Ext σ W s σ' W s:=
 ⟨Apb _,Apb _,λ_ _=>rfl,λ_ _=>rfl,h1,Nat.le_of_eq h2.symm,λa o e _ _=>⟨o.slots,e,λ_=>rfl⟩,λ_ a o e _=>e,λp h=>.inl h,λa o e=>⟨o,e⟩,λa o e d=>⟨o,e,d⟩,Apb _,rfl⟩
theorem AA{α:Type}:∀(l:List α) (i:Nat),Bs l i=l[i]?
 | [],i=>by cases i<;>rfl
 |a::l,0=>rfl |a::l,i+1=>by show Bs l i=_;rw[AA l i];simp
theorem EG{α:Type}(x:α):∀(l:List α) (i:Nat),HJ l x i=l.set i x
 | [],i=>by cases i<;>rfl
 |a::l,0=>rfl |a::l,i+1=>by show a::HJ l x i=_;rw[EG x l i];rfl
theorem YL(σ:St)(hl:σ.Bi.length=σ.k){a b:Nat}(ha:a<σ.k)(hb:b<σ.k)(r:DB):(σ.B2 a r).rg b=if b=a then r else σ.rg b:=by
 show BB (HJ σ.Bi r<|σ.k-1-a) (σ.k-1-b)=if b=a then r else BB σ.Bi (σ.k-1-b)
 unfold BB;rw[AA,AA,EG,List.getElem?_set];by_cases h:b=a
 ·subst h;rw[if_pos rfl,if_pos rfl,if_pos (by omega)]
 ·rw[if_neg h,if_neg (by omega)]
theorem Inv.B2(I:Inv C W σ s){a:Nat}{x:Int}(hx:W.ρ[a]?=some x)(hr:inR r x):Inv C W (σ.B2 a r) s:=by
 have la:a<σ.k:=I.kρ▸(Ape.mp hx).1;refine⟨I.nτ,I.kρ,?_,λb y hy=>?_,I.neg,I.Ca,I.obj,I.apart,I.new,I.live,I.Kn,I.base,I.gens,I.os,I.fo⟩
 ·show(HJ σ.Bi r<|σ.k-1-a).length=σ.k;rw[EG,List.length_set];exact I.rl
 ·have lb:b<σ.k:=I.kρ▸(Ape.mp hy).1;rw[YL σ I.rl la lb];split
  ·rename_i q;subst q;rw[hx] at hy;cases hy;exact hr
  ·exact I.Bi b y hy
theorem OY(I:Inv C W σ s):∀{f:List (Ap×Bool)},(∀p∈f,∃x,p.1.ev W.ρ=some x∧(decide (x<0))=p.2)->OX σ f=true
 | [],_=>rfl
 |(l,b)::r,h=>by
  simp only[OX];obtain⟨x,hx,hb⟩:=h _ (.head _);have ih:=OY I (f:=r) λp hp=>h p (.tail _ hp)
  split
  ·rename_i c hc;have:=SX (Dt I.Bi hx) hc;dsimp only at hb;rw[←this,←hb];simp[ih]
  ·exact ih
theorem O0(I:Inv C W σ s):∀{f:List (Ap×Bool)},(∀p∈f,∃x,p.1.ev W.ρ=some x∧(decide (x=0))=p.2)->OZ σ f=true
 | [],_=>rfl
 |(l,b)::r,h=>by
  simp only[OZ];obtain⟨x,hx,hb⟩:=h _ (.head _);have ih:=O0 I (f:=r) λp hp=>h p (.tail _ hp)
  split
  ·rename_i c hc;have:=SY (Dt I.Bi hx) hc;dsimp only at hb;rw[←this,←hb];simp[ih]
  ·exact ih
theorem dW{x:Int}(h:inR r x):room r=true:=by
 obtain⟨lo,hi⟩:=r;cases lo<;>cases hi<;>first |rfl |skip
 have:=h.1 _ rfl;have:=h.2 _ rfl;exact(BW _ _).mpr (by omega)
theorem BL(I:Inv C W σ s){a:Nat}{x:Int}(hx:W.ρ[a]?=some x)(hr:inR r x)(h:narrow σ a r f=true):f (σ.B2 a r)=true:=by have J:=I.B2 hx hr;unfold narrow at h;rw[dW hr] at h;dsimp only at h;rw[OY J (f:=σ.neg) I.neg] at h;dsimp only at h;rw[O0 J (f:=σ.Ca) I.Ca] at h;exact h
theorem NS{a b:Bool}:both a b=true↔a=true∧b=true:=by cases a<;>simp[both,bt]
theorem Ac{a b:Bool}(h:both a b=true):a=true∧b=true:=NS.mp h
theorem Dr(I:Inv C W σ s):∀{t:List (Nat×Int)} {c y:Int},CN W.ρ t=some y->∃z,CN W.ρ (CG σ c t).2=some z∧(CG σ c t).1+z=c+y
 | [],c,y,h=>⟨y,h,rfl⟩
 |(a,f)::r,c,y,h=>by
  simp only[CN] at h;split at h
  ·rename_i u v hu hv;cases h;have WL:∀d t',CG σ c r=(d,t')->∃z,CN W.ρ ((a,f)::t')=some z∧d+z=c+(f*u+v):=by
    intro d t' e;obtain⟨z,hz,hq⟩:=Dr I (c:=c) hv;rw[e] at hz hq;exact⟨f*u+z,by simp only[CN,hu,hz],by dsimp only at hq;omega⟩
   simp only[CG];split
   ·rename_i p q hpq;split
    ·rename_i hx;have hx:=(AR _ _).mp hx;subst hx;have i1:=I.Bi a u hu;rw[hpq] at i1;have:u=p:=by have:=i1.1 _ rfl;have:=i1.2 _ rfl;omega
     subst this;obtain⟨z,hz,hq⟩:=Dr I (c:=c+f*u) hv;exact⟨z,hz,by omega⟩
    ·exact WL _ _ rfl
   ·exact WL _ _ rfl
  ·cases h
def Bx(C:Cx)(W:Wd)(s:Ao5)(σ σ':St):Prop:=Inv C W σ' s∧σ'.low=σ.low∧σ'.Bq=σ.Bq∧σ'.n=σ.n∧σ'.objs=σ.objs
theorem Bx.refl(I:Inv C W σ s):Bx C W s σ σ:=⟨I,rfl,rfl,rfl,rfl⟩
theorem Bx.trans(a:Bx C W s σ σ1)(b:Bx C W s σ1 σ2):Bx C W s σ σ2:=⟨b.1,b.2.1.trans a.2.1,b.2.2.1.trans a.2.2.1,b.2.2.2.1.trans a.2.2.2.1,b.2.2.2.2.trans a.2.2.2.2⟩
theorem Bx.ext(a:Bx C W s σ σ'):Ext σ W s σ' W s:=Ext.same W s a.2.1 a.2.2.1
theorem Bx.B2(I:Inv C W σ s){a:Nat}{x:Int}(hx:W.ρ[a]?=some x)(hr:inR r x):Bx C W s σ (σ.B2 a r):=⟨I.B2 hx hr,rfl,rfl,rfl,rfl⟩
theorem Bx.obj{σ':St}(a:Bx C W s σ σ')(i:Nat):σ'.obj i=σ.obj i:=by unfold St.obj;rw[a.2.2.2.2]
theorem Bx.Fv(I:Inv C W σ s){l:Ap}{x:Int}{b:Bool}(hx:l.ev W.ρ=some x)(hb:decide (x<0)=b):Bx C W s σ (σ.Fv l b):=
 ⟨⟨I.nτ,I.kρ,I.rl,I.Bi,λp hp=>by rcases Apf.mp hp with rfl |hp;exact⟨x,hx,hb⟩;exact I.neg p hp,I.Ca,I.obj,I.apart,I.new,I.live,I.Kn,I.base,I.gens,I.os,I.fo⟩,rfl,rfl,rfl,rfl⟩
theorem Bx.Fw(I:Inv C W σ s){l:Ap}{x:Int}{b:Bool}(hx:l.ev W.ρ=some x)(hb:decide (x=0)=b):Bx C W s σ (σ.Fw l b):=
 ⟨⟨I.nτ,I.kρ,I.rl,I.Bi,I.neg,λp hp=>by rcases Apf.mp hp with rfl |hp;exact⟨x,hx,hb⟩;exact I.Ca p hp,I.obj,I.apart,I.new,I.live,I.Kn,I.base,I.gens,I.os,I.fo⟩,rfl,rfl,rfl,rfl⟩
end
end
section
variable{C:Cx}{W:Wd}{σ:St}{s:Ao5}
theorem IB{a:Nat}{f z:Int}(h:CN ρ [(a,f)]=some z):∃u,ρ[a]?=some u∧z=f*u:=by
 simp only[CN] at h;split at h
 ·rename_i u v hu hv;cases hv;cases h;exact⟨u,hu,by omega⟩
 ·cases h
theorem inR.lo{u z:Int}(h:inR r u)(q:z≤u):inR (some z,r.2) u:=⟨λb hb=>by cases hb;exact q,h.2⟩
theorem inR.hi{u z:Int}(h:inR r u)(q:u≤z):inR (r.1,some z) u:=⟨h.1,λb hb=>by cases hb;exact q⟩
theorem inR.at(u:Int):inR (some u,some u) u:=⟨λb hb=>by cases hb;exact Aqd _,λb hb=>by cases hb;exact Aqd _⟩
theorem Fn{a b:Int}(h:CH a b=false):b≤a:=by
 by_cases q:a<b
 ·rw[(AZ a b).mpr q] at h;cases h
 ·omega
theorem Kj(I:Inv C W σ s){l:Ap}{x:Int}(hx:l.ev W.ρ=some x){k:K Bool}(h:Nt l σ k=true):∃σ',Bx C W s σ σ'∧k (decide (x<0)) σ'=true:=by
 obtain⟨h1,h2⟩:=Ac h;cases q:decide (x<0) with
 |true=>exact⟨_,.Fv I hx q,h1⟩
 |false=>exact⟨_,.Fv I hx q,h2⟩
theorem PK(I:Inv C W σ s){l:Ap}{x:Int}(hx:l.ev W.ρ=some x){k:K Bool}(h:J5 l σ k=true):∃σ',Bx C W s σ σ'∧k (decide (x<0)) σ'=true:=by
 obtain⟨y,hy,rfl⟩:=Ap.Bp.mp hx;obtain⟨z,hz,hq⟩:=Dr I (c:=l.c) hy;unfold J5 at h;split at h
 ·rename_i c a f e;rw[e] at hz hq;dsimp only at hz hq;obtain⟨u,hu,rfl⟩:=IB hz;have ru:=I.Bi a u hu;split at h
  ·rename_i hf;have hf:=(AR _ _).mp hf;subst hf;obtain⟨h1,h2⟩:=Ac h;by_cases q:l.c+y<0
   ·have r:=ru.hi (z:= -c-1) (by omega);exact⟨_,.B2 I hu r,by rw[decide_eq_true q];exact BL I hu r h1⟩
   ·have r:=ru.lo (z:= -c) (by omega);exact⟨_,.B2 I hu r,by rw[decide_eq_false q];exact BL I hu r h2⟩
  ·split at h
   ·rename_i hf;have hf:=(AR _ _).mp hf;subst hf;obtain⟨h1,h2⟩:=Ac h;by_cases q:l.c+y<0
    ·have r:=ru.lo (z:=c+1) (by omega);exact⟨_,.B2 I hu r,by rw[decide_eq_true q];exact BL I hu r h1⟩
    ·have r:=ru.hi (z:=c) (by omega);exact⟨_,.B2 I hu r,by rw[decide_eq_false q];exact BL I hu r h2⟩
   ·exact Kj I hx h
 ·exact Kj I hx h
theorem EX(I:Inv C W σ s){l:Ap}{x:Int}(hx:l.ev W.ρ=some x){k:K Bool}(h:isNeg l σ k=true):∃σ',Bx C W s σ σ'∧k (decide (x<0)) σ'=true:=by
 unfold isNeg at h;split at h
 ·rename_i e;rw[Ap.FH e hx,←bK];exact⟨σ,.refl I,h⟩
 ·unfold WD at h;split at h
  ·rename_i b hb;rw[SX (Dt I.Bi hx) hb];exact⟨σ,.refl I,h⟩
  ·split at h
   ·rename_i b hb;obtain⟨x',MQ,BO⟩:=I.neg _ (Fs hb);dsimp only at MQ BO;rw[hx] at MQ;cases MQ;rw[BO];exact⟨σ,.refl I,h⟩
   ·exact PK I hx h
theorem Kk(I:Inv C W σ s){l:Ap}{x:Int}(hx:l.ev W.ρ=some x){k:K Bool}(h:Nu l σ k=true):∃σ',Bx C W s σ σ'∧k (decide (x=0)) σ'=true:=by
 obtain⟨h1,h2⟩:=Ac h;cases q:decide (x=0) with
 |true=>exact⟨_,.Fw I hx q,h1⟩
 |false=>exact⟨_,.Fw I hx q,h2⟩
theorem NN(I:Inv C W σ s){a:Nat}{u z:Int}(hu:W.ρ[a]?=some u){k:K Bool}(h:UR a z σ k=true):∃σ',Bx C W s σ σ'∧k (decide (u=z)) σ'=true:=by
 have ru:=I.Bi a u hu;obtain⟨h1,h2⟩:=Ac h;obtain⟨h2,h3⟩:=Ac h2;rcases Int.lt_trichotomy u z with q |q |q
 ·rw[decide_eq_false (by omega)];split at h2
  ·have r:=ru.hi (z:=z-1) (by omega);exact⟨_,.B2 I hu r,BL I hu r h2⟩
  ·rename_i e;exfalso;split at e
   ·rename_i y hy;have:=ru.1 _ hy;have:=Fn e;omega
   ·cases e
 ·subst q;rw[decide_eq_true rfl];exact⟨_,.B2 I hu<|.at u,BL I hu (.at u) h1⟩
 ·rw[decide_eq_false (by omega)];split at h3
  ·have r:=ru.lo (z:=z+1) (by omega);exact⟨_,.B2 I hu r,BL I hu r h3⟩
  ·rename_i e;exfalso;split at e
   ·rename_i y hy;have:=ru.2 _ hy;have:=Fn e;omega
   ·cases e
theorem PL(I:Inv C W σ s){l:Ap}{x:Int}(hx:l.ev W.ρ=some x){k:K Bool}(h:J6 l σ k=true):∃σ',Bx C W s σ σ'∧k (decide (x=0)) σ'=true:=by
 obtain⟨y,hy,rfl⟩:=Ap.Bp.mp hx;obtain⟨z,hz,hq⟩:=Dr I (c:=l.c) hy;unfold J6 at h;split at h
 ·rename_i c a f e;rw[e] at hz hq;dsimp only at hz hq;obtain⟨u,hu,rfl⟩:=IB hz;split at h
  ·rename_i hf;have hf:=(AR _ _).mp hf;subst hf;obtain⟨σ',a1,a2⟩:=NN I hu h;exact⟨σ',a1,by rw[show decide (l.c+y=0)=decide (u= -c) from decide_eq_decide.mpr (by omega)];exact a2⟩
  ·split at h
   ·rename_i hf;have hf:=(AR _ _).mp hf;subst hf;obtain⟨σ',a1,a2⟩:=NN I hu h;exact⟨σ',a1,by rw[show decide (l.c+y=0)=decide (u=c) from decide_eq_decide.mpr (by omega)];exact a2⟩
   ·exact Kk I hx h
 ·exact Kk I hx h
theorem Fo(I:Inv C W σ s){l:Ap}{x:Int}(hx:l.ev W.ρ=some x){k:K Bool}(h:isZero l σ k=true):∃σ',Bx C W s σ σ'∧k (decide (x=0)) σ'=true:=by
 unfold isZero at h;split at h
 ·rename_i e;rw[Ap.FH e hx,←bH];exact⟨σ,.refl I,h⟩
 ·unfold Ss at h;split at h
  ·rename_i b hb;rw[SY (Dt I.Bi hx) hb];exact⟨σ,.refl I,h⟩
  ·unfold Su at h;split at h
   ·rename_i b hb;obtain⟨x',MQ,BO⟩:=I.Ca _ (Fs hb);dsimp only at MQ BO;rw[hx] at MQ;cases MQ;rw[BO];exact⟨σ,.refl I,h⟩
   ·split at h
    ·rename_i b hb;obtain⟨x',MQ,BO⟩:=I.Ca _ (Fs hb);dsimp only at MQ BO;rw[Ap.VY hx] at MQ;cases MQ;rw[show decide (x=0)=decide (-x=0) from decide_eq_decide.mpr (by omega),BO];exact⟨σ,.refl I,h⟩
    ·exact PL I hx h
theorem HT(I:Inv C W σ s){a:Nat}{u:Int}(hu:W.ρ[a]?=some u):∀{n:Nat} {x:Int},Jp σ a f x n=true->x≤u->u<x+n->∃σ',Bx C W s σ σ'∧f σ'=true
 |0,x,_,h1,h2=>by exfalso;simp at h2;omega
 |n+1,x,h,h1,h2=>by
  obtain⟨a1,a2⟩:=Ac h;by_cases q:x=u
  ·subst q;have r:inR (some x,some x) x:=⟨λb hb=>by cases hb;exact Aqd _,λb hb=>by cases hb;exact Aqd _⟩;exact⟨_,.B2 I hu r,BL I hu r a1⟩
  ·exact HT I hu a2 (by omega) (by push_cast at h2;omega)
theorem K9:∀{n:Nat} {σ:St},Inv C W σ s->∀{l:Ap} {x:Int},l.ev W.ρ=some x->∀{k:K Int},MG n l σ k=true->∃σ',Bx C W s σ σ'∧k x σ'=true
 |0,σ,I,l,x,hx,k,h=>by cases h
 |n+1,σ,I,l,x,hx,k,h=>by
  obtain⟨y,hy,rfl⟩:=Ap.Bp.mp hx;obtain⟨z,hz,hq⟩:=Dr I (c:=l.c) hy;simp only[MG] at h;split at h
  ·rename_i c e;rw[e] at hz hq;cases hz;dsimp only at hq;rw[←hq,Int.add_zero];exact⟨σ,.refl I,h⟩
  ·rename_i c a f r e;rw[e] at hz;dsimp only[CN] at hz;split at hz
   ·rename_i u v hu hv;split at h
    ·rename_i p q hpq;have ru:=I.Bi a u hu;rw[hpq] at ru;have r1:=ru.1 _ rfl;have r2:=ru.2 _ rfl;split at h
     ·obtain⟨σ',n1,h'⟩:=HT I hu h r1 (by omega);obtain⟨σ2,n2,h2⟩:=K9 n1.1 hx h';exact⟨σ2,n1.trans n2,h2⟩
     ·cases h
    ·cases h
   ·cases hz
theorem CO(I:Inv C W σ s){l:Ap}{x:Int}(hx:l.ev W.ρ=some x){k:K Int}(h:FV l σ k=true):∃σ',Bx C W s σ σ'∧k x σ'=true:=by
 unfold FV at h;split at h
 ·rename_i e;rw[Ap.FH e hx];exact⟨σ,.refl I,h⟩
 ·exact K9 I hx h
theorem JT(I:Inv C W σ s){a j:Nat}(ha:W.ρ[a]?=some (Api j)){k:K AV}:∀{l:List AV} {i:Nat} {v:AV},M7 σ a k i l=true->i≤j->l[j-i]?=some v->∃σ',Bx C W s σ σ'∧k v σ'=true
 | [],i,v,_,_,e=>by simp at e
 |u::l,i,v,h,hi,e=>by
  obtain⟨h1,h2⟩:=Ac h;by_cases q:i=j
  ·subst q;rw[Nat.sub_self] at e;cases e;have r:inR (some<|Api i,some<|Api i) (Api i):=⟨λb hb=>by cases hb;exact Aqd _,λb hb=>by cases hb;exact Aqd _⟩;exact⟨_,.B2 I ha r,BL I ha r h1⟩
  ·refine JT I ha h2 (by omega) ?_;rw[show j-i=(j-(i+1))+1 from by omega] at e;simpa using e
theorem HI(I:Inv C W σ s){a j:Nat}{l:List AV}{v:AV}(ha:W.ρ[a]?=some (Api j))(e:l[j]?=some v){k:K AV}(h:JZ a l σ k=true):∃σ',Bx C W s σ σ'∧k v σ'=true:=by
 unfold JZ at h;split at h
 ·rename_i x y hxy;have r:=I.Bi a _ ha;rw[hxy] at r;split at h
  ·rename_i hx;have hx:=(AR _ _).mp hx;subst hx;have:x=Api j:=by have:=r.1 _ rfl;have:=r.2 _ rfl;omega
   subst this;split at h
   ·rw[show(Api j).toNat=j from rfl,AA,e] at h;exact⟨σ,.refl I,h⟩
   ·cases h
  ·split at h
   ·exact JT I ha h (ArB _) (by simpa using e)
   ·cases h
 ·cases h
def JP(v:AV):Prop:=∀a l,v≠ .sel a l
theorem dP(I:Inv C W σ s)(hv:VR C W s.heap v cv){k:K AV}(h:pX v σ k=true):∃v' σ',Bx C W s σ σ'∧VR C W s.heap v' cv∧JP v'∧k v' σ'=true:=by
 unfold pX at h;split at h
 ·cases h
 ·rename_i hn;exact⟨v,σ,.refl I,hv,λa l e=>hn a l e,h⟩
theorem dQ(I:Inv C W σ s)(hv:VR C W s.heap v cv){k:K AV}(h:pY v σ k=true):∃v' σ',Bx C W s σ σ'∧VR C W s.heap v' cv∧JP v'∧k v' σ'=true:=by
 unfold pY at h;split at h
 ·cases hv with
  |sel a b c=>obtain⟨σ1,n1,h1⟩:=HI I a b h;obtain⟨v',σ2,n2,x,y,z⟩:=dP n1.1 c h1;exact⟨v',σ2,n1.trans n2,x,y,z⟩
 ·rename_i hn;exact⟨v,σ,.refl I,hv,λa l e=>hn a l e,h⟩
theorem dR(I:Inv C W σ s)(hv:VR C W s.heap v cv){k:K AV}(h:pZ v σ k=true):∃v' σ',Bx C W s σ σ'∧VR C W s.heap v' cv∧JP v'∧k v' σ'=true:=by
 unfold pZ at h;split at h
 ·cases hv with
  |sel a b c=>obtain⟨σ1,n1,h1⟩:=HI I a b h;obtain⟨v',σ2,n2,x,y,z⟩:=dQ n1.1 c h1;exact⟨v',σ2,n1.trans n2,x,y,z⟩
 ·rename_i hn;exact⟨v,σ,.refl I,hv,λa l e=>hn a l e,h⟩
theorem AN(I:Inv C W σ s)(hv:VR C W s.heap v cv){k:K AV}(h:res v σ k=true):∃v' σ',Bx C W s σ σ'∧VR C W s.heap v' cv∧JP v'∧k v' σ'=true:=by
 unfold res at h;split at h
 ·cases hv with
  |sel a b c=>obtain⟨σ1,n1,h1⟩:=HI I a b h;obtain⟨v',σ2,n2,x,y,z⟩:=dR n1.1 c h1;exact⟨v',σ2,n1.trans n2,x,y,z⟩
 ·rename_i hn;exact⟨v,σ,.refl I,hv,λa l e=>hn a l e,h⟩
end
section
open PySem.SeqAt PySem.AutoSeq1 PySem.MeetsSeq PySem.MeetsSeq2 PySem.MeetsSeq3
inductive Pre(A:Apg)(s:Ao5):List Ao3->List Ao3->Bool->Prop
 |nil:Pre A s [] [] true
 |nl {y m}:Pre A s [] (y::m) false
 |nr {x l}:Pre A s (x::l) [] false
 |ne {x l y m}:EqAt A s x y false->Pre A s (x::l) (y::m) false
 |eq {x l y m b}:EqAt A s x y true->Pre A s l m b->Pre A s (x::l) (y::m) b
theorem Pre.done{l:List Ao3}{b:Bool}(h:Pre A s l m b)(e:l.zip m= []):b=(l.length==m.length):=by
 cases h with
 |nil=>rfl |nl=>rfl |nr=>rfl |ne _=>cases e
 |eq _ _=>cases e
theorem eL(l b:Apc)(items Aw:Array Ao3)(n n2:Nat)(dd F8:Option Apc)(sl Cg:Array (Option Ao3))(r:Bool):
  Meets (Builtin.«tuple.__eq__» ⟨[.ref l,.ref b],[]⟩)
   (λA R s=>s.heap.get? l=some {cls:=.type "tuple",dict:=dd,data:=.seq items n,slots:=sl}∧s.heap.get? b=some {cls:=.type "tuple",dict:=F8,data:=.seq Aw n2,slots:=Cg}∧
    Pre A.in1 s items.toList Aw.toList r∧R (.ok<|.ret<|.bool r) s):=
 .of_wp λprog w A R s h=>by
  obtain⟨hp,g,d,tk,os⟩:=s;obtain⟨hl,hb,hP,h⟩:=h;have f2:=Arp
  wp_walk using Apq hl,Apq hb,wpAny_forIn_list _ (λrest b s'=>b.1=none∧s'=⟨hp,g,d,tk,os⟩∧∃l' m':List Ao3,rest=l'.zip m'∧Pre A.in1 ⟨hp,g,d,tk,os⟩ l' m' r∧
   ((l'.length==m'.length)=(items.size==Aw.size))) _
  case turn=>
   rintro⟨y,x⟩ rest b s' ⟨BO,rfl,l',m',hz,hq,hn⟩;cases l' with
   |nil=>cases hz
   |cons y' l'=>
    cases m' with
    |nil=>cases hz
    |cons x' m'=>
     rw[Aqf] at hz;injection hz with h1 h2;injection h1 with h3 h4;subst h3 h4;cases hq with
     |ne e=>
      refine Ao2 (e prog w _ _ ?_)
      wp_walk
      exact⟨_,rfl,h⟩
     |eq e hq=>
      refine Ao2 (e prog w _ _ ?_)
      wp_walk
      exact⟨rfl,rfl,l',m',h2,hq,by simpa using hn⟩
  case fin=>
   rintro⟨b1,b2⟩ s' ⟨BO,rfl,l',m',hz,hq,hn⟩;simp only at BO;subst BO;have:=hq.done hz.symm;subst this
   wp_walk
   exact⟨_,rfl,by rw[hn] at h;simpa [Builtin.Tuple.tupleCompareSizes] using h⟩
  case h=>exact⟨rfl,rfl,_,_,rfl,hP,by simp⟩
theorem eM(l b:Apc)(items Aw:Array Ao3)(n n2:Nat)(dd F8:Option Apc)(sl Cg:Array (Option Ao3))(r:Bool):
  Meets (Builtin.«tuple.__ne__» ⟨[.ref l,.ref b],[]⟩)
   (λA R s=>s.heap.get? l=some {cls:=.type "tuple",dict:=dd,data:=.seq items n,slots:=sl}∧s.heap.get? b=some {cls:=.type "tuple",dict:=F8,data:=.seq Aw n2,slots:=Cg}∧
    Pre A.in1 s items.toList Aw.toList r∧R (.ok<|.ret<|.bool<|!r) s):=
 .of_wp λprog w A R s h=>by
  obtain⟨hp,g,d,tk,os⟩:=s;obtain⟨hl,hb,hP,h⟩:=h;have f2:=Arp
  wp_walk using Apq hl,Apq hb,wpAny_forIn_list _ (λrest b s'=>b.1=none∧s'=⟨hp,g,d,tk,os⟩∧∃l' m':List Ao3,rest=l'.zip m'∧Pre A.in1 ⟨hp,g,d,tk,os⟩ l' m' r∧
   ((l'.length==m'.length)=(items.size==Aw.size))) _
  case turn=>
   rintro⟨y,x⟩ rest b s' ⟨BO,rfl,l',m',hz,hq,hn⟩;cases l' with
   |nil=>cases hz
   |cons y' l'=>
    cases m' with
    |nil=>cases hz
    |cons x' m'=>
     rw[Aqf] at hz;injection hz with h1 h2;injection h1 with h3 h4;subst h3 h4;cases hq with
     |ne e=>
      refine Ao2 (e prog w _ _ ?_)
      wp_walk
      exact⟨_,rfl,h⟩
     |eq e hq=>
      refine Ao2 (e prog w _ _ ?_)
      wp_walk
      exact⟨rfl,rfl,l',m',h2,hq,by simpa using hn⟩
  case fin=>
   rintro⟨b1,b2⟩ s' ⟨BO,rfl,l',m',hz,hq,hn⟩;simp only at BO;subst BO;have:=hq.done hz.symm;subst this
   wp_walk
   exact⟨_,rfl,by rw[hn] at h;simpa [Builtin.Tuple.tupleCompareSizes,bne] using h⟩
  case h=>exact⟨rfl,rfl,_,_,rfl,hP,by simp⟩
theorem Xb(l b:Apc)(items Aw:Array Ao3)(n n2:Nat)(dd F8:Option Apc)(sl Cg:Array (Option Ao3))(Gb:items.size=Aw.size)(r:Bool)(k:Nat):
  ∀i:Nat,items.size-i=k->Meets (Builtin.«list.__eq__.loop» ⟨[.ref l,.ref b,Aq1 i,Aq1 2],[]⟩)
   (λA R s=>s.heap.get? l=some {cls:=.type "list",dict:=dd,data:=.seq items n,slots:=sl}∧s.heap.get? b=some {cls:=.type "list",dict:=F8,data:=.seq Aw n2,slots:=Cg}∧
    Pre A.in1 s (items.toList.drop i) (Aw.toList.drop i) r∧R (.ok<|.ret<|.bool r) s):=by
 induction k with
 |zero=>
  intro i hk prog w A R s h;obtain⟨hp,g,d,tk,os⟩:=s;obtain⟨hl,hb,hP,h⟩:=h;have e1:items.toList.drop i= []:=Aql (by simp;omega);have e2:Aw.toList.drop i= []:=Aql (by simp;omega);have Uy:items[((i:Nat):Int).toNat]?=none:=by simp;omega
  have Qw:Aw[((i:Nat):Int).toNat]?=none:=by simp;omega
  rw[e1,e2] at hP;cases hP
  wp_walk using Apq hl,Apq hb
  rw[Uy,Qw]
  wp_walk using Apq hl,Apq hb
  show R (.ok<|.ret<|.bool (items.size==Aw.size)) _;rw[Gb];simpa using h
 |succ k ih=>
  intro i hk prog w A R s h;obtain⟨hp,g,d,tk,os⟩:=s;obtain⟨hl,hb,hP,h⟩:=h;have xT:i<items.size:=by omega
  have xU:i<Aw.size:=by omega
  have e1:items.toList.drop i=items[i]::items.toList.drop (i+1):=by simp[Aqo,xT]
  have e2:Aw.toList.drop i=Aw[i]::Aw.toList.drop (i+1):=by simp[Aqo,xU]
  have Uy:items[((i:Nat):Int).toNat]?=some items[i]:=by simp[xT]
  have Qw:Aw[((i:Nat):Int).toNat]?=some Aw[i]:=by simp[xU]
  have hc:((i:Int)+1)=((i+1:Nat):Int):=by push_cast;rfl
  rw[e1,e2] at hP
  wp_walk using Apq hl,Apq hb
  rw[Uy,Qw];cases hP with
  |ne e=>
   refine Ao2 (e prog w _ _ ?_)
   wp_walk using Apq hl,Apq hb
   rw[Uy,Qw]
   wp_walk
   exact h
  |eq e hP=>
   refine Ao2 (e prog w _ _ ?_)
   wp_walk
   rw[hc];exact⟨Arq plain_eq_loop _,Aq2 entry_eq_loop (by
    rw[Aqi plain_eq_loop _];exact ih (i+1) (by omega) prog w A R _ ⟨hl,hb,hP,h⟩)⟩
theorem cJ(l b:Apc)(items Aw:Array Ao3)(n n2:Nat)(dd F8:Option Apc)(sl Cg:Array (Option Ao3))(Gb:items.size=Aw.size)(r:Bool):
  Meets (Builtin.«list.__eq__» ⟨[.ref l,.ref b],[]⟩)
   (λA R s=>s.heap.get? l=some {cls:=.type "list",dict:=dd,data:=.seq items n,slots:=sl}∧s.heap.get? b=some {cls:=.type "list",dict:=F8,data:=.seq Aw n2,slots:=Cg}∧
    Pre A.in1 s items.toList Aw.toList r∧R (.ok<|.ret<|.bool r) s):=by
 intro prog w A R s h;obtain⟨hp,g,d,tk,os⟩:=s;obtain⟨hl,hb,hP,h⟩:=h;have f3:=AutoSeq1.sub_list_list;have Qx:¬(items.size != Aw.size)=true:=by simp[Gb]
 wp_walk using Apq hl,Apq hb
 exact⟨Arq plain_eq_loop _,Aq2 entry_eq_loop (by
  rw[Aqi plain_eq_loop _];exact Xb l b items Aw n n2 dd F8 sl Cg Gb r _ 0 rfl prog w A R _ ⟨hl,hb,by simpa using hP,h⟩)⟩
theorem Xd(l b:Apc)(items Aw:Array Ao3)(n n2:Nat)(dd F8:Option Apc)(sl Cg:Array (Option Ao3))(Gb:items.size=Aw.size)(r:Bool)(k:Nat):
  ∀i:Nat,items.size-i=k->Meets (Builtin.«list.__eq__.loop» ⟨[.ref l,.ref b,Aq1 i,Aq1 3],[]⟩)
   (λA R s=>s.heap.get? l=some {cls:=.type "list",dict:=dd,data:=.seq items n,slots:=sl}∧s.heap.get? b=some {cls:=.type "list",dict:=F8,data:=.seq Aw n2,slots:=Cg}∧
    Pre A.in1 s (items.toList.drop i) (Aw.toList.drop i) r∧R (.ok<|.ret<|.bool<|!r) s):=by
 induction k with
 |zero=>
  intro i hk prog w A R s h;obtain⟨hp,g,d,tk,os⟩:=s;obtain⟨hl,hb,hP,h⟩:=h;have e1:items.toList.drop i= []:=Aql (by simp;omega);have e2:Aw.toList.drop i= []:=Aql (by simp;omega);have Uy:items[((i:Nat):Int).toNat]?=none:=by simp;omega
  have Qw:Aw[((i:Nat):Int).toNat]?=none:=by simp;omega
  rw[e1,e2] at hP;cases hP
  wp_walk using Apq hl,Apq hb
  rw[Uy,Qw]
  wp_walk using Apq hl,Apq hb
  show R (.ok<|.ret<|.bool (items.size != Aw.size)) _;rw[Gb];simpa using h
 |succ k ih=>
  intro i hk prog w A R s h;obtain⟨hp,g,d,tk,os⟩:=s;obtain⟨hl,hb,hP,h⟩:=h;have xT:i<items.size:=by omega
  have xU:i<Aw.size:=by omega
  have e1:items.toList.drop i=items[i]::items.toList.drop (i+1):=by simp[Aqo,xT]
  have e2:Aw.toList.drop i=Aw[i]::Aw.toList.drop (i+1):=by simp[Aqo,xU]
  have Uy:items[((i:Nat):Int).toNat]?=some items[i]:=by simp[xT]
  have Qw:Aw[((i:Nat):Int).toNat]?=some Aw[i]:=by simp[xU]
  have hc:((i:Int)+1)=((i+1:Nat):Int):=by push_cast;rfl
  rw[e1,e2] at hP
  wp_walk using Apq hl,Apq hb
  rw[Uy,Qw];cases hP with
  |ne e=>
   refine Ao2 (e prog w _ _ ?_)
   wp_walk using Apq hl,Apq hb
   rw[Uy,Qw]
   wp_walk
   exact h
  |eq e hP=>
   refine Ao2 (e prog w _ _ ?_)
   wp_walk
   rw[hc];exact⟨Arq plain_eq_loop _,Aq2 entry_eq_loop (by
    rw[Aqi plain_eq_loop _];exact ih (i+1) (by omega) prog w A R _ ⟨hl,hb,hP,h⟩)⟩
theorem cK(l b:Apc)(items Aw:Array Ao3)(n n2:Nat)(dd F8:Option Apc)(sl Cg:Array (Option Ao3))(Gb:items.size=Aw.size)(r:Bool):
  Meets (Builtin.«list.__ne__» ⟨[.ref l,.ref b],[]⟩)
   (λA R s=>s.heap.get? l=some {cls:=.type "list",dict:=dd,data:=.seq items n,slots:=sl}∧s.heap.get? b=some {cls:=.type "list",dict:=F8,data:=.seq Aw n2,slots:=Cg}∧
    Pre A.in1 s items.toList Aw.toList r∧R (.ok<|.ret<|.bool<|!r) s):=by
 intro prog w A R s h;obtain⟨hp,g,d,tk,os⟩:=s;obtain⟨hl,hb,hP,h⟩:=h;have f3:=AutoSeq1.sub_list_list;have Qx:¬(items.size != Aw.size)=true:=by simp[Gb]
 wp_walk using Apq hl,Apq hb
 exact⟨Arq plain_eq_loop _,Aq2 entry_eq_loop (by
  rw[Aqi plain_eq_loop _];exact Xd l b items Aw n n2 dd F8 sl Cg Gb r _ 0 rfl prog w A R _ ⟨hl,hb,by simpa using hP,h⟩)⟩
theorem Ul{A:Apg}{s:Ao5}{l b:Apc}{items Aw:Array Ao3}{r:Bool}(hl:s.heap.IsTuple l items)(hb:s.heap.IsTuple b Aw)(hu:A.units<Ar4)
  (hP:Pre A.in1 s items.toList Aw.toList r):RcAt A s (.ref l) (.ref b) r:=λprog w E Q h=>by
 obtain⟨⟨cls,dd,data,sl⟩,ho,hc,n,hd⟩:=id hl;obtain⟨⟨TA,F8,data2,Cg⟩,JB,Lg,n2,hd2⟩:=id hb;simp only at hc hd Lg hd2;subst hc hd Lg hd2;exact ArE (op:=.Eq) ⟨_,ho,rfl⟩ ⟨_,JB,rfl⟩ F.slot_tuple_eq F.entry_tuple_eq (F.args_tuple_eq_2 _ _) (eL l b items Aw n n2 dd F8 sl Cg r)
  ⟨ho,JB,hP,show Asb r≠ArW∧Q (.bool r) s from⟨(λx=>nomatch x),h⟩⟩ hu
theorem O5{A:Apg}{s:Ao5}{l b:Apc}{items Aw:Array Ao3}{r:Bool}(hl:s.heap.IsTuple l items)(hb:s.heap.IsTuple b Aw)(hu:A.units<Ar4)
  (hP:Pre A.in1 s items.toList Aw.toList r):RcNeAt A s (.ref l) (.ref b) (!r):=λprog w E Q h=>by
 obtain⟨⟨cls,dd,data,sl⟩,ho,hc,n,hd⟩:=id hl;obtain⟨⟨TA,F8,data2,Cg⟩,JB,Lg,n2,hd2⟩:=id hb;simp only at hc hd Lg hd2;subst hc hd Lg hd2;exact ArE (op:=.NotEq) ⟨_,ho,rfl⟩ ⟨_,JB,rfl⟩ F.slot_tuple_ne F.entry_tuple_ne (F.args_tuple_ne_2 _ _) (eM l b items Aw n n2 dd F8 sl Cg r)
  ⟨ho,JB,hP,show Asb (!r)≠ArW∧Q (.bool<|!r) s from⟨(λx=>nomatch x),h⟩⟩ hu
theorem Uk{A:Apg}{s:Ao5}{l b:Apc}{items Aw:Array Ao3}{r:Bool}(hl:s.heap.IsList l items)(hb:s.heap.IsList b Aw)(Gb:items.size=Aw.size)(hu:A.units<Ar4)
  (hP:Pre A.in1 s items.toList Aw.toList r):RcAt A s (.ref l) (.ref b) r:=λprog w E Q h=>by
 obtain⟨⟨cls,dd,data,sl⟩,ho,hc,n,hd⟩:=id hl;obtain⟨⟨TA,F8,data2,Cg⟩,JB,Lg,n2,hd2⟩:=id hb;simp only at hc hd Lg hd2;subst hc hd Lg hd2;exact ArE (op:=.Eq) ⟨_,ho,rfl⟩ ⟨_,JB,rfl⟩ F.slot_list_eq F.entry_list_eq (F.args_list_eq_2 _ _) (cJ l b items Aw n n2 dd F8 sl Cg Gb r)
  ⟨ho,JB,hP,show Asb r≠ArW∧Q (.bool r) s from⟨(λx=>nomatch x),h⟩⟩ hu
theorem O4{A:Apg}{s:Ao5}{l b:Apc}{items Aw:Array Ao3}{r:Bool}(hl:s.heap.IsList l items)(hb:s.heap.IsList b Aw)(Gb:items.size=Aw.size)(hu:A.units<Ar4)
  (hP:Pre A.in1 s items.toList Aw.toList r):RcNeAt A s (.ref l) (.ref b) (!r):=λprog w E Q h=>by
 obtain⟨⟨cls,dd,data,sl⟩,ho,hc,n,hd⟩:=id hl;obtain⟨⟨TA,F8,data2,Cg⟩,JB,Lg,n2,hd2⟩:=id hb;simp only at hc hd Lg hd2;subst hc hd Lg hd2;exact ArE (op:=.NotEq) ⟨_,ho,rfl⟩ ⟨_,JB,rfl⟩ F.slot_list_ne F.entry_list_ne (F.args_list_ne_2 _ _) (cK l b items Aw n n2 dd F8 sl Cg Gb r)
  ⟨ho,JB,hP,show Asb (!r)≠ArW∧Q (.bool<|!r) s from⟨(λx=>nomatch x),h⟩⟩ hu
inductive Ec(A:Apg)(s:Ao5)(x:Ao3):List Ao3->Bool->Prop
 |nil:Ec A s x [] false
 |hit {y l}:EqAt A s y x true->Ec A s x (y::l) true
 |miss {y l b}:EqAt A s y x false->Ec A s x l b->Ec A s x (y::l) b
theorem Xc(l:Apc)(items:Array Ao3)(n:Nat)(dd:Option Apc)(sl:Array (Option Ao3))(x:Ao3)(r:Bool)(k:Nat):
  ∀i:Nat,items.size-i=k->Meets (Builtin.«list.__contains__.loop» ⟨[.ref l,x,Aq1 i],[]⟩)
   (λA R s=>s.heap.get? l=some {cls:=.type "list",dict:=dd,data:=.seq items n,slots:=sl}∧Ec A.in1 s x (items.toList.drop i) r∧R (.ok (.ret (.bool r))) s):=by
 induction k with
 |zero=>
  intro i hk prog w A R s h;obtain⟨hp,g,d,tk,os⟩:=s;obtain⟨hl,hP,h⟩:=h
  wp_walk using Apq hl
  have hi:items[((i:Nat):Int).toNat]?=none:=by simp;omega
  have hd:items.toList.drop i= []:=by simp;omega
  rw[hd] at hP;cases hP;rw[hi]
  wp_walk
  exact h
 |succ k ih=>
  intro i hk prog w A R s h;obtain⟨hp,g,d,tk,os⟩:=s;obtain⟨hl,hP,h⟩:=h
  wp_walk using Apq hl
  have P0:i<items.size:=by omega
  have hi:items[((i:Nat):Int).toNat]?=some items[i]:=by simp[P0]
  have hd:items.toList.drop i=items[i]::items.toList.drop (i+1):=by simp[Aqo,P0]
  rw[hd] at hP;rw[hi];cases hP with
  |hit e=>
   refine Ao2 (e prog w _ _ ?_)
   wp_walk
   exact h
  |miss e hP=>
   refine Ao2<|e prog w _ _ ?_;have hc:((i:Int)+1)=((i+1:Nat):Int):=by push_cast;rfl
   wp_walk
   rw[hc];exact⟨Arq plain_contains_loop _,Aq2 entry_contains_loop (by
    rw[Aqi plain_contains_loop _];exact ih (i+1) (by omega) prog w A R _ ⟨hl,hP,h⟩)⟩
theorem SI(l:Apc)(items:Array Ao3)(n:Nat)(dd:Option Apc)(sl:Array (Option Ao3))(x:Ao3)(r:Bool):
  Meets (Builtin.«list.__contains__» ⟨[.ref l,x],[]⟩)
   (λA R s=>s.heap.get? l=some {cls:=.type "list",dict:=dd,data:=.seq items n,slots:=sl}∧Ec A.in1 s x items.toList r∧R (.ok (.ret (.bool r))) s):=by
 intro prog w A R s h;obtain⟨hp,g,d,tk,os⟩:=s;obtain⟨hl,hP,h⟩:=h
 wp_walk using Apq hl
 exact⟨Arq plain_contains_loop _,Aq2 entry_contains_loop (by
  rw[Aqi plain_contains_loop _];exact Xc l items n dd sl x r _ 0 rfl prog w A R _ ⟨hl,by simpa using hP,h⟩)⟩
theorem Tf(l:Apc)(items:Array Ao3)(n:Nat)(dd:Option Apc)(sl:Array (Option Ao3))(x:Ao3)(r:Bool):
  Meets (Builtin.«tuple.__contains__» ⟨[.ref l,x],[]⟩)
   (λA R s=>s.heap.get? l=some {cls:=.type "tuple",dict:=dd,data:=.seq items n,slots:=sl}∧Ec A.in1 s x items.toList r∧R (.ok (.ret (.bool r))) s):=
 .of_wp λprog w A R s h=>by
  obtain⟨hp,g,d,tk,os⟩:=s;obtain⟨hl,hP,h⟩:=h
  wp_walk using Apq hl,wpAny_forIn_array _ (λrest b s'=>b.1=none∧s'=⟨hp,g,d,tk,os⟩∧Ec A.in1 ⟨hp,g,d,tk,os⟩ x rest r) _
  case turn=>
   rintro y rest b s' ⟨hb,rfl,hP⟩;cases hP with
   |hit e=>
    refine Ao2 (e prog w _ _ ?_)
    wp_walk
    exact⟨_,rfl,h⟩
   |miss e hP=>
    refine Ao2 (e prog w _ _ ?_)
    wp_walk
    exact⟨rfl,rfl,hP⟩
  case fin=>
   rintro⟨b1,b2⟩ s' ⟨hb,rfl,hP⟩;simp only at hb;subst hb;cases hP
   wp_walk
   exact⟨_,rfl,h⟩
  case h=>
   exact⟨rfl,rfl,hP⟩
section
variable{prog:Ap3}{w:Ao7}{A:Apg}{E:Ao3->Ao5->Prop}{s:Ao5}{l:Apc}{items:Array Ao3}{x:Ao3}{r:Bool}{Q:Ao3->Ao5->Prop}
theorem oU(hl:s.heap.IsList l items)(hP:Ec A.in1 s x items.toList r)(h:Q (.bool r) s):Aph (model prog w) A (ArN .In x<|.ref l) Q E s:=by obtain⟨⟨cls,dd,data,sl⟩,ho,hc,n,hd⟩:=id hl;simp only at hc hd;subst hc hd;exact SeqRoads2.in_meets ⟨_,ho,rfl⟩ F.slot_list_contains F.entry_list_contains (F.args_list_contains_2 _ _) (SI l items n dd sl x r) ⟨ho,hP,_,rfl,h⟩
theorem Ua(hl:s.heap.IsList l items)(hP:Ec A.in1 s x items.toList r)(h:Q (.bool<|!r) s):Aph (model prog w) A (ArN .NotIn x<|.ref l) Q E s:=by obtain⟨⟨cls,dd,data,sl⟩,ho,hc,n,hd⟩:=id hl;simp only at hc hd;subst hc hd;exact SeqRoads2.notIn_meets ⟨_,ho,rfl⟩ F.slot_list_contains F.entry_list_contains (F.args_list_contains_2 _ _) (SI l items n dd sl x r) ⟨ho,hP,_,rfl,h⟩
theorem oV(hl:s.heap.IsTuple l items)(hP:Ec A.in1 s x items.toList r)(h:Q (.bool r) s):Aph (model prog w) A (ArN .In x<|.ref l) Q E s:=by obtain⟨⟨cls,dd,data,sl⟩,ho,hc,n,hd⟩:=id hl;simp only at hc hd;subst hc hd;exact SeqRoads2.in_meets ⟨_,ho,rfl⟩ F.slot_tuple_contains F.entry_tuple_contains (F.args_tuple_contains_2 _ _) (Tf l items n dd sl x r) ⟨ho,hP,_,rfl,h⟩
theorem Ub(hl:s.heap.IsTuple l items)(hP:Ec A.in1 s x items.toList r)(h:Q (.bool<|!r) s):Aph (model prog w) A (ArN .NotIn x<|.ref l) Q E s:=by obtain⟨⟨cls,dd,data,sl⟩,ho,hc,n,hd⟩:=id hl;simp only at hc hd;subst hc hd;exact SeqRoads2.notIn_meets ⟨_,ho,rfl⟩ F.slot_tuple_contains F.entry_tuple_contains (F.args_tuple_contains_2 _ _) (Tf l items n dd sl x r) ⟨ho,hP,_,rfl,h⟩
end
end
section
open PySem.SeqAt
structure PY(n:Nat)(s:Ao5)(a b:Ao3)(r:Bool):Prop where
 eq:∀A:Apg,A.units+n<Ar4->EqAt A s a b r
 rc:∀A:Apg,A.units+n<Ar4->RcAt A s a b r
 ne:∀A:Apg,A.units+n<Ar4->RcNeAt A s a b (!r)
 same:a=b->r=true
inductive He(n:Nat)(s:Ao5):List Ao3->List Ao3->Bool->Prop
 |nil:He n s [] [] true
 |nl {y m}:He n s [] (y::m) false
 |nr {x l}:He n s (x::l) [] false
 |ne {x l y m}:PY n s x y false->He n s (x::l) (y::m) false
 |eq {x l y m b}:PY n s x y true->He n s l m b->He n s (x::l) (y::m) b
theorem He.at{n:Nat}{A:Apg}(hu:A.units+n<Ar4):∀{l m b},He n s l m b->Pre A s l m b
 |_,_,_,.nil=>.nil |_,_,_,.nl=>.nl |_,_,_,.nr=>.nr |_,_,_,.ne c=>.ne (c.eq A hu) |_,_,_,.eq c r=>.eq (c.eq A hu) (r.at hu)
theorem He.same{n:Nat}:∀{l m b},He n s l m b->l=m->b=true
 |_,_,_,.nil,_=>rfl |_,_,_,.nl,e=>by cases e
 |_,_,_,.nr,e=>by cases e
 |_,_,_,.ne c,e=>by injection e with e _;exact c.same e
 |_,_,_,.eq c r,e=>by injection e with _ e;exact r.same e
theorem PY.refs{n:Nat}{s:Ao5}{a b:Apc}{r:Bool}(rc:∀A:Apg,A.units+n<Ar4->RcAt A s (.ref a) (.ref b) r)(ne:∀A:Apg,A.units+n<Ar4->RcNeAt A s (.ref a) (.ref b) (!r))
  (same:a=b->r=true):PY n s (.ref a) (.ref b) r:=by
 refine⟨λA hA=>?_,rc,ne,λe=>same (by injection e)⟩;by_cases h:a=b
 ·rw[same h,h];exact .same _
 ·exact .of_refs h (rc A hA)
theorem PY.tuples{n:Nat}{s:Ao5}{a b:Apc}{l m:List Ao3}{r:Bool}(hl:s.heap.IsTuple a l.toArray)(hm:s.heap.IsTuple b m.toArray)(hP:He n s l m r):PY (n+1) s (.ref a) (.ref b) r:=by
 refine .refs (λA hA=>?_) (λA hA=>?_) (λe=>?_)
 ·exact Ul hl hm (by omega) (hP.at (by show A.units+1+n<Ar4;omega))
 ·exact O5 hl hm (by omega) (hP.at (by show A.units+1+n<Ar4;omega))
 ·subst e;obtain⟨o,ho,_,n1,h1⟩:=hl;obtain⟨o',Dx,_,n2,h2⟩:=hm;rw[ho] at Dx;cases Dx;rw[h1] at h2;injection h2 with h2 _;exact hP.same (by simpa using congrArg Array.toList h2)
theorem PY.lists{n:Nat}{s:Ao5}{a b:Apc}{l m:List Ao3}{r:Bool}(hl:s.heap.IsList a l.toArray)(hm:s.heap.IsList b m.toArray)(hz:l.length=m.length)(hP:He n s l m r):PY (n+1) s (.ref a) (.ref b) r:=by
 refine .refs (λA hA=>?_) (λA hA=>?_) (λe=>?_)
 ·exact Uk hl hm (by simpa using hz) (by omega) (hP.at (by show A.units+1+n<Ar4;omega))
 ·exact O4 hl hm (by simpa using hz) (by omega) (hP.at (by show A.units+1+n<Ar4;omega))
 ·subst e;obtain⟨o,ho,_,n1,h1⟩:=hl;obtain⟨o',Dx,_,n2,h2⟩:=hm;rw[ho] at Dx;cases Dx;rw[h1] at h2;injection h2 with h2 _;exact hP.same (by simpa using congrArg Array.toList h2)
theorem PY.MV{n:Nat}{s:Ao5}{a b:Apc}{l m:Array Ao3}(hl:s.heap.IsList a l)(hm:s.heap.IsList b m)(hz:l.size≠m.size):PY (n+1) s (.ref a) (.ref b) false:=by
 refine .refs (λA hA=>?_) (λA hA=>?_) (λe=>?_)
 ·exact RcAt.lists_lengths hl hm (by simpa using hz) (by omega)
 ·exact RcNeAt.lists_lengths hl hm (by simpa using hz) (by omega)
 ·subst e;obtain⟨o,ho,_,n1,h1⟩:=hl;obtain⟨o',Dx,_,n2,h2⟩:=hm;rw[ho] at Dx;cases Dx;rw[h1] at h2;injection h2 with h2 _;exact absurd (congrArg Array.size h2) hz
theorem JY{A:Apg}{s:Ao5}(b c:Array UInt8)(t u:Tok):RcAt A s (.bytes b t) (.bytes c u) (b.toList==c.toList):=λprog w E Q h=>eq_bytes h
theorem Na{A:Apg}{s:Ao5}(b c:Array UInt8)(t u:Tok):RcNeAt A s (.bytes b t) (.bytes c u) (!(b.toList==c.toList)):=λprog w E Q h=>ne_bytes h
theorem Ql{A:Apg}{s:Ao5}(b c:Array UInt8)(t u:Tok):EqAt A s (.bytes b t) (.bytes c u) (b.toList==c.toList):=λprog w E Q h=>by
 unfold eqBool;refine ApA ?_;refine wpAny_ite_split (λhab=>?_) (λ_=>?_)
 ·have e:b=c:=by have:=eq_of_beq hab;injection this
  subst e;exact Ao2 (AqR<|Ao4 (by simpa using h))
 ·exact Ao2 (JY b c t u prog w E _<|wpAny_truthy_bool h)
theorem KZ:∀(a b:List UInt8),CK a b=(a==b)
 | [],[]=>rfl | [],_::_=>rfl |_::_,[]=>rfl
 |a::r,b::s=>by
  have hq:Ao9 a.toNat b.toNat=(a==b):=by rw[AqA,beq_iff,beq_iff_eq];exact⟨λh=>UInt8.toNat_inj.mp h,λh=>by rw[h]⟩
  show(match Ao9 a.toNat b.toNat with |true=>CK r s |false=>false)=((a==b)&&(r==s));rw[hq,KZ r s];cases(a==b)<;>rfl
variable{C:Cx}
section
variable{W:Wd}{s:Ao5}
def sN(C:Cx)(W:Wd)(s:Ao5)(n:Nat)(f:AV->AV->St->K Bool->Bool):Prop:=
 ∀(a b:AV) (ca cb:Ao3) (σ:St) (k:K Bool),Inv C W σ s->VR C W s.heap a ca->VR C W s.heap b cb->f a b σ k=true->∃r σ',Bx C W s σ σ'∧PY n s ca cb r∧k r σ'=true
theorem Qn{n:Nat}(hf:sN C W s n f):∀{l m:List AV} {cl cm:List Ao3} {σ:St} {k:K Bool},Inv C W σ s->AM C W s.heap l cl->AM C W s.heap m cm->eqL f l m σ k=true->
  ∃r σ',Bx C W s σ σ'∧He n s cl cm r∧k r σ'=true
 |_,_,_,_,σ,k,I,.nil,.nil,h=>⟨true,σ,.refl I,.nil,h⟩ |_,_,_,_,σ,k,I,.nil,.cons _ _,h=>⟨false,σ,.refl I,.nl,h⟩ |_,_,_,_,σ,k,I,.cons _ _,.nil,h=>⟨false,σ,.refl I,.nr,h⟩
 |a::l,b::m,_,_,σ,k,I,.cons ha hl,.cons hb hm,h=>by
  have h:f a b σ (λc σ=>bt c (eqL f l m σ k) (k false σ))=true:=h;obtain⟨r,σ1,n1,c1,h1⟩:=hf _ _ _ _ _ _ I ha hb h;cases r with
  |false=>exact⟨false,σ1,n1,.ne c1,h1⟩
  |true=>obtain⟨r,σ2,n2,c2,h2⟩:=Qn hf n1.1 hl hm h1;exact⟨r,σ2,n1.trans n2,.eq c1 c2,h2⟩
theorem IsList.fun{h:Apn}{a:Apc}{x y:Array Ao3}(hx:h.IsList a x)(hy:h.IsList a y):x=y:=by obtain⟨o,ho,_,n1,h1⟩:=hx;obtain⟨o',Dx,_,n2,h2⟩:=hy;rw[ho] at Dx;cases Dx;rw[h1] at h2;injection h2
theorem Aq(W:Wd):part W none= []:=rfl
theorem VU{n:Nat}{f:AV->AV->St->K Bool->Bool}(hf:sN C W s n f){x y:Nat}{px py:Apc×Apc}{σ:St}{k:K Bool}(I:Inv C W σ s)(hx:W.τ[x]?=some px)(hy:W.τ[y]?=some py)
  (h:VT f x y σ k=true):∃r σ',Bx C W s σ σ'∧PY (n+1) s (.ref px.1) (.ref py.1) r∧k r σ'=true:=by
 unfold VT at h;split at h
 ·rename_i l m ox oy;obtain⟨p,hp,_,cl,vl,il,_⟩:=I.obj _ _ ox;obtain⟨q,hq,_,cm,vm,im,_⟩:=I.obj _ _ oy;rw[hx] at hp;cases hp;rw[hy] at hq;cases hq;simp only[Aq,ApC,Apj] at il im;unfold iG at h;split at h
  ·rename_i e;have e:=beq_iff.mp e;obtain⟨r,σ1,n1,c1,h1⟩:=Qn hf I vl vm h;exact⟨r,σ1,n1,.lists il im (by rw[vl.length,vm.length,e]) c1,h1⟩
  ·rename_i e;have e:l.length≠m.length:=λq=>by rw[beq_iff.mpr q] at e;cases e
   exact⟨false,σ,.refl I,.MV il im (by simpa [vl.length,vm.length] using e),h⟩
 ·rename_i _ _ _ ox oy;obtain⟨p,hp,_,cl,vl,il,_⟩:=I.obj _ _ ox;obtain⟨q,hq,_,cm,vm,im,_⟩:=I.obj _ _ oy;rw[hx] at hp;cases hp;rw[hy] at hq;cases hq;have e1:=vl.length;have e2:=vm.length;exact⟨false,σ,.refl I,.MV il im (by simp only[Aq,Apt,Apd,AqM,e1,e2,ApD];omega),h⟩
 ·rename_i _ _ _ ox oy;obtain⟨p,hp,_,cl,vl,il,_⟩:=I.obj _ _ ox;obtain⟨q,hq,_,cm,vm,im,_⟩:=I.obj _ _ oy;rw[hx] at hp;cases hp;rw[hy] at hq;cases hq;have e1:=vl.length;have e2:=vm.length;exact⟨false,σ,.refl I,.MV il im (by simp only[Aq,Apt,Apd,AqM,e1,e2,ApD];omega),h⟩
 ·cases h
theorem S7(O:Ok C){x y:Nm}{X Y:Str}(hx:C.nm[x]?=some X)(hy:C.nm[y]?=some Y):Ao9 x y=(X==Y):=by
 rw[AqA,beq_iff,beq_iff_eq];constructor
 ·intro e;subst e;rw[hx] at hy;exact Apr hy
 ·intro e;subst e;exact O.inj hx hy
theorem Qm{n:Nat}{k:K Bool}(I:Inv C W σ s)(ha:VR C W s.heap a ca)(hb:VR C W s.heap b cb)(h:R7 a b σ k=true):
  ∃r σ',Bx C W s σ σ'∧PY (n+1) s ca cb r∧k r σ'=true:=by
 have fin:(∀A:Apg,A.units+(n+1)<Ar4->EqAt A s ca cb false)->(∀A:Apg,A.units+(n+1)<Ar4->RcAt A s ca cb false)->(∀A:Apg,A.units+(n+1)<Ar4->RcNeAt A s ca cb true)->ca≠cb->k false σ=true->∃r σ',Bx C W s σ σ'∧PY (n+1) s ca cb r∧k r σ'=true:=λe r q d h=>⟨false,σ,.refl I,⟨e,r,q,λe=>absurd e d⟩,h⟩
 cases ha with
 |A4=>
  cases hb with
  |int hy=>exact fin (λA hA=>EqAt.none_int _ _) (λA hA=>RcAt.none_int _ _) (λA hA=>RcNeAt.none_int _ _) (λe=>nomatch e) h
  |str hy=>exact fin (λA hA=>EqAt.none_str _ _) (λA hA=>RcAt.none_str _ _) (λA hA=>RcNeAt.none_str _ _) (λe=>nomatch e) h
  |Ak vL vy=>have hy:=vL.Ak;exact fin (λA hA=>EqAt.none_tuple hy (by omega)) (λA hA=>RcAt.none_tuple hy (by omega)) (λA hA=>RcNeAt.none_tuple hy (by omega)) (λe=>nomatch e) h
  |_=>exact absurd h ApV
 |int hx=>
  cases hb with
  |A4=>exact fin (λA hA=>EqAt.int_none _ _) (λA hA=>RcAt.int_none _ _) (λA hA=>RcNeAt.int_none _ _) (λe=>nomatch e) h
  |str hy=>exact fin (λA hA=>EqAt.int_str _ _ _ _) (λA hA=>RcAt.int_str _ _ _ _) (λA hA=>RcNeAt.int_str _ _ _ _) (λe=>nomatch e) h
  |Ak vL vy=>have hy:=vL.Ak;exact fin (λA hA=>EqAt.int_tuple _ _ hy (by omega)) (λA hA=>RcAt.int_tuple _ _ hy (by omega)) (λA hA=>RcNeAt.int_tuple _ _ hy (by omega)) (λe=>nomatch e) h
  |_=>exact absurd h ApV
 |str hx=>
  cases hb with
  |A4=>exact fin (λA hA=>EqAt.str_none _ _) (λA hA=>RcAt.str_none _ _) (λA hA=>RcNeAt.str_none _ _) (λe=>nomatch e) h
  |int hy=>exact fin (λA hA=>EqAt.str_int _ _ _ _) (λA hA=>RcAt.str_int _ _ _ _) (λA hA=>RcNeAt.str_int _ _ _ _) (λe=>nomatch e) h
  |Ak vL vy=>have hy:=vL.Ak;exact fin (λA hA=>EqAt.str_tuple _ _ hy (by omega)) (λA hA=>RcAt.str_tuple _ _ hy (by omega)) (λA hA=>RcNeAt.str_tuple _ _ hy (by omega)) (λe=>nomatch e) h
  |_=>exact absurd h ApV
 |Ak MQ vx=>
  have hx:=MQ.Ak;cases hb with
  |A4=>exact fin (λA hA=>EqAt.tuple_none hx (by omega)) (λA hA=>RcAt.tuple_none hx (by omega)) (λA hA=>RcNeAt.tuple_none hx (by omega)) (λe=>nomatch e) h
  |int hy=>exact fin (λA hA=>EqAt.tuple_int _ _ hx (by omega)) (λA hA=>RcAt.tuple_int _ _ hx (by omega)) (λA hA=>RcNeAt.tuple_int _ _ hx (by omega)) (λe=>nomatch e) h
  |str hy=>exact fin (λA hA=>EqAt.tuple_str _ _ hx (by omega)) (λA hA=>RcAt.tuple_str _ _ hx (by omega)) (λA hA=>RcNeAt.tuple_str _ _ hx (by omega)) (λe=>nomatch e) h
  |_=>exact absurd h ApV
 |_=>exact absurd h ApV
theorem nQ(O:Ok C){n:Nat}(hf:sN C W s n f):sN C W s (n+1) (eqA f):=by
 intro a b ca cb σ k I ha hb h;unfold eqA at h;split at h
 ·cases ha;cases hb;refine⟨true,σ,.refl I,⟨λA _=>.same _,λA _=>.none_none,λA _=>.none_none,λ_=>rfl⟩,h⟩
 ·cases ha;cases hb;refine⟨_,σ,.refl I,⟨λA _=>.bool_bool _ _,λA _=>.bool_bool _ _,λA _=>.bool_bool _ _,λe=>by injection e with e;simpa using e⟩,h⟩
 ·cases ha with
  |int hx=>cases hb with
   |int hy=>
    rename_i x y i t j u;obtain⟨σ1,n1,h1⟩:=Fo I (Ap.Ea hx hy) h;have e:decide (i-j=0)=(i==j):=by rw[AqA,decide_eq_true_iff,beq_iff_eq];omega
    refine⟨i==j,σ1,n1,⟨λA _=>.int_int _ _ _ _,λA _=>.int_int _ _ _ _,λA _=>.int_int _ _ _ _,λe=>by injection e with e;simpa using e⟩,e▸h1⟩
 ·cases ha with
  |str hx=>cases hb with
   |str hy=>rw[S7 O hx hy] at h;refine⟨_,σ,.refl I,⟨λA _=>.str_str _ _ _ _,λA _=>.str_str _ _ _ _,λA _=>.str_str _ _ _ _,λe=>by injection e with e;simpa using e⟩,h⟩
 ·cases ha;cases hb;rw[KZ] at h;refine⟨_,σ,.refl I,⟨λA _=>Ql _ _ _ _,λA _=>JY _ _ _ _,λA _=>Na _ _ _ _,λe=>by injection e with e;simpa using e⟩,h⟩
 ·cases ha with
  |Ak tx' vx=>cases hb with
   |Ak ty' vy=>have tx:=tx'.Ak;have ty:=ty'.Ak;obtain⟨r,σ1,n1,c1,h1⟩:=Qn hf I vx vy h;exact⟨r,σ1,n1,.tuples tx ty c1,h1⟩
 ·cases ha with
  |obj hx=>cases hb with
   |obj hy=>exact VU hf I hx hy h
 ·exact Qm I ha hb h
theorem MA(O:Ok C):∀n,sN C W s n (rM n)
 |0=>λa b ca cb σ k I ha hb h=>by cases h
 |n+1=>λa b ca cb σ k I ha hb h=>by have h:res a σ (λa σ=>res b σ λb σ=>eqA (rM n) a b σ k)=true:=h;obtain⟨a',σ1,n1,Ld,_,h⟩:=AN I ha h;obtain⟨b',σ2,n2,BO,_,h⟩:=AN n1.1 hb h;obtain⟨r,σ3,n3,c,h⟩:=nQ O (MA O n) _ _ _ _ _ _ n2.1 Ld BO h;exact⟨r,σ3,(n1.trans n2).trans n3,c,h⟩
end
end
section
open PySem.SeqAt
variable{C:Cx}
theorem Gp.app:∀{l m l' m'},Gp C W h l m->Gp C W h l' m'->Gp C W h (l++l') (m++m')
 |_,_,_,_,.nil,b=>b |_,_,_,_,.cons a v r,b=>.cons a v (r.app b)
theorem Gp.length:∀{l m},Gp C W h l m->m.length=l.length
 |_,_,.nil=>rfl |_,_,.cons _ _ r=>by simp[r.length]
section
variable{W:Wd}{s:Ao5}
theorem Fp(hv:VR C W s.heap i cv)(h:keyOk i=true):∃K,Ii C W i K∧QG K cv=true:=by
 cases hv with
 |int e=>exact⟨_,.int e,WB _ _⟩
 |str e=>exact⟨_,.str e,JF _ _⟩
 |_=>cases h
theorem JH(O:Ok C){k:K Bool}(I:Inv C W σ s)(ha:Ii C W a ka)(hb:Ii C W b kb)(h:FY a b σ k=true):∃σ',Bx C W s σ σ'∧k (decide (ka=kb)) σ'=true:=by
 cases ha with
 |str ea=>cases hb with
  |str eb=>
   rename_i x X y Y;have h:k (Ao9 x y) σ=true:=h;have e:decide ((Sum.inl X:KK)= .inl Y)=(X==Y):=by rw[AqA,decide_eq_true_iff,beq_iff_eq];simp
   rw[e,←S7 O ea eb];exact⟨σ,.refl I,h⟩
  |int eb=>
   rename_i x X y Y;have e:decide ((Sum.inl X:KK)= .inr Y)=false:=by simp
   rw[e];exact⟨σ,.refl I,h⟩
 |int ea=>cases hb with
  |str eb=>
   rename_i x X y Y;have e:decide ((Sum.inr X:KK)= .inl Y)=false:=by simp
   rw[e];exact⟨σ,.refl I,h⟩
  |int eb=>
   rename_i x X y Y;obtain⟨σ1,n1,h1⟩:=Fo I (Ap.Ea ea eb) h;have e:decide ((Sum.inr X:KK)= .inr Y)=decide (X-Y=0):=by rw[AqA,decide_eq_true_iff,decide_eq_true_iff];simp;omega
   rw[e];exact⟨σ1,n1,h1⟩
theorem G9(p:KK×Ao3)(m:List (KK×Ao3))(k:KK):valueAt (p::m) k=if p.1=k then some p.2 else valueAt m k:=by
 unfold valueAt;rw[List.find?_cons];by_cases h:p.1=k
 ·simp[h]
 ·simp[h]
def uS(i:AV)(l:List (AV×AV)):St->K Bool->Bool:=LR (λσ k=>k false σ) (λ(p:AV×AV) _ ih σ k=>FY p.1 i σ λc σ=>bt c (k true σ) (ih σ k)) l
theorem Lf(O:Ok C){k:K Bool}(hi:Ii C W i K0):∀{l:List (AV×AV)} {m:List (KK×Ao3)} {σ:St},Inv C W σ s->Gp C W s.heap l m->
  uS i l σ k=true->∃σ',Bx C W s σ σ'∧k (valueAt m K0).isSome σ'=true
 |_,_,σ,I,.nil,h=>⟨σ,.refl I,h⟩
 |(a,u)::l,(ka,cu)::m,σ,I,.cons e v r,h=>by
  have h:FY a i σ (λc σ=>bt c (k true σ) (uS i l σ k))=true:=h;obtain⟨σ1,n1,h1⟩:=JH O I e hi h;rw[G9];by_cases q:ka=K0
  ·rw[decide_eq_true q] at h1;rw[if_pos q];exact⟨σ1,n1,h1⟩
  ·rw[decide_eq_false q] at h1;rw[if_neg q];obtain⟨σ2,n2,h2⟩:=Lf O hi n1.1 r h1;exact⟨σ2,n1.trans n2,h2⟩
theorem R4(O:Ok C){k:K AV}(hi:Ii C W i K0):∀{l:List (AV×AV)} {m:List (KK×Ao3)} {σ:St},Inv C W σ s->Gp C W s.heap l m->Qk l i σ k=true->
  ∃v cv σ',Bx C W s σ σ'∧valueAt m K0=some cv∧VR C W s.heap v cv∧k v σ'=true
 |_,_,σ,I,.nil,h=>by cases h
 |(a,u)::l,(ka,cu)::m,σ,I,.cons e v r,h=>by
  have h:FY a i σ (λc σ=>bt c (k u σ) (Qk l i σ k))=true:=h;obtain⟨σ1,n1,h1⟩:=JH O I e hi h;rw[G9];by_cases q:ka=K0
  ·rw[decide_eq_true q] at h1;exact⟨u,cu,σ1,n1,if_pos q,v,h1⟩
  ·rw[decide_eq_false q] at h1;obtain⟨v',cv',σ2,n2,x,y,z⟩:=R4 O hi n1.1 r h1;exact⟨v',cv',σ2,n1.trans n2,(if_neg q).trans x,y,z⟩
theorem RC{d m:List (KK×Ao3)}{K0:KK}{cu V:Ao3}(hd:∀p∈d,p.1≠K0)(hn:((d++(K0,cu)::m).map (·.1)).Nodup):stored (d++(K0,cu)::m) K0 V=d++(K0,V)::m:=by
 have hm:∀p∈m,p.1≠K0:=by intro p hp e;rw[List.map_append,Aqb,List.nodup_append] at hn;exact(Aqx.mp hn.2.1).1 (Ark.mpr ⟨p,hp,e⟩)
 unfold stored;rw[if_pos (by rw[Arz];exact⟨(K0,cu),by simp,by simp⟩)];have iZ:∀l:List (KK×Ao3),(∀p∈l,p.1≠K0)->l.map (λkv=>if kv.1=K0 then(kv.1,V) else kv)=l:=by
  intro l hl
  induction l with
  |nil=>rfl |cons p l ih=>rw[Aqb,if_neg (hl p (.head _)),ih λq hq=>hl q (.tail _ hq)]
 rw[List.map_append,Aqb,if_pos rfl,iZ d hd,iZ m hm]
theorem PN{d:List (KK×Ao3)}{K0:KK}{V:Ao3}(hd:∀p∈d,p.1≠K0):stored d K0 V=d++ [(K0,V)]:=by unfold stored;rw[if_neg];rw[Arz];rintro⟨p,hp,e⟩;exact hd p hp (of_decide_eq_true e)
theorem Mx(O:Ok C){j:Nat}{k:K Unit}(hi:Ii C W i K0)(hv:VR C W s.heap v V):∀{l done:List (AV×AV)} {m d:List (KK×Ao3)} {σ:St},Inv C W σ s->Gp C W s.heap done d->Gp C W s.heap l m->
  (∀p∈d,p.1≠K0)->((d++m).map (·.1)).Nodup->VL i v done j l σ k=true->∃l' σ',Bx C W s σ σ'∧Gp C W s.heap l' (stored (d++m) K0 V)∧k () (σ'.put j<|.dict l')=true
 |_,done,_,d,σ,I,hd,.nil,ne,nd,h=>by rw[Apj,PN ne];exact⟨_,σ,.refl I,hd.app (.cons hi hv .nil),h⟩
 |(a,u)::l,done,(ka,cu)::m,d,σ,I,hd,.cons e w r,ne,nd,h=>by
  have h:FY a i σ (λc σ=>match c with |true=>k () (σ.put j<|.dict (done++(a,v)::l))|false=>VL i v (done++ [(a,u)]) j l σ k)=true:=h;obtain⟨σ1,n1,h1⟩:=JH O I e hi h;by_cases q:ka=K0
  ·rw[decide_eq_true q] at h1;subst q;rw[RC ne nd];exact⟨_,σ1,n1,hd.app<|.cons e hv r,h1⟩
  ·rw[decide_eq_false q] at h1;obtain⟨l',σ2,n2,x,y⟩:=Mx O hi hv (d:=d++ [(ka,cu)]) (m:=m) n1.1 (hd.app<|.cons e w .nil) r (λp hp=>by
    rcases ApM.mp hp with hp |hp
    ·exact ne p hp
    ·rw[Apu.mp hp];exact q) (by rwa [ApQ]) h1
   rw[ApQ] at x;exact⟨l',σ2,n1.trans n2,x,y⟩
inductive mP(n:Nat)(s:Ao5)(x:Ao3):List Ao3->Bool->Prop
 |nil:mP n s x [] false
 |hit {y l}:PY n s y x true->mP n s x (y::l) true
 |miss {y l b}:PY n s y x false->mP n s x l b->mP n s x (y::l) b
theorem mP.at{n:Nat}{A:Apg}(hu:A.units+n<Ar4):∀{l b},mP n s x l b->Ec A s x l b
 |_,_,.nil=>.nil |_,_,.hit c=>.hit (c.eq A hu) |_,_,.miss c r=>.miss (c.eq A hu) (r.at hu)
theorem QE(O:Ok C){k:K Bool}(ha:VR C W s.heap a ca):∀{l:List AV} {cl:List Ao3} {σ:St},Inv C W σ s->AM C W s.heap l cl->inL a l σ k=true->∃r σ',Bx C W s σ σ'∧mP 40 s ca cl r∧k r σ'=true
 |_,_,σ,I,.nil,h=>⟨false,σ,.refl I,.nil,h⟩
 |b::l,_,σ,I,.cons hb hl,h=>by
  have h:rM 40 b a σ (λc σ=>bt c (k true σ) (inL a l σ k))=true:=h;obtain⟨r,σ1,n1,c,h1⟩:=MA O 40 _ _ _ _ _ _ I hb ha h;cases r with
  |true=>exact⟨true,σ1,n1,.hit c,h1⟩
  |false=>obtain⟨r,σ2,n2,c2,h2⟩:=QE O ha n1.1 hl h1;exact⟨r,σ2,n1.trans n2,.miss c c2,h2⟩
end
structure FP(C:Cx)(T:Tab):Prop where
 Jc:∀d l,T.Jc d=some l->(d==ArX)=false∧∃Ci,C.h1.DictOf (Bt C.prog C.w) d Ci∧∀(W:Wd) (h:Apn),Based C W h->Gp C W h l Ci
 whole:∀(W:Wd) (h:Apn),Based C W h->∃cv,VR C W h C.whole cv
 AfQ:∃o,C.h1.get? ArX=some o
 Ki:T.whole=C.whole
 ch:∀x n y,T.ch x n=some y->∃X c,C.nm[x]?=some X∧n<1000000∧X.cps[n]?=some c∧C.nm[y]?=some ⟨#[c]⟩
def mR(W:Wd)(h:Apn)(a:Bool)(b:Ao3):Prop:=b= .bool a
theorem Ll(I:Inv C W σ s){k:K Bool}(ha:VR C W s.heap a ca)(h:isNone a σ k=true):∃σ',Bx C W s σ σ'∧k (ca== .none) σ'=true:=by
 obtain⟨a',σ1,n1,Ld,ns,h1⟩:=AN I ha h;refine⟨σ1,n1,?_⟩;cases Ld with
 |A4=>exact h1
 |any=>cases h1
 |Au=>cases h1
 |sel x y z=>cases h1
 |ED x1 x2 x y=>
  obtain⟨_,_,u,r,e⟩:=x;rw[e] at y;cases y with
  |Ak x y=>exact h1
 |_=>exact h1
section
variable{A:Apg}{σ:St}{W:Wd}{s:Ao5}{T:Tab}
theorem Ke(I:Inv C W σ s)(ha:VR C W s.heap a ca)(hb:VR C W s.heap b cb)(h:two a b σ f=true):
  ∃x y i j t u σ',Bx C W s σ σ'∧ca= .int i t∧cb= .int j u∧x.ev W.ρ=some i∧y.ev W.ρ=some j∧f x y σ'=true:=by
 obtain⟨a',σ1,n1,Ld,_,h⟩:=AN I ha h;obtain⟨b',σ2,n2,BO,_,h⟩:=AN n1.1 hb h;cases Ld with
 |int hx=>cases BO with
  |int hy=>exact⟨_,_,_,_,_,_,σ2,n1.trans n2,rfl,rfl,hx,hy,h⟩
  |_=>cases h
 |_=>cases h
theorem Bx.post{α β:Type}{k:K α}{a:α}{b:β}{R:Wd->Apn->α->β->Prop}(n:Bx C W s σ σ')(h:k a σ'=true)(r:R W s.heap a b):A7 C k σ W s R b s:=⟨a,σ',W,h,n.ext,n.1,r⟩
theorem Inv.RP(I:Inv C W σ s){i:Nat}{p:Apc×Apc}(hp:W.τ[i]?=some p){d:Apc}(hd:∃o,C.h1.get? d=some o):(p.1==d)=false:=by
 obtain⟨n1,_⟩:=I.new p (get_mem hp);obtain⟨o,ho⟩:=hd;refine beq_eq_false_iff_ne.mpr λe=>?_
 rw[e,ho] at n1;cases n1
theorem DictOf.base(I:Inv C W σ s){d:Apc}{Ci}(h:C.h1.DictOf (Bt C.prog C.w) d Ci):s.heap.DictOf (Bt C.prog C.w) d Ci:=h.keep I.base
theorem Sp.Ox(O:Ok C)(TK:FP C T)(I:Inv C W σ s)(ha:VR C W s.heap a ca)(hb:VR C W s.heap b cb)(hu:A.units+41<Ar4):
  Sp C A σ W s (ArN .In ca cb) (λk _=>Ox T a b σ k) mR∧Sp C A σ W s (ArN .NotIn ca cb) (λk _=>Ox T a b σ (neg k)) mR:=by
 have key:∀k:K Bool,Mine.Ox T a b σ k=true->∃r σ',Bx C W s σ σ'∧k r σ'=true∧∀(Q:Ao3->Ao5->Prop) (E:Ao3->Ao5->Prop),
   ((∀t,Q (.bool r) {s with toks:=t})->Aph (model C.prog C.w) A (ArN .In ca cb) Q E s)∧((∀t,Q (.bool<|!r) {s with toks:=t})->Aph (model C.prog C.w) A (ArN .NotIn ca cb) Q E s):=by
  intro k h;obtain⟨a',σ1,n1,Ld,_,h⟩:=AN I ha h;obtain⟨b',σ2,n2,BO,_,h⟩:=AN n1.1 hb h;have dic:∀(d:Apc) (l:List (AV×AV)) (Ci:List (KK×Ao3)),s.heap.DictOf (Bt C.prog C.w) d Ci->(d==ArX)=false->cb= .ref d->Gp C W s.heap l Ci->MJ l a' σ2 k=true->∃r σ',Bx C W s σ σ'∧k r σ'=true∧∀(Q:Ao3->Ao5->Prop) (E:Ao3->Ao5->Prop),
    ((∀t,Q (.bool r) {s with toks:=t})->Aph (model C.prog C.w) A (ArN .In ca cb) Q E s)∧((∀t,Q (.bool<|!r) {s with toks:=t})->Aph (model C.prog C.w) A (ArN .NotIn ca cb) Q E s):=by
   intro d l Ci hd hs e hl h;subst e;unfold MJ at h;split at h
   ·rename_i ko;obtain⟨K0,hk,hc⟩:=Fp Ld ko;obtain⟨σ3,n3,h3⟩:=Lf O hk n2.1 hl h;refine⟨_,σ3,(n1.trans n2).trans n3,h3,λQ E=>⟨λq=>?_,λq=>?_⟩⟩
    ·exact wpAny_in_of (knd:=Bt C.prog C.w) hc hs hd.mapOf (q _)
    ·exact wpAny_notIn_of (knd:=Bt C.prog C.w) hc hs hd.mapOf (q _)
   ·cases h
  unfold i4 at h;split at h
  ·cases BO with
   |Ak tt' vv=>have tt:=tt'.Ak;obtain⟨r,σ3,n3,c,h3⟩:=QE O Ld n2.1 vv h;refine⟨r,σ3,(n1.trans n2).trans n3,h3,λQ E=>⟨λq=>oV tt (c.at ?_) (q _),λq=>Ub tt (c.at ?_) (q _)⟩⟩<;>(show A.units+1+40<Ar4;omega)
  ·cases BO with
   |obj hi=>
    split at h
    ·rename_i l ol;obtain⟨p,hp,_,cl,vl,il,_⟩:=n2.1.obj _ _ ol;rw[hi] at hp;cases hp;simp only[Aq,ApC,Apj] at il;obtain⟨r,σ3,n3,c,h3⟩:=QE O Ld n2.1 vl h;refine⟨r,σ3,(n1.trans n2).trans n3,h3,λQ E=>⟨λq=>oU il (c.at ?_) (q _),λq=>Ua il (c.at ?_) (q _)⟩⟩<;>(show A.units+1+40<Ar4;omega)
    ·rename_i l ol;obtain⟨p,hp,_,Ci,hd,hl⟩:=n2.1.obj _ _ ol;rw[hi] at hp;cases hp;exact dic _ _ _ hd (I.RP hi TK.AfQ) rfl hl h
    ·cases h
  ·rename_i d _;split at h
   ·rename_i l ed;obtain⟨hs,Ci,hd,hl⟩:=TK.Jc _ _ ed;cases BO with
    |Au=>exact dic d l Ci (DictOf.base I hd) hs rfl (hl W s.heap I.based) h
   ·cases h
  ·cases h
 have tok:∀t (σ':St),Bx C W s σ σ'->Inv C W σ' {s with toks:=t}∧Ext σ W s σ' W {s with toks:=t}:=λt σ' n=>by obtain⟨J,X⟩:=Inv.grow n.1 (s':={s with toks:=t}) (λ_ _ h=>h) rfl rfl;exact⟨J,n.ext.trans X⟩
 refine⟨λk ke h=>?_,λk ke h=>?_⟩
 ·obtain⟨r,σ',n,h1,q⟩:=key k h;exact(q _ _).1 λt=>⟨r,σ',W,h1,(tok t σ' n).2,(tok t σ' n).1,rfl⟩
 ·obtain⟨r,σ',n,h1,q⟩:=key (neg k) h;exact(q _ _).2 λt=>⟨!r,σ',W,h1,(tok t σ' n).2,(tok t σ' n).1,rfl⟩
theorem Sp.Dm(O:Ok C)(TK:FP C T)(I:Inv C W σ s)(ha:VR C W s.heap a ca)(hb:VR C W s.heap b cb)(hu:A.units+41<Ar4)(op:CmpOp):
  Sp C A σ W s (ArN op ca cb) (λk _=>Dm T op a b σ k) mR:=by
 cases op with
 |Eq=>intro k ke h;obtain⟨r,σ',n,c,h1⟩:=MA O 40 _ _ _ _ _ _ I ha hb h;exact c.rc A (by omega) _ _ _ _ (n.post h1 rfl)
 |NotEq=>intro k ke h;obtain⟨r,σ',n,c,h1⟩:=MA O 40 _ _ _ _ _ _ I ha hb h;exact c.ne A (by omega) _ _ _ _ (n.post (R:=mR) h1 rfl)
 |Lt=>intro k ke h;obtain⟨x,y,i,j,t,u,σ1,n1,rfl,rfl,hx,hy,h⟩:=Ke I ha hb h;obtain⟨σ2,n2,h⟩:=EX n1.1 (Ap.Ea hx hy) h;refine lt_int ((n1.trans n2).post h ?_);show Asb (decide (i<j))= .bool (decide (i-j<0));congr 1;exact decide_eq_decide.mpr (by omega)
 |Gt=>intro k ke h;obtain⟨x,y,i,j,t,u,σ1,n1,rfl,rfl,hx,hy,h⟩:=Ke I ha hb h;obtain⟨σ2,n2,h⟩:=EX n1.1 (Ap.Ea hy hx) h;refine gt_int ((n1.trans n2).post h ?_);show Asb (decide (j<i))= .bool (decide (j-i<0));congr 1;exact decide_eq_decide.mpr (by omega)
 |LtE=>intro k ke h;obtain⟨x,y,i,j,t,u,σ1,n1,rfl,rfl,hx,hy,h⟩:=Ke I ha hb h;obtain⟨σ2,n2,h⟩:=EX n1.1 (Ap.Ea hy hx) h;refine le_int ((n1.trans n2).post (k:=k) h ?_);show Asb (decide (i≤j))= .bool (!decide (j-i<0));rw[←decide_not];congr 1;exact decide_eq_decide.mpr (by omega)
 |GtE=>intro k ke h;obtain⟨x,y,i,j,t,u,σ1,n1,rfl,rfl,hx,hy,h⟩:=Ke I ha hb h;obtain⟨σ2,n2,h⟩:=EX n1.1 (Ap.Ea hx hy) h;refine ge_int ((n1.trans n2).post (k:=k) h ?_);show Asb (decide (j≤i))= .bool (!decide (i-j<0));rw[←decide_not];congr 1;exact decide_eq_decide.mpr (by omega)
 |Is=>
  intro k ke h;change bN a b σ k=true at h;cases hb with
  |A4=>obtain⟨σ',n,h⟩:=Ll I ha h;exact is_none (n.post h rfl)
  |_=>cases h
 |IsNot=>
  intro k ke h;change bN a b σ (neg k)=true at h;cases hb with
  |A4=>obtain⟨σ',n,h⟩:=Ll I ha h;exact isNot_none (n.post (R:=mR) h rfl)
  |_=>cases h
 |In=>exact(Sp.Ox O TK I ha hb hu).1
 |NotIn=>exact(Sp.Ox O TK I ha hb hu).2
end
end
section
variable{C:Cx}
section
variable{A:Apg}{σ:St}{W:Wd}{s:Ao5}
theorem Inv.tok(I:Inv C W σ s)(t:Nat):Inv C W σ {s with toks:=t}∧Ext σ W s σ W {s with toks:=t}:=Inv.grow I (s':={s with toks:=t}) (λ_ _ h=>h) rfl rfl
theorem Bx.By{α β:Type}{k:K α}{a:α}{b:β}{R:Wd->Apn->α->β->Prop}{t:Nat}(n:Bx C W s σ σ')(h:k a σ'=true)(r:R W s.heap a b):A7 C k σ W s R b {s with toks:=t}:=
 ⟨a,σ',W,h,n.ext.trans (n.1.tok t).2,(n.1.tok t).1,r⟩
theorem Ti{c:Int}(h:word c=true):Builtin.Int.intBits c≤64:=by obtain⟨h1,h2⟩:=Ac h;have h1:=(AZ _ _).mp h1;have h2:=(AZ _ _).mp h2;exact intBits_le_64 (by omega) (by omega)
theorem SV(a:Int):∀n:Nat,XH a n=a^n
 |0=>by simp[XH]
 |n+1=>by rw[XH,SV a n,Int.pow_succ,Int.mul_comm]
theorem Sp.binI(I:Inv C W σ s){x y:Ap}{i j:Int}(hx:x.ev W.ρ=some i)(hy:y.ev W.ρ=some j)(op:Operator):
  Sp C A σ W s (binaryOp op (.int i t)<|.int j u) (λk _=>binI op x y σ k) (RV C):=by
 intro k ke h;have n0:Bx C W s σ σ:=.refl I;cases op with
 |Add=>exact add_int (n0.By (k:=k) h (.int (Ap.MC hx hy)))
 |Sub=>exact sub_int (n0.By (k:=k) h (.int (Ap.Ea hx hy)))
 |Mult=>
  change pJ x y σ k=true at h;unfold pJ at h;split at h
  ·rename_i e;obtain⟨h1,h⟩:=Ac h;have ey:=Ap.FH e hy;rw[←ey] at h h1;refine mul_int (a:=i) (b:=j) ?_<|.of_right<|Ti h1;split at h
   ·rename_i e2;have ex:=Ap.FH e2 hx;rw[←ex] at h;exact n0.By h (.int<|Ap.CY _)
   ·refine n0.By h ?_;rw[Int.mul_comm];exact .int (Ap.Qo hx)
  ·split at h
   ·rename_i e;obtain⟨h1,h⟩:=Ac h;have ex:=Ap.FH e hx;rw[←ex] at h h1;exact mul_int (n0.By h<|.int<|Ap.Qo hy) (.of_left<|Ti h1)
   ·cases h
 |FloorDiv=>
  change nM x y σ k=true at h;unfold nM at h;split at h
  ·rename_i e1 e2;have ex:=Ap.FH e1 hx;have ey:=Ap.FH e2 hy;rw[←ex,←ey] at h;split at h
   ·rename_i hb;obtain⟨h1,h2⟩:=Ac hb;have h1:=(AZ _ _).mp h1;have h2:=(AZ _ _).mp h2;exact floordiv_int (by omega) (n0.By h<|.int<|Ap.CY _) (.inl<|PyProof.noPylong_small (by omega))
   ·cases h
  ·cases h
 |Mod=>
  change pI x y σ k=true at h;unfold pI at h;split at h
  ·rename_i e2;have ey:=Ap.FH e2 hy;split at h
   ·rename_i hp;have hp:=(AZ _ _).mp hp;rw[←ey] at hp;split at h
    ·rename_i e1;have ex:=Ap.FH e1 hx;rw[←ex,←ey] at h;exact mod_int (by omega) (n0.By h<|.int<|Ap.CY _)
    ·unfold x8 at h;split at h
     ·rename_i lo hi hr;split at h
      ·rename_i hb;obtain⟨h1,h2⟩:=Ac hb;have h1:=(BW _ _).mp h1;have h2:=(AZ _ _).mp h2;have r:=Dt I.Bi hx;rw[hr] at r;have r1:=r.1 _ rfl;have r2:=r.2 _ rfl;refine mod_int (by omega)<|n0.By h ?_;rw[Aqj _ (by omega),Int.emod_eq_of_lt (by omega) (by omega)];exact .int hx
      ·cases h
     ·cases h
   ·cases h
  ·cases h
 |Pow=>
  change pS x y σ k=true at h;unfold pS at h;split at h
  ·rename_i e1 e2;have ex:=Ap.FH e1 hx;have ey:=Ap.FH e2 hy;rw[←ex,←ey] at h;split at h
   ·rename_i hb;obtain⟨h1,h2⟩:=Ac hb;obtain⟨h2,h3⟩:=Ac h2;obtain⟨h3,h4⟩:=Ac h3;have h1:=(AZ _ _).mp h1;have h2:=(AZ _ _).mp h2;have h3:=(BW _ _).mp h3;have h4:=(AZ _ _).mp h4;refine pow_int_small h3 (by omega) (by omega)<|n0.By h ?_;rw[←SV];exact .int (Ap.CY _)
   ·cases h
  ·cases h
 |_=>cases h
theorem Sp.Xn(I:Inv C W σ s)(ha:VR C W s.heap a ca):Sp C A σ W s (unaryOp .USub ca) (λk _=>Xn a σ k) (RV C):=by
 intro k ke h;obtain⟨a',σ1,n1,Ld,_,h⟩:=AN I ha h;cases Ld with
 |int hx=>exact neg_int (n1.By h (.int (Ap.VY hx)))
 |_=>cases h
theorem Sp.truth(I:Inv C W σ s)(ha:VR C W s.heap a ca):Sp C A σ W s (truthy ca) (λk _=>truth a σ k) RB:=by
 intro k ke h;obtain⟨a',σ1,n1,Ld,_,h⟩:=AN I ha h;cases Ld with
 |bool=>exact wpAny_truthy_bool (n1.post h rfl)
 |A4=>exact truthy_none (n1.post h rfl)
 |_=>cases h
end
end
section
variable{C:Cx}
theorem EB{α:Type}:∀l:List α,E4 l=l.length
 | []=>rfl |a::l=>by show ArI (E4 l)=_;rw[EB l];rfl
theorem A5{α:Type}{l:List α}(h:fits l=true):l.length≤4000:=by rw[←EB];exact ble_iff.mp h
theorem Ax(h:Apn):h.get? h.objs.size=none:=by unfold Heap.get?;simp
section
variable{A:Apg}{σ:St}{W:Wd}{s:Ao5}
theorem Inv.push(I:Inv C W σ s)(o:Obj)(t:Nat):Inv C W σ {s with heap:=s.heap.push o,toks:=t}∧Ext σ W s σ W {s with heap:=s.heap.push o,toks:=t}:=
 Inv.grow I (s':={s with heap:=s.heap.push o,toks:=t}) (λ_ _ h=>Ao8 o h) rfl rfl
theorem Bb.push(W:Wd)(h:Apn)(o:Obj):Bb W W h (h.push o):=λa items ⟨w,w2,⟨x,hx,r⟩,y,hy,r'⟩=>⟨w,w2,⟨x,Ao8 o hx,r⟩,y,Ao8 o hy,r'⟩
theorem Inv.SM(I:Inv C W σ s){a:Apc}(h:s.heap.get? a=none):a∉W.fo:=λq=>by obtain⟨o,e⟩:=(I.fo a q).2;rw[h] at e;cases e
theorem Inv.M5(I:Inv C W σ s){a:Apc}(h:s.heap.get? a=none):¬own W.τ a:=by
 rintro⟨p,hp,q⟩;obtain⟨⟨o,h1,_⟩,o',h2,_⟩:=I.live p hp;rcases q with rfl |rfl
 ·rw[h] at h1;cases h1
 ·rw[h] at h2;cases h2
theorem AM.push{l:List AV}(o:Obj)(v:AM C W h l vs):AM C W (h.push o) l vs:=v.keep (Apb _) (Apb _) (λ_ _=>rfl) (.push W h o)
theorem Inv.list(I:Inv C W σ s){l:List AV}(v:AM C W s.heap l vs)(t:Nat):
  Inv C (W.more (s.heap.objs.size,s.heap.objs.size)) (σ.new (.list none l none)) {s with heap:=s.heap.push {cls:=.type "list",data:=.seq vs.toArray},toks:=t}∧
  Ext σ W s (σ.new (.list none l none)) (W.more (s.heap.objs.size,s.heap.objs.size)) {s with heap:=s.heap.push {cls:=.type "list",data:=.seq vs.toArray},toks:=t}:=by
 have g:(s.heap.push {cls:=.type "list",data:=.seq vs.toArray}).get? s.heap.objs.size=some {cls:=.type "list",data:=.seq vs.toArray}:=Apl _ rfl;refine I.make (s':={s with heap:=s.heap.push {cls:=.type "list",data:=.seq vs.toArray},toks:=t}) (p:=(s.heap.objs.size,s.heap.objs.size)) (λ_ _ h=>Ao8 _ h) (Ax _) (Ax _) (λS=>?_) ⟨_,g,.EC rfl⟩ ⟨_,g,.EC rfl⟩ rfl rfl;refine⟨rfl,vs,v.keep S.ρ S.τ S.q S.Ak,?_,trivial,trivial,_,g,rfl,rfl⟩;simp only[Aq,ApC,Apj];exact⟨_,g,rfl,_,rfl⟩
theorem St.Bw(I:Inv C W σ s)(p:Apc×Apc):(W.more p).τ[σ.n]?=some p:=by show(W.τ++ [p])[σ.n]?=some p;rw[←I.nτ];simp
theorem Ei{k:K AV}(n:Bx C W s σ σ'){l:List AV}(v:AM C W s.heap l vs)(t:Nat)(h:newList l σ' k=true):
  l.length≤4000∧A7 C k σ W s (RV C) (.ref s.heap.objs.size) {s with heap:=s.heap.push {cls:=.type "list",data:=.seq vs.toArray},toks:=t}:=by
 obtain⟨h1,h⟩:=Ac h;obtain⟨J,X⟩:=n.1.list v t;exact⟨A5 h1,.obj σ'.n,σ'.new<|.list none l none,W.more (s.heap.objs.size,s.heap.objs.size),h,n.ext.trans X,J,.obj<|St.Bw n.1 _⟩
theorem IP{k:K AV}(n:Bx C W s σ σ'){l:List AV}(v:AM C W s.heap l vs)(t:Nat)(h:C3 l σ' k=true):
  l.length≤4000∧A7 C k σ W s (RV C) (.ref s.heap.objs.size) {s with heap:=s.heap.push {cls:=.type "tuple",data:=.seq vs.toArray},toks:=t}:=by
 obtain⟨h1,h⟩:=Ac h;have g:(s.heap.push {cls:=.type "tuple",data:=.seq vs.toArray}).get? s.heap.objs.size=some {cls:=.type "tuple",data:=.seq vs.toArray}:=Apl _ rfl;obtain⟨J,X⟩:=n.1.push {cls:=.type "tuple",data:=.seq vs.toArray} t;exact⟨A5 h1,.Ak l,σ',W,h,n.ext.trans X,J,.Ak ⟨n.1.M5 (Ax _),n.1.SM (Ax _),⟨_,g,rfl,_,rfl⟩,_,g,rfl⟩ (v.push _)⟩
theorem Nn{k:K AV}(n:Bx C W s σ σ'){l:List AV}{vs:List Ao3}(ht:IsT W s.heap a vs.toArray)(v:AM C W s.heap l vs)(h:C3 l σ' k=true):A7 C k σ W s (RV C) (.ref a) s:=by obtain⟨h1,h⟩:=Ac h;exact n.post h (.Ak ht v)
theorem Sp.newList(I:Inv C W σ s){l:List AV}(v:AM C W s.heap l vs):Sp C A σ W s (PySem.newList vs) (λk _=>newList l σ k) (RV C):=λk ke h=>by obtain⟨f,q⟩:=Ei (.refl I) v s.toks h;exact wpAny_newList q (by rw[v.length,ApF];omega)
theorem Sp.C3(I:Inv C W σ s){l:List AV}(v:AM C W s.heap l vs):Sp C A σ W s (PySem.newTuple vs) (λk _=>C3 l σ k) (RV C):=λk ke h=>by obtain⟨f,q⟩:=IP (.refl I) v s.toks h;exact wpAny_newTuple q (by rw[v.length,ApF];omega)
theorem ZC(I:Inv C W σ s){x y:Nat}{p q:Apc×Apc}(hx:W.τ[x]?=some p)(hy:W.τ[y]?=some q):
  Sp C A σ W s (binaryOp .Add (.ref p.1)<|.ref q.1) (λk _=>mV x y σ k) (RV C):=by
 intro k ke h;unfold mV at h;split at h
 ·rename_i l m ox oy;obtain⟨p',hp,_,cl,vl,il,_⟩:=I.obj _ _ ox;obtain⟨q',hq,_,cm,vm,im,_⟩:=I.obj _ _ oy;rw[hx] at hp;cases hp;rw[hy] at hq;cases hq;simp only[Aq,ApC,Apj] at il im;obtain⟨f,z⟩:=Ei (.refl I) (vl.app vm) s.toks h;have f:cl.length+cm.length≤4000:=by rw[vl.length,vm.length,←Apd];exact f
  obtain⟨⟨cls,dd,data,sl⟩,ho,hc,n,hd⟩:=il;obtain⟨⟨TA,F8,data2,Cg⟩,JB,Lg,n2,hd2⟩:=im;simp only at hc hd Lg hd2;subst hc hd Lg hd2;refine concat_meets ⟨_,ho,rfl⟩ ⟨_,JB,rfl⟩ noFill_list_add seq_list_add PySem.F.slot_list_add PySem.F.entry_list_add (PySem.F.args_list_add_2 _ _) (list_addW p.1 q.1 cl.toArray cm.toArray n n2 dd F8 sl Cg (by simp[ApF];omega)) ⟨ho,JB,?_⟩;rw[List.append_toArray];exact z
 ·cases h
theorem Sp.P7(I:Inv C W σ s){cx cy:List Ao3}(hx:IsT W s.heap a cx.toArray)(vx:AM C W s.heap x cx)(hy:IsT W s.heap b cy.toArray)(vy:AM C W s.heap y cy):
  Sp C A σ W s (binaryOp .Add (.ref a)<|.ref b) (λk _=>Mine.C3 (x++y) σ k) (RV C):=by
 intro k ke h;have n0:Bx C W s σ σ:=.refl I;have v:=vx.app vy;obtain⟨f,z⟩:=IP n0 v s.toks h;have f:cx.length+cy.length≤4000:=by rw[vx.length,vy.length,←Apd];exact f
 obtain⟨⟨cls,dd,data,sl⟩,ho,hc,n,hd⟩:=id hx.Ak;obtain⟨⟨TA,F8,data2,Cg⟩,JB,Lg,n2,hd2⟩:=id hy.Ak;simp only at hc hd Lg hd2;subst hc hd Lg hd2;by_cases e1:cx= []
 ·subst e1;exact concat_meets ⟨_,ho,rfl⟩ ⟨_,JB,rfl⟩ noFill_tuple_add seq_tuple_add PySem.F.slot_tuple_add PySem.F.entry_tuple_add (PySem.F.args_tuple_add_2 _ _)
   (tuple_addW0 a b _ _ n n2 dd F8 sl Cg (by simp)) ⟨ho,JB,Nn (vs:=[]++cy) n0 hy v h⟩
 ·by_cases e2:cy= []
  ·subst e2;rw[Apj] at v;exact concat_meets ⟨_,ho,rfl⟩ ⟨_,JB,rfl⟩ noFill_tuple_add seq_tuple_add PySem.F.slot_tuple_add PySem.F.entry_tuple_add (PySem.F.args_tuple_add_2 _ _)
    (tuple_addW1 a b _ _ n n2 dd F8 sl Cg (by simpa using e1) (by simp)) ⟨ho,JB,Nn n0 hx v h⟩
  ·refine concat_meets ⟨_,ho,rfl⟩ ⟨_,JB,rfl⟩ noFill_tuple_add seq_tuple_add PySem.F.slot_tuple_add PySem.F.entry_tuple_add (PySem.F.args_tuple_add_2 _ _)
    (tuple_addW2 a b _ _ n n2 dd F8 sl Cg (by simpa using e1) (by simpa using e2) (by simp[ApF];omega)) ⟨ho,JB,?_⟩
   rw[List.append_toArray];exact z
theorem AM.rep{l:List AV}(v:AM C W h l vs):∀n,AM C W h (rep l n) (rep vs n)
 |0=>.nil |n+1=>v.app (AM.rep v n)
theorem O7(vs:List Ao3):∀(n:Nat) (acc:Array Ao3),List.foldl (λx1 x2=>x1++x2) acc (List.replicate n vs.toArray)=acc++(rep vs n).toArray
 |0,acc=>by simp[rep]
 |n+1,acc=>by rw[List.replicate_succ,List.foldl_cons,O7 vs n,rep];exact Array.toList_inj.mp (by simp)
theorem dN(n:Nat):rep ([]:List Ao3) n= []:=by
 induction n with
 |zero=>rfl |succ n ih=>rw[rep,ih];rfl
theorem Rm{α:Type}(l:List α)(n:Nat):(rep l n).length=l.length*n:=by
 induction n with
 |zero=>rfl |succ n ih=>rw[rep,Apd,ih,Nat.mul_succ,Nat.add_comm]
theorem YM{n:Int}(h:small n=true):0≤n∧n<1000:=let⟨a,b⟩:=Ac h;⟨(BW _ _).mp a,(AZ _ _).mp b⟩
theorem Sp.Xk(I:Inv C W σ s){x:Nat}{p:Apc×Apc}(hx:W.τ[x]?=some p){y:Ap}{i:Int}(hy:y.ev W.ρ=some i):
  Sp C A σ W s (binaryOp .Mult (.ref p.1)<|.int i u) (λk _=>Mine.Xk x y σ k) (RV C):=by
 intro k ke h;unfold Mine.Xk at h;split at h
 ·rename_i l ox;obtain⟨p',hp,_,cl,vl,il,_⟩:=I.obj _ _ ox;rw[hx] at hp;cases hp;simp only[Aq,ApC,Apj] at il;obtain⟨σ1,n1,h⟩:=CO I hy h;split at h
  ·rename_i hs;obtain⟨s1,s2⟩:=YM hs;obtain⟨f,z⟩:=Ei n1 (vl.rep i.toNat) s.toks h;rw[Rm] at f;rw[←vl.length] at f;obtain⟨⟨cls,dd,data,sl⟩,ho,hc,n,hd⟩:=il;simp only at hc hd;subst hc hd;refine wpAny_binaryOp_repeat_ref (T:="list") (U:="int") (by decide) ⟨_,ho,rfl⟩ (λs'=>typeIs_int s' i u) noFill_list_mul F.fills_int_mul F.slot_int_rmul repeat_list F.slot_int_index.lookup
    (call_meets F.slot_int_rmul (typeIs_int s i u) F.entry_int_rmul (F.args_int_rmul_2 _ _) (lm_int_rmul_list_any i u p.1 cl.toArray n dd sl)
    ⟨ho,rfl,⟨_,ho,rfl⟩,call_meets F.slot_list_mul ⟨_,ho,rfl⟩ F.entry_list_mul (F.args_list_mul_2 _ _)
     (lm_list_mul_any p.1 cl.toArray n dd sl i u (by simp[Builtin.List.listFitsIndex];omega) (by simp;omega) (by simp[Builtin.List.listTooLong,Aq9];omega))
     ⟨ho,?_⟩⟩)
   have e:List.foldl (λx1 x2=>x1++x2) #[] (List.replicate (if cl.toArray.isEmpty=true then 0 else i.toNat) cl.toArray)=(rep cl i.toNat).toArray:=by
    rw[O7];cases cl with
    |nil=>simp[dN]
    |cons a r=>simp
   rw[e];exact z
  ·cases h
 ·cases h
end
end
section
variable{C:Cx}
structure CJ(n:Nat)(b:Bool)(A:Apg):Prop where
 depth:A.depth+2*n≤980
 units:A.units+14*n≤9800
 hand:b=true->A.handled=none
theorem CJ.room{n:Nat}{b:Bool}(f:CJ n b A):A.units+41<Ar4:=by have:=f.units;show A.units+41<9900;omega
def SE(C:Cx)(X:CX)(n:Nat)(b:Bool)(sc:ApH)(c:Cd)(e:Expr):Prop:=
 ∀(A:Apg) (σ:St) (W:Wd) (s:Ao5) (E:Bo) (env:Env),CJ n b A->Inv C W σ s->A8 C A W sc E env->Sp C A σ W s (eval e env) (λk ke=>c X E σ k ke) (RV C)
def SB(C:Cx)(X:CX)(n:Nat)(b:Bool)(sc:ApH)(c:Cb)(e:Expr):Prop:=
 ∀(A:Apg) (σ:St) (W:Wd) (s:Ao5) (E:Bo) (env:Env),CJ n b A->Inv C W σ s->A8 C A W sc E env->Sp C A σ W s (isTrue e env<|eval e env) (λk ke=>c X E σ k ke) RB
section
variable{A:Apg}{σ:St}{W:Wd}{s:Ao5}{T:Tab}
theorem Sp.operate{α:Type}{R:Wd->Apn->α->Ao3->Prop}{m:M α}(h:Sp C A σ W s t m R):Sp C A σ W s (PySem.operate vs t) m R:=λk ke e=>wpAny_operate' (h k ke e)
theorem Sp.release{α β:Type}{R:Wd->Apn->α->β->Prop}{f:Unit->Sem β}{m:M α}(h:Sp C A σ W s (f ()) m R):Sp C A σ W s (PySem.release vs ks>>=f) m R:=λk ke e=>Ao2 (wpAny_release'<|h k ke e)
theorem Sp.binOp(I:Inv C W σ s)(ha:VR C W s.heap a ca)(hb:VR C W s.heap b cb)(op:Operator):
  Sp C A σ W s (binaryOp op ca cb) (λk _=>binOp op a b σ k) (RV C):=by
 intro k ke h;obtain⟨a',σ1,n1,Ld,_,h⟩:=AN I ha h;obtain⟨b',σ2,n2,BO,_,h⟩:=AN n1.1 hb h;have back:∀{m:M AV},Sp C A σ2 W s (binaryOp op ca cb) m (RV C)->m k ke=true->Aph (model C.prog C.w) A (binaryOp op ca cb) (A7 C k σ W s<|RV C) (AG C ke σ W s) s:=
  λq e=>Sp.here (n1.ext.trans n2.ext) q k ke e
 unfold sY at h;split at h
 ·cases Ld with
  |int hx=>cases BO with
   |int hy=>exact back (Sp.binI n2.1 hx hy op) h
 ·unfold sZ at h;split at h
  ·split at h
   ·cases Ld with
    |Ak tx vx=>cases BO with
     |Ak ty vy=>exact back (Sp.P7 n2.1 tx vx ty vy) h
   ·cases Ld with
    |obj hx=>cases BO with
     |obj hy=>exact back (ZC n2.1 hx hy) h
   ·cases h
  ·split at h
   ·cases h
   ·cases Ld with
    |obj hx=>cases BO with
     |int hy=>exact back (Sp.Xk n2.1 hx hy) h
   ·cases h
  ·cases h
end
end
section
variable{C:Cx}
def isStar:Expr->Bool
 | .Starred .. =>true |_=>false
theorem HM(h:isStar e=false)(r:List Expr)(env:Env):starEach (e::r) env=(false,eval e env)::starEach r env:=by cases e<;>first |rfl |cases h
inductive Nw(C:Cx)(X:CX)(n:Nat)(b:Bool)(sc:ApH):List Cd->List Expr->Prop
 |nil:Nw C X n b sc [] []
 |cons {c e l es}:SE C X n b sc c e->isStar e=false->Nw C X n b sc l es->Nw C X n b sc (c::l) (e::es)
def Tj(C:Cx)(nm:Str)(v:AV):Prop:=∃cv,(∀W h,Based C W h->VR C W h v cv)∧
 ((∃mg,C.h1.Ns Ar5 mg∧mg nm=some cv)∨(∃mg mb,C.h1.Ns Ar5 mg∧mg nm=none∧C.h1.Ns AqG mb∧mb nm=some cv))
theorem Ns.keep{h h':Apn}{a:Apc}{m}(x:h.Ns a m)(k:∀a o,h.get? a=some o->h'.get? a=some o):h'.Ns a m:=let⟨o,es,n,ho,r⟩:=x;⟨o,es,n,k _ _ ho,r⟩
section
variable{X:CX}{n:Nat}{b:Bool}{sc:ApH}
theorem SE.A4{k pos}:SE C X n b sc (Dz .A4) (.Constant .none k pos):=λA σ W s E env f I e=>.pure (m:=λk ke=>Dz .A4 X E σ k ke) I (λ_ _ h=>h) VR.A4
theorem SE.bool{c:Bool}{k pos}:SE C X n b sc (Dz<|.bool c) (.Constant (.bool c) k pos):=λA σ W s E env f I e=>.pure (m:=λk ke=>Dz (.bool c) X E σ k ke) I (λ_ _ h=>h) VR.bool
theorem SE.int{i:Int}{k pos}:SE C X n b sc (Dz<|.int<|.k i) (.Constant (.int i) k pos):=λA σ W s E env f I e k' ke h=>
 wpAny_mkInt ((Bx.refl I).By (R:=RV C) h<|.int<|Ap.CY i)
theorem SE.str{x:Nm}{nm:Str}(hx:C.nm[x]?=some nm){k pos}:SE C X n b sc (Dz<|.str x) (.Constant (.str nm) k pos):=λA σ W s E env f I e k' ke h=>
 Constant_str ((Bx.refl I).By (R:=RV C) h<|.str hx)
theorem SE.B4{x:List UInt8}{k pos}:SE C X n b sc (Dz<|.B4 x) (.Constant (.bytes x) k pos):=λA σ W s E env f I e k' ke h=>
 Constant_bytes ((Bx.refl I).By (R:=RV C) h .B4)
theorem SE.l{x:Nm}{nm:Str}(hx:C.nm[x]?=some nm)(hk:sc.names.lookup nm=some .local)(hd:(nm==("__debug__":Str))=false){pos}:SE C X n b sc (xR x) (.Name nm pos):=λA σ W s E env f I e k ke h=>
 wpAny_Name (Sp.OM I e hx hk k ke h) hd
theorem SE.Mp{x:Nm}{nm:Str}(hx:C.nm[x]?=some nm)(hk:sc.names.lookup nm=some .cell∨sc.names.lookup nm=some .free)(hc:(nm==("__classdict__":Str))=false)(hd:(nm==("__debug__":Str))=false){pos}:
  SE C X n b sc (tF x) (.Name nm pos):=λA σ W s E env f I e k ke h=>
 wpAny_Name (Sp.OK I e hx hk hc k ke h) hd
theorem SE.iL{nm:Str}(hk:sc.names.lookup nm=some .globalImplicit)(hd:(nm==("__debug__":Str))=false)(hv:Tj C nm v){pos}:SE C X n b sc (Dz v) (.Name nm pos):=λA σ W s E env f I e k ke h=>by
 obtain⟨cv,hr,hg⟩:=hv;have fin:A7 C k σ W s (RV C) cv s:=(Bx.refl I).post h (hr W s.heap I.based);refine Name_function_global (by rw[e.scope];exact e.kind) (by unfold AqJ;rw[e.scope];exact hk) ?_ hd;rcases hg with⟨mg,h1,h2⟩|⟨mg,mb,h1,h2,h3,h4⟩
 ·exact loadGlobal_global (by rw[e.glob];exact Ns.keep h1 I.base) h2 fin
 ·exact loadGlobal_builtin (by rw[e.glob];exact Ns.keep h1 I.base) h2 (by rw[e.bi];exact Ns.keep h3 I.base) h4 fin
theorem SE.bin{pos}(hx:SE C X n b sc x ex)(hy:SE C X n b sc y ey):SE C X n b sc (sX op x y) (.BinOp ex op ey pos):=λA σ W s E env f I e=>by
 rw[arm_eval_BinOp];refine Sp.bind (m:=λk ke=>x X E σ k ke) (g:=λa σ k ke=>y X E σ (λc σ=>Mine.binOp op a c σ k) ke) (hx A σ W s E env f I e) λa ca σ1 W1 s1 X1 I1 r1=>?_
 refine Sp.bind (m:=λk ke=>y X E σ1 k ke) (g:=λc σ k ke=>Mine.binOp op a c σ k) (Sp.holding<|hy A σ1 W1 s1 E env f I1<|e.up X1.up) λc cc σ2 W2 s2 X2 I2 r2=>?_
 exact Sp.standAt (Sp.operate<|Sp.binOp I2 (I1.vr X2 r1) r2 op)
theorem SE.neg{pos}(hx:SE C X n b sc x ex):SE C X n b sc (yF x) (.UnaryOp .USub ex pos):=λA σ W s E env f I e=>by
 rw[arm_eval_UnaryOp];refine Sp.bind (m:=λk ke=>x X E σ k ke) (g:=λv σ k ke=>Mine.Xn v σ k) (hx A σ W s E env f I e) λa ca σ1 W1 s1 X1 I1 r1=>?_
 exact Sp.standAt (Sp.holding<|Sp.Xn I1 r1)
theorem SE.not{pos}(hx:SE C X n b sc x ex):SE C X n b sc (yK x) (.UnaryOp .Not ex pos):=λA σ W s E env f I e=>by
 rw[arm_eval_UnaryOp];refine Sp.bind (m:=λk ke=>x X E σ k ke) (g:=λv σ k ke=>Mine.truth v σ λc σ=>k (AV.bool<|!c) σ) (hx A σ W s E env f I e) λa ca σ1 W1 s1 X1 I1 r1=>?_
 refine Sp.standAt<|Sp.holding ?_;intro k ke h;have key:=Sp.truth (A:=A) I1 r1 (λc σ=>k (.bool<|!c) σ) ke h;refine PyProof.Rows.not_of (Apa key (λc s2 q=>?_) λ_ _ q=>q);obtain⟨c',σ2,W2,h2,X2,I2,rfl⟩:=q;exact⟨_,σ2,W2,h2,X2,I2,.bool⟩
theorem SE.Oz{pos}(ht:SB C X n b sc t et)(hx:SE C X n b sc x ex)(hy:SE C X n b sc y ey):SE C X n b sc (vT t x y) (.IfExp et ex ey pos):=λA σ W s E env f I e=>by
 rw[arm_eval_IfExp];refine Sp.bind (m:=λk ke=>t X E σ k ke) (g:=λc σ k ke=>bt c (x X E σ k ke) (y X E σ k ke)) (ht A σ W s E env f I e) λc c' σ1 W1 s1 X1 I1 r1=>?_
 cases(show c=c' from r1);cases c with
 |true=>exact hx A σ1 W1 s1 E env f I1 (e.up X1.up)
 |false=>exact hy A σ1 W1 s1 E env f I1 (e.up X1.up)
theorem Sp.Ny{l:List Cd}(h:Nw C X n b sc l es){pos:Pos}(f:CJ n b A):∀{σ:St} {W:Wd} {s:Ao5},Inv C W σ s->A8 C A W sc E env->
  Sp C A σ W s (spliced<|backTo pos<|starEach es env) (λk ke=>Ny X E l σ k ke) (RVs C):=by
 induction h with
 |nil=>exact λI e=>.pure (m:=λk ke=>Mine.Ny X E [] _ k ke) I (λ_ _ h=>h) AM.nil
 | @cons c1 e1 l es h1 st _ ih=>
  intro σ W s I e;rw[HM st];show Sp C A σ W s (eval e1 env>>=λv=>_) _ _;refine Sp.bind (m:=λk ke=>c1 X E σ k ke) (g:=λv σ k ke=>Mine.Ny X E l σ (λvs σ=>k (v::vs) σ) ke) (h1 A σ W s E env f I e) λa ca σ1 W1 s1 X1 I1 r1=>?_
  refine Sp.bind (m:=λ(k:K Unit) ke=>k () σ1) (g:=λ_ σ k ke=>Mine.Ny X E l σ (λvs σ=>k (a::vs) σ) ke) (R:=λW h _ here=>here= [ca]) (.pure I1 (λ_ _ h=>h) rfl) λ_ here σ2 W2 s2 X2 I2 r2=>?_
  subst r2;refine Sp.bind (m:=λk ke=>Mine.Ny X E l σ2 k ke) (g:=λvs σ k ke=>k (a::vs) σ) (Sp.holding<|ih I2<|e.up (X1.trans X2).up) λvs cvs σ3 W3 s3 X3 I3 r3=>?_
  exact .pure I3 (λ_ _ h=>h) (.cons ((I2.vr X3<|I1.vr X2 r1)) r3)
theorem SE.list{l:List Cd}{pos}(h:Nw C X n b sc l es):SE C X n b sc (i8 l) (.List es pos):=λA σ W s E env f I e=>by rw[arm_eval_List];refine Sp.standAt (Sp.bind (m:=λk ke=>Mine.Ny X E l σ k ke) (g:=λl σ k ke=>Mine.newList l σ k) (Sp.Ny h f I e) λvs cvs σ1 W1 s1 X1 I1 r1=>?_);exact Sp.newList I1 r1
theorem SE.Ak{l:List Cd}{es:List Expr}{k pos}(h:Nw C X n b sc l es):SE C X n b sc (Aai l) (.Tuple es k pos):=λA σ W s E env f I e=>by rw[arm_eval_Tuple];refine Sp.standAt (Sp.bind (m:=λk ke=>Mine.Ny X E l σ k ke) (g:=λl σ k ke=>Mine.C3 l σ k) (Sp.Ny h f I e) λvs cvs σ1 W1 s1 X1 I1 r1=>?_);exact Sp.C3 I1 r1
theorem Sp.boolOp{l:List Cd}(h:Nw C X n b sc l es)(f:CJ n b A):∀{σ:St} {W:Wd} {s:Ao5},Inv C W σ s->A8 C A W sc E env->
  Sp C A σ W s (boolOp pos op<|evalEach es env) (λk ke=>KY op l X E σ k ke) (RV C):=by
 induction h with
 |nil=>exact λI e k ke h=>by cases h
 | @cons c1 e1 l es h1 st hs ih=>
  intro σ W s I e;cases hs with
  |nil=>exact h1 A σ W s E env f I e
  | @cons c2 e2 l2 es2 h2 st2 hs2=>
   show Sp C A σ W s (eval e1 env>>=λv=>_) _ _;refine Sp.bind (m:=λk ke=>c1 X E σ k ke) (g:=λv σ k ke=>Mine.truth v σ λc σ=>match op,c with | .And,false=>k v σ | .Or,true=>k v σ |_,_=>KY op (c2::l2) X E σ k ke) (h1 A σ W s E env f I e) λa ca σ1 W1 s1 X1 I1 r1=>?_
   refine Sp.standAt (Sp.bind (m:=λk _=>Mine.truth a σ1 k) (g:=λc σ k ke=>match op,c with | .And,false=>k a σ | .Or,true=>k a σ |_,_=>KY op (c2::l2) X E σ k ke) (Sp.holding<|Sp.truth I1 r1) λc c' σ2 W2 s2 X2 I2 r2=>?_);cases(show c=c' from r2);have go:=ih I2 (e.up (X1.trans X2).up);cases op<;>cases c
   ·exact .pure I2 (λ_ _ h=>h) (I1.vr X2 r1)
   ·exact go
   ·exact go
   ·exact .pure I2 (λ_ _ h=>h) (I1.vr X2 r1)
theorem SE.DY{l:List Cd}{pos}(h:Nw C X n b sc l es):SE C X n b sc (KY op l) (.BoolOp op es pos):=λA σ W s E env f I e=>Sp.boolOp h f I e
end
end
section
variable{C:Cx}
def Di:List CmpOp->List Expr->Bool
 |op::ops,e::es=>(!behindInMarks op e)&&Di ops es |_,_=>true
theorem Hz:∀(ops:List CmpOp) (es:List Expr) (ts:List (Sem Ao3)),Di ops es=true->markedEach ops es ts=ts
 | [],es,ts,h=>by cases es<;>rfl
 | [op],[],ts,h=>rfl
 | [op],[e],ts,h=>by
  have h:behindInMarks op e=false:=by simp only[Di,Bool.and_true,Bool.not_eq_true'] at h;exact h
  match ts with
  | []=>rfl | [t]=>show [markedBehindIn op e t]= [t];rw[markedBehindIn_of_false h]
  |t::u::r=>rfl
 | [op],e::e2::es,ts,h=>by
  match ts with
  | []=>rfl | [t]=>rfl |t::u::r=>rfl
 |op::UA::ops,[],ts,h=>by cases ts<;>rfl
 |op::UA::ops,e::es,ts,h=>by
  have h:Di (UA::ops) es=true:=by unfold Di at h;exact(ApI.mp h).2
  match ts with
  | []=>rfl |t::r=>show t::markedEach (UA::ops) es r=t::r;rw[Hz (UA::ops) es r h]
section
variable{X:CX}{n:Nat}{b:Bool}{sc:ApH}
theorem Sp.sR(h:Sp C A σ W s t m mR):Sp C A σ W s t (λk ke=>m (λc σ=>k (.bool c) σ) ke) (RV C):=λk ke e=>
 Apa (h _ ke e) (λv s' ⟨c,σ',W',h1,h2,h3,h4⟩=>⟨.bool c,σ',W',h1,h2,h3,by rw[show v= .bool c from h4];exact .bool⟩) λ_ _ q=>q
theorem Sp.Za(I:Inv C W σ s){c:Bool}{v:Ao3}(h:v= .bool c):Sp C A σ W s (truthy v) (λ(k:K Unit) _=>k () σ) (λ_ _ _ d=>d=c):=λk ke e=>by subst h;exact wpAny_truthy_bool ((Bx.refl I).post (R:=λ_ _ _ d=>d=c) e rfl)
theorem Sp.chain(O:Ok C)(TK:FP C X.T){l:List Cd}(h:Nw C X n b sc l es){pos:Pos}(f:CJ n b A):∀{ops:List CmpOp} {σ:St} {W:Wd} {s:Ao5} {a:AV} {ca:Ao3},ops.length=l.length->Inv C W σ s->A8 C A W sc E env->VR C W s.heap a ca->
  Sp C A σ W s (compareChain pos ca ops<|evalEach es env) (λk ke=>Cz X E a ops l σ k ke) mR∧Sp C A σ W s (testChain pos ca ops<|evalEach es env) (λk ke=>Cz X E a ops l σ k ke) RB:=by
 induction h with
 |nil=>
  intro ops σ W s a ca hl I e ha;cases ops with
  |nil=>exact⟨λk ke h=>(by cases h),λk ke h=>(by cases h)⟩
  |cons op ops=>cases hl
 | @cons c1 e1 l es h1 st hs ih=>
  intro ops σ W s a ca hl I e ha;cases ops with
  |nil=>cases hl
  |cons op ops=>
   cases ops with
   |nil=>
    cases hs with
    |cons _ _ _=>cases hl
    |nil=>
     refine⟨?_,?_⟩
     ·show Sp C A σ W s (ArM [ca] (eval e1 env)>>=λrv=>_) _ _;refine Sp.bind (m:=λk ke=>c1 X E σ k ke) (g:=λv σ k ke=>Mine.Dm X.T op a v σ k) (Sp.holding<|h1 A σ W s E env f I e) λv cv σ1 W1 s1 X1 I1 r1=>?_
      exact Sp.standAt (Sp.operate<|Sp.Dm O TK I1 (I.vr X1 ha) r1 f.room op)
     ·show Sp C A σ W s (ArM [ca] (eval e1 env)>>=λrv=>_) _ _;refine Sp.bind (m:=λk ke=>c1 X E σ k ke) (g:=λv σ k ke=>Mine.Dm X.T op a v σ k) (Sp.holding<|h1 A σ W s E env f I e) λv cv σ1 W1 s1 X1 I1 r1=>?_
      refine Sp.standAt (Sp.bind (m:=λk _=>Mine.Dm X.T op a v σ1 k) (g:=λc σ k ke=>k c σ) (Sp.operate<|Sp.Dm O TK I1 (I.vr X1 ha) r1 f.room op) λc c' σ2 W2 s2 X2 I2 r2=>?_);refine Sp.holding λk ke h=>?_
      rw[show c'= .bool c from r2];exact wpAny_truthy_bool ((Bx.refl I2).post h rfl)
   |cons UA ops=>
    have rV:(UA::ops).length=l.length:=by simpa using hl
    refine⟨?_,?_⟩
    ·show Sp C A σ W s (ArM [ca] (eval e1 env)>>=λrv=>_) _ _;refine Sp.bind (m:=λk ke=>c1 X E σ k ke) (g:=λv σ k ke=>Mine.Dm X.T op a v σ λc σ=>match c with |true=>Cz X E v (UA::ops) l σ k ke |false=>k false σ) (Sp.holding<|h1 A σ W s E env f I e) λv cv σ1 W1 s1 X1 I1 r1=>?_
     refine Sp.standAt (Sp.bind (m:=λk _=>Mine.Dm X.T op a v σ1 k) (g:=λc σ k ke=>match c with |true=>Cz X E v (UA::ops) l σ k ke |false=>k false σ) (Sp.holding<|Sp.Dm O TK I1 (I.vr X1 ha) r1 f.room op) λc c' σ2 W2 s2 X2 I2 r2=>?_);refine Sp.release (Sp.bind (m:=λ(k:K Unit) _=>k () σ2) (g:=λ_ σ k ke=>match c with |true=>Cz X E v (UA::ops) l σ k ke |false=>k false σ) (Sp.holding<|Sp.Za I2 r2) λd d' σ3 W3 s3 X3 I3 r3=>?_);subst r3;cases d' with
     |true=>exact(ih rV I3 (e.up ((X1.trans X2).trans X3).up) ((I2.vr X3 (I1.vr X2 r1)))).1
     |false=>exact .pure I3 (λ_ _ h=>h) r2
    ·show Sp C A σ W s (ArM [ca] (eval e1 env)>>=λrv=>_) _ _;refine Sp.bind (m:=λk ke=>c1 X E σ k ke) (g:=λv σ k ke=>Mine.Dm X.T op a v σ λc σ=>match c with |true=>Cz X E v (UA::ops) l σ k ke |false=>k false σ) (Sp.holding<|h1 A σ W s E env f I e) λv cv σ1 W1 s1 X1 I1 r1=>?_
     refine Sp.standAt (Sp.bind (m:=λk _=>Mine.Dm X.T op a v σ1 k) (g:=λc σ k ke=>match c with |true=>Cz X E v (UA::ops) l σ k ke |false=>k false σ) (Sp.holding<|Sp.Dm O TK I1 (I.vr X1 ha) r1 f.room op) λc c' σ2 W2 s2 X2 I2 r2=>?_);refine Sp.release (Sp.bind (m:=λ(k:K Unit) _=>k () σ2) (g:=λ_ σ k ke=>match c with |true=>Cz X E v (UA::ops) l σ k ke |false=>k false σ) (Sp.holding<|Sp.Za I2 r2) λd d' σ3 W3 s3 X3 I3 r3=>?_);subst r3;cases d' with
     |true=>exact(ih rV I3 (e.up ((X1.trans X2).trans X3).up) ((I2.vr X3 (I1.vr X2 r1)))).2
     |false=>exact .pure I3 (λ_ _ h=>h) rfl
theorem SE.K4(O:Ok C)(TK:FP C X.T){l:List Cd}{pos}(hx:SE C X n b sc x ex)(h:Nw C X n b sc l es)(hm:Di ops es=true)(hl:ops.length=l.length):
  SE C X n b sc (tK x ops l) (.Compare ex ops es pos):=λA σ W s E env f I e=>by
 rw[arm_eval_Compare,Hz _ _ _ hm];refine Sp.bind (m:=λk ke=>x X E σ k ke) (g:=λa σ k ke=>Cz X E a ops l σ (λc σ=>k (AV.bool c) σ) ke) (hx A σ W s E env f I e) λa ca σ1 W1 s1 X1 I1 r1=>?_
 exact Sp.sR (Sp.chain O TK h f hl I1 (e.up X1.up) r1).1
theorem SB.K4(O:Ok C)(TK:FP C X.T){l:List Cd}{pos}(hx:SE C X n b sc x ex)(h:Nw C X n b sc l es)(hm:Di ops es=true)(hl:ops.length=l.length):
  SB C X n b sc (tJ x ops l) (.Compare ex ops es pos):=λA σ W s E env f I e=>by
 rw[arm_isTrue_Compare,Hz _ _ _ hm];refine Sp.bind (m:=λk ke=>x X E σ k ke) (g:=λa σ k ke=>Cz X E a ops l σ k ke) (hx A σ W s E env f I e) λa ca σ1 W1 s1 X1 I1 r1=>?_
 exact(Sp.chain O TK h f hl I1 (e.up X1.up) r1).2
theorem SB.not{pos}(hx:SB C X n b sc x ex):SB C X n b sc (yJ x) (.UnaryOp .Not ex pos):=λA σ W s E env f I e=>by
 rw[arm_isTrue_UnaryOp];refine Sp.bind (m:=λk ke=>x X E σ k ke) (g:=λc σ k ke=>k (!c) σ) (hx A σ W s E env f I e) λc c' σ1 W1 s1 X1 I1 r1=>?_
 cases(show c=c' from r1);exact .pure I1 (λ_ _ h=>h) rfl
theorem SB.Oz{pos}(ht:SB C X n b sc t et)(hx:SB C X n b sc x ex)(hy:SB C X n b sc y ey):SB C X n b sc (vS t x y) (.IfExp et ex ey pos):=λA σ W s E env f I e=>by
 rw[arm_isTrue_IfExp];refine Sp.bind (m:=λk ke=>t X E σ k ke) (g:=λc σ k ke=>bt c (x X E σ k ke) (y X E σ k ke)) (ht A σ W s E env f I e) λc c' σ1 W1 s1 X1 I1 r1=>?_
 cases(show c=c' from r1);cases c with
 |true=>exact hx A σ1 W1 s1 E env f I1 (e.up X1.up)
 |false=>exact hy A σ1 W1 s1 E env f I1 (e.up X1.up)
inductive Zl(C:Cx)(X:CX)(n:Nat)(b:Bool)(sc:ApH):List Cb->List Expr->Prop
 |nil:Zl C X n b sc [] []
 |cons {c e l es}:SB C X n b sc c e->Zl C X n b sc l es->Zl C X n b sc (c::l) (e::es)
theorem Sp.allTrue{l:List Cb}(h:Zl C X n b sc l es)(f:CJ n b A):∀{σ:St} {W:Wd} {s:Ao5},Inv C W σ s->A8 C A W sc E env->
  Sp C A σ W s (allTrue op es env) (λk ke=>allB op l X E σ k ke) RB:=by
 induction h with
 |nil=>intro σ W s I e;rw[arm_allTrue_nil];cases op<;>exact .pure I (λ_ _ h=>h) rfl
 | @cons c1 e1 l es h1 hs ih=>
  intro σ W s I e;rw[arm_allTrue_cons];refine Sp.bind (m:=λk ke=>c1 X E σ k ke) (g:=λc σ k ke=>match op,c with | .And,false=>k false σ | .Or,true=>k true σ |_,_=>allB op l X E σ k ke) (h1 A σ W s E env f I e) λc c' σ1 W1 s1 X1 I1 r1=>?_
  cases(show c=c' from r1);have go:=ih I1 (e.up X1.up);cases op<;>cases c
  ·exact .pure I1 (λ_ _ h=>h) rfl
  ·exact go
  ·exact go
  ·exact .pure I1 (λ_ _ h=>h) rfl
theorem SB.DY{l:List Cb}{pos}(h:Zl C X n b sc l es):SB C X n b sc (allB op l) (.BoolOp op es pos):=λA σ W s E env f I e=>by rw[arm_isTrue_BoolOp];exact Sp.allTrue h f I e
def HH:Expr->Bool
 | .UnaryOp .Not _ _=>false | .BoolOp .. =>false | .IfExp .. =>false | .Compare .. =>false |_=>true
theorem M8(h:HH e=true)(env:Env)(whole:Sem Ao3):isTrue e env whole=(do let v ←whole;standAt e.pos;holding [v] (truthy v)):=by
 cases e with
 |UnaryOp op x p=>cases op<;>first |rfl |cases h
 |_=>first |rfl |cases h
theorem SB.val{x:Cd}{ex:Expr}(hx:SE C X n b sc x ex)(h:HH ex=true):SB C X n b sc (q9 x) ex:=λA σ W s E env f I e=>by
 rw[M8 h];refine Sp.bind (m:=λk ke=>x X E σ k ke) (g:=λv σ k ke=>Mine.truth v σ k) (hx A σ W s E env f I e) λa ca σ1 W1 s1 X1 I1 r1=>?_
 exact Sp.standAt (Sp.holding<|Sp.truth I1 r1)
end
end
section
variable{C:Cx}
def G1:Expr->Bool
 | .Slice .. =>false |_=>true
theorem G6(h:G1 slice=true)(o i:Ao3):subscripted slice false o i=PySem.operate [o,i] (getItem o i):=by cases slice<;>first |rfl |cases h
theorem PS{prog:Ap3}{w:Ao7}{A:Apg}{E:Ao3->Ao5->Prop}{s:Ao5}{value slice:Expr}{o i:Ao3}{T id:String}{Q:Ao3->Ao5->Prop}(hT:s.TypeIs o T)
  (hl:typeLookup (.type T) "__getitem__"=pure (some (.builtin id))){vs:List Ao3}(hs:subscripted slice false o i=PySem.operate vs (getItem o i))(h:Aph (model prog w) A (getItem o i) Q E s):
  Aph (model prog w) A (subscriptTail value slice o i) Q E s:=by
 unfold subscriptTail;refine Ao2 ?_;rw[getitemInPython_of_ne hT.not_modules];refine Ao2<|wpAny_specialOf hT hl ?_;have fin:Aph (model prog w) A (subscripted slice false o i) (λr s₃=>Aph (model prog w) A (letTemporaryGo value o r>>=λ_=>pure r) Q E s₃) E s:=by rw[hs];exact wpAny_operate' (Apa h (λr s₃ h₃=>Ao2 (wpAny_letTemporaryGo<|Ao4 h₃)) λ_ _ x=>x)
 first
  |exact Ao4 (Ao2 fin)
  |exact Ao2 (Ao4 (Ao2 fin))
  |exact Ao2 fin
theorem JD{a b:Int}(h:CH a b=true):a<b:=(AZ _ _).mp h
theorem B1{a b:Int}(h:Fm a b=true):a≤b:=(BW _ _).mp h
theorem G0{n j:Nat}{i:Int}(h:place n i=some j):seqIndex? i n=some j∧j<n∧ -(2^63)≤i∧i<2^63∧((0≤i∧j=i.toNat)∨(i<0∧ -(n:Int)≤i∧j=(i+n).toNat)):=by
 unfold place at h;split at h
 ·rename_i hb;obtain⟨b1,b2⟩:=Ac hb;have b1:=B1 b1;have b2:=B1 b2;split at h
  ·rename_i h1;have h1:=JD h1;split at h
   ·cases h
   ·rename_i h2;have h2:=Fn h2;cases h;refine⟨?_,by omega,by omega,by omega,.inr ⟨h1,by omega,rfl⟩⟩;unfold seqIndex?;rw[if_pos h1,if_pos (by simp;omega)]
  ·rename_i h1;have h1:=Fn h1;split at h
   ·rename_i h2;have h2:=JD h2;cases h;refine⟨?_,by omega,by omega,by omega,.inl ⟨h1,rfl⟩⟩;simp only[seqIndex?,if_neg<|Int.not_lt.mpr h1];rw[if_pos (by simp;omega)]
   ·cases h
 ·cases h
section
variable{W:Wd}{s:Ao5}{σ:St}
theorem FA(I:Inv C W σ s){l:List AV}{x:Ap}{i:Int}(v:AM C W s.heap l cl)(hx:x.ev W.ρ=some i){k:K AV}(h:JS l x σ k=true):
  ∃(j:Nat) (a:AV) (ca:Ao3) (σ':St),place l.length i=some j∧cl[j]?=some ca∧VR C W s.heap a ca∧Bx C W s σ σ'∧k a σ'=true:=by
 obtain⟨σ1,n1,h⟩:=CO I hx h;split at h
 ·rename_i j hj;rw[AA] at h;split at h
  ·rename_i a ha;obtain⟨ca,hc,hv⟩:=v.get ha;exact⟨j,a,ca,σ1,hj,hc,hv,n1,h⟩
  ·cases h
 ·cases h
theorem Lo(I:Inv C W σ s){l:List AV}{x:Ap}{i:Int}(v:AM C W s.heap l cl)(hx:x.ev W.ρ=some i){k:K AV}(h:Hy l x σ k=true):
  ∃(j:Nat) (a:AV) (ca:Ao3) (σ':St),place l.length i=some j∧cl[j]?=some ca∧VR C W s.heap a ca∧Bx C W s σ σ'∧k a σ'=true:=by
 unfold Hy at h;split at h
 ·rename_i a f hxt;split at h
  ·rename_i hc;have hc:=(AR _ _).mp hc;unfold i6 at h;split at h
   ·rename_i lo hi hr;split at h
    ·rename_i hb;obtain⟨b1,hb⟩:=Ac hb;obtain⟨b2,hb⟩:=Ac hb;obtain⟨b3,hb⟩:=Ac hb;obtain⟨b4,_⟩:=Ac hb;have b1:=(AR _ _).mp b1;have b2:=B1 b2;have b3:=JD b3;have b4:=B1 b4;subst b1;obtain⟨y,hy,rfl⟩:=Ap.Bp.mp hx;rw[hxt] at hy;obtain⟨u,hu,rfl⟩:=IB hy;have ru:=I.Bi a u hu;rw[hr] at ru;have r1:=ru.1 _ rfl;have r2:=ru.2 _ rfl;have e:x.c+1*u=u:=by omega
     obtain⟨j,rfl⟩:∃j:Nat,u=Api j:=⟨u.toNat,by simp;omega⟩;have hj:j<l.length:=by simp at r2;omega
     obtain⟨ca,hca,hv⟩:=v.get (Apk hj);refine⟨j,.sel a l,ca,σ,?_,hca,.sel hu (Apk hj) hv,.refl I,h⟩;rw[e];unfold place;have q1:both (Fm (-4000)<|Api j) (Fm (Api j) 4000)=true:=NS.mpr ⟨(BW _ _).mpr (by have:(0:Int)≤Api j:=AqS j;omega),(BW _ _).mpr (by omega)⟩;have q2:CH (Api j) 0=false:=by
      cases q:CH (Api j) 0 with
      |false=>rfl |true=>have:=JD q;simp at this;omega
     have q3:CH (Api j) (l.length:Int)=true:=(AZ _ _).mpr (by simp;omega);rw[q1];dsimp only;rw[q2];dsimp only;rw[q3];rfl
    ·exact FA I v hx h
   ·exact FA I v hx h
  ·exact FA I v hx h
 ·exact FA I v hx h
structure Got(C:Cx)(A:Apg)(s:Ao5)(co ci:Ao3)(k:K AV)(σ:St)(W:Wd):Prop where
 ty:∃T id,s.TypeIs co T∧typeLookup (.type T) "__getitem__"=pure (some (.builtin id))
 go:∀ke:K AV,Aph (model C.prog C.w) A (getItem co ci) (A7 C k σ W s<|RV C) (AG C ke σ W s) s
variable{A:Apg}{T:Tab}
theorem Got.back{k:K AV}(n:Bx C W s σ σ1)(g:Got C A s co ci k σ1 W):Got C A s co ci k σ W:=
 ⟨g.ty,λke=>Apa (g.go ke) (λ_ _ q=>q.base n.ext) (λ_ _ q=>q.base n.ext)⟩
theorem aK(I:Inv C W σ s){l:List AV}{x:Ap}{i:Int}{cl:List Ao3}(htt:IsT W s.heap a cl.toArray)(v:AM C W s.heap l cl)(hx:x.ev W.ρ=some i){k:K AV}(h:Hy l x σ k=true):
  Got C A s (.ref a) (.int i u) k σ W:=by
 obtain⟨j,b,cb,σ1,hp,hc,hv,n1,h1⟩:=Lo I v hx h;obtain⟨p1,p2,p3,p4,_⟩:=G0 hp;have Wv:IsTup s.heap a cl.toArray:=htt.Ak;exact⟨⟨"tuple",_,Wv.typeIs,PySem.F.slot_tuple_getitem.lookup⟩,λke=>getItem_tuple Wv p3 p4 (by rw[Apt,v.length];exact p1) (by simpa using hc) (n1.post h1 hv)⟩
theorem Wk(I:Inv C W σ s){l:List AV}{x:Ap}{i:Int}{a:Apc}{cl:List Ao3}(ht:s.heap.IsList a cl.toArray)(v:AM C W s.heap l cl)(hx:x.ev W.ρ=some i){k:K AV}(h:Hy l x σ k=true):
  Got C A s (.ref a) (.int i u) k σ W:=by
 obtain⟨j,b,cb,σ1,hp,hc,hv,n1,h1⟩:=Lo I v hx h;obtain⟨p1,p2,p3,p4,p5⟩:=G0 hp;refine⟨⟨"list",_,ht.typeIs,PySem.F.slot_list_getitem.lookup⟩,λke=>?_⟩;rcases p5 with⟨q,e⟩|⟨q,q2,e⟩
 ·exact wpAny_getItem_list ht q p4 (by rw[←e];simpa using hc) (n1.post h1 hv)
 ·rw[←v.length] at q2 e;exact wpAny_getItem_list_neg ht q (by simpa using q2) p3 (by simp only[Apt];rw[←e];simpa using hc) (n1.post h1 hv)
theorem Sk(I:Inv C W σ s){l:List AV}{x:Ap}{i:Int}{a:Apc}{cl cr:List Ao3}(ht:s.heap.IsList a (cl++cr).toArray)(v:AM C W s.heap l cl)(hx:x.ev W.ρ=some i){k:K AV}(h:Qu l x σ k=true):
  Got C A s (.ref a) (.int i u) k σ W:=by
 obtain⟨σ1,n1,h⟩:=CO I hx h;split at h
 ·rename_i hb;obtain⟨b1,b2⟩:=Ac hb;have b1:=B1 b1;have b2:=B1 b2;rw[AA] at h;split at h
  ·rename_i b hl;obtain⟨ca,hc,hv⟩:=v.get hl;refine⟨⟨"list",_,ht.typeIs,PySem.F.slot_list_getitem.lookup⟩,λke=>wpAny_getItem_list ht b1 (by omega) ?_ (n1.post h hv)⟩;simp only[List.getElem?_toArray];rw[Apz (Ape.mp hc).1];exact hc
  ·cases h
 ·cases h
theorem aJ(I:Inv C W σ s){l:List AV}{x:Ap}{i:Int}{a:Apc}{cl cp:List Ao3}(ht:s.heap.IsList a (cp++cl).toArray)(v:AM C W s.heap l cl)(hx:x.ev W.ρ=some i){k:K AV}(h:We l x σ k=true):
  Got C A s (.ref a) (.int i u) k σ W:=by
 obtain⟨σ1,n1,h⟩:=CO I hx h;split at h
 ·rename_i hb;obtain⟨b1,hb⟩:=Ac hb;obtain⟨b2,b3⟩:=Ac hb;have b1:=JD b1;have b2:=B1 b2;have b3:=B1 b3;rw[AA] at h;split at h
  ·rename_i b hl;obtain⟨ca,hc,hv⟩:=v.get hl;have hlen:=v.length;refine⟨⟨"list",_,ht.typeIs,PySem.F.slot_list_getitem.lookup⟩,λke=>wpAny_getItem_list_neg ht b1 ?_ (by omega) ?_ (n1.post h hv)⟩
   ·simp only[Apt,Apd];omega
   ·simp only[List.getElem?_toArray,Apt,Apd];have e:(i+((cp.length+cl.length:Nat):Int)).toNat=cp.length+(i+(l.length:Int)).toNat:=by omega
    rw[e,Apo (by omega),Nat.add_sub_cancel_left];exact hc
  ·cases h
 ·cases h
theorem WC{q:Nat}{n:Nat}{m:Nat}{i:Int}(lo:W.ρ[q]?=some (Api n))(hm:JG q x=some m)(hx:x.ev W.ρ=some i):i=(n:Int)+m:=by
 obtain⟨xc,xt⟩:=x;unfold JG at hm;split at hm
 ·rename_i q' f e;split at hm
  ·rename_i hb;cases hm;obtain⟨b1,hb⟩:=Ac hb;obtain⟨b2,b3⟩:=Ac hb;cases Ao6 b1;have b2:=(AR _ _).mp b2;have b3:=B1 b3;dsimp only at e b3;subst e b2;simp only[Ap.ev,CN,lo,AqN,Option.some.injEq,ApU] at hx;dsimp only;omega
  ·cases hm
 ·cases hm
theorem Se{α:Type}{l:List α}(h:fits l=true):l.length≤4000:=by
 unfold fits at h;have h:=ApB h;have e:∀l:List α,E4 l=l.length:=λl=>by induction l with |nil=>rfl |cons a l ih=>exact congrArg ArI ih
 rwa [e] at h
theorem WZ(I:Inv C W σ s){a:Nat}(k1:E0 W (some a))(h:BF σ (some a)=true):(W.ls a).length≤1000000:=by
 unfold BF at h;have k1:W.ρ[a]?=some (Api (W.ls a).length):=k1;have r:=I.Bi a _ k1;dsimp only at h;split at h
 ·rename_i y hy;have:=r.2 _ hy;have:=B1 h;simp only[ApU] at *; omega
 ·cases h
theorem aI(I:Inv C W σ s){l m:List AV}{p:Nat}{i:AV}{ci:Ao3}{a:Apc}{cl cm:List Ao3}(ht:s.heap.IsList a (cl++W.ls p++cm).toArray)(v:AM C W s.heap l cl)(vm:AM C W s.heap m cm)(lo:E0 W (some p))
  (hi:VR C W s.heap i ci){k:K AV}(h:getM l p m i σ k=true):Got C A s (.ref a) ci k σ W:=by
 unfold getM at h;split at h
 ·cases hi with
  |int hx=>
   split at h
   ·rename_i n hn;obtain⟨f,h⟩:=Ac h;obtain⟨f,f3⟩:=Ac f;obtain⟨f1,f2⟩:=Ac f;have f1:=Se f1;have f2:=Se f2;have f3:=WZ I lo f3;have en:=WC lo hn hx;split at h
    ·rename_i hb;have hb:=B1 hb;rw[AA] at h;split at h
     ·rename_i b hl;obtain⟨ca,hc,hv⟩:=vm.get hl;have hlen:=v.length;have hj:=(Ape.mp hc).1;have vml:=vm.length;refine⟨⟨"list",_,ht.typeIs,PySem.F.slot_list_getitem.lookup⟩,λke=>wpAny_getItem_list ht (by omega) ?_ ?_ ((Bx.refl I).post h hv)⟩
      ·simp only[ApU] at hb;omega
      ·simp only[List.getElem?_toArray];simp only[ApU] at hb;rw[Apo (by rw[Apd];omega),Apd];rw[show _-(cl.length+(W.ls p).length)=n-l.length from by omega];exact hc
     ·cases h
    ·cases h
   ·have Wv:s.heap.IsList a (cl++(W.ls p++cm)).toArray:=by rw[←ApQ];exact ht
    exact Sk I Wv v hx h
 ·cases h
theorem Ol(O:Ok C)(I:Inv C W σ s){l:List (AV×AV)}{d:Apc}{Ci}(hd:s.heap.DictOf (Bt C.prog C.w) d Ci)(hl:Gp C W s.heap l Ci)(hi:VR C W s.heap i ci){k:K AV}(ko:keyOk i=true)(h:Qk l i σ k=true):
  Got C A s (.ref d) ci k σ W:=by
 obtain⟨K0,hk,hc⟩:=Fp hi ko;obtain⟨v,cv,σ1,n1,hv,hr,h1⟩:=R4 O hk I hl h;exact⟨⟨"dict",_,hd.typeIs,F.slot_dict_getitem.lookup⟩,λke=>wpAny_getItem_of (knd:=Bt C.prog C.w) hc hd.mapOf hv (n1.By h1 hr)⟩
theorem TZ{k:K Bool}(h:FY a i σ k=true):keyOk i=true:=by cases i<;>first |rfl |(exfalso;cases a<;>exact ApV h)
theorem N3{l:List (AV×AV)}{k:K AV}(h:Qk l i σ k=true):keyOk i=true:=by
 cases l with
 |nil=>cases h
 |cons p l=>have h:FY p.1 i σ (λc σ=>bt c (k p.2 σ) (Qk l i σ k))=true:=h;exact TZ h
theorem str_idx{X:Str}{n:Int}{c:Nat}(h0:0≤n)(h:X.cps[n.toNat]?=some c):(seqIndex? n X.length).bind (X.cps[·]?)=some c:=by
 have hn:n.toNat<X.cps.size:=(Ap9.mp h).1;have q:seqIndex? n X.length=some n.toNat:=by simp only[seqIndex?,if_neg<|Int.not_lt.mpr h0];rw[if_pos];simp only[Ap8,decide_eq_true_eq];exact⟨h0,by show n<((X.cps.size:Nat):Int);omega⟩
 rw[q];exact h
theorem aG(O:Ok C)(TK:FP C T)(I:Inv C W σ s)(ho:VR C W s.heap o co)(hi:VR C W s.heap i ci){k:K AV}(h:n5 T o i σ k=true):Got C A s co ci k σ W:=by
 unfold n5 at h;split at h
 ·cases ho with
  |Ak ht v=>
   split at h
   ·cases hi with
    |int hx=>exact aK I ht v hx h
   ·cases h
 ·rename_i l;cases ho with
  |B4=>
   split at h
   ·cases hi with
    |int hx=>
     obtain⟨σ1,n1,h⟩:=CO I hx h;split at h
     ·rename_i j hj;obtain⟨p1,p2,p3,p4,p5⟩:=G0 hj;rw[AA] at h;split at h
      ·rename_i v hv;rename_i t _;refine⟨⟨"bytes",_,typeIs_bytes s _ _,FB.slot_bytes_getitem.lookup⟩,λke=>?_⟩;refine getItem_gives (typeIs_bytes s _ _) (by decide) Are FB.entry_bytes_getitem (FB.args_bytes_getitem_2 _ _) (gives_bytes_getitem _ _ _ _ v ?_ ?_) ?_
       ·simp only[Builtin.Bytes.fitsIndex,Ap8,decide_eq_true_eq];omega
       ·rw[Apt,p1];simpa using hv
       ·exact n1.By (R:=RV C) h (.int<|Ap.CY _)
      ·cases h
     ·cases h
   ·cases h
 ·rename_i j _;cases ho with
  |obj hj=>
   unfold uL at h;split at h
   ·rename_i p l q ol;obtain⟨pp,hp,_,cl,vl,il,_⟩:=I.obj _ _ ol;rw[hj] at hp;cases hp;unfold getL at h;split at h
    ·cases hi with
     |int hx=>
      split at h
      ·simp only[Aq,ApC,Apj] at il;exact Wk I il vl hx h
      ·simp only[Aq,ApC] at il;exact Sk I il vl hx h
      ·simp only[Aq,Apj] at il;exact aJ I il vl hx h
      ·cases h
    ·cases h
   ·rename_i l p m ol;obtain⟨pp,hp,_,cl,cm,vl,vm,il,lo,_⟩:=I.obj _ _ ol;rw[hj] at hp;cases hp;exact aI I il vl vm lo hi h
   ·rename_i l ol;obtain⟨pp,hp,_,Ci,hd,hl⟩:=I.obj _ _ ol;rw[hj] at hp;cases hp;exact Ol O I hd hl hi (N3 h) h
   ·cases h
 ·rename_i d _;split at h
  ·rename_i l ed;obtain⟨hs,Ci,hd,hl⟩:=TK.Jc _ _ ed;cases ho with
   |Au=>exact Ol O I (DictOf.base I hd) (hl W s.heap I.based) hi (N3 h) h
  ·cases h
 ·cases ho with
  | @str zs X zt hx=>
   unfold uN at h;split at h
   ·cases hi with
    | @int xl xi xt hy=>
     split at h
     ·rename_i e1 e2;split at h
      ·rename_i y hc;obtain⟨X',c,g1,g2,g3,g4⟩:=TK.ch _ _ _ hc;obtain rfl:X=X':=Apr (hx.symm.trans g1);have ey:=Ap.FH e1 hy;have e2:=B1 e2;refine⟨⟨"str",_,typeIs_str s _ _,PySem.F.slot_str_getitem.lookup⟩,λke=>?_⟩;refine getItem_str (c:=c) ?_ ?_ ((Bx.refl I).By (R:=RV C) h (.str g4))
       ·rw[ey];simp;omega
       ·rw[ey];exact str_idx e2 g3
      ·cases h
     ·cases h
   ·cases h
 ·cases ho with
  |ED x1 x2 hq hr=>
   obtain⟨_,_,u,r,e⟩:=hq;rw[e] at hr;cases hr with
   |Ak ht v=>
    unfold uM at h;split at h
    ·cases hi with
     |int hy=>
      split at h
      ·rename_i e1 e2;have ey:=Ap.FH e1 hy;have e2:=(AR _ _).mp e2;cases v with
       |cons _ v2=>cases v2 with
        |cons hw _=>have Wv:IsTup s.heap _ _:=ht.Ak;rw[TK.Ki] at h;rw[ey,e2];refine⟨⟨"tuple",_,Wv.typeIs,PySem.F.slot_tuple_getitem.lookup⟩,λke=>getItem_tuple (j:=1) Wv (by omega) (by omega) ?_ (by simp) ((Bx.refl I).post h hw)⟩;simp[seqIndex?];omega
      ·cases h
    ·cases h
 ·cases h
end
section
variable{X:CX}{n:Nat}{b:Bool}{sc:ApH}
theorem Sp.TJ(O:Ok C)(TK:FP C T)(I:Inv C W σ s){value:Expr}(hp:G1 slice=true)(ho:VR C W s.heap o co)(hi:VR C W s.heap i ci):
  Sp C A σ W s (subscriptTail value slice co ci) (λk _=>TJ T o i σ k) (RV C):=λk ke h=>by
 obtain⟨o',σ1,n1,Dx,_,h⟩:=AN I ho h;obtain⟨i',σ2,n2,Zq,_,h⟩:=AN n1.1 hi h;obtain⟨⟨T',id,hT,hl⟩,go⟩:=(aG (A:=A) O TK n2.1 Dx Zq h).back (n1.trans n2);exact PS hT hl (G6 hp _ _) (go ke)
theorem SE.sub(O:Ok C)(TK:FP C X.T){pos}(hp:G1 slice=true)(hx:SE C X n b sc x value)(hy:SE C X n b sc y slice):SE C X n b sc (zT x y) (.Subscript value slice pos):=λA σ W s E env f I e=>by
 rw[arm_eval_Subscript];refine Sp.bind (m:=λk ke=>x X E σ k ke) (g:=λo σ k ke=>y X E σ (λi σ=>Mine.TJ X.T o i σ k) ke) (hx A σ W s E env f I e) λa ca σ1 W1 s1 X1 I1 r1=>?_
 refine Sp.bind (m:=λk ke=>y X E σ1 k ke) (g:=λi σ k ke=>Mine.TJ X.T a i σ k) (Sp.holding<|hy A σ1 W1 s1 E env f I1<|e.up X1.up) λc cc σ2 W2 s2 X2 I2 r2=>?_
 exact Sp.standAt (Sp.TJ O TK I2 hp (I1.vr X2 r1) r2)
end
end
section
variable{C:Cx}
theorem DG(n:Nat)(d:Nat)(hd:d≤n)(v:Option Int):clip n d v≤n∧
  ((match v with |none=>(d:Int)|some i=>max 0 (min (if i<0 then i+(n:Int) else i) (n:Int))):Int)=((clip n d v:Nat):Int):=by
 cases v with
 |none=>exact⟨hd,rfl⟩
 |some i=>
  by_cases q:i<0
  ·have e:clip n d (some i)=(i+n).toNat:=by
    show(match CH i 0 with |true=>(i+n).toNat |false=>(match CH i n with |true=>i.toNat |false=>n))=_;rw[(AZ _ _).mpr q]
   rw[e];dsimp only;rw[if_pos q];refine⟨?_,?_⟩<;>omega
  ·have e0:CH i 0=false:=by
    cases h:CH i 0 with
    |false=>rfl |true=>exact absurd (JD h) q
   by_cases q2:i<n
   ·have e:clip n d (some i)=i.toNat:=by
     show(match CH i 0 with |true=>(i+n).toNat |false=>(match CH i n with |true=>i.toNat |false=>n))=_;rw[e0,(AZ _ _).mpr q2]
    rw[e];dsimp only;rw[if_neg q];refine⟨?_,?_⟩<;>omega
   ·have e1:CH i n=false:=by
     cases h:CH i n with
     |false=>rfl |true=>exact absurd (JD h) q2
    have e:clip n d (some i)=n:=by show(match CH i 0 with |true=>(i+n).toNat |false=>(match CH i n with |true=>i.toNat |false=>n))=_;rw[e0,e1]
    rw[e];dsimp only;rw[if_neg q];refine⟨?_,?_⟩<;>omega
theorem Eb(items:Array Ao3)(lo hi:Option Int):slicePick items lo hi none=(cut items.toList lo hi).toArray:=by
 have h1:=DG items.size 0 (ArB _) lo;have h2:=DG items.size items.size (Aqc _) hi;have e:sliceBounds lo hi none items.size=((clip items.size 0 lo:Int),(clip items.size items.size hi:Int),1):=by rw[←h1.2,←h2.2];cases lo<;>cases hi<;>rfl
 unfold slicePick cut;rw[e];simp only[sliceRange_one,pick_run,Aq5]
theorem AM.drop:∀{l vs} (k:Nat),AM C W h l vs->AM C W h (l.drop k) (vs.drop k)
 |_,_,0,v=>v |_,_,k+1,.nil=>.nil |_,_,k+1,.cons _ r=>r.drop k
theorem AM.take:∀{l vs} (k:Nat),AM C W h l vs->AM C W h (l.take k) (vs.take k)
 |_,_,0,v=>.nil |_,_,k+1,.nil=>.nil |_,_,k+1,.cons a r=>.cons a (r.take k)
theorem AM.cut{l vs}(v:AM C W h l vs)(lo hi:Option Int):AM C W h (cut l lo hi) (cut vs lo hi):=by unfold Mine.cut;rw[v.length];exact(v.drop _).take _
theorem AM.rev:∀{l vs},AM C W h l vs->AM C W h l.reverse vs.reverse
 |_,_,.nil=>.nil |_,_,.cons a r=>by rw[List.reverse_cons,List.reverse_cons];exact r.rev.app (.cons a .nil)
theorem Jk{α:Type}(l:List α)(lo hi:Option Int):(cut l lo hi).length≤l.length:=by unfold Mine.cut;rw[AqD,List.length_drop];omega
theorem Fy(I:Inv C W σ s)(ha:VR C W s.heap a ca){k:K (Option Int)}(h:Q7 a σ k=true):∃p σ',Bx C W s σ σ'∧IsPart ca p∧k p σ'=true:=by
 obtain⟨a',σ1,n1,Ld,_,h⟩:=AN I ha h;cases Ld with
 |A4=>exact⟨none,σ1,n1,.none,h⟩
 |int hx=>obtain⟨σ2,n2,h⟩:=CO n1.1 hx h;exact⟨some _,σ2,n1.trans n2,.int _ _,h⟩
 |_=>cases h
section
variable{prog:Ap3}{w:Ao7}{A:Apg}{E:Ao3->Ao5->Prop}{s:Ao5}
theorem G5{v:Ao3}{k:Option Int}{Q:Option Int->Ao5->Prop}(hv:IsPart v k)(h:Q k s):Aph (model prog w) A (Builtin.Slice.slicePartIndex v) Q E s:=by
 cases hv with
 |none=>exact slicePart_none h
 |int i t=>exact slicePart_int h
theorem NI(n:Nat)(lo hi:Option Int):Builtin.Slice.sliceAdjust lo hi 1 (n:Int)=((clip n 0 lo:Int),(clip n n hi:Int)):=by
 have h1:=(DG n 0 (ArB _) lo).2;have h2:=(DG n n (Aqc _) hi).2;unfold Builtin.Slice.sliceAdjust;rw[←h1,←h2];have hs:¬((1:Int)<0):=by omega
 simp only[hs,if_false];congr 1
 ·cases lo with
  |none=>rfl
  |some i=>
   dsimp only;by_cases q:i<0
   ·rw[if_pos q,if_pos q];omega
   ·rw[if_neg q,if_neg q];omega
 ·cases hi with
  |none=>rfl
  |some i=>
   dsimp only;by_cases q:i<0
   ·rw[if_pos q,if_pos q];omega
   ·rw[if_neg q,if_neg q];omega
theorem Rc(a b:Nat):Arh (a:Int) (b:Int) 1=b-a:=by
 unfold Arh;have h1:(1:Int)>0:=by omega
 simp only[h1,if_true,Int.ediv_one];split<;>omega
theorem HL{sl:Apc}{n:Nat}{vl vu:Ao3}{lo hi:Option Int}{Q:Int×Int×Nat->Ao5->Prop}(hs:s.heap.IsSliceOf sl vl vu .none)(pl:IsPart vl lo)(pu:IsPart vu hi)
  (h:Q ((clip n 0 lo:Int),1,clip n n hi-clip n 0 lo) s):Aph (model prog w) A (Builtin.Slice.sliceApplied (.ref sl)<|pure (n:Int)) Q E s:=by
 obtain⟨os,Hb,Br,iR⟩:=id hs;unfold Builtin.Slice.sliceApplied Builtin.Slice.sliceFields;refine Ao2<|Ao2<|ApJ Hb iR (x:=vl) rfl (Ao2<|ApJ Hb iR (x:=vu) rfl (Ao2<|ApJ Hb iR (x:=.none) rfl (Ao4 ?_)));refine Ao2<|slicePart_none ?_;show Aph _ _ (if((1:Int)==0)=true then _ else _) _ _ s;rw[if_neg (by decide)];refine Ao2<|G5 pl<|Ao2<|G5 pu<|Ao2<|Ao4 ?_;show Aph _ _ (match Builtin.Slice.sliceAdjust lo hi 1 (n:Int) with |(lo,hi)=>pure (lo,(1:Int),Arh lo hi 1)) _ _ s;rw[NI];show Aph _ _ (pure ((clip n 0 lo:Int),(1:Int),Arh (clip n 0 lo:Int) (clip n n hi:Int) 1)) _ _ s;rw[Rc];exact Ao4 h
theorem XE(xs:Array Ao3)(a k:Nat):((List.range k).filterMap λ(k:Nat)=>xs[((a:Int)+(k:Int)*1).toNat]?).toArray=((xs.toList.drop a).take k).toArray:=by
 have e:(λ(k:Nat)=>xs[((a:Int)+(k:Int)*1).toNat]?)=(λx=>xs[x]?) ∘ λx=>a+x:=by
  funext k;have:((a:Int)+(k:Int)*1).toNat=a+k:=by omega
  simp only[this,Function.comp]
 rw[e,←List.filterMap_map,pick_run]
theorem GC{t sl:Apc}{items:Array Ao3}{vl vu:Ao3}{lo hi:Option Int}{Q:Ao3->Ao5->Prop}(ht:IsTup s.heap t items)(hs:s.heap.IsSliceOf sl vl vu .none)(pl:IsPart vl lo)(pu:IsPart vu hi)
  (h1:cut items.toList lo hi=items.toList->Q (.ref t) s)
  (h2:Q (.ref s.heap.objs.size) {s with heap:=s.heap.push {cls:=.type "tuple",data:=.seq (cut items.toList lo hi).toArray}})
  (Gb:items.size≤Aq9):Aph (model prog w) A (getItem (.ref t)<|.ref sl) Q E s:=by
 have ec:cut items.toList lo hi=(items.toList.drop<|clip items.size 0 lo).take (clip items.size items.size hi-clip items.size 0 lo):=by unfold Mine.cut;rw[Aq5]
 have hok:sizeOk (.seq (cut items.toList lo hi).toArray):=by show(cut items.toList lo hi).toArray.size≤Aq9;have:=Jk items.toList lo hi;rw[Aq5] at this;exact AqT (by simpa using this) Gb
 obtain⟨os,Hb,Br,iR⟩:=id hs;have hTs:s.TypeIs (.ref sl) "slice":=⟨os,Hb,Br⟩;unfold getItem
 try with_reducible refine ApA ?_
 first |refine Ao2 (Ao4 ?_)|skip
 refine Ao2 (wpAny_sequenceKey ht.typeIs (by decide) ?_);refine Ao2 (ApZ (name:=Ao1 "__getitem__") ht.typeIs PyProof.Rows.slot_tuple_getitem
  (Aqm PyProof.Rows.slot_tuple_getitem ht.typeIs PyProof.Rows.entry_tuple_getitem ?_<|PyProof.Rows.args_tuple_getitem _ _))
 show Aph _ _ (Builtin.Tuple.tupleItemsOf (.ref t)>>=_) _ _ s;refine Ao2<|tupleItemsOf_ ht ?_;refine Ao2<|wpAny_typeOf hTs ?_;rw[if_pos (by decide)];refine Ao2<|HL hs pl pu ?_;show Aph _ _ (if(((clip items.size 0 lo:Nat):Int)==0&&(1:Int)==1&&(clip items.size items.size hi-clip items.size 0 lo)==items.size)=true then _ else _) _ _ s;by_cases hw:(((clip items.size 0 lo:Nat):Int)==0&&(1:Int)==1&&(clip items.size items.size hi-clip items.size 0 lo)==items.size)=true
 ·rw[if_pos hw];simp only[Ap8,beq_iff_eq] at hw;obtain⟨⟨w1,_⟩,w2⟩:=hw;have w1:clip items.size 0 lo=0:=by omega
  have e:cut items.toList lo hi=items.toList:=by rw[ec,w2,w1,List.drop_zero,Ap5 (by simp)]
  have hex:Aph (model prog w) A.in1 (Builtin.Tuple.tupleIsExact<|.ref t) (λb s'=>b=true∧s'=s) (λ_ _=>False) s:=by unfold Builtin.Tuple.tupleIsExact;exact Ao2 (wpAny_typeOf ht.typeIs<|Ao4 ⟨by decide,rfl⟩)
  refine Ao2 (Apa hex (λb s' hb=>?_) λ_ _ q=>q.elim);obtain⟨rfl,rfl⟩:=hb;rw[if_pos rfl];exact Ao2 (AqR<|Ao4 ⟨_,rfl,Ao4<|h1 e⟩)
 ·rw[if_neg hw,XE items,←ec]
  first
   |exact Ao2 (m:=Ars _) (ApR (Ao4 ⟨_,rfl,Ao4 h2⟩) hok)
   |exact Ao2 (m:=Ars _) (ApR (Ao2 (Ao4 (Ao4 ⟨_,rfl,Ao4 h2⟩))) hok)
   |exact Ao2 (Ao2 (m:=Ars _) (ApR (Ao4 (Ao4 ⟨_,rfl,Ao4 h2⟩)) hok))
   |exact Ao2 (Ao2 (m:=Ars _) (ApR (Ao4 ⟨_,rfl,Ao4 h2⟩) hok))
end
end
section
variable{C:Cx}
section
variable{M:ArJ}{A:Apg}{E:Ao3->Ao5->Prop}{s:Ao5}
def Gs(v:Ao3):Sem Ao3:=do
 if v== .none then return .none
 if(←specialOf v "__index__").isNone then
  rule "bytes.slice.part-no-index";raiseError "TypeError" "slice indices must be integers or None or have an __index__ method"
 return Aq1 (←asIndex v)
theorem NU(v:Ao3):Builtin.Bytes.sliceParts v=(do
  let step ←Gs (←field v 2)
  if step==Aq1 0 then rule "bytes.slice.step-zero";raiseError "ValueError" "slice step cannot be zero"
  let start ←Gs (←field v 0)
  let stop ←Gs (←field v 1)
  return(start,stop,step)):=rfl
theorem F3{v:Ao3}{k:Option Int}{Q:Ao3->Ao5->Prop}(hv:IsPart v k)(h:Q (rawPart k) s):Aph M A (Gs v) Q E s:=by
 cases hv with
 |none=>exact Ao4 h
 |int i t=>unfold Gs;rw[if_neg (show¬((Value.int i t==Aqp)=true) from ApV)];refine Ao2 (wpAny_specialOf (T:="int") (typeIs_int s i t) int_index ?_);simp only[Option.isNone_some,ApY,if_false];exact Ao2 (wpAny_of_eq (a:=i) rfl (Ao4 h))
end
theorem ZH(b:Array UInt8)(lo hi:Option Int):Builtin.Bytes.sliced b (clip b.size 0 lo:Int) (clip b.size b.size hi:Int) 1=(cut b.toList lo hi).toArray:=by unfold Builtin.Bytes.sliced Mine.cut;simp only[sliceRange_one,pick_run,Aq5]
theorem NT(n:Nat)(lo hi:Option Int):sliceBounds lo hi none n=((clip n 0 lo:Int),(clip n n hi:Int),1):=by rw[←(DG n 0 (ArB _) lo).2,←(DG n n (Aqc _) hi).2];cases lo<;>cases hi<;>rfl
section
variable{prog:Ap3}{w:Ao7}{A:Apg}{E:Ao3->Ao5->Prop}{s:Ao5}
theorem GB{b:Array UInt8}{u:Tok}{sl:Apc}{vl vu:Ao3}{lo hi:Option Int}{Q:Ao3->Ao5->Prop}(hs:s.heap.IsSliceOf sl vl vu .none)(pl:IsPart vl lo)(pu:IsPart vu hi)
  (h1:cut b.toList lo hi=b.toList->Q (.bytes b u) s)
  (h2:Q (.bytes (cut b.toList lo hi).toArray s.toks) {s with toks:=s.toks+1})
  (Gb:b.size≤Aq9):Aph (model prog w) A (getItem (.bytes b u)<|.ref sl) Q E s:=by
 obtain⟨os,Hb,Br,iR⟩:=id hs;have hTs:s.TypeIs (.ref sl) "slice":=⟨os,Hb,Br⟩;unfold getItem
 try with_reducible refine ApA ?_
 first |refine Ao2 (Ao4 ?_)|skip
 refine Ao2 (ApZ (name:=Ao1 "__getitem__") (typeIs_bytes s b u) Are
  (Aqm Are (typeIs_bytes s b u) FB.entry_bytes_getitem ?_<|FB.args_bytes_getitem_2 _ _))
 show Aph _ _ (Builtin.Bytes.subscript? (.ref sl)>>=_) _ _ s;refine Ao2 ?_;unfold Builtin.Bytes.subscript?;refine Ao2<|wpAny_specialOf hTs slice_no_index ?_;simp only[Option.isNone_none,if_true];refine Ao4 ?_;show Aph _ _ (typeOf (.ref sl)>>=_) _ _ s;refine Ao2<|wpAny_typeOf hTs ?_;rw[if_neg (by decide)];rw[NU];refine Ao2<|Ao2<|ApJ Hb iR (x:=.none) rfl (Ao2<|F3 .none ?_);rw[if_neg (show¬((rawPart none==Aq1 0)=true) from ApV)];refine Ao2<|ApJ Hb iR (x:=vl) rfl (Ao2<|F3 pl ?_);refine Ao2<|ApJ Hb iR (x:=vu) rfl (Ao2<|F3 pu<|Ao4 ?_);refine Ao2<|wpAny_of_eq (sliceIndices_raw lo hi none b.size (by simp)) ?_;rw[NT];dsimp only;have e0:cut b.toList lo hi=(b.toList.drop<|clip b.size 0 lo).take (clip b.size b.size hi-clip b.size 0 lo):=by unfold Mine.cut;rw[Aq5]
 rw[ZH];by_cases hw:(((clip b.size 0 lo:Nat):Int)==0&&(1:Int)==1&&((clip b.size b.size hi:Nat):Int)==(b.size:Int)&& !b.isEmpty)=true
 ·rw[if_pos hw];simp only[Ap8,beq_iff_eq] at hw;obtain⟨⟨⟨w1,_⟩,w2⟩,_⟩:=hw;have w1:clip b.size 0 lo=0:=by omega
  have w2:clip b.size b.size hi=b.size:=by omega
  have e:cut b.toList lo hi=b.toList:=by rw[e0,w1,w2,List.drop_zero,Ap5 (by simp)]
  refine Ao2<|wpAny_typeOf (typeIs_bytes s b u) ?_;rw[if_pos (by decide)];exact Ao2 (AqR<|Ao4 ⟨_,rfl,Ao4<|h1 e⟩)
 ·rw[if_neg hw];have hl:(cut b.toList lo hi).toArray.size≤Aq9:=by
   have:=Jk b.toList lo hi;rw[Aq5] at this;exact AqT (by simpa using this) Gb
  exact Ao2 (wpAny_mkBytes (Ao4 ⟨_,rfl,Ao4 h2⟩) hl)
end
end
section
variable{C:Cx}
theorem Ri(n:Nat):(List.range n).map (λ(k:Nat)=>(((n:Int)-1)+(-1)*(k:Int)).toNat)=(List.range n).reverse:=by
 refine List.ext_getElem (by simp) λi h1 h2=>?_
 simp only[Ap2,Arl] at h1;simp only[List.getElem_map,List.getElem_range,List.getElem_reverse,Arl];omega
theorem KR(items:Array Ao3):slicePick items none none (some<|-1)=items.toList.reverse.toArray:=by
 have e:sliceBounds none none (some<|-1) items.size=((items.size:Int)-1, -1, -1):=rfl;have e2:sliceRange ((items.size:Int)-1) (-1) (-1)=(List.range items.size).reverse:=by
  rw[←Ri];unfold sliceRange;have h1:¬((-1:Int)>0):=by omega
  simp only[h1,if_false];by_cases h:items.size=0
  ·rw[h];simp
  ·have h2:((items.size:Int)-1)> -1:=by omega
   simp only[h2,if_true];have h3:((items.size:Int)-1- -1- -1-1)/ - -1=items.size:=by rw[show -(-1:Int)=1 from rfl,Int.ediv_one];omega
   rw[h3,ArS]
 unfold slicePick;rw[e];dsimp only;rw[e2,List.filterMap_reverse];have:=pick_run items 0 items.size;simp only[Nat.zero_add,List.map_id',List.drop_zero] at this;rw[this,Ap5 (by simp)]
theorem Iu{slice:Expr}(o i:Ao3):∃vs,subscripted slice false o i=PySem.operate vs (getItem o i):=by
 cases slice with
 |Slice a b c p=>cases c<;>exact⟨_,rfl⟩
 |_=>exact⟨_,rfl⟩
inductive F1(C:Cx)(X:CX)(n:Nat)(b:Bool)(sc:ApH):Cd->Option Expr->Prop
 |A4:F1 C X n b sc (Dz .A4) none
 |some {c e}:SE C X n b sc c e->F1 C X n b sc c (some e)
section
variable{X:CX}{n:Nat}{b:Bool}{sc:ApH}
theorem Sp.part(h:F1 C X n b sc c o)(f:CJ n b A)(I:Inv C W σ s)(e:A8 C A W sc E env):
  Sp C A σ W s (valueOrNone<|evalOpt o env) (λk ke=>c X E σ k ke) (RV C):=by
 cases h with
 |A4=>exact .pure (m:=λk ke=>Dz .A4 X E σ k ke) I (λ_ _ h=>h) VR.A4
 |some h=>exact h A σ W s E env f I e
end
section
variable{A:Apg}{σ:St}{W:Wd}{s:Ao5}
theorem Mt{α:Type}(p v:List α)(n:Nat):cut (p++v) (some<|(p.length:Int)+n) none=v.drop n:=by
 have hc:=(DG (p++v).length 0 (ArB _)<|some<|(p.length:Int)+n).2;have he:clip (p++v).length (p++v).length none=(p++v).length:=rfl;unfold Mine.cut;rw[he];generalize clip (p++v).length 0 (some<|(p.length:Int)+n)=c at hc;dsimp only at hc;rw[if_neg (by omega)] at hc;rw[Apd] at hc ⊢;rw[List.drop_append,Aql (by omega),ApC,Ap5 (by rw[List.length_drop];omega)];by_cases q:n≤v.length
 ·rw[show c-p.length=n from by omega]
 ·rw[Aql (by omega),Aql (by omega)]
theorem Mu{α:Type}(p v:List α)(n:Nat):cut (p++v) none (some<|(p.length:Int)+n)=p++v.take n:=by
 have hc:=(DG (p++v).length (p++v).length (Aqc _)<|some<|(p.length:Int)+n).2;have he:clip (p++v).length 0 none=0:=rfl;unfold Mine.cut;rw[he];generalize clip (p++v).length (p++v).length (some<|(p.length:Int)+n)=c at hc;dsimp only at hc;rw[if_neg (by omega)] at hc;rw[Apd] at hc;rw[List.drop_zero,Nat.sub_zero,List.take_append,Ap5 (by omega)];congr 1;by_cases q:n≤v.length
 ·rw[show c-p.length=n from by omega]
 ·rw[Ap5 (by omega),Ap5 (by omega)]
theorem Inv.cH(I:Inv C W σ s){l:List AV}{q:Nat}(hq:E0 W (some q))(v:AM C W s.heap l vs)(t:Nat):
  Inv C (W.more (s.heap.objs.size,s.heap.objs.size)) (σ.new (.list (some q) l none)) {s with heap:=s.heap.push {cls:=.type "list",data:=.seq (W.ls q++vs).toArray},toks:=t}∧
  Ext σ W s (σ.new (.list (some q) l none)) (W.more (s.heap.objs.size,s.heap.objs.size)) {s with heap:=s.heap.push {cls:=.type "list",data:=.seq (W.ls q++vs).toArray},toks:=t}:=by
 have g:(s.heap.push {cls:=.type "list",data:=.seq (W.ls q++vs).toArray}).get? s.heap.objs.size=some {cls:=.type "list",data:=.seq (W.ls q++vs).toArray}:=Apl _ rfl;refine I.make (s':={s with heap:=s.heap.push {cls:=.type "list",data:=.seq (W.ls q++vs).toArray},toks:=t}) (p:=(s.heap.objs.size,s.heap.objs.size)) (λ_ _ h=>Ao8 _ h) (Ax _) (Ax _) (λS=>?_) ⟨_,g,.EC rfl⟩ ⟨_,g,.EC rfl⟩ rfl rfl;obtain⟨c1,c2⟩:=Fz S hq;refine⟨rfl,vs,v.keep S.ρ S.τ S.q S.Ak,?_,c2,trivial,_,g,rfl,rfl⟩;rw[c1];simp only[Aq,Apj];exact⟨_,g,rfl,_,rfl⟩
structure UG(C:Cx)(A:Apg)(s:Ao5)(co:Ao3)(sl:Apc)(k:K AV)(σ:St)(W:Wd):Prop where
 ty:∃T id,s.TypeIs co T∧typeLookup (.type T) "__getitem__"=pure (some (.builtin id))
 go:∀ke:K AV,Aph (model C.prog C.w) A (getItem co<|.ref sl) (A7 C k σ W s<|RV C) (AG C ke σ W s) s
theorem UG.back{k:K AV}(n:Bx C W s σ σ1)(g:UG C A s co sl k σ1 W):UG C A s co sl k σ W:=
 ⟨g.ty,λke=>Apa (g.go ke) (λ_ _ q=>q.base n.ext) (λ_ _ q=>q.base n.ext)⟩
theorem m7{l:List UInt8}{t:Tok}(e:cut l.toArray.toList pa pb=l.toArray.toList):VR C W h (.B4<|cut l pa pb) (.bytes l.toArray t):=by have e:cut l pa pb=l:=e;rw[e];exact .B4
theorem ZK(I:Inv C W σ s){lo hi:AV}{sl:Apc}(ho:VR C W s.heap o co)(Sm:VR C W s.heap lo cl)(oI:VR C W s.heap hi ch)(hs:s.heap.IsSliceOf sl cl ch .none){k:K AV}(h:nK o lo hi σ k=true):
  UG C A s co sl k σ W:=by
 unfold nK at h;split at h
 ·cases ho with
  | @Ak tl vs a ht v=>
   obtain⟨pa,σ1,n1,ha,h⟩:=Fy I Sm h;obtain⟨pb,σ2,n2,hb,h⟩:=Fy n1.1 oI h;obtain⟨hf,h⟩:=Ac h;have hf:=A5 hf;have Wv:IsTup s.heap a vs.toArray:=ht.Ak;have hc:=v.cut pa pb;refine⟨⟨"tuple",_,Wv.typeIs,PySem.F.slot_tuple_getitem.lookup⟩,λke=>GC Wv hs ha hb (λe=>?_) ?_ ?_⟩
   ·exact Nn (n1.trans n2) (by rw[show(cut vs pa pb)=vs from by simpa using e];exact ht) hc h
   ·exact(IP (n1.trans n2) hc s.toks h).2
   ·have:=v.length;rw[Apt,ApF];omega
 ·cases ho with
  | @B4 tb tt=>
   obtain⟨pa,σ1,n1,ha,h⟩:=Fy I Sm h;obtain⟨pb,σ2,n2,hb,h⟩:=Fy n1.1 oI h;obtain⟨hf,h⟩:=Ac h;have hf:=A5 hf;refine⟨⟨"bytes",_,typeIs_bytes s _ _,FB.slot_bytes_getitem.lookup⟩,λke=>GB hs ha hb (λe=>?_) ?_ ?_⟩
   ·exact(n1.trans n2).post h (m7 e)
   ·exact(n1.trans n2).By (R:=RV C) h .B4
   ·rw[Apt,ApF];omega
 ·cases ho with
  |obj hj=>
   unfold tM at h;split at h
   ·rename_i l ol;obtain⟨pp,hp,_,vs,vl,il,_⟩:=I.obj _ _ ol;rw[hj] at hp;cases hp;simp only[Aq,ApC,Apj] at il;obtain⟨pa,σ1,n1,ha,h⟩:=Fy I Sm h;obtain⟨pb,σ2,n2,hb,h⟩:=Fy n1.1 oI h;obtain⟨hf,h⟩:=Ac h;have hf:=A5 hf;have hv:=vl.length;refine⟨⟨"list",_,il.typeIs,PySem.F.slot_list_getitem.lookup⟩,λke=>Art il hs ha hb .none (by simp) ?_ (by rw[Apt,ApF];omega)⟩;rw[Eb];exact(Ei (n1.trans n2) (vl.cut pa pb) s.toks h).2
   ·rename_i q l ol;obtain⟨pp,hp,ep,vs,vl,il,lp,_⟩:=I.obj _ _ ol;rw[hj] at hp;cases hp;simp only[Aq,Apj] at il;obtain⟨hf,h⟩:=Ac h;obtain⟨hf,hg⟩:=Ac hf;have hf:=A5 hf;have hq:(W.ls q).length≤1000000:=by
     unfold BF at hg;dsimp only at hg;split at hg
     ·rename_i y hy;have:=(I.Bi q _ lp).2 _ hy;have:=B1 hg;simp at *; omega
     ·cases hg
    have hv:=vl.length;have fit:(part W (some q)++vs).toArray.size≤Aq9:=by rw[Apt,ApF,Apd];show(W.ls q).length+vs.length≤_;omega
    obtain⟨lo',σ1,n1,vA,_,h⟩:=AN I Sm h;obtain⟨Zq,σ2,n2,u5,_,h⟩:=AN n1.1 oI h;have len:∀{x:Ap} {m:Nat} {i:Int},JG q x=some m->x.ev W.ρ=some i->i=((W.ls q).length:Int)+m:=by
     intro x m i hm hx;unfold JG at hm;split at hm
     ·rename_i a f hxt;split at hm
      ·rename_i hb;obtain⟨b1,hb⟩:=Ac hb;obtain⟨b2,b3⟩:=Ac hb;have b1:=beq_iff.mp b1;have b2:=(AR _ _).mp b2;have b3:=B1 b3;subst b1 b2;cases hm;obtain⟨y,hy,rfl⟩:=Ap.Bp.mp hx;rw[hxt] at hy;obtain⟨u,hu,rfl⟩:=IB hy;rw[show W.ρ[a]?=some (Api (W.ls a).length) from lp] at hu;cases hu;simp;omega
      ·cases hm
     ·cases hm
    unfold VA at h;split at h
    ·split at h
     ·rename_i m hm;cases vA with
      |int hx=>
       cases u5 with
       |A4=>have e:=len hm hx;refine⟨⟨"list",_,il.typeIs,PySem.F.slot_list_getitem.lookup⟩,λke=>Art il hs (.int _ _) .none .none (by simp) ?_ fit⟩;rw[Eb,e];have:=Mt (part W (some q)) vs m;rw[show(part W (some q)).length=(W.ls q).length from rfl] at this;simp only[] at this ⊢;rw[this];exact(Ei (n1.trans n2) (vl.drop m) s.toks h).2
     ·cases h
    ·split at h
     ·rename_i m hm;cases u5 with
      |int hx=>
       cases vA with
       |A4=>have e:=len hm hx;refine⟨⟨"list",_,il.typeIs,PySem.F.slot_list_getitem.lookup⟩,λke=>Art il hs .none (.int _ _) .none (by simp) ?_ fit⟩;rw[Eb,e];have:=Mu (part W (some q)) vs m;rw[show(part W (some q)).length=(W.ls q).length from rfl] at this;simp only[] at this ⊢;rw[this];obtain⟨J,X⟩:=n2.1.cH (q:=q) lp (vl.take m) s.toks;exact⟨_,_,_,h,(n1.trans n2).ext.trans X,J,.obj (St.Bw n2.1 _)⟩
     ·cases h
    ·cases h
   ·cases h
 ·cases h
end
end
section
variable{C:Cx}
section
variable{A:Apg}{σ:St}{W:Wd}{s:Ao5}
theorem bM(hv:VR C W s.heap v cv)(h:oX v=true):∃t,cv= .int (-1) t:=by
 unfold oX at h;split at h
 ·cases hv with
  |int hx=>
   split at h
   ·rename_i e;have:=Ap.FH e hx;have h:=(AR _ _).mp h;exact⟨_,by rw[this,h]⟩
   ·cases h
 ·cases h
theorem Wf(I:Inv C W σ s){lo hi st:AV}{sl:Apc}(ho:VR C W s.heap o co)(Sm:VR C W s.heap lo cl)(oI:VR C W s.heap hi ch)(hst:VR C W s.heap st ck)(hs:s.heap.IsSliceOf sl cl ch ck){k:K AV}(h:Sh o lo hi st σ k=true):
  UG C A s co sl k σ W:=by
 obtain⟨o',σ1,n1,Dx,_,h⟩:=AN I ho h;split at h
 ·cases hst with
  |A4=>exact(ZK n1.1 Dx Sm oI hs h).back n1
 ·split at h
  ·obtain⟨t,rfl⟩:=bM hst (by assumption);cases Sm with
   |A4=>cases oI with
    |A4=>
     unfold zK at h;split at h
     ·split at h
      ·rename_i l ol;cases Dx with
       |obj hj=>obtain⟨pp,hp,_,vs,vl,il,_⟩:=n1.1.obj _ _ ol;rw[hj] at hp;cases hp;simp only[Aq,ApC,Apj] at il;obtain⟨f,z⟩:=Ei n1 vl.rev s.toks h;rw[List.length_reverse,←vl.length] at f;refine⟨⟨"list",_,il.typeIs,PySem.F.slot_list_getitem.lookup⟩,λke=>Art il hs .none .none (.int _ _) (by simp) ?_ (by rw[Apt,ApF];omega)⟩;rw[KR];exact z
      ·cases h
     ·cases h
  ·cases h
end
section
variable{X:CX}{n:Nat}{b:Bool}{sc:ApH}
theorem SE.zQ{lo hi st:Option Expr}{p pos:Pos}(hx:SE C X n b sc x value)(ha:F1 C X n b sc ca lo)(hb:F1 C X n b sc cb hi)(hc:F1 C X n b sc cc st):
  SE C X n b sc (zR x ca cb cc) (.Subscript value (.Slice lo hi st p) pos):=λA σ W s E env f I e=>by
 rw[arm_eval_Subscript];refine Sp.bind (m:=λk ke=>x X E σ k ke) (g:=λo σ k ke=>ca X E σ (λa σ=>cb X E σ (λb σ=>cc X E σ (λc σ=>Sh o a b c σ k) ke) ke) ke) (hx A σ W s E env f I e) λo co σ1 W1 s1 X1 I1 r1=>?_
 refine Sp.bind (m:=λ(k:K (AV×AV×AV)) ke=>ca X E σ1 (λa σ=>cb X E σ (λb σ=>cc X E σ (λc σ=>k (a,b,c) σ) ke) ke) ke) (g:=λq σ k ke=>Sh o q.1 q.2.1 q.2.2 σ k)
  (R:=λW h q i=>∃sl vl vu vk,i= .ref sl∧h.IsSliceOf sl vl vu vk∧VR C W h q.1 vl∧VR C W h q.2.1 vu∧VR C W h q.2.2 vk) (Sp.holding ?_) λq i σ2 W2 s2 X2 I2 r2=>?_
 ·rw[arm_eval_Slice];refine Sp.bind (m:=λk ke=>ca X E σ1 k ke) (g:=λa σ (k:K (AV×AV×AV)) ke=>cb X E σ (λb σ=>cc X E σ (λc σ=>k (a,b,c) σ) ke) ke) (Sp.part ha f I1<|e.up X1.up) λa va σ2 W2 s2 X2 I2 r2=>?_
  refine Sp.bind (m:=λk ke=>cb X E σ2 k ke) (g:=λb σ (k:K (AV×AV×AV)) ke=>cc X E σ (λc σ=>k (a,b,c) σ) ke) (Sp.holding<|Sp.part hb f I2<|e.up (X1.trans X2).up) λb' vb σ3 W3 s3 X3 I3 r3=>?_
  refine Sp.bind (m:=λk ke=>cc X E σ3 k ke) (g:=λc σ (k:K (AV×AV×AV)) ke=>k (a,b',c) σ) (Sp.holding<|Sp.part hc f I3<|e.up ((X1.trans X2).trans X3).up) λc vc σ4 W4 s4 X4 I4 r4=>?_
  intro k ke h;obtain⟨J,Y⟩:=I4.push {cls:=.type "slice",data:=.fields #[va,vb,vc]} s4.toks;have ra:=J.vr (.refl _ _ _) (I4.vr Y (I3.vr X4 (I2.vr X3 r2)));refine ApR ⟨(a,b',c),σ4,W4,h,Y,J,s4.heap.objs.size,va,vb,vc,rfl,Heap.IsSliceOf.new ..,ra,I4.vr Y (I3.vr X4 r3),I4.vr Y r4⟩ (by size_fits)
 ·obtain⟨sl,vl,vu,vk,rfl,hs,hl,hu,hk⟩:=r2;refine Sp.standAt λk ke h=>?_
  obtain⟨⟨T,id,hT,ht⟩,go⟩:=Wf (A:=A) I2 (I1.vr X2 r1) hl hu hk hs h;obtain⟨vs,hv⟩:=Iu (slice:=.Slice lo hi st p) co (.ref sl);exact PS hT ht hv (go ke)
end
end
section
open Builtin Builtin.ObjectAttr
def ET:List Ao3->Bool
 | .ref _::r=>ET r | [.type a,.type b,.type c]=>a=="Exception"&&(b=="BaseException"&&c=="object") |_=>false
structure DA(K:AqI)(Cl:Apc)(nm:Str):Prop where
 hd:hasDictIn K Cl=true
 free:Ar8 K (.ref Cl) nm=some none
 ga:Ar8 K (.ref Cl) "__getattribute__"=some (some (.builtin "BaseException.__getattribute__"))
 hook:Ar8 K (.ref Cl) "__getattr__"=some none
 set:Ar8 K (.ref Cl) "__setattr__"=some (some (.builtin "object.__setattr__"))
 mro:(clsIn K Cl).any (λcd=>ET cd.mro)=true
 YU:takerIn K Cl nm=some none
theorem FT(self:Ao3):∀{l:List Ao3},ET l=true->refuseLoop self "__setattr__" l=pure ()
 | .ref c::r,e=>by rw[refuseLoop_ref];exact FT self e
 | [.type a,.type b,.type c],e=>by simp only[ET,Ap8,beq_iff_eq] at e;obtain⟨rfl,rfl,rfl⟩:=e;exact PySem.F.store_Exception.passes self
theorem Jr:∀{l:List Ao3},ET l=true->l.contains (.type "object")=true∧l.contains (.type "BaseException")=true
 | .ref c::r,e=>by obtain⟨a,b⟩:=Jr (l:=r) e;rw[Ara,Ara,a,b];exact⟨Bool.or_true _,Bool.or_true _⟩
 | [.type a,.type b,.type c],e=>by simp only[ET,Ap8,beq_iff_eq] at e;obtain⟨rfl,rfl,rfl⟩:=e;exact⟨by simp,by simp⟩
theorem K7:∀{l:List Ao3},ET l=true->l.isEmpty=false
 | .ref c::r,e=>rfl | [.type a,.type b,.type c],e=>rfl
theorem NO:builtinKind "BaseException.__getattribute__"=some .slot:=by decide +kernel
theorem Tv:splitId "BaseException.__getattribute__"=some ("BaseException","__getattribute__"):=by decide +kernel
theorem Tu:plainId "BaseException.__getattribute__"=true:=by decide +kernel
theorem Tt:entryFor table "BaseException.__getattribute__"=some Builtin.«object.__getattribute__» :=
 entryFor_alias (id':="object.__getattribute__") (by kernel_rfl) (by first |rfl |decide +kernel |(unfold String.splitOn;simp +decide [String.splitOnAux])) (by decide +kernel) (by kernel_rfl)
theorem UU(a b:Ao3):argsOk "BaseException.__getattribute__" ⟨[a,b],[]⟩:=by unfold argsOk;kernel_rfl
theorem UW(self:Ao3):bindSpecial (.builtin "BaseException.__getattribute__") self=pure (.builtin "BaseException.__getattribute__",[self]):=by
 have hop:withoutEnding? "BaseException.__getattribute__" "#opaque"=none:=by decide +kernel
 have oD:withoutEnding? "BaseException.__getattribute__" "#data"=none:=by decide +kernel
 simp only[bindSpecial,typeOf,builtinType,hop,oD,NO];rfl
section
variable{prog:Ap3}{w:Ao7}{A:Apg}{E:Ao3->Ao5->Prop}{s:Ao5}{K:AqI}{x Cl:Apc}{ox:Obj}{od:Option Obj}{nm:Str}
theorem Js{M:ArJ}{h:Apn}(D:DA K Cl nm)(X:K.In h)(I:InstAt h x ox Cl od):Aq6 M h (ArY (.ref x) (.type "BaseException")) true∧Aq6 M h (ArY (.ref x) (.type "object")) true:=by
 obtain⟨cd,hc,hm⟩:=any_some D.mro;obtain⟨a,b⟩:=Jr hm;exact⟨I.type.andThen<|looks_mroIn X (by unfold mroIn;rw[hc,Option.bind_some,if_neg (by rw[K7 hm];decide),b]),
  I.type.andThen (looks_mroIn X (by unfold mroIn;rw[hc,Option.bind_some,if_neg (by rw[K7 hm];decide),a]))⟩
theorem Z6{v:Ao3}{expr:Bool}{Q:Ao3->Ao5->Prop}(D:DA K Cl nm)(X:K.In s.heap)(I:InstAt s.heap x ox Cl od)(hf:findObj K Cl od nm=some (.value v))(hh:handedIn v=true)
  (h:Q v {s with toks:=s.toks+1}):Aph (model prog w) A (getAttr (.ref x) nm expr) Q E s:=by
 obtain⟨hh',g,d,t,os⟩:=s;have L0:=I.type (M:=model prog w);have L1:=looks_findIn (M:=model prog w) X D.ga;have LH:Aq6 (model prog w) hh' (hookBefore (.ref Cl)) none:=looks_hook X D.hook;have LF:=looks_find (M:=model prog w) X I hf;have LB:=(Js (M:=model prog w) D X I).1;unfold getAttr getAttrBy;refine Ao2 (wpAny_mkText (ApA (Ao2 (L0.at (Ao2 (L1.at ?_))))));show Aph _ _ (getAttrByItsOwn _ _ _ _ _ _) _ _ _;unfold getAttrByItsOwn;refine Ao2 (LH.at (Ao2 ?_));refine ArO (ApA ?_);unfold callGetattribute;rw[show(expr&&onTheHeap (.builtin "BaseException.__getattribute__"))=false from by cases expr<;>rfl,if_neg (by decide)];unfold boundAndCalled;rw[UW];refine Ao2 (Ao4 ?_);show Aph _ _ (call (.builtin "BaseException.__getattribute__") [.ref x,.str nm t]) _ _ _;refine wpAny_call (codeAny_call_builtin Tu Tt ?_);refine @check_slot (model prog w) _ _ ⟨hh',g,d,t+1,os⟩ "BaseException.__getattribute__" "BaseException" "__getattribute__" (.ref x) [.str nm t] [] _ NO Tv LB (UU (.ref x) (.str nm t)) ?_;unfold Builtin.«object.__getattribute__»;refine Ao2 (Ao4 (Ao2 (Ao4 (Ao2 (L0.at (Ao2 (LF.at ?_)))))));refine Ao4 ?_;show Aph _ _ (handedOut v) _ _ _;rw[handedOut_of hh];exact Ao4 h
theorem Z7{name:Str}{tk:Tok}{v:Ao3}{R:Aru->Ao5->Prop}(D:DA K Cl name)(X:K.In s.heap)(I:InstAt s.heap x ox Cl od)
  (h:∀b,Aph (model prog w) A.in1 (storeInOwnDict (.ref x) (.ref Cl) (.str name tk) name v b)
   (λfin s'=>match fin with | .done f=>R (.ok f) s' | .again c'=>c'.quiet=true∧ApG (model prog w) A c' R s') (λe s'=>R (.error e) s') s):
  ApG (model prog w) A (.call (.builtin "object.__setattr__") ⟨[.ref x,.str name tk,v],[]⟩) R s:=by
 have SF:=PySem.F.store_object;obtain⟨cd,hc,hm⟩:=any_some D.mro;refine codeAny_call_builtin SF.slot.plain SF.entry (@check_slot (model prog w) _ _ s "object.__setattr__" "object" "__setattr__" (.ref x) [.str name tk,v] [] _ SF.kind SF.split (Js D X I).2 (SF.args (.ref x) (.str name tk) v) ?_);obtain⟨attr,ha,hr⟩:=Option.bind_eq_some_iff.mp D.YU;have Lm:Aq6 (model prog w) s.heap (mroOf (.ref Cl)) cd.mro:=(looks_clsIn X hc).andThen .now;have L3:Aq6 (model prog w) s.heap (storeTaker? attr) none:=by
  cases attr with
  |none=>exact .now
  |some a=>
   obtain⟨b,hb,hr⟩:=Aq7.mp hr;refine(looks_takesIn X hb).andThen ?_;cases b with
   |false=>exact .now
   |true=>cases hr
 rw[osa_eq,refuse_eq];refine Ao2<|Ao2<|I.type.here<|Ao2<|Lm.here ?_;rw[FT _ hm];refine Ao4<|Ao2<|I.type.here<|Ao2<|(looks_findIn X ha).here<|Ao2<|L3.here ?_;exact h _
theorem Sb{name:Str}{v:Ao3}{Q:Unit->Ao5->Prop}(D:DA K Cl name)(X:K.In s.heap)(I:InstAt s.heap x ox Cl od)
  (h:∀b,Aph (model prog w) A.in1 (storeInOwnDict (.ref x) (.ref Cl) (.str name s.toks) name v b)
   (λfin s'=>match fin with | .done (.ret _)=>Q () s' | .done _=>False | .again c'=>False) E {s with toks:=s.toks+1}):
  Aph (model prog w) A (setAttr (.ref x) name v) Q E s:=by
 refine set_plain X I D.set (Z7 (s:={s with toks:=s.toks+1}) D X I λb=>?_);refine Apa (h b) (λfin s' q=>?_) λ_ _ q=>q
 rcases fin with(_ |_ |_ |_)|_<;>first |exact q |exact q.elim
theorem TH{d:Data}{sl:Array (Option Ao3)}{name:Str}{v:Ao3}{Q:Unit->Ao5->Prop}(hd:∀cd,d≠ .cls cd)(JA:(⟨.ref Cl,none,d,sl⟩:Obj).isFreed=false)(D:DA K Cl name)(X:K.In s.heap)(ho:s.heap.get? x=some ⟨.ref Cl,none,d,sl⟩)
  (h:∀h' n,h'.get? x=some ⟨.ref Cl,some s.heap.objs.size,d,sl⟩->h'.get? s.heap.objs.size=some ⟨.type "dict",none,.dict #[⟨Apv w.params name,.str name (s.toks+1),v⟩] n,#[]⟩->(∀b o,b≠x->s.heap.get? b=some o->h'.get? b=some o)->Q () {s with heap:=h',toks:=s.toks+2}):
  Aph (model prog w) A (setAttr (.ref x) name v) Q E s:=by
 have I:InstAt s.heap x ⟨.ref Cl,none,d,sl⟩ Cl none:=⟨ho,rfl,by cases d<;>first |rfl |exact absurd rfl (hd _),trivial⟩;refine Sb D X I λb=>?_
 obtain⟨cd,hc,Il⟩:=any_some (show(clsIn K Cl).any (·.hasDict)=true from D.hd);obtain⟨hh,g,dr,t,os⟩:=s;have LC:=looks_clsIn (M:=model prog w) X hc;unfold storeInOwnDict;refine Ao2 (Ao4 (Ao2 (Ao2 (ArV (s:=⟨hh,g,dr,t+1,os⟩) ho (Ao2 (LC.at ?_))))));rw[Il,if_neg (by decide)];dsimp only;rw[if_neg (by simp[typeHasDict])];have hx₁:(hh.push {cls:=.type "dict",data:=.dict #[]}).get? x=some ⟨.ref Cl,none,d,sl⟩:=Ao8 _ ho;have hxs:x≠hh.objs.size:=AqU (Aqe ho);have go:Aph (model prog w) A.in1 (do
   let d_1 ←alloc {cls:=Aq3 "dict",data:=Data.dict #[]}
   update x λo=>{cls:=o.cls,dict:=some d_1,data:=o.data,slots:=o.slots}
   dictMade (Aqu Cl) x d_1) (λr s'=>Aph (model prog w) A.in1
      (match r with
      |some d=>storeInDict d (Value.str name t) name v
      |none=>noDictFor (Aqu x) (Aqu Cl) name b)
      (λfin s'=>match fin with | .done (.ret v)=>Q () s' | .done f=>False | .again c'=>False) E s') E ⟨hh,g,dr,t+1,os⟩:=by
  refine Ao2<|wpAny_alloc ?_;refine Ao2<|wpAny_update (s:=⟨_,g,dr,t+1,os⟩) hx₁ ?_;have hf₁:(⟨.ref Cl,some hh.objs.size,d,sl⟩:Obj).isFreed=false:=by cases d<;>first |rfl |exact JA
  have uY:((hh.push {cls:=.type "dict",data:=.dict #[]}).update x λo=>{cls:=o.cls,dict:=some hh.objs.size,data:=o.data,slots:=o.slots}).get? hh.objs.size=some ⟨.type "dict",none,.dict ([]:List ApE).toArray 0,#[]⟩:=
   (Apw _ _ hxs).trans (Apl _ rfl)
  have hgx:((hh.push {cls:=.type "dict",data:=.dict #[]}).update x λo=>{cls:=o.cls,dict:=some hh.objs.size,data:=o.data,slots:=o.slots}).get? x=some ⟨.ref Cl,some hh.objs.size,d,sl⟩:=Apm _ hx₁ hf₁;refine Ao4 (a:=some hh.objs.size) ?_;dsimp only;unfold storeInDict newKeyGuard;refine Ao2 (Ao4 (Ao2 (JR uY (λe he=>nomatch he) ?_)));obtain⟨_,VV,n',gd⟩:=Ns.put uY (λe he=>nomatch he) (λy=>rfl) name (Apv w.params name) (t+1) v;have hf₂:(ApX name (Apv w.params name) (.str name (t+1)) v ⟨.type "dict",none,.dict ([]:List ApE).toArray 0,#[]⟩).isFreed=false:=by rw[Bl];rfl
  have gd:=Apm _ uY hf₂;rw[Bl] at gd;refine Ao2<|wpAny_lookBehind gd (pastItsLine_dict (by simp[putL,ApF])) ?_;refine Ao4 (h _ _ ?_ gd λb o hb e=>?_)
  ·exact(Apw _ _<|ArQ hxs).trans hgx
  ·rw[Apw _ _ (AqV<|Aqe e),Apw _ _<|ArQ hb];exact Ao8 _ e
 cases d<;>first |exact go |exact absurd rfl (hd _)
theorem V0{d:Data}{sl Cg:Array (Option Ao3)}{dx:Apc}{es:List ApE}{n:Nat}{name:Str}{v:Ao3}{Q:Unit->Ao5->Prop}(hd:∀cd,d≠ .cls cd)(D:DA K Cl name)(X:K.In s.heap)(ho:s.heap.get? x=some ⟨.ref Cl,some dx,d,sl⟩)
  (aR:s.heap.get? dx=some ⟨.type "dict",none,.dict es.toArray n,Cg⟩)(hk:∀e∈es,∃n t,e.key= .str n t)(hz:es.length≤1000)
  (h:Q () {s with heap:=s.heap.update dx (ApX name (Apv w.params name) (.str name<|s.toks+1) v),toks:=s.toks+2}):
  Aph (model prog w) A (setAttr (.ref x) name v) Q E s:=by
 have I:InstAt s.heap x ⟨.ref Cl,some dx,d,sl⟩ Cl (some ⟨.type "dict",none,.dict es.toArray n,Cg⟩):=⟨ho,rfl,by cases d<;>first |rfl |exact absurd rfl (hd _),aR⟩;refine Sb D X I λb=>?_
 obtain⟨cd,hc,Il⟩:=any_some (show(clsIn K Cl).any (·.hasDict)=true from D.hd);obtain⟨hh,g,dr,t,os⟩:=s;have LC:=looks_clsIn (M:=model prog w) X hc;unfold storeInOwnDict;refine Ao2 (Ao4 (Ao2 (Ao2 (ArV (s:=⟨hh,g,dr,t+1,os⟩) ho (Ao2 (LC.at ?_))))));rw[Il,if_neg (by decide)];dsimp only;refine Ao4 (a:=some dx) ?_;dsimp only;unfold storeInDict newKeyGuard;refine Ao2 (Ao4 (Ao2 (JR (s:=⟨hh,g,dr,t+1,os⟩) aR hk ?_)));have hf₂:(ApX name (Apv w.params name) (.str name (t+1)) v ⟨.type "dict",none,.dict es.toArray n,Cg⟩).isFreed=false:=by rw[Bl];rfl
 have gd:=Apm _ aR hf₂;rw[Bl] at gd;have bD:=DM name (Apv w.params name) (t+1) v es;refine Ao2<|wpAny_lookBehind gd (pastItsLine_dict (by rw[Apt,bD,ApF];split<;>omega)) ?_;exact Ao4 h
end
end
section
variable{C:Cx}
structure Hc(K:AqI)(Cl:Apc)(nm:Str):Prop where
 get:plainGet K Cl nm=true
 hd:hasDictIn K Cl=true
 free:Ar8 K (.ref Cl) nm=some none
 set:Ar8 K (.ref Cl) "__setattr__"=some (some (.builtin "object.__setattr__"))
 over:plainOver K Cl=true
 YU:takerIn K Cl nm=some none
structure MethAt(K:AqI)(Cl f:Apc)(nm:Str):Prop where
 get:plainGet K Cl nm=true
 hd:hasDictIn K Cl=true
 at_:Ar8 K (.ref Cl) nm=some (some<|.ref f)
 fn:typeIn K (.ref f)=some (.type "function")
 gf:specialIn K (.ref f) "__get__"=some (some (.builtin "function.__get__"))
 tk:takesIn K (.ref f)=some false
 cp:copiedNames.contains nm=false
structure Eo(C:Cx)(T:Tab):Prop where
 FR:∀Cl x nm,T.attr Cl x=some .FR->C.nm[x]?=some nm->∃K:AqI,K.In C.h1∧DA K Cl nm
 FI:∀Cl x nm f,T.attr Cl x=some (.FI f)->C.nm[x]?=some nm->∃K:AqI,K.In C.h1∧MethAt K Cl f nm
 data:∀Cl x nm,T.attr Cl x=some .data->C.nm[x]?=some nm->∃K:AqI,K.In C.h1∧Hc K Cl nm
theorem H8{es:Array ApE}{n:Nat}{sl:Array (Option Ao3)}{nm:Str}(hk:StrKeys es)(h:Aro es nm=none):lookIn nm ⟨.type "dict",none,.dict es n,sl⟩=some none:=by
 unfold Aro findBy at h;unfold lookIn;dsimp only;obtain⟨l⟩:=es;simp only[List.find?_toArray] at h
 revert h
 cases q:List.find? (λe=>e.key.isStr nm) l with
 |some e=>intro h;simp at h
 |none=>intro _;dsimp only;rw[if_neg];intro hr;obtain⟨e,he,hq⟩:=Arz.mp hr;obtain⟨m,t,hm⟩:=hk e (by simpa using he);unfold DictEntry.refKey at hq;rw[hm] at hq;cases hq
theorem H7{es:Array ApE}{n:Nat}{sl:Array (Option Ao3)}{nm:Str}{cv:Ao3}(h:Aro es nm=some cv):lookIn nm ⟨.type "dict",none,.dict es n,sl⟩=some (some cv):=by
 unfold Aro findBy at h;unfold lookIn;dsimp only;obtain⟨l⟩:=es;simp only[List.find?_toArray] at h
 revert h
 cases List.find? (λe=>e.key.isStr nm) l with
 |none=>intro h;simp at h
 |some e=>intro h;simpa using h
theorem Eh{h:Apn}{p:Apc×Apc}{Cl:Apc}{d:Data}{sl:Array (Option Ao3)}(hd:∀cd,d≠ .cls cd)(ho:h.get? p.1=some ⟨.ref Cl,some p.2,d,sl⟩){es n Cg}(Aex:h.get? p.2=some ⟨.type "dict",none,.dict es n,Cg⟩):
  InstAt h p.1 ⟨.ref Cl,some p.2,d,sl⟩ Cl (some ⟨.type "dict",none,.dict es n,Cg⟩):=⟨ho,rfl,by cases d<;>first |rfl |exact absurd rfl (hd _),Aex⟩
section
variable{A:Apg}{σ:St}{W:Wd}{s:Ao5}{T:Tab}
theorem Wh{K:AqI}{Cl:Apc}{nm:Str}(D:Hc K Cl nm)(hK:K.In s.heap){ox:Obj}{a:Apc}{es n sl}{cv:Ao3}(I:InstAt s.heap a ox Cl (some ⟨.type "dict",none,.dict es n,sl⟩))(hf:Aro es nm=some cv)(hh:handedIn cv=true)
  {expr:Bool}{Q:Ao3->Ao5->Prop}{E:Ao3->Ao5->Prop}(h:Q cv {s with toks:=s.toks+1}):Aph (model C.prog C.w) A (getAttr (.ref a) nm expr) Q E s:=
 get_value hK I (plainGet_of D.get).1 (findObj_own D.hd D.free rfl (H7 hf)) hh h
theorem Le{n:Nat}:∀{l:List AV} {j:Nat} {v:AV},LR true (λv _ ih=>both (Om n v) ih) l=true->l[j]?=some v->Om n v=true
 |a::l,0,v,h,e=>by cases e;exact(Ac h).1
 |a::l,j+1,v,h,e=>Le (l:=l) (Ac h).2 (by simpa using e)
theorem Oo(I:Inv C W σ s)(hv:VR C W s.heap v cv)(hs:JP v)(h:iQ v=true):handedIn cv=true:=by
 cases hv with
 |Au=>cases cv<;>first |rfl |cases h
 |any=>cases h
 |sel a b c=>exact absurd rfl (hs _ _)
 |ED x1 x2 a b=>obtain⟨_,_,u,r,e⟩:=a;rw[e] at b;cases b;rfl
 |_=>rfl
theorem MI(I:Inv C W σ s):∀(n:Nat) {v:AV} {cv:Ao3},VR C W s.heap v cv->Om n v=true->handedIn cv=true
 |0,v,cv,hv,h=>by cases h
 |n+1,v,cv,hv,h=>by
  cases hv with
  |sel a b c=>exact MI I n c (Le (n:=n) h b)
  |A4=>rfl |bool=>rfl |int _=>rfl |str _=>rfl |B4=>rfl |Ak _ _=>rfl |obj _=>rfl |Au=>exact Oo I .Au (λ_ _ e=>nomatch e) h
  |ED x1 x2 a b=>exact Oo I (.ED x1 x2 a b) (λ_ _ e=>nomatch e) h
  |any=>cases h
theorem EJ.noName(O:Ok C){l:List (Nm×AV)}(N:EJ C W h l m){x:Nm}{nm:Str}(hx:C.nm[x]?=some nm)(e:A2 l x=none):m nm=none:=by
 cases q2:m nm with
 |none=>rfl |some cv=>obtain⟨y,v,a1,a2⟩:=N.2 nm cv q2;rw[O.inj a1 hx,e] at a2;cases a2
theorem Inv.dead(I:Inv C W σ s)(o:Obj)(hf:o.isFreed=false)(t:Nat):
  Inv C (W.more (s.heap.objs.size,s.heap.objs.size)) (σ.new .dead) {s with heap:=s.heap.push o,toks:=t}∧Ext σ W s (σ.new .dead) (W.more (s.heap.objs.size,s.heap.objs.size)) {s with heap:=s.heap.push o,toks:=t}:=by
 have g:(s.heap.push o).get? s.heap.objs.size=some o:=Apl _ hf;exact I.make (s':={s with heap:=s.heap.push o,toks:=t}) (p:=(s.heap.objs.size,s.heap.objs.size)) (λ_ _ h=>Ao8 _ h) (Ax _) (Ax _) (λS=>trivial) ⟨_,g,trivial⟩ ⟨_,g,trivial⟩ rfl rfl
theorem Sp.Wb(O:Ok C)(AK:Eo C T)(I:Inv C W σ s){x:Nm}{nm:Str}(hx:C.nm[x]?=some nm)(ho:VR C W s.heap o co):Sp C A σ W s (getAttr co nm true) (λk _=>Wb T o x σ k) (RV C):=λk ke h=>by
 obtain⟨o',σ1,n1,Dx,_,h⟩:=AN I ho h;have fin:∀{Cl:Apc} {l:List (Nm×AV)} {p:Apc×Apc} {d:Data} {sl},(∀cd,d≠ .cls cd)->T.attr Cl x=some .data->s.heap.get? p.1=some ⟨.ref Cl,some p.2,d,sl⟩->Zj C W s.heap p.2 l->EW l x σ1 k=true->
   Aph (model C.prog C.w) A (getAttr (.ref p.1) nm true) (A7 C k σ W s<|RV C) (AG C ke σ W s) s:=by
  intro Cl l p d sl hd ht hp hdc hg;obtain⟨es,n,Cg,he,hk,hz,hN⟩:=hdc;unfold EW at hg;split at hg
  ·rename_i v hv;obtain⟨hh,hg⟩:=Ac hg;obtain⟨nm',cv,a1,a2,a3⟩:=hN.1 x v hv;rw[hx] at a1;cases a1;obtain⟨K,hK,D⟩:=AK.data _ _ _ ht hx;exact Wh D (λa o e=>I.base a o (hK a o e)) (Eh hd hp he) a2 (MI I 4 a3 hh) (n1.By hg a3)
  ·cases hg
 split at h
 ·cases Dx with
  | @obj i0 p0 hj=>
   split at h
   ·rename_i Cl l ol;obtain⟨p,hp,⟨sl,e1⟩,e2⟩:=n1.1.obj _ _ ol;rw[hj] at hp;cases hp;unfold iK at h;split at h
    ·rename_i ht;exact fin (d:=.plain) (λ_ e=>nomatch e) ht e1 e2 h
    ·rename_i f ht;split at h
     ·rename_i hn;obtain⟨es,n,Cg,he,hk,hz,hN⟩:=e2;obtain⟨K,hK,D⟩:=AK.FI _ _ _ _ ht hx;have n8:K.In s.heap:=λa o e=>I.base a o (hK a o e)
      have IA:=Eh (d:=.plain) (λ_ e=>nomatch e) e1 he;obtain⟨J,X⟩:=n1.1.dead (methodObj (.ref f)<|.ref p0.1) rfl (s.toks+1);refine get_bind n8 IA (plainGet_of D.get).1 (findObj_fn D.hd D.at_ D.gf D.tk D.cp<|H8 hk<|hN.noName O hx hn) (plainGet_of D.get).2<|wpAny_call<|fn_get (s:={s with toks:=s.toks+1}) n8 D.fn<|handed_on rfl ?_;exact⟨.obj σ1.n,_,_,h,n1.ext.trans X,J,.obj<|St.Bw n1.1 _⟩
     ·cases h
    ·cases h
   ·rename_i Cl d ol;obtain⟨p,hp,ep,_,dd,fs,sl,Kw,e1⟩:=n1.1.obj _ _ ol;rw[hj] at hp;cases hp;split at h
    ·rename_i l ht od;obtain⟨q,hq,_,hdc⟩:=n1.1.obj _ _ od;obtain⟨q',Ws,rfl⟩:=Kw;rw[hq] at Ws;cases Ws;obtain⟨es,n,Cg,he,hk,hz,hN⟩:=hdc;unfold EW at h;split at h
     ·rename_i v hv;obtain⟨hh,h⟩:=Ac h;obtain⟨nm',cv,a1,a2,a3⟩:=hN.1 x v hv;rw[hx] at a1;cases a1;obtain⟨K,hK,D⟩:=AK.FR _ _ _ ht hx;exact Z6 D (λa o e=>I.base a o (hK a o e)) (Eh (p:=(p0.1,q.1)) (d:=.fields fs) (λ_ e=>nomatch e) e1 he) (findObj_own D.hd D.free rfl (H7 a2)) (MI I 4 a3 hh) (n1.By h a3)
     ·cases h
    ·cases h
   ·cases h
 ·cases h
end
end
section
variable{C:Cx}
def GS:Expr->Bool
 | .Call (.Name id _) _ _ _=>id != "super" |_=>true
theorem Jb{A:Apg}{M:ArJ}{E:Ao3->Ao5->Prop}{s:Ao5}(h:GS o=true){attr:Str}{env:Env}{whole:Sem Ao3}{Q:Ao3->Ao5->Prop}(q:Aph M A whole Q E s):Aph M A (attributeBase o attr env whole) Q E s:=by
 unfold attributeBase;split
 ·rename_i id p pos;have h:(id != ("super":Str))=true:=h;rw[h];simp only[Bool.true_or,if_true];exact q
 ·exact q
section
variable{X:CX}{n:Nat}{b:Bool}{sc:ApH}
theorem SE.attr(O:Ok C)(AK:Eo C X.T){y:Nm}{nm:Str}{pos}(hy:C.nm[y]?=some nm)(hn:GS value=true)(hx:SE C X n b sc x value):SE C X n b sc (eU x y) (.Attribute value nm pos):=λA σ W s E env f I e=>by
 rw[arm_eval_Attribute];refine Sp.bind (m:=λk ke=>x X E σ k ke) (g:=λo σ k ke=>Mine.Wb X.T o y σ k) (λk ke h=>Jb hn (hx A σ W s E env f I e k ke h)) λa ca σ1 W1 s1 X1 I1 r1=>?_
 refine Sp.standAt λk ke h=>?_
 refine Ao2<|ApA (Apa (Sp.Wb O AK I1 hy r1 k ke h) (λr s2 q=>?_) λ_ _ q=>q);exact Ao2 (wpAny_letTemporaryGo<|Ao4 q)
end
end
section
variable{C:Cx}
section
variable{prog:Ap3}{w:Ao7}{A:Apg}{E:Ao3->Ao5->Prop}{s:Ao5}{K:AqI}{x Cl:Apc}
theorem cV{ox od od':Obj}{dx:Apc}{name:Str}{tk:Tok}{v:Ao3}{es:List ApE}{n:Nat}{R:Aru->Ao5->Prop}(X:K.In s.heap)(D:Hc K Cl name)
  (I:InstAt s.heap x ox Cl (some od))(hd:ox.dict=some dx)(aR:s.heap.get? dx=some od)(hl:(lookIn name od).isSome=true)
  (e:ApX name (Apv w.params name) (.str name s.toks) v od=od')(e':od'.data= .dict es.toArray n)(hz:es.length≤1000)
  (h:R (.ok<|.ret .none) {s with heap:=s.heap.update dx (ApX name (Apv w.params name) (.str name s.toks) v),toks:=s.toks+1}):
  ApG (model prog w) A (.call (.builtin "object.__setattr__") ⟨[.ref x,.str name tk,v],[]⟩) R s:=by
 refine osa_open X I D.over D.YU λb=>?_
 obtain⟨cd,hc,Il⟩:=any_some (show(clsIn K Cl).any (·.hasDict)=true from D.hd);have JA:od'.isFreed=false:=by obtain⟨_,_,dd,_⟩:=od';cases e';rfl
 have D':(s.heap.update dx<|ApX name (Apv w.params name) (.str name s.toks) v).get? dx=some od':=by rw[←e];exact Apm _ aR (by rw[e];exact JA)
 obtain⟨hx,Oq,hn, -⟩:=I;obtain⟨oc,odi,oda,osl⟩:=ox;dsimp only at Oq hd;subst Oq hd;refine Ao2<|Ao4<|Ao2<|Ao2<|ArV hx<|Ao2<|(looks_clsIn X hc).here ?_;rw[Il];refine Ao4 (a:=some dx)<|Ao2<|Ao4<|Ao2 ?_;unfold nsSet;refine Ao2<|Ao2<|wpAny_askSetting<|Ao4<|Ao2<|wpAny_mkText<|Ao2<|ArV aR ?_;unfold lookIn at hl;split at hl
 ·rename_i es₀ n₀ q;rw[q];dsimp only;have c:(!es₀.any (·.key.isStr name)&&es₀.any (·.refKey))=false:=by
   rw[←Array.any_toList,←Array.any_toList];split at hl
   ·rename_i en he;rw[Arz.mpr ⟨en,List.mem_of_find?_eq_some he,List.find?_some he⟩];rfl
   ·split at hl
    ·cases hl
    ·rename_i z;rw[Bool.not_eq_true] at z;rw[z,Bool.and_false]
  rw[aRefKeyMayBeTheName_at,c];refine wpAny_updatePart aR ?_;refine Ao2<|wpAny_lookBehind D' (by rw[e'];exact pastItsLine_dict (by rw[Apt,ApF];omega)) ?_;exact Ao4 h
 ·cases hl
theorem PG{ox od od':Obj}{dx:Apc}{name:Str}{v:Ao3}{es:List ApE}{n:Nat}{Q:Unit->Ao5->Prop}(X:K.In s.heap)(D:Hc K Cl name)
  (I:InstAt s.heap x ox Cl (some od))(hd:ox.dict=some dx)(aR:s.heap.get? dx=some od)(hl:(lookIn name od).isSome=true)
  (e:ApX name (Apv w.params name) (.str name<|s.toks+1) v od=od')(e':od'.data= .dict es.toArray n)(hz:es.length≤1000)
  (h:Q () {s with heap:=s.heap.update dx (ApX name (Apv w.params name) (.str name<|s.toks+1) v),toks:=s.toks+2}):
  Aph (model prog w) A (setAttr (.ref x) name v) Q E s:=
 set_plain X I D.set (cV (s:={s with toks:=s.toks+1}) X D I hd aR hl e e' hz h)
end
end
section
variable{C:Cx}
theorem Fe{α:Type}(x:Nm)(v:α):∀l:List (Nm×α),(BM l x v).length=if(A2 l x).isSome then l.length else l.length+1
 | []=>rfl
 |p::l=>by
  rw[LQ,Ce];cases q:Ao9 x p.1 with
  |true=>simp[Jd]
  |false=>rw[Gr,Gr,ApD,Fe x v l];split<;>simp
theorem Zj.look{W:Wd}{h:Apn}{a:Apc}{l:List (Nm×AV)}{nm:Str}{es:Array ApE}{n:Nat}{sl:Array (Option Ao3)}(hk:StrKeys es):(lookIn nm ⟨.type "dict",none,.dict es n,sl⟩).isSome=true:=by
 unfold lookIn;dsimp only;split
 ·rfl
 ·split
  ·rename_i hr;exfalso;obtain⟨e,he,hq⟩:=Arz.mp hr;obtain⟨m,t,hm⟩:=hk e (by simpa using he);unfold DictEntry.refKey at hq;rw[hm] at hq;cases hq
  ·rfl
end
section
variable{C:Cx}
section
variable{A:Apg}{σ:St}{W:Wd}{s:Ao5}{T:Tab}
theorem EJ.isSome{l:List (Nm×AV)}(O:Ok C)(N:EJ C W h l m){x:Nm}{nm:Str}(hx:C.nm[x]?=some nm):(m nm).isSome=(A2 l x).isSome:=by
 cases q:A2 l x with
 |some v=>obtain⟨nm',cv,a1,a2,_⟩:=N.1 x v q;rw[hx] at a1;cases a1;rw[a2];rfl
 |none=>
  cases q2:m nm with
  |none=>rfl |some cv=>obtain⟨y,v,a1,a2⟩:=N.2 nm cv q2;rw[O.inj a1 hx,q] at a2;cases a2
theorem YK(O:Ok C)(I:Inv C W σ s){i:Nat}{p:Apc×Apc}(hp:W.τ[i]?=some p){Cl:Apc}{d:Data}{sl:Array (Option Ao3)}(hd:∀cd,d≠ .cls cd)(Kw:∀es n,d≠ .dict es n)(h1:s.heap.get? p.1=some ⟨.ref Cl,some p.2,d,sl⟩)
  {l:List (Nm×AV)}(hD:Zj C W s.heap p.2 l)(hl:l.length≤900){x:Nm}{nm:Str}(hx:C.nm[x]?=some nm){KF:AqI}(hK:KF.In s.heap)(D:Hc KF Cl nm){v:AV}{cv:Ao3}(hv:VR C W s.heap v cv){o:AO}
  (ho:∀h',(h'.get? p.1=some ⟨.ref Cl,some p.2,d,sl⟩)->Zj C W h' p.2 (BM l x v)->Ob C W h' p o){k:K Unit}(hk:k () (σ.put i o)=true)(ke:K AV):
  Aph (model C.prog C.w) A (setAttr (.ref p.1) nm cv) (A7 C k σ W s RU) (AG C ke σ W s) s:=by
 obtain⟨⟨es⟩,n,Cg,he,hsk,hz,hN⟩:=hD;have hz:es.length≤l.length:=by simpa using hz
 have ne:p.1≠p.2:=by
  intro e;rw[←e,h1] at he;have:d= .dict ⟨es⟩ n:=by simpa using(congrArg Obj.data<|Apr he)
  exact Kw _ _ this
 have lb:=Zj.look (W:=W) (h:=s.heap) (a:=p.2) (l:=l) (nm:=nm) (n:=n) (sl:=Cg) hsk;have hlen:=DM nm (Apv C.w.params nm) (s.toks+1) cv es;refine PG (K:=KF) (Cl:=Cl) (ox:=⟨.ref Cl,some p.2,d,sl⟩) (od:=⟨.type "dict",none,.dict ⟨es⟩ n,Cg⟩) (od':=⟨.type "dict",none,.dict (putL nm (Apv C.w.params nm) (.str nm (s.toks+1)) cv es).toArray (putN nm es n),Cg⟩)
  (es:=putL nm (Apv C.w.params nm) (.str nm<|s.toks+1) cv es) (n:=putN nm es n) hK D (Eh hd h1 he) rfl he lb (Bl _ _ _ _ _ _ _ _ _) rfl (by rw[hlen];split<;>omega) ?_
 have JA:(ApX nm (Apv C.w.params nm) (.str nm (s.toks+1)) cv ⟨.type "dict",none,.dict es.toArray n,Cg⟩).isFreed=false:=by rw[Bl];rfl
 have g2:(s.heap.update p.2 (ApX nm (Apv C.w.params nm) (.str nm (s.toks+1)) cv)).get? p.2=some ⟨.type "dict",none,.dict (putL nm (Apv C.w.params nm) (.str nm (s.toks+1)) cv es).toArray (putN nm es n),Cg⟩:=by rw[Apm _ he JA,Bl]
 have gk:∀b,b≠p.2->(s.heap.update p.2<|ApX nm (Apv C.w.params nm) (.str nm<|s.toks+1) cv).get? b=s.heap.get? b:=λb hb=>Apw _ _ (λe=>hb e.symm)
 obtain⟨J,X⟩:=I.put (s':={s with heap:=s.heap.update p.2 (ApX nm (Apv C.w.params nm) (.str nm<|s.toks+1) cv),toks:=s.toks+2}) (o:=o) hp (λb o _ h2 hb=>(gk b h2).trans hb)
  (λT=>by
   refine ho _ ((gk _ ne).trans h1) ⟨_,_,Cg,g2,?_,?_,?_⟩
   ·intro e iS;exact FC (λe he=>hsk e (by simpa using he)) e (by simpa using iS)
   ·rw[Apt,hlen,Fe];have:=EJ.isSome O hN hx;rw[this];split<;>omega
   ·refine((hN.Bg ⟨Apb _,Apb _,λ_ _=>rfl,λ_ _=>rfl,T⟩).set O hx<|hv.keep (Apb _) (Apb _) (λ_ _=>rfl) T).congr λy=>?_
    rw[JL])
  (by rw[gk _ ne];exact(I.live p<|get_mem hp).1) ⟨_,g2,.GZ rfl⟩
  (λa ha y hy iX=>by
   exfalso;rcases ha with rfl |rfl
   ·rw[h1] at hy;cases hy;exact absurd iX.1 (λe=>nomatch e)
   ·rw[he] at hy;cases hy;exact absurd iX.1 (by show Aq3 "dict"≠_;decide)) rfl rfl
 exact⟨(),_,W,hk,X,J,trivial⟩
theorem nP(O:Ok C)(I:Inv C W σ s){i:Nat}{p:Apc×Apc}(hp:W.τ[i]?=some p)(ep:p.2=p.1){es:List ApE}{n:Nat}{sl:Array (Option Ao3)}(he:s.heap.get? p.1=some ⟨.type "dict",none,.dict es.toArray n,sl⟩)
  (aV:∀e∈es,∃n t,e.key= .str n t){l:List (Nm×AV)}(hz:es.length≤l.length)(hN:EJ C W s.heap l (Aro es.toArray)){x:Nm}{nm:Str}(hx:C.nm[x]?=some nm){v:AV}{cv:Ao3}(hv:VR C W s.heap v cv)
  {k:K Unit}(hk:k () (σ.put i<|.ed<|BM l x v)=true):A7 C k σ W s RU () {s with heap:=s.heap.update p.1 (ApX nm (Apv C.w.params nm) (.str nm<|s.toks+1) cv),toks:=s.toks+2}:=by
 have hlen:=DM nm (Apv C.w.params nm) (s.toks+1) cv es;have JA:(ApX nm (Apv C.w.params nm) (.str nm (s.toks+1)) cv ⟨.type "dict",none,.dict es.toArray n,sl⟩).isFreed=false:=by rw[Bl];rfl
 have g2:(s.heap.update p.1 (ApX nm (Apv C.w.params nm) (.str nm (s.toks+1)) cv)).get? p.1=some ⟨.type "dict",none,.dict (putL nm (Apv C.w.params nm) (.str nm (s.toks+1)) cv es).toArray (putN nm es n),sl⟩:=by rw[Apm _ he JA,Bl]
 obtain⟨J,X⟩:=I.put (s':={s with heap:=s.heap.update p.1 (ApX nm (Apv C.w.params nm) (.str nm<|s.toks+1) cv),toks:=s.toks+2}) (o:=.ed (BM l x v)) hp
  (λb o h2 _ hb=>(Apw _ _ (λe=>h2 e.symm)).trans hb)
  (λT=>by
   refine⟨ep,_,_,sl,g2,?_,?_,?_⟩
   ·intro e iS;exact FC aV e (by simpa using iS)
   ·rw[Apt,hlen,Fe,EJ.isSome O hN hx];split<;>omega
   ·refine((hN.Bg ⟨Apb _,Apb _,λ_ _=>rfl,λ_ _=>rfl,T⟩).set O hx<|hv.keep (Apb _) (Apb _) (λ_ _=>rfl) T).congr λy=>?_
    rw[JL])
  ⟨_,g2,trivial⟩ (by rw[ep];exact⟨_,g2,trivial⟩)
  (λa ha y hy iX=>by
   exfalso;have ha:a=p.1:=ha.elim id λe=>e.trans ep
   subst ha;rw[he] at hy;cases hy;exact absurd iX.1 (by show Aq3 "dict"≠_;decide)) rfl rfl
 exact⟨(),_,W,hk,X,J,trivial⟩
theorem Sp.YJ(O:Ok C)(AK:Eo C T)(I:Inv C W σ s){x:Nm}{nm:Str}(hx:C.nm[x]?=some nm)(ho:VR C W s.heap o co)(hv:VR C W s.heap v cv):
  Sp C A σ W s (setAttr co nm cv) (λk _=>YJ T o x v σ k) RU:=λk ke h=>by
 obtain⟨o',σ1,n1,Dx,_,h⟩:=AN I ho h;refine Apa (?_:Aph (model C.prog C.w) A (setAttr co nm cv) (A7 C k σ1 W s RU) (AG C ke σ1 W s) s) (λ_ _ q=>q.base n1.ext) λ_ _ q=>q.base n1.ext
 split at h
 ·cases Dx with
  | @obj i0 p0 hj=>
   split at h
   ·rename_i Cl l ol;obtain⟨p,hp,⟨sl,e1⟩,e2⟩:=n1.1.obj _ _ ol;rw[hj] at hp;cases hp;split at h
    ·rename_i ht;obtain⟨KF,hK,D⟩:=AK.data _ _ _ ht hx;obtain⟨hz,h⟩:=Ac h;have hz:=ble_iff.mp hz;rw[EB] at hz;exact YK (d:=.plain) O n1.1 hj (λ_ e=>nomatch e) (λ_ _ e=>nomatch e) e1 e2 hz hx (λa o e=>I.base a o (hK a o e)) D hv (o:=.inst Cl (BM l x v)) (λh' a b=>⟨⟨sl,a⟩,b⟩) h ke
    ·cases h
   ·rename_i Cl ol;obtain⟨p,hp,ep,xc,dd,fs,sl,Kw,e1,e3⟩:=n1.1.obj _ _ ol;rw[hj] at hp;cases hp;cases(show dd=none from Kw);split at h
    ·rename_i ht;obtain⟨K,hK,D⟩:=AK.FR _ _ _ ht hx;refine TH (d:=.fields fs) (λ_ e=>nomatch e) rfl D (λa o e=>I.base a o (hK a o e)) e1 λh' n g1 g2 gk=>?_
     have ne:p0.1≠s.heap.objs.size:=λe=>by rw[e,Ax] at e1;cases e1
     generalize hhm:h'.update p0.1 (λ_=>(⟨.ref Cl,none,.fields fs,sl⟩:Obj))=hm;have m1:hm.get? p0.1=some ⟨.ref Cl,none,.fields fs,sl⟩:=by rw[←hhm];exact Apm _ g1 rfl
     have m2:∀b,b≠p0.1->hm.get? b=h'.get? b:=λb hb=>by rw[←hhm];exact Apw _ _ (ArQ hb)
     have gd:=(m2 _ ne.symm).trans g2;have mk:∀b y,s.heap.get? b=some y->hm.get? b=some y:=λb y e=>by
      by_cases hb:b=p0.1
      ·subst hb;rw[e1] at e;cases e;exact m1
      ·exact(m2 b hb).trans (gk b y hb e)
     obtain⟨J1,X1⟩:=n1.1.make (s':={s with heap:=hm,toks:=s.toks+2}) (p:=(s.heap.objs.size,s.heap.objs.size)) (o:=.ed [(x,v)]) mk (Ax _) (Ax _)
      (λS=>⟨rfl,_,_,_,gd,λe he=>⟨nm,s.toks+1,by simp at he;rw[he]⟩,Aqc _,
       (EJ.set O (l:=[]) (m:=λ_=>none) ⟨λy u hu=>(by cases hu),λ_ _ hu=>(by cases hu)⟩ hx<|hv.keep S.ρ S.τ S.q S.Ak).congr λy=>JL nm (Apv C.w.params nm) (s.toks+1) cv y []⟩)
      ⟨_,gd,trivial⟩ ⟨_,gd,trivial⟩ rfl rfl
     obtain⟨J2,X2⟩:=J1.put (s':={s with heap:=h',toks:=s.toks+2}) (o:=.exc Cl (some σ1.n)) (Ah X1.τ hj) (λb y hb _ e=>(m2 b hb).symm.trans e)
      (λT=>⟨ep,xc,_,fs,sl,⟨_,St.Bw n1.1 _,rfl⟩,g1,e3⟩) ⟨_,g1,trivial⟩ (by rw[ep];exact⟨_,g1,trivial⟩)
      (λa ha y hy iX=>by
       exfalso;have ha:a=p0.1:=ha.elim id λe=>e.trans ep
       subst ha;have hy:hm.get? p0.1=some y:=hy;rw[m1] at hy;cases hy;exact absurd iX.1 (λe=>nomatch e)) rfl rfl
     exact⟨(),_,_,h,X1.trans X2,J2,trivial⟩
    ·cases h
   ·rename_i Cl d ol;obtain⟨p,hp,ep,xc,dd,fs,sl,Kw,e1,e3⟩:=n1.1.obj _ _ ol;rw[hj] at hp;cases hp;split at h
    ·rename_i l ht od;obtain⟨q,hq,eq,es,n,Cg,he,hk,iY,hN⟩:=n1.1.obj _ _ od;obtain⟨q',Ws,rfl⟩:=Kw;rw[hq] at Ws;cases Ws;obtain⟨K,hK,D⟩:=AK.FR _ _ _ ht hx;obtain⟨hz,h⟩:=Ac h;have hz:=ble_iff.mp hz;rw[EB] at hz;obtain⟨es⟩:=es;have iY:es.length≤l.length:=by simpa using iY
     have aV:∀e∈es,∃n t,e.key= .str n t:=λe he=>hk e (by simpa using he)
     refine V0 (d:=.fields fs) (λ_ e=>nomatch e) D (λa o e=>I.base a o (hK a o e)) e1 he aV (by omega) ?_;exact nP O n1.1 hq eq he aV iY hN hx hv h
    ·cases h
   ·cases h
 ·cases h
end
end
section
variable{C:Cx}
def ST(C:Cx)(X:CX)(n:Nat)(b:Bool)(sc:ApH)(c:Ct)(t:Expr):Prop:=
 ∀(A:Apg) (σ:St) (W:Wd) (s:Ao5) (E:Bo) (env:Env) (v:AV) (cv:Ao3),CJ n b A->Inv C W σ s->A8 C A W sc E env->VR C W s.heap v cv->Sp C A σ W s (assign t env cv) (λk ke=>c X E v σ k ke) RU
theorem BI{o:Obj}{t:String}(hc:o.cls= .type t)(ht:(t=="frame")=false)(h:C0 o):False:=by have:=h.1;rw[hc] at this;injection this with this;subst this;exact absurd ht (by decide)
section
variable{A:Apg}{σ:St}{W:Wd}{s:Ao5}{T:Tab}
theorem AM.set:∀{l vs} {i:Nat} {v cv},AM C W h l vs->VR C W h v cv->AM C W h (l.set i v) (vs.set i cv)
 |_,_,i,_,_,.nil,_=>by simp only[List.set_nil];exact .nil
 |_,_,0,_,_,.cons a r,b=>.cons b r |_,_,i+1,_,_,.cons a r,b=>.cons a (r.set b)
theorem Kq.update{h:Apn}{a:Apc}{items:Array Ao3}(il:h.IsList a items)(nd:Kq h a)(f:Array Ao3->Array Ao3):Kq (h.update a<|Aqq f) a:=by obtain⟨⟨cls,dd,data,sl⟩,ho,hd,hs⟩:=nd;obtain⟨o',Dx,_,n,oD⟩:=il;rw[ho] at Dx;cases Dx;cases(show data= .seq items n from oD);exact⟨_,Apm _ ho rfl,hd,hs⟩
theorem IsList.update{h:Apn}{a:Apc}{items:Array Ao3}(il:h.IsList a items)(f:Array Ao3->Array Ao3):(h.update a<|Aqq f).IsList a (f items):=by obtain⟨o,ho,hc,n,hd⟩:=il;obtain⟨n',Il⟩:=Obj.data_mapSeq hd f;exact⟨_,Apm _ ho<|Obj.isFreed_of_seq Il,(Obj.cls_mapSeq ..).trans hc,n',Il⟩
theorem Ry{l:Apc}{items:Array Ao3}{k:Int}{t:Tok}{v:Ao3}{Q:Unit->Ao5->Prop}{E:Ao3->Ao5->Prop}(hl:s.heap.IsList l items)(h0:0≤k)(hj:k<items.size)(aT:k<2^63)
  (hQ:Q () {s with heap:=s.heap.update l (Aqq (·.setIfInBounds k.toNat v))}):Aph (model C.prog C.w) A (setItem (.ref l) (.int k t) v) Q E s:=by
 obtain⟨o,ho,hc,n,hd⟩:=id hl;unfold setItem
 try with_reducible refine ApA ?_
 first |refine Ao2 (Ao4 ?_)|skip
 refine Ao2 (wpAny_sequenceKey hl.typeIs (by decide) ?_);refine Ao2 (ApZ (name:=Ao1 "__setitem__") hl.typeIs slot_list_setitem (Aqm slot_list_setitem hl.typeIs entry_list_setitem ?_ (args_list_setitem _ _ _)));show Aph _ _ (Builtin.List.listSubscript? (.int k t)>>=_) _ _ s;refine Ao2 (wpAny_listSubscript_int (fitsIndex_of h0 aT) ?_);clear aT;obtain⟨j,rfl⟩:=Aqa h0;have hj:j<items.size:=by omega
 show Aph _ _ ((seqItemAt l j>>=λr=>pure (r.map (j,·)))>>=_) _ _ s;refine Ao2<|Ao2<|wpAny_seqItemAt ho hd<|Ao4 ?_;rw[Array.getElem?_eq_getElem hj];show Aph _ _ (setSeqItemAt l j v>>=_) _ _ s;refine Ao2 (wpAny_setSeqItemAt ho hd ?_)
 first
  |exact Ao2 (Ao4 (Ao4 ⟨.none,rfl,Ao4 hQ⟩))
  |exact Ao4 ⟨.none,rfl,Ao4 hQ⟩
theorem Sp.Uo(O:Ok C)(I:Inv C W σ s)(ho:VR C W s.heap o co)(hi:VR C W s.heap i ci)(hv:VR C W s.heap v cv):
  Sp C A σ W s (setItem co ci cv) (λk _=>Uo o i v σ k) RU:=λk ke h=>by
 obtain⟨o',σ1,n1,Dx,_,h⟩:=AN I ho h;obtain⟨i',σ2,n2,Zq,_,h⟩:=AN n1.1 hi h;refine Apa (?_:Aph (model C.prog C.w) A (setItem co ci cv) (A7 C k σ2 W s RU) (AG C ke σ2 W s) s) (λ_ _ q=>q.base (n1.trans n2).ext) λ_ _ q=>q.base (n1.trans n2).ext
 split at h
 ·cases Dx with
  |obj hj=>
   rename_i j p;unfold Gi at h;split at h
   ·rename_i l ol;obtain⟨pp,hp,ep,cl,vl,il,_,_,nd⟩:=n2.1.obj _ _ ol;rw[hj] at hp;cases hp;simp only[Aq,ApC,Apj] at il;split at h
    ·cases Zq with
     | @int xl xi xt hx=>
      obtain⟨σ3,n3,h⟩:=CO n2.1 hx h;split at h
      ·rename_i m h0 hpl;have h0:=B1 h0;obtain⟨p1,p2,p3,p4,p5⟩:=G0 hpl;rcases p5 with⟨q,hm⟩|⟨q,_⟩
       ·rw[EG] at h;have hxi:xi=(m:Int):=by omega
        subst hxi;refine Ry il (by omega) (by rw[Apt,vl.length];omega) (by omega) ?_;rw[show(m:Int).toNat=m from rfl];generalize hh:s.heap.update p.1 (Aqq (·.setIfInBounds m cv))=h';have Nz:=IsList.update il (·.setIfInBounds m cv);have nd':=Kq.update il nd (·.setIfInBounds m cv);have Kx:ApP p.1 s.heap (s.heap.update p.1 (Aqq (·.setIfInBounds m cv))):=ApW ..;rw[hh] at Nz nd' Kx;have nt:∃x,h'.get? p.1=some x∧Bk x:=let⟨o,a,b,_⟩:=Nz;⟨o,a,.EC b⟩;obtain⟨J,X⟩:=n3.1.put (s':={s with heap:=h'}) (o:=.list none (l.set m v) none) hj (λb o h1 _ hb=>(Kx.2 b h1).trans hb)
         (λT=>by
          refine⟨ep,_,(AM.set (i:=m) (vl.keep (Apb _) (Apb _) (λ_ _=>rfl) T)<|hv.keep (Apb _) (Apb _) (λ_ _=>rfl) T),?_,trivial,trivial,nd'⟩
          ·simp only[Aq,ApC,Apj];simpa using Nz) nt (by rw[ep];exact nt)
         (λa ha o ho hd=>by
          exfalso;obtain⟨o',h1,hc,m,h2⟩:=il;rcases ha with rfl |rfl
          ·rw[h1] at ho;cases ho;exact BI hc (by decide) hd
          ·rw[ep,h1] at ho;cases ho;exact BI hc (by decide) hd) rfl rfl
        exact⟨(),_,W,h,n3.ext.trans X,J,trivial⟩
       ·omega
      ·cases h
    ·cases h
   ·rename_i l ol;obtain⟨pp,hp,ep,Ci,hd,hl⟩:=n2.1.obj _ _ ol;rw[hj] at hp;cases hp;split at h
    ·rename_i hb;obtain⟨ko,hz⟩:=Ac hb;have hz:=ble_iff.mp hz;obtain⟨K0,hk,hc⟩:=Fp Zq ko;have oQ:(([]++Ci:List (KK×Ao3)).map (·.1)).Nodup:=by obtain⟨o,es,en,_,_,_,_,_,hn⟩:=hd;exact hn
     obtain⟨l',σ3,n3,Nz,h⟩:=Mx O hk hv (d:=[]) n2.1 .nil hl (λp hp=>nomatch hp) oQ h;refine wpAny_setItem_pairs (knd:=Bt C.prog C.w) hc hd (λh' Il Kx=>?_) (by rw[hl.length,ApF];omega);have nt:∃x,h'.get? p.1=some x∧Bk x:=let⟨o,es,n,a,b,c,_⟩:=Il;⟨o,a,.GZ c⟩;obtain⟨J,X⟩:=n3.1.put (s':={s with heap:=h',toks:=s.toks+1}) (o:=.dict l') hj (λb o h1 _ hb=>(Kx.2 b h1).trans hb)
      (λT=>⟨ep,_,Il,Nz.Bg ⟨Apb _,Apb _,λ_ _=>rfl,λ_ _=>rfl,T⟩⟩) nt (by rw[ep];exact nt)
      (λa ha o ho Kw=>by
       exfalso;obtain⟨o',VV,n',h1,hx,_⟩:=hd;rcases ha with rfl |rfl
       ·rw[h1] at ho;cases ho;exact BI hx.1 (by decide) Kw
       ·rw[ep,h1] at ho;cases ho;exact BI hx.1 (by decide) Kw) rfl rfl
     exact⟨(),_,W,h,n3.ext.trans X,J,trivial⟩
    ·cases h
   ·cases h
 ·cases h
end
section
variable{X:CX}{n:Nat}{b:Bool}{sc:ApH}
theorem DF{env:Env}{x:Str}{v:Ao3}(h:Sp C A σ W s (storeName env x v) m RU):Sp C A σ W s (PySem.bindName env x v) m RU:=λk ke e=>wpAny_bindName (h k ke e)
theorem ST.l(O:Ok C){x:Nm}{nm:Str}(hx:C.nm[x]?=some nm)(hk:sc.names.lookup nm=some .local){pos}:ST C X n b sc (cI x) (.Name nm pos):=λA σ W s E env v cv f I e hv=>by rw[arm_assign_Name];exact Sp.standAt (DF<|Sp.Co O I e hx hk hv)
theorem ST.Mp{x:Nm}{nm:Str}(hx:C.nm[x]?=some nm)(hk:sc.names.lookup nm=some .cell){pos}:ST C X n b sc (tH x) (.Name nm pos):=λA σ W s E env v cv f I e hv=>by rw[arm_assign_Name];exact Sp.standAt (DF<|Sp.EH I e hx hk hv)
theorem Sp.O6(h:Sp C A σ W s t m RU):Sp C A σ W s (t>>=λ_=>PySem.release vs ks) m RU:=λk ke e=>
 Ao2 (Apa (h k ke e) (λ_ _ q=>wpAny_release' q) λ_ _ q=>q)
theorem ST.attr(O:Ok C)(AK:Eo C X.T){y:Nm}{nm:Str}{pos}(hy:C.nm[y]?=some nm)(hx:SE C X n b sc x value):ST C X n b sc (eV x y) (.Attribute value nm pos):=λA σ W s E env v cv f I e hv=>by
 rw[arm_assign_Attribute];refine Sp.bind (m:=λk ke=>x X E σ k ke) (g:=λo σ k ke=>Mine.YJ X.T o y v σ k) (Sp.holding<|hx A σ W s E env f I e) λa ca σ1 W1 s1 X1 I1 r1=>?_
 exact Sp.standAt (Sp.O6<|Sp.holding<|Sp.YJ O AK I1 hy r1<|I.vr X1 hv)
theorem ST.sub(O:Ok C){pos}(hx:SE C X n b sc x value)(hy:SE C X n b sc y slice):ST C X n b sc (zV x y) (.Subscript value slice pos):=λA σ W s E env v cv f I e hv=>by
 rw[arm_assign_Subscript];refine Sp.bind (m:=λk ke=>x X E σ k ke) (g:=λo σ k ke=>y X E σ (λi σ=>Mine.Uo o i v σ k) ke) (Sp.holding<|hx A σ W s E env f I e) λa ca σ1 W1 s1 X1 I1 r1=>?_
 refine Sp.bind (m:=λk ke=>y X E σ1 k ke) (g:=λi σ k ke=>Mine.Uo a i v σ k) (Sp.holding<|hy A σ1 W1 s1 E env f I1<|e.up X1.up) λc cc σ2 W2 s2 X2 I2 r2=>?_
 exact Sp.standAt (Sp.O6<|Sp.holding<|Sp.Uo O I2 (I1.vr X2 r1) r2<|I1.vr X2<|I.vr X1 hv)
inductive UK(C:Cx)(X:CX)(n:Nat)(b:Bool)(sc:ApH):List Ct->List Expr->Prop
 |nil:UK C X n b sc [] []
 |cons {c e l es}:ST C X n b sc c e->isStar e=false->UK C X n b sc l es->UK C X n b sc (c::l) (e::es)
theorem UK.length{l:List Ct}(h:UK C X n b sc l es):l.length=es.length:=by induction h with |nil=>rfl |cons _ _ _ ih=>simp[ih]
theorem EN(h:isStar e=false)(r:List Expr)(env:Env):ArZ (e::r) env=(false,assign e env)::ArZ r env:=by cases e<;>first |rfl |cases h
theorem UK.each{l:List Ct}(h:UK C X n b sc l es)(env:Env):(ArZ es env).length=l.length∧(ArZ es env).findIdx? (·.1)=none:=by
 induction h with
 |nil=>exact⟨rfl,rfl⟩
 |cons _ hs _ ih=>rw[EN hs];exact⟨by simp[ih.1],by simp[List.findIdx?_cons,ih.2]⟩
theorem Sp.UN{l:List Ct}(h:UK C X n b sc l es)(f:CJ n b A):∀{σ:St} {W:Wd} {s:Ao5} {vs:List AV} {cvs:List Ao3},Inv C W σ s->A8 C A W sc E env->AM C W s.heap vs cvs->
  Sp C A σ W s (assignInOrder ((ArZ es env).map (·.2)) cvs) (λk ke=>UN X E l vs σ k ke) RU:=by
 induction h with
 |nil=>
  intro σ W s vs cvs I e hv;cases hv with
  |nil=>exact .pure (m:=λk ke=>Mine.UN X E [] [] σ k ke) I (λ_ _ h=>h) trivial
  |cons _ _=>exact λk ke h=>by cases h
 | @cons c1 e1 l es h1 st _ ih=>
  intro σ W s vs cvs I e hv;rw[EN st];cases hv with
  |nil=>exact λk ke h=>by cases h
  | @cons v vs cv cvs a r=>
   show Sp C A σ W s (ArM cvs (assign e1 env cv)>>=λ_=>assignInOrder ((ArZ es env).map (·.2)) cvs) _ _;refine Sp.bind (m:=λk ke=>c1 X E v σ k ke) (g:=λ_ σ k ke=>Mine.UN X E l vs σ k ke) (Sp.holding<|h1 A σ W s E env v cv f I e a) λ_ _ σ1 W1 s1 X1 I1 _=>?_
   exact ih I1 (e.up X1.up) (I.rA X1 r)
end
end
section
variable{C:Cx}
theorem HW:∀{l hs ts:List AV} {j:Nat} {w:AV},IC l=some (hs,ts)->l[j]?=some w->∃v r,w= .Ak (v::r)∧hs[j]?=some v∧ts[j]?=some (.Ak r)
 | [],hs,ts,j,w,h,e=>by simp at e
 |x::l,hs,ts,j,w,h,e=>by
  unfold IC at h;split at h
  ·cases ‹_::_= []›
  ·rename_i v r l2 q;cases q;split at h
   ·rename_i Kx ts' hh;cases h;cases j with
    |zero=>cases e;exact⟨v,r,rfl,rfl,rfl⟩
    |succ j=>exact HW (j:=j) hh (by simpa using e)
   ·cases h
  ·cases h
theorem Ja:∀{l:List AV} {j:Nat} {w:AV},Mh l=true->l[j]?=some w->w= .Ak []
 | [],j,w,h,e=>by simp at e
 |x::l,j,w,h,e=>by
  unfold Mh at h;split at h
  ·cases ‹_::_= []›
  ·rename_i r q;cases q;cases j with
   |zero=>cases e;rfl
   |succ j=>exact Ja (j:=j) h (by simpa using e)
  ·cases h
section
variable{W:Wd}{s:Ao5}{σ:St}
theorem H9{a j:Nat}(ha:W.ρ[a]?=some (Api j)):∀{n:Nat} {l vs:List AV} {w:AV},Fd a n l=some vs->l[j]?=some w->∃ps,w= .Ak ps∧∀cps,AM C W h ps cps->AM C W h vs cps
 |0,l,vs,w,e,q=>by
  unfold Fd at e;split at e
  ·rename_i hn;cases e;exact⟨[],Ja hn q,λ_ h=>h⟩
  ·cases e
 |n+1,l,vs,w,e,q=>by
  unfold Fd at e;split at e
  ·rename_i hs ts hh;split at e
   ·rename_i r hr;cases e;obtain⟨v,r',e1,e2,e3⟩:=HW hh q;obtain⟨ps,e4,e5⟩:=H9 ha hr e3;cases e4;refine⟨v::r',e1,λcps hc=>?_⟩;cases hc with
    |cons x y=>exact .cons (.sel ha e2 x) (e5 _ y)
   ·cases e
  ·cases e
def RJ(h:Apn)(a:Apc)(l:List Ao3):Prop:=h.IsTuple a l.toArray∨h.IsList a l.toArray
theorem Kf(I:Inv C W σ s){n:Nat}(hv:VR C W s.heap v cv)(h:IQ n v σ f=true):
  ∃vs cvs a σ',Bx C W s σ σ'∧cv= .ref a∧RJ s.heap a cvs∧AM C W s.heap vs cvs∧f vs σ'=true:=by
 have un:∀{v:AV} {σ1:St},Bx C W s σ σ1->VR C W s.heap v cv->unp v σ1 f=true->∃vs cvs a σ',Bx C W s σ σ'∧cv= .ref a∧RJ s.heap a cvs∧AM C W s.heap vs cvs∧f vs σ'=true:=by
  intro v σ1 n1 hv h;unfold unp at h;split at h
  ·cases hv with
   |Ak ht vv=>exact⟨_,_,_,σ1,n1,rfl,.inl ht.Ak,vv,h⟩
  ·cases hv with
   |obj hj=>
    split at h
    ·rename_i l ol;obtain⟨pp,hp,ep,cl,vl,il,_⟩:=n1.1.obj _ _ ol;rw[hj] at hp;cases hp;simp only[Aq,ApC,Apj] at il;exact⟨_,_,_,σ1,n1,rfl,.inr il,vl,h⟩
    ·cases h
  ·cases h
 unfold IQ at h;split at h
 ·rename_i a l;split at h
  ·rename_i vs hs;cases hv with
   |sel ha hl hc=>
    obtain⟨ps,rfl,e2⟩:=H9 (h:=s.heap) ha hs hl;cases hc with
    |Ak ht vv=>exact⟨_,_,_,σ,.refl I,rfl,.inl ht.Ak,e2 _ vv,h⟩
  ·obtain⟨v',σ1,n1,Ko,_,h⟩:=AN I hv h;exact un n1 Ko h
 ·exact un (.refl I) hv h
end
section
variable{X:CX}{n:Nat}{b:Bool}{sc:ApH}
theorem EM{A:Apg}{s:Ao5}{E:Ao3->Ao5->Prop}(hh:A.handled=none){a:Apc}{l:List Ao3}(hs:RJ s.heap a l){Q:List Ao3->Ao5->Prop}
  (hQ:∀h',Aqs s.heap.objs.size s.heap h'->Q l {s with heap:=h'}):Aph (model C.prog C.w) A (unpackItems (.ref a) l.length none) Q E s:=by
 rcases hs with h |h
 ·exact wpAny_unpackItems_tuple hh h hQ
 ·exact kun_itemsOf hh h hQ
theorem ExtBut.grow{h h':Apn}(x:Aqs h.objs.size h h'):∀b o,h.get? b=some o->h'.get? b=some o:=λb o e=>x b o (AqU<|Aqe e) e
theorem Sp.Zb(hs:UK C X n true sc ts elts)(f:CJ n true A)(I:Inv C W σ s)(e:A8 C A W sc E env)(hv:VR C W s.heap v cv):
  Sp C A σ W s (unpack cv<|ArZ elts env) (λk ke=>Zb ts X E v σ k ke) RU:=λk ke h=>by
 obtain⟨vs,cvs,a,σ1,n1,rfl,sq,vr,h⟩:=Kf I hv h;split at h
 ·rename_i hl;have hl:=beq_iff.mp hl;obtain⟨e1,e2⟩:=hs.each env;unfold unpack;rw[e1,e2,hl,←vr.length];refine Ao2<|ApA (EM (f.hand rfl) sq λh' he=>?_);obtain⟨J,Y⟩:=n1.1.grow (s':={s with heap:=h'}) (ExtBut.grow he) rfl rfl;refine Apa (Sp.UN hs f J (e.up Y.up) (n1.1.rA Y vr) k ke h) (λ_ _ q=>(q.base Y).base n1.ext) λ_ _ q=>(q.base Y).base n1.ext
 ·cases h
theorem ST.Ak{ts:List Ct}{elts:List Expr}{k pos}(hs:UK C X n true sc ts elts):ST C X n true sc (Zb ts) (.Tuple elts k pos):=λA σ W s E env v cv f I e hv=>by rw[arm_assign_Tuple];exact Sp.standAt (Sp.Zb hs f I e hv)
end
end
section
variable{C:Cx}
theorem T4(l:Apc)(items:Array Ao3)(n:Nat)(dd:Option Apc)(sl:Array (Option Ao3))(y:Ao3)(hy:items[items.size-1]?=some y)(Wt:items.size≤Aq9):
  Meets (Builtin.«list.pop» ⟨[.ref l],[]⟩)
   (λ_ R s=>s.heap.get? l=some {cls:=.type "list",dict:=dd,data:=.seq items n,slots:=sl}∧R (.ok (.ret y)) {s with heap:=s.heap.update l (Aqq λxs=>xs.eraseIdxIfInBounds (items.size-1))}):=
 .of_wp λprog w A R s h=>by
  obtain⟨hp,g,d,tk,os⟩:=s;obtain⟨hl,h⟩:=h;have QB:0<items.size:=by
   rcases Nat.eq_zero_or_pos items.size with h0 |h0
   ·simp[h0] at hy
   ·exact h0
  have Qx:¬items.isEmpty=true:=by
   intro he;have:items.size=0:=by simpa using he
   omega
  have hk:seqIndex? (-1) items.size=some (items.size-1):=by rw[seqIndex_neg (by omega) (by omega)];congr 1;omega
  wp_walk using Apq hl
  simp only[hk,hy,Option.bind_some,AqN];have bD:(items.eraseIdxIfInBounds<|items.size-1).size≤Aq9+1:=AqT (MeetsSeq.size_erased items _) (Nat.le_succ_of_le Wt)
  wp_walk using(wpAny_updateSeq hl rfl (hz:=Wt) (_hz':=bD)),Apq hl
  exact⟨_,rfl,h⟩
theorem MX(l:Apc)(items:Array Ao3)(n:Nat)(dd:Option Apc)(sl:Array (Option Ao3))(b:Apc)(Aw:Array Ao3)(n2:Nat)(F8:Option Apc)(Cg:Array (Option Ao3))(hc0:¬(!items.isEmpty&&Builtin.List.listTooLong (items.size+Aw.size))=true)(hc1:items.size≤Aq9)(hs2:items.size+Aw.size≤Aq9+1):
  Meets (Builtin.«list.extend» ⟨[.ref l,.ref b],[]⟩) (λ_ R s=>s.heap.get? l=some {cls:=.type "list",dict:=dd,data:=.seq items n,slots:=sl}∧s.heap.get? b=some {cls:=.type "list",dict:=F8,data:=.seq Aw n2,slots:=Cg}∧R (.ok (.ret Aqp)) {s with heap:=s.heap.update l (Aqq λx=>x++Aw),toks:=s.toks}):=
 .of_wp λprog w A R s h=>by
  obtain⟨hp,g,d,tk,os⟩:=s;obtain⟨hl,hb,h⟩:=h;have f1:=AutoSeq1.idx_int;have f2:=Arp;have f3:=AutoSeq1.sub_list_list;have f4:=AutoSeq1.sub_tuple_list;have f5:=AutoSeq1.sub_list_tuple;have bD:(items++Aw).size≤Aq9+1:=by rw[Array.size_append];exact hs2
  wp_walk using(wpAny_updateSeq hl rfl (hz:=hc1) (_hz':=bD)),Apq hl,Apq hb;exact⟨_,rfl,h⟩
section
variable{A:Apg}{σ:St}{W:Wd}{s:Ao5}{T:Tab}
theorem Inv.MW(I:Inv C W σ s){i:Nat}{p:Apc×Apc}(hp:W.τ[i]?=some p)(ep:p.2=p.1){items:Array Ao3}(il:s.heap.IsList p.1 items){h':Apn}{WH:Array Ao3}(vO:h'.IsList p.1 WH)(nd:Kq h' p.1)(hs:ApP p.1 s.heap h')(t:Nat)
  {pre suf:Option Nat}{l:List AV}{vs:List Ao3}(v:AM C W s.heap l vs)(e:WH=(Mine.part W pre++vs++part W suf).toArray)(k1:E0 W pre)(k2:E0 W suf):
  Inv C W (σ.put i<|.list pre l suf) {s with heap:=h',toks:=t}∧Ext σ W s (σ.put i<|.list pre l suf) W {s with heap:=h',toks:=t}:=by
 have nt:∃x,h'.get? p.1=some x∧Bk x:=let⟨o,a,b,_⟩:=vO;⟨o,a,.EC b⟩;refine I.put (s':={s with heap:=h',toks:=t}) hp (λb o h1 _ hb=>(hs.2 b h1).trans hb)
  (λT=>⟨ep,_,v.keep (Apb _) (Apb _) (λ_ _=>rfl) T,e▸vO,k1,k2,nd⟩) nt (by rw[ep];exact nt) (λa ha o ho hd=>?_) rfl rfl
 exfalso;obtain⟨o',h1,hc,m,h2⟩:=il;rcases ha with rfl |rfl
 ·rw[h1] at ho;cases ho;exact BI hc (by decide) hd
 ·rw[ep,h1] at ho;cases ho;exact BI hc (by decide) hd
theorem EA(I:Inv C W σ s)(k1:E0 W p)(h:BF σ p=true):(Mine.part W p).length≤1000000:=by
 cases p with
 |none=>exact ArB _
 |some a=>
  unfold BF at h;have k1:W.ρ[a]?=some (Api (W.ls a).length):=k1;have r:=I.Bi a _ k1;dsimp only at h;split at h
  ·rename_i y hy;have:=r.2 _ hy;have:=B1 h;show(W.ls a).length≤1000000;simp only[ApU] at *; omega
  ·cases h
theorem Sp.BR(I:Inv C W σ s){i:Nat}{p:Apc×Apc}(hp:W.τ[i]?=some p)(hv:VR C W s.heap v cv):
  Sp C A σ W s (call (.builtin "list.append") [.ref p.1,cv]) (λk _=>BR i v σ k) (λ_ _ _ r=>r= .none):=λk ke h=>by
 unfold Mine.BR at h;split at h
 ·rename_i q l ol;obtain⟨pp,BK,ep,cl,vl,il,k1,_,nd⟩:=I.obj _ _ ol;rw[hp] at BK;cases BK;obtain⟨hb,h⟩:=Ac h;obtain⟨b1,b2⟩:=Ac hb;have b1:=A5 b1;have b2:=EA I k1 b2;simp only[Aq,Apj] at il;obtain⟨⟨cls,dd,data,sl⟩,ho,hc,n,hd⟩:=id il;simp only at hc hd;subst hc hd;obtain⟨o',Dx,Il,Kx⟩:=id nd;rw[ho] at Dx;cases Dx;simp only at Il Kx;subst Il Kx;refine call_meets Arv ⟨_,ho,rfl⟩ PySem.F.entry_list_append (PySem.F.args_list_append_2 _ _) (list_append p.1 _ n cv (by rw[ApF,Apt,Apd,vl.length];omega)) ⟨ho,?_⟩;obtain⟨J,X⟩:=I.MW (pre:=q) (suf:=none) hp ep il (IsList.update il (·.push cv)) (Kq.update il nd (·.push cv)) (ApW ..) s.toks (vl.app<|.cons hv .nil) (by simp[Aq]) k1 trivial;exact⟨(),_,W,h,X,J,rfl⟩
 ·rename_i l q m ol;obtain⟨pp,BK,ep,cl,cm,vl,vm,il,k1,nd⟩:=I.obj _ _ ol;rw[hp] at BK;cases BK;obtain⟨hb,h⟩:=Ac h;obtain⟨hb,b3⟩:=Ac hb;obtain⟨b1,b2⟩:=Ac hb;have b1:=A5 b1;have b2:=A5 b2;have b3:=EA I k1 b3;have b3:(W.ls q).length≤1000000:=b3;obtain⟨⟨cls,dd,data,sl⟩,ho,hc,n,hd⟩:=id il;simp only at hc hd;subst hc hd;obtain⟨o',Dx,Il,Kx⟩:=id nd;rw[ho] at Dx;cases Dx;simp only at Il Kx;subst Il Kx;refine call_meets Arv ⟨_,ho,rfl⟩ PySem.F.entry_list_append (PySem.F.args_list_append_2 _ _) (list_append p.1 _ n cv (by rw[ApF,Apt,Apd,Apd,vl.length,vm.length];omega)) ⟨ho,?_⟩;have vO:=IsList.update il (·.push cv);have nd':=Kq.update il nd (·.push cv);have nt:∃x,(s.heap.update p.1 (Aqq (·.push cv))).get? p.1=some x∧Bk x:=let⟨o,a,b,_⟩:=vO;⟨o,a,.EC b⟩;have JA:∀a,a=p.1∨a=p.2->∀x,s.heap.get? a=some x->C0 x->∃x',(s.heap.update p.1 (Aqq (·.push cv))).get? a=some x'∧C0 x':=λa ha o ho hd=>by
   exfalso;obtain⟨o',h1,hc,m,h2⟩:=il;rcases ha with rfl |rfl
   ·rw[h1] at ho;cases ho;exact BI hc (by decide) hd
   ·rw[ep,h1] at ho;cases ho;exact BI hc (by decide) hd
  obtain⟨J,X⟩:=I.put (o:=.mid l q (m++ [v])) (s':={s with heap:=s.heap.update p.1 (Aqq (·.push cv)),toks:=s.toks}) hp (λb o h1 _ hb=>((ApW ..).2 b h1).trans hb)
   (λT=>⟨ep,cl,cm++ [cv],vl.keep (Apb _) (Apb _) (λ_ _=>rfl) T,(vm.app<|.cons hv .nil).keep (Apb _) (Apb _) (λ_ _=>rfl) T,by rw[←ApQ];simpa using vO,k1,nd'⟩) nt (by rw[ep];exact nt) JA rfl rfl
  exact⟨(),_,W,h,X,J,rfl⟩
 ·cases h
theorem AM.snoc{v:AV}:∀{l:List AV} {cl:List Ao3},AM C W h (l++ [v]) cl->∃cr cv,cl=cr++ [cv]∧AM C W h l cr∧VR C W h v cv
 | [],_,.cons a b=>by cases b;exact⟨[],_,rfl,.nil,a⟩
 |x::l,_,.cons a b=>by obtain⟨cr,cv,rfl,e1,e2⟩:=AM.snoc (l:=l) b;exact⟨_::cr,cv,rfl,.cons a e1,e2⟩
theorem Sp.XG(I:Inv C W σ s){i:Nat}{p:Apc×Apc}(hp:W.τ[i]?=some p):Sp C A σ W s (call (.builtin "list.pop") [.ref p.1]) (λk _=>XG i σ k) (RV C):=λk ke h=>by
 unfold Mine.XG at h;split at h
 ·rename_i q l ol;obtain⟨pp,BK,ep,cl,vl,il,k1,_,nd⟩:=I.obj _ _ ol;rw[hp] at BK;cases BK;obtain⟨hb,h⟩:=Ac h;obtain⟨b1,b2⟩:=Ac hb;have b1:=A5 b1;have b2:=EA I k1 b2;split at h
  ·rename_i v r hr;have el:l=r.reverse++ [v]:=by rw[←List.reverse_reverse l,hr,List.reverse_cons]
   have vl':AM C W s.heap (r.reverse++ [v]) cl:=el▸vl;obtain⟨cr,cv,rfl,v1,v2⟩:=vl'.snoc;simp only[Aq,Apj] at il;have hz:(Mine.part W q++(cr++ [cv])).toArray.size≤Aq9:=by rw[ApF,Apt,Apd,vl.length];omega
   obtain⟨⟨cls,dd,data,sl⟩,ho,hc,n,hd⟩:=id il;simp only at hc hd;subst hc hd;refine call_meets PySem.F.slot_list_pop ⟨_,ho,rfl⟩ PySem.F.entry_list_pop (PySem.F.args_list_pop_1 _) (T4 p.1 _ n dd sl cv (by simp) hz) ⟨ho,?_⟩;obtain⟨J,X⟩:=I.MW (pre:=q) (suf:=none) hp ep il (IsList.update il λxs=>xs.eraseIdxIfInBounds ((Mine.part W q++(cr++ [cv])).toArray.size-1)) (Kq.update il nd _) (ApW ..) s.toks v1 (by
    have e:(Mine.part W q++(cr++ [cv])).length-1=(Mine.part W q++cr).length:=by simp
    rw[Apt,e,←ApQ];simp only[Aq,Apj];apply Array.toList_inj.mp;rw[Array.eraseIdxIfInBounds,dif_pos (by simp)];simp only[List.eraseIdx_toArray];rw[List.eraseIdx_append_of_length_le (by simp)];simp) k1 trivial
   exact⟨v,_,W,h,X,J,I.vr X v2⟩
  ·cases h
 ·cases h
theorem Sp.V2(I:Inv C W σ s){i j:Nat}{p q:Apc×Apc}(hp:W.τ[i]?=some p)(hq:W.τ[j]?=some q):Sp C A σ W s (call (.builtin "list.extend") [.ref p.1,.ref q.1]) (λk _=>V2 i j σ k) (RV C):=λk ke h=>by
 unfold Mine.V2 at h;split at h
 ·rename_i x l m ol om;obtain⟨pp,BK,ep,cl,vl,il,k1,_,nd⟩:=I.obj _ _ ol;rw[hp] at BK;cases BK;obtain⟨qq,Ws,_,cm,vm,im,_⟩:=I.obj _ _ om;rw[hq] at Ws;cases Ws;obtain⟨hb,h⟩:=Ac h;obtain⟨b1,b2⟩:=Ac hb;have b1:=A5 b1;have b2:=EA I k1 b2;rw[Apd] at b1;simp only[Aq,ApC,Apj] at il im;have z1:(Mine.part W x++cl).toArray.size≤1004000:=by rw[Apt,Apd,vl.length];omega
  have z2:cm.toArray.size≤4000:=by rw[Apt,vm.length];omega
  obtain⟨⟨cls,dd,data,sl⟩,ho,hc,n,hd⟩:=id il;obtain⟨⟨TA,F8,data2,Cg⟩,JB,Lg,n2,hd2⟩:=id im;simp only at hc hd Lg hd2;subst hc hd Lg hd2;refine call_meets PySem.F.slot_list_extend ⟨_,ho,rfl⟩ PySem.F.entry_list_extend (PySem.F.args_list_extend_2 _ _) (MX p.1 _ n dd sl q.1 _ n2 F8 Cg (by
   rw[Ap8];rintro⟨_,h⟩;have h:(Mine.part W x++cl).toArray.size+cm.toArray.size>Aq9:=of_decide_eq_true h;rw[ApF] at h;omega) (by rw[ApF];omega) (by rw[ApF];omega)) ⟨ho,JB,?_⟩
  obtain⟨J,X⟩:=I.MW (pre:=x) (suf:=none) hp ep il (IsList.update il λxs=>xs++cm.toArray) (Kq.update il nd _) (ApW ..) s.toks (vl.app vm) (by simp[Aq]) k1 trivial;exact⟨.A4,_,W,h,X,J,.A4⟩
 ·cases h
end
end
section
variable{C:Cx}
structure Zy(K:AqI)(Cl g:Apc)(nm:Str):Prop where
 hg:specialIn K (.ref Cl) "__getattribute__"=some (some (.builtin "type.__getattribute__"))
 rd:∃mc,readsIn K Cl mc=true∧findCls K (.ref Cl) mc nm=some (.val<|.ref g)
structure IV(C:Cx)(T:Tab):Prop where
 OQ:C.nm[T.OQ]?=some (Ao1 "pop")
 CI:C.nm[T.CI]?=some (Ao1 "append")
 DL:C.nm[T.DL]?=some (Ao1 "extend")
 E8:C.nm[T.E8]?=some (Ao1 "index")
 DK:C.nm[T.DK]?=some (Ao1 "encode")
 E9:C.nm[T.E9]?=some (Ao1 "__init__")
 E7:C.nm[T.E7]?=some (Ao1 "ascii")
 tI:∀Cl x nm g,T.U0 Cl x=some g->C.nm[x]?=some nm->∃K:AqI,K.In C.h1∧Zy K Cl g nm
 enc:∀s b,T.enc s=some b->∃X,C.nm[s]?=some X∧b.length≤1000∧∀t u,Gives (Builtin.«str.encode» ⟨[.str X t,.str (Ao1 "ascii") u],[]⟩) (.bytes b.toArray)
inductive Zk:MK->Ao3->Ao3->List Ao3->Prop
 |fnS {g co}:Zk (.fn g true) co (.ref g) [co]
 |fnC {g co}:Zk (.fn g false) co (.ref g) []
 |pop {co}:Zk .pop co (.builtin "list.pop") [co]
 |app {co}:Zk .app co (.builtin "list.append") [co]
 |ext {co}:Zk .ext co (.builtin "list.extend") [co]
 |exc {co}:Zk .exc co (.builtin "Exception.__init__") []
 |enc {co}:Zk .enc co (.builtin "str.encode") [co]
 |idx {co}:Zk .idx co (.builtin "tuple.index") [co]
theorem NP{x y:Nm}{n m:Str}(h:Ao9 x y=true)(hx:C.nm[x]?=some n)(hy:C.nm[y]?=some m):n=m:=by cases beq_iff.mp h;rw[hx] at hy;exact Apr hy
theorem CV{b p q:Bool}(h:bt b p q=true):(b=true∧p=true)∨(b=false∧q=true):=by cases b with |true=>exact .inl ⟨rfl,h⟩|false=>exact .inr ⟨rfl,h⟩
section
variable{A:Apg}{σ:St}{W:Wd}{s:Ao5}{T:Tab}
def Meth(C:Cx)(s:Ao5)(co:Ao3)(nm:Str)(cf:Ao3)(first:List Ao3):Prop:=
 ∀(A:Apg) (E:Ao3->Ao5->Prop) (Q:Ao3×List Ao3->Ao5->Prop) (pl:Sem Bool),(∀t,Q (cf,first) {s with toks:=t})->Aph (model C.prog C.w) A (getMethod co nm pl) Q E s
set_option maxRecDepth 100000 in
theorem V5(O:Ok C)(AK:Eo C T)(MO:IV C T)(I:Inv C W σ s){x:Nm}{nm:Str}(hx:C.nm[x]?=some nm)(ho:VR C W s.heap o co)(h:Sd T o x σ f=true):
  ∃m cf first,f m=true∧Zk m co cf first∧Meth C s co nm cf first:=by
 unfold Sd at h;split at h
 ·rename_i j;cases ho with
  | @obj _ p0 hj=>
   unfold iH at h;split at h
   ·rename_i Cl l ol;obtain⟨p,hp,⟨sl,e1⟩,es,n,Cg,he,hk,hz,hN⟩:=I.obj _ _ ol;rw[hj] at hp;cases hp;split at h
    ·rename_i g ht hn;obtain⟨K,hK,D⟩:=AK.FI _ _ _ _ ht hx;have n8:K.In s.heap:=λa o e=>I.base a o (hK a o e)
     have IA:=Eh (d:=.plain) (λ_ e=>nomatch e) e1 he;have sh:shadowIn (some ⟨.type "dict",none,.dict es n,Cg⟩) nm=some false:=by show(lookIn nm _).map _=_;rw[H8 hk (hN.noName O hx hn)];rfl
     exact⟨_,_,_,h,.fnS,λA E Q pl q=>method_fn n8 IA (plainGet_of D.get).1 (plainGet_of D.get).2 D.at_ D.fn sh (q _)⟩
    ·cases h
   ·rename_i l q0 m ol;obtain⟨pp,hp,ep,cl,cm,vl,vm,il,_,nd⟩:=I.obj _ _ ol;rw[hj] at hp;cases hp;obtain⟨od,e1,e2,_⟩:=nd;have hd:∀a,Aqu p0.1= .ref a->∃o,s.heap.get? a=some o∧o.dict=none:=λa e=>by cases e;exact⟨_,e1,e2⟩
    rcases CV h with⟨q,h⟩|⟨_,h⟩
    ·cases NP q hx MO.CI;exact⟨_,_,_,h,.app,λA E Q pl q=>Arm il.typeIs ArA Arv PySem.F.type_list_append hd (q _)⟩
    ·cases h
   ·rename_i pr l su ol;obtain⟨pp,hp,ep,cl,vl,il,_,_,nd⟩:=I.obj _ _ ol;rw[hj] at hp;cases hp;obtain⟨od,e1,e2,_⟩:=nd;have hd:∀a,Aqu p0.1= .ref a->∃o,s.heap.get? a=some o∧o.dict=none:=λa e=>by cases e;exact⟨_,e1,e2⟩
    rcases CV h with⟨q,h⟩|⟨_,h⟩
    ·cases NP q hx MO.OQ;exact⟨_,_,_,h,.pop,λA E Q pl q=>Arm il.typeIs ArA PySem.F.slot_list_pop PySem.F.type_list_pop hd (q _)⟩
    ·rcases CV h with⟨q,h⟩|⟨_,h⟩
     ·cases NP q hx MO.CI;exact⟨_,_,_,h,.app,λA E Q pl q=>Arm il.typeIs ArA Arv PySem.F.type_list_append hd (q _)⟩
     ·rcases CV h with⟨q,h⟩|⟨_,h⟩
      ·cases NP q hx MO.DL;exact⟨_,_,_,h,.ext,λA E Q pl q=>Arm il.typeIs ArA PySem.F.slot_list_extend PySem.F.type_list_extend hd (q _)⟩
      ·cases h
   ·cases h
 ·rename_i Cl;cases ho;split at h
  ·rename_i g ht;obtain⟨K,hK,D⟩:=MO.tI _ _ _ _ ht hx;have n8:K.In s.heap:=λa o e=>I.base a o (hK a o e)
   obtain⟨mc,r1,r2⟩:=D.rd;exact⟨_,_,_,h,.fnC,λA E Q pl q=>method_cls n8 D.hg (cls_value n8 r1 r2 rfl (q _))⟩
  ·cases h
 ·rename_i t;cases ho;rcases CV h with⟨q,hf⟩|⟨_,h⟩
  ·obtain⟨q1,q2⟩:=Ac q;cases NP q1 hx MO.E9;cases(beq_iff_eq.mp q2);refine⟨_,_,_,hf,.exc,λA E Q pl q=>?_⟩;have X:Frag.In [] s.heap:=λa o e=>by cases e
   have vJ:opaqueClassAbove (.type "Exception")=pure none:=by unfold opaqueClassAbove;dsimp only;rw[show Manifest.isStub "Exception"=false from by decide +kernel];rfl
   have L0:Aq6 (model C.prog C.w) s.heap (typeOf (.type "Exception")) (.type "type"):=Looks.of_pure rfl;unfold getMethod specialOf;refine Ao2 (Ao2 (L0.here ((looks_findIn X type_tga).here ?_)));dsimp only;rw[if_pos canon_tga];refine Ao2 (Apa (Q:=λv s'=>Q (v,[]) s') (E:=E) ?_ (λ_ _ z=>Ao4 z) λ_ _ z=>z);refine cls_open X (Looks.of_pure vJ) L0 type_tga (looks_hook X (r:=none) (by rfl)) (by show subIn [] _ _=_;rfl) (r:=.val (.builtin "Exception.__init__")) (by kernel_rfl) ?_;exact Ao4 (by show Aph _ _ (handedOut (.builtin "Exception.__init__")) _ _ _;rw[handedOut_of (by decide +kernel)];exact Ao4 (q _))
  ·cases h
 ·cases ho with
  |str e=>
   rcases CV h with⟨q,h⟩|⟨_,h⟩
   ·cases NP q hx MO.DK;exact⟨_,_,_,h,.enc,λA E Q pl q=>Arm (typeIs_str _ _ _) PySem.F.plainAttrs_str PySem.F.slot_str_encode PySem.F.type_str_encode (λ_ e=>nomatch e) (q _)⟩
   ·cases h
 ·cases ho with
  |Ak ht v=>
   rcases CV h with⟨q,h⟩|⟨_,h⟩
   ·cases NP q hx MO.E8;exact⟨_,_,_,h,.idx,λA E Q pl q=>Arm (let⟨o,a,b,_⟩:=ht.Ak;⟨o,a,b⟩) PySem.F.plainAttrs_tuple PySem.F.slot_tuple_index PySem.F.type_tuple_index (λa e=>by cases e;exact ht.nd) (q _)⟩
   ·cases h
 ·cases h
end
end
section
variable{C:Cx}
theorem JE{prog:Ap3}{w:Ao7}{A:Apg}{Q:Option Fin×Unit->Ao5->Prop}{E:Ao3->Ao5->Prop}{s:Ao5}{items:Array Ao3}{x:Ao3}{e:Nat->Bool}
  (he:∀i (hi:i<items.size) (Q:Bool->Ao5->Prop),Q (e i) s->Aph (model prog w) A (eqBool items[i] x) Q E s){j:Nat}(hj:j<items.size)(hit:e j=true)(hno:∀i,i<j->e i=false)
  (h:Q (some<|.done<|.ret<|.int j s.toks,()) {s with toks:=s.toks+1}):∀(k i:Nat) (L:List Nat) (hs:∃bs,bs++List.range' i k=L),i+k=items.size->i≤j->
  Aph (model prog w) A (List.forIn'.loop L (λa (_:a∈L) (_:Option Fin×Unit)=>match items[a]? with
      |some y=>do
       let r ←eqBool y x
       if r=true then do
         let r ←retInt (a:Int)
         pure (ForInStep.done (some r,()))
        else pure (ApS (none,()))
      |_=>pure (ApS (none,()))) (List.range' i k) (none,()) hs) Q E s
 |0,i,L,hs,hk,hi=>by omega
 |k+1,i,L,hs,hk,hi=>by
  have P0:i<items.size:=by omega
  show Aph _ _ ((match items[i]? with
      |some y=>do
       let r ←eqBool y x
       if r=true then do
         let r ←retInt (i:Int)
         pure (ForInStep.done (some r,()))
        else pure (ApS (none,()))
      |_=>pure (ApS (none,())))>>=_) _ _ _
  rw[Array.getElem?_eq_getElem P0];refine Ao2<|Ao2<|he i P0 _ ?_;by_cases q:i=j
  ·subst q;rw[hit,if_pos rfl];exact Ao2 (Ao2<|wpAny_mkInt<|Ao4<|Ao4<|Ao4 h)
  ·rw[hno i (by omega),if_neg (by decide)];refine Ao4 ?_;exact JE he hj hit hno h k (i+1) L _ (by omega) (by omega)
theorem PW(a:Apc)(items:Array Ao3)(n:Nat)(dd:Option Apc)(sl:Array (Option Ao3))(x:Ao3)(e:Nat->Bool)
  (he:∀i (hi:i<items.size) (prog:Ap3) (w:Ao7) (A:Apg) (E:Ao3->Ao5->Prop) (s:Ao5) (Q:Bool->Ao5->Prop),Q (e i) s->Aph (model prog w) A (eqBool items[i] x) Q E s)
  (j:Nat)(hj:j<items.size)(hit:e j=true)(hno:∀i,i<j->e i=false):
  Meets (Builtin.«tuple.index» ⟨[.ref a,x],[]⟩)
   (λ_ R s=>s.heap.get? a=some {cls:=.type "tuple",dict:=dd,data:=.seq items n,slots:=sl}∧R (.ok (.ret (.int j s.toks))) {s with toks:=s.toks+1}):=
 .of_wp λprog w A R s h=>by
  obtain⟨hp,g,d,tk,os⟩:=s;obtain⟨hl,h⟩:=h;have f2:=Arp;unfold Builtin.«tuple.index»;simp only[Std.Legacy.Range.forIn_eq_forIn_range']
  wp_walk using Apq hl
  have e1:[:min items.size items.size].size=items.size:=by simp[Std.Legacy.Range.size]
  refine JE (e:=e) (λi hi Q q=>he i hi prog w _ _ _ Q q) hj hit hno ?_ [:min items.size items.size].size 0 _ _ (by rw[e1];omega) (by omega);exact Ao4 ⟨_,rfl,h⟩
theorem N8{prog:Ap3}{w:Ao7}{A:Apg}{E:Ao3->Ao5->Prop}{s:Ao5}{Q:Bool->Ao5->Prop}{u v:Ao3}{i j:Int}(hu:u= .int i tu)(hv:v= .int j tv)(h:Q (decide (i=j)) s):Aph (model prog w) A (eqBool u v) Q E s:=by subst hu hv;exact wpAny_eqBool_int h
section
variable{A:Apg}{σ:St}{W:Wd}{s:Ao5}{T:Tab}
inductive ND(W:Wd):List AV->List Int->Prop
 |nil:ND W [] []
 |cons {l:Ap} {i r m}:l.ev W.ρ=some i->ND W r m->ND W (.int l::r) (i::m)
theorem KX:∀{l:List AV} {cl:List Ao3},AM C W h l cl->Qa l=true->∃m,ND W l m∧m.length=cl.length∧∀i (hi:i<cl.length),∃t,cl[i]= .int (m.getD i 0) t
 |_,_,.nil,_=>⟨[],.nil,rfl,λi hi=>absurd hi (by simp)⟩
 |_,_,.cons (v:=v) a r,h=>by
  cases a with
  |int e=>
   obtain⟨m,h1,h2,h3⟩:=KX r h;refine⟨_::m,.cons e h1,by simp[h2],λi hi=>?_⟩;cases i with
   |zero=>exact⟨_,rfl⟩
   |succ i=>simpa using h3 i (by simpa using hi)
  |_=>cases h
theorem Wx{y:Ap}{j:Int}(hy:y.ev W.ρ=some j){k:K AV}:∀{l:List AV} {m:List Int} {n:Nat} {σ:St},Inv C W σ s->ND W l m->idx l y n σ k=true->
  ∃i σ',i<m.length∧m.getD i 0=j∧(∀i',i'<i->m.getD i' 0≠j)∧Bx C W s σ σ'∧k (.int<|.k<|Api<|n+i) σ'=true
 |_,_,n,σ,I,.nil,h=>by cases h
 |_,_,n,σ,I,.cons (i:=i0) e r,h=>by
  have h:isZero _ σ (λc σ=>bt c (k (.int<|.k<|Api n) σ) (idx _ y (n+1) σ k))=true:=h;obtain⟨σ1,n1,h⟩:=Fo I (Ap.Ea e hy) h;rcases CV h with⟨q,h⟩|⟨q,h⟩
  ·exact⟨0,σ1,by simp,by have:=of_decide_eq_true q;simp;omega,λi' hi=>absurd hi (Nat.not_lt_zero _),n1,h⟩
  ·obtain⟨i,σ2,a1,a2,a3,n2,h⟩:=Wx hy n1.1 r h;refine⟨i+1,σ2,by simp;omega,by simpa using a2,λi' hi=>?_,n1.trans n2,by rw[show n+(i+1)=n+1+i from by omega];exact h⟩;cases i' with
   |zero=>have:=of_decide_eq_false q;simp;omega
   |succ i'=>simpa using a3 i' (by omega)
theorem Sp.bG(I:Inv C W σ s){l:List AV}{cl:List Ao3}(ht:IsT W s.heap a cl.toArray)(vl:AM C W s.heap l cl)(hv:VR C W s.heap v cv):
  Sp C A σ W s (call (.builtin "tuple.index") [.ref a,cv]) (λk _=>bG l v σ k) (RV C):=λk ke h=>by
 obtain⟨hb,h⟩:=Ac h;obtain⟨b1,b2⟩:=Ac hb;have b1:=A5 b1;obtain⟨v',σ1,n1,Ko,_,h⟩:=AN I hv h;split at h
 ·cases Ko with
  | @int yl yi yt hy=>
   obtain⟨m,h1,h2,h3⟩:=KX vl b2;obtain⟨i,σ2,a1,a2,a3,n2,h⟩:=Wx hy n1.1 h1 h;obtain⟨⟨cls,dd,data,sl⟩,ho,hc,n,hd⟩:=id ht.Ak;simp only at hc hd;subst hc hd;refine call_meets PySem.F.slot_tuple_index ⟨_,ho,rfl⟩ PySem.F.entry_tuple_index (PySem.F.args_tuple_index_2 _ _) (PW a cl.toArray n dd sl (.int yi yt) (λi=>decide (m.getD i 0=yi)) ?_ i ?_ ?_ ?_) ⟨ho,?_⟩
   ·intro i hi prog w A E s Q q;obtain⟨t,e⟩:=h3 i (by simpa using hi);exact N8 (by simpa using e) rfl q
   ·rw[Apt,←h2];exact a1
   ·exact decide_eq_true a2
   ·exact λi' hi=>decide_eq_false (a3 i' hi)
   ·rw[Nat.zero_add] at h;exact(n1.trans n2).By (R:=RV C) h (.int<|Ap.CY _)
 ·cases h
theorem Sp.Ew(I:Inv C W σ s){j:Nat}{p:Apc×Apc}(hj:W.τ[j]?=some p){v:AV}{cv:Ao3}:
  Sp C A σ W s (call (.builtin "Exception.__init__") [.ref p.1,cv]) (λk _=>Ew [.obj j,v] σ k) (RV C):=λk ke h=>by
 unfold Mine.Ew at h;dsimp only at h;split at h
 ·rename_i Cl d ol;obtain⟨p',hp,ep,⟨K,hK,s1,s2⟩,dd,fs,sl,Kw,e1,e3⟩:=I.obj _ _ ol;rw[hj] at hp;cases hp;have X:K.In s.heap:=λa o e=>I.base a o (hK a o e)
  have F:=excClass_Exception;have Gb:1<fs.size:=(Ap9.mp e3).1;have LT:Aq6 (model C.prog C.w) s.heap (typeOf (.ref p.1)) (.ref Cl):=(Looks.ld e1).andThen .now;have LI:Aq6 (model C.prog C.w) s.heap (ArY (.ref p.1) (.type "Exception")) true:=LT.andThen (looks_subIn X s1);refine wpAny_call (codeAny_call_builtin F.init.plain F.initEntry ?_);simp only[checkBuiltinCall,F.initKind,F.initSplit,F.initSig];refine Ao2 (LI.here ?_);simp only[Bool.not_true,ApY,if_false];unfold Bind.checkArgs;dsimp only;refine Ao2 (m:=Bind.printed "*" true _ _) ?_;unfold Bind.printed Bind.receiverType;rw[if_neg (by decide)];refine Ao2 (m:=(if(Manifest.Receiver.self==Manifest.Receiver.cls)=true then Apx (Aqu p.1) else typeOf (.ref p.1))) ?_;rw[if_neg (by decide)];refine LT.here (Ao2 (m:=typeNameWhole _) ?_);obtain⟨cd,hcd,_⟩:=Option.bind_eq_some_iff.mp (show(clsIn K Cl).bind _=some true from s1);have LN:Aq6 (model C.prog C.w) s.heap (typeNameWhole (.ref Cl)) cd.name.toString:=(looks_clsIn X hcd).andThen .now;refine LN.here (Ao4 ?_);dsimp only;rw[if_pos (show(("Exception":String) != "*")=true from by decide)];refine Ao2 (Ao4 ?_);refine wpAny_onRaise ?_;show Aph _ _ (Bind.check _ _ _ _ []) _ _ _;rw[check_varPos];refine Ao4 ?_;unfold Builtin.«BaseException.__init__»;dsimp only;rw[if_neg (by simp)];unfold newTuple Builtin.BaseException.bexcPut;have e1':=Ao8 (h:=s.heap) {cls:=.type "tuple",data:=.seq [cv].toArray} e1;refine Ao2 (ApR (Ao2 (Ao2 (ApJ e1' rfl (x:=fs[0]) (Array.getElem?_eq_getElem (by omega)) (Ao2 (Arb e1' rfl (by omega) ?_))))) (by show 1≤Aq9;rw[ApF];omega));have fin:A7 C k σ W s (RV C) .none {s with heap:=(s.heap.push {cls:=.type "tuple",data:=.seq [cv].toArray}).update p.1 (AqE (·.setIfInBounds 0 (.ref s.heap.objs.size)))}:=by
   obtain⟨J1,X1⟩:=I.push {cls:=.type "tuple",data:=.seq [cv].toArray} s.toks;have g:=Apm (AqE (·.setIfInBounds 0 (.ref s.heap.objs.size))) e1' rfl;obtain⟨J2,X2⟩:=J1.put (s':={s with heap:=(s.heap.push {cls:=.type "tuple",data:=.seq [cv].toArray}).update p.1 (AqE (·.setIfInBounds 0 (.ref s.heap.objs.size)))}) (o:=.exc Cl d) hj
    (λb o h1 _ hb=>(Apw _ _<|ArQ h1).trans hb)
    (λT=>⟨ep,⟨K,hK,s1,s2⟩,dd,_,sl,Kw,g,by rw[Array.getElem?_setIfInBounds];simpa using e3⟩) ⟨_,g,trivial⟩ (by rw[ep];exact⟨_,g,trivial⟩)
    (λa ha y hy iX=>by
     exfalso;have ha:a=p.1:=ha.elim id λe=>e.trans ep
     subst ha;have hy:(s.heap.push {cls:=.type "tuple",data:=.seq [cv].toArray}).get? p.1=some y:=hy;rw[e1'] at hy;cases hy;exact absurd iX.1 (λe=>nomatch e)) rfl rfl
   exact⟨.A4,_,W,h,X1.trans X2,J2,.A4⟩
  generalize fs[0]=f0;cases f0 with
  |ref a=>exact wpAny_letGo (Ao4 fin)
  |_=>exact Ao4 (Ao4 fin)
 ·cases h
end
end
section
variable{C:Cx}
def Gm(C:Cx)(cf:Ao3):Prop:=∀(M:ArJ) (h:Apn),(∀a o,C.h1.get? a=some o->h.get? a=some o)->∃k,(k=Keeper.frame∨k=Keeper.machine∨k=Keeper.boundFrame)∧Aq6 M h (keeperOf cf) k
def AW(A:Apg)(W:Wd):Prop:=∃l,A.frames=some l∧∀e∈l,e.scope.kind≠ .module∧∃L∈W.fs,e.frame=some L
def Cq(C:Cx)(k:K AV)(ke:K AV)(σ:St)(W:Wd)(s:Ao5)(r:Aru)(s':Ao5):Prop:=match r with
 | .ok (.ret v)=>A7 C k σ W s (RV C) v s' | .ok _=>False | .error e=>AG C ke σ W s e s'
def KV(C:Cx)(a:Apc):Prop:=∃o fd,C.h1.get? a=some o∧o.data= .func fd
structure Cp(C:Cx)(n:Nat)(cl:CL):Prop where
 nC:∀f vs σ k ke,cl f vs σ k ke=true->∃v,f= .Au v∧Gm C v
 run:∀(A:Apg) (σ:St) (W:Wd) (s:Ao5) (f:AV) (vs:List AV) (cf:Ao3) (cvs:List Ao3),CJ n true A->Inv C W σ s->AW A W->VR C W s.heap f cf->AM C W s.heap vs cvs->
  Sp C A σ W s (call cf cvs) (λk ke=>cl f vs σ k ke) (RV C)
 code:∀(A:Apg) (σ:St) (W:Wd) (s:Ao5) (a:Apc) (vs:List AV) (cvs:List Ao3) (k ke:K AV),CJ n true A->Inv C W σ s->AW A W->KV C a->AM C W s.heap vs cvs->cl (.Au<|.ref a) vs σ k ke=true->
  ApG (model C.prog C.w) A (.call (.ref a) ⟨cvs,[]⟩) (Cq C k ke σ W s) s
theorem A8.ar{sc E env}(e:A8 C A W sc E env):AW A W:=let⟨l,a,b,_⟩:=e.around;⟨l,a,b⟩
theorem AW.up{W':Wd}(h:AW A W)(t:W.τ<+:W'.τ∧W.fs<+:W'.fs):AW A W':=let⟨l,a,b⟩:=h;⟨l,a,λe he=>let⟨x,L,y,z⟩:=b e he;⟨x,L,t.2.subset y,z⟩⟩
theorem BP(i:String):Gm C (.builtin i):=λM h _=>⟨.machine,.inr<|.inl rfl,.now⟩
theorem UZ(i:String):Gm C (.type i):=λM h _=>⟨.machine,.inr<|.inl rfl,.now⟩
section
variable{A:Apg}{σ:St}{W:Wd}{s:Ao5}{T:Tab}{n:Nat}{cl:CL}
theorem Sp.FQ(O:Ok C)(AK:Eo C T)(MO:IV C T)(ok:Cp C n cl)(f:CJ n true A)(ar:AW A W)(I:Inv C W σ s){m:MK}{o:AV}{co cf:Ao3}{first:List Ao3}(mk:Zk m co cf first)(ho:VR C W s.heap o co){vs:List AV}{cvs:List Ao3}(hv:AM C W s.heap vs cvs)
  {k:K AV}{ke:K AV}(h:FQ T cl m o vs σ k ke=true):Gm C cf∧Aph (model C.prog C.w) A (call cf<|first++cvs) (A7 C k σ W s<|RV C) (AG C ke σ W s) s:=by
 cases mk with
 |fnS=>refine⟨?_,ok.run A σ W s _ _ _ _ f I ar .Au (.cons ho hv) k ke h⟩;obtain⟨v,e,c⟩:=ok.nC _ _ _ _ _ h;cases e;exact c
 |fnC=>refine⟨?_,ok.run A σ W s _ _ _ _ f I ar .Au hv k ke h⟩;obtain⟨v,e,c⟩:=ok.nC _ _ _ _ _ h;cases e;exact c
 |pop=>
  refine⟨BP _,?_⟩;unfold Mine.FQ at h;dsimp only at h;split at h
  ·cases ho with
   |obj hj=>cases hv;exact Sp.XG I hj k ke h
  ·cases h
 |app=>
  refine⟨BP _,?_⟩;unfold Mine.FQ at h;dsimp only at h;split at h
  ·cases ho with
   |obj hj=>
    cases hv with
    |cons a r=>
     cases r;refine Apa (Sp.BR I hj a (λ_ σ=>k .A4 σ) ke h) (λr s1 q=>?_) λ_ _ q=>q
     obtain⟨_,σ1,W1,h1,X1,I1,rfl⟩:=q;exact⟨.A4,σ1,W1,h1,X1,I1,.A4⟩
  ·cases h
 |ext=>
  refine⟨BP _,?_⟩;unfold Mine.FQ at h;dsimp only at h;split at h
  ·cases ho with
   |obj hj=>
    cases hv with
    |cons a r=>
     cases r;cases a with
     |obj hi=>exact Sp.V2 I hj hi k ke h
  ·cases h
 |exc=>
  refine⟨BP _,?_⟩;change Mine.Ew vs σ k=true at h;have h':=h;unfold Mine.Ew at h';split at h'
  ·cases hv with
   |cons a r=>
    cases r with
    |cons b r=>
     cases r;cases a with
     |obj hj=>exact Sp.Ew I hj k ke h
  ·cases h'
 |enc=>
  refine⟨BP _,?_⟩;unfold Mine.FQ at h;dsimp only at h;split at h
  ·cases ho with
   |str hX=>
    cases hv with
    |cons a r=>
     cases r;cases a with
     |str hE=>
      rcases CV h with⟨q,h⟩|⟨_,h⟩
      ·cases NP q hE MO.E7;split at h
       ·rename_i b hb;obtain⟨X',h1,h2,g⟩:=MO.enc _ _ hb;rw[hX] at h1;cases h1;refine call_gives PySem.F.slot_str_encode (typeIs_str _ _ _) PySem.F.entry_str_encode (PySem.F.args_str_encode_2 _ _) (g _ _) ⟨by rw[Apt,ApF];omega,?_⟩;exact(Bx.refl I).By (R:=RV C) h .B4
       ·cases h
      ·cases h
  ·cases h
 |idx=>
  refine⟨BP _,?_⟩;unfold Mine.FQ at h;dsimp only at h;split at h
  ·cases ho with
   |Ak ht vl=>
    cases hv with
    |cons a r=>cases r;exact Sp.bG I ht vl a k ke h
  ·cases h
end
section
variable{X:CX}{n:Nat}{sc:ApH}
theorem Nw.noStar{b:Bool}{l:List Cd}(h:Nw C X n b sc l es)(pos:Pos)(env:Env):(backTo pos<|starEach es env).any (·.1)=false∧(backTo pos<|starEach es env).all (!·.1)=true:=by
 induction h with
 |nil=>exact⟨rfl,rfl⟩
 |cons _ st _ ih=>rw[HM st];exact⟨ih.1,ih.2⟩
theorem Nw.args{b:Bool}{l:List Cd}{es:List Expr}(h:Nw C X n b sc l es){pos:Pos}{env:Env}{M:ArJ}{A:Apg}{E:Ao3->Ao5->Prop}{s:Ao5}{f:Ao3}{Q:Args->Ao5->Prop}
  (q:Aph M A (spliced<|backTo pos<|starEach es env) (λvs s'=>Q ⟨vs,[]⟩ s') E s):Aph M A (evalArgs f true (backTo pos<|starEach es env)<|backToKw pos<|keywordEach [] env) Q E s:=by
 cases h with
 |nil=>unfold evalArgs;show Aph M A (spliced []>>=_) Q E s;refine Ao2 (Apa q (λvs s' hq=>Ao2 (Ao4 ?_)) λ_ _ x=>x);refine ApA ?_;exact Ao2 (Ao4 (Ao2 (Ao4 (Ao4 hq))))
 |cons _ st _=>rw[HM st] at q ⊢;exact evalArgs_plain q
def notAttr:Expr->Bool
 | .Attribute .. =>false |_=>true
theorem UY(h:notAttr ef=true)(args:List Expr)(kws:List Keyword)(pos:Pos)(env:Env):eval (.Call ef args kws pos) env=(do
  callWith pos (←eval ef env) [] (backTo pos<|starEach args env) (backToKw pos<|keywordEach kws env)):=by
 cases ef<;>first |rfl |cases h
theorem SE.call(ok:Cp C n X.cl){l:List Cd}{pos:Pos}(hn:notAttr ef=true)(hf:SE C X n true sc c ef)(h:Nw C X n true sc l es):SE C X n true sc (callC c l) (.Call ef es [] pos):=λA σ W s E env f I e=>by
 rw[UY hn];refine Sp.bind (m:=λk ke=>c X E σ k ke) (g:=λa σ k ke=>Ny X E l σ (λvs σ=>X.cl a vs σ k ke) ke) (hf A σ W s E env f I e) λa ca σ1 W1 s1 X1 I1 r1=>λk ke q=>?_
 refine callWith_of (P:=λh=>∃k,(k=Keeper.frame∨k=Keeper.machine∨k=Keeper.boundFrame)∧Aq6 (model C.prog C.w) h (keeperOf ca) k) (by rw[(h.noStar pos env).1];rfl) (λ_ p=>p)<|h.args ?_;refine Apa (Sp.Ny h f I1 (e.up X1.up) _ ke q) (λcvs s2 q=>?_) λ_ _ q=>q
 obtain⟨vs,σ2,W2,h2,X2,I2,r2⟩:=q;obtain⟨v,rfl,cc⟩:=ok.nC _ _ _ _ _ h2;cases r1;refine⟨cc _ _ I2.base,?_⟩;exact Apa (ok.run A σ2 W2 s2 _ vs _ cvs f I2 ((e.up X1.up).up X2.up).ar .Au r2 k ke h2) (λ_ _ q=>q.base X2) λ_ _ q=>q.base X2
theorem SE.FI(O:Ok C)(AK:Eo C X.T)(MO:IV C X.T)(ok:Cp C n X.cl){c:Cd}{o:Expr}{y:Nm}{nm:Str}{l:List Cd}{es:List Expr}{apos pos:Pos}(hy:C.nm[y]?=some nm)(hn:GS o=true)(ho:SE C X n true sc c o)(h:Nw C X n true sc l es)
  (hl:es.length<30)(hp:(apos.endLine==pos.line)=true):SE C X n true sc (jA c y l) (.Call (.Attribute o nm apos) es [] pos):=λA σ W s E env f I e=>by
 rw[arm_eval_Call];refine Sp.bind (m:=λk ke=>c X E σ k ke) (g:=λa σ k ke=>res a σ λa σ=>Sd X.T a y σ λm=>Ny X E l σ (λvs σ=>FQ X.T X.cl m a vs σ k ke) ke) (λk ke q=>Jb hn (ho A σ W s E env f I e k ke q)) λa ca σ1 W1 s1 X1 I1 r1=>λk ke q=>?_
 obtain⟨a2,σ2,n2,r2,ns,q⟩:=AN I1 r1 q;obtain⟨m,cf,first,q,mk,me⟩:=V5 O AK MO n2.1 hy r2 q;refine Ao2<|ApT ?_;have Qq:methodCallForm (es.length+([]:List Keyword).length) (backTo pos<|starEach es env) (backToKw pos<|keywordEach [] env)=true:=by unfold methodCallForm;rw[(h.noStar pos env).2];simp[backToKw,keywordEach];omega
 unfold methodCall;rw[Qq];refine Ao2<|ApA (me _ _ _ _ λt=>?_);obtain⟨J,Y⟩:=n2.1.tok t;unfold methodCallPos;rw[hp];refine Ao2<|Ao4 ?_;refine callWith_of (P:=λh=>∃k,(k=Keeper.frame∨k=Keeper.machine∨k=Keeper.boundFrame)∧Aq6 (model C.prog C.w) h (keeperOf cf) k) (by rw[(h.noStar pos env).1];rfl) (λ_ p=>p)<|h.args ?_;have Z:Ext σ1 W1 s1 σ2 W1 {s1 with toks:=t}:=n2.ext.trans Y;refine Apa (Sp.Ny h f J ((e.up X1.up).up Z.up) _ ke q) (λcvs s2 q=>?_) λ_ _ q=>q.base Z
 obtain⟨vs,σ3,W3,h3,X3,I3,r3⟩:=q;obtain⟨cc,run⟩:=Sp.FQ O AK MO ok f (((e.up X1.up).up Z.up).up X3.up).ar I3 mk (J.vr X3<|n2.1.vr Y r2) r3 h3;exact⟨cc _ _ I3.base,Apa run (λ_ _ q=>q.base (Z.trans X3)) λ_ _ q=>q.base (Z.trans X3)⟩
end
end
section
variable{C:Cx}
inductive RF(C:Cx)(W:Wd)(h:Apn):Fl->Flow->Prop
 |next:RF C W h .next .next
 |brk:RF C W h .brk .brk
 |cont:RF C W h .cont .cont
 |ret {v cv}:VR C W h v cv->RF C W h (.ret v) (.ret cv)
def SS(C:Cx)(X:CX)(n:Nat)(b:Bool)(sc:ApH)(c:Cs)(st:Arw):Prop:=
 ∀(A:Apg) (σ:St) (W:Wd) (s:Ao5) (E:Bo) (env:Env),CJ n b A->Inv C W σ s->A8 C A W sc E env->Sp C A σ W s (exec st env) (λk ke=>c X E σ k ke) (RF C)
def SL(C:Cx)(X:CX)(n:Nat)(b:Bool)(sc:ApH)(c:Cs)(jK:List Arw):Prop:=
 ∀(A:Apg) (σ:St) (W:Wd) (s:Ao5) (E:Bo) (env:Env),CJ n b A->Inv C W σ s->A8 C A W sc E env->Sp C A σ W s (execs jK env) (λk ke=>c X E σ k ke) (RF C)
section
variable{X:CX}{n:Nat}{b:Bool}{sc:ApH}
theorem SL.nil:SL C X n b sc (Dq .next) []:=λA σ W s E env f I e=>by rw[arm_execs_nil];exact .pure (m:=λk ke=>Dq .next X E σ k ke) I (λ_ _ h=>h) .next
theorem SL.cons{c r:Cs}{st:Arw}{jK:List Arw}(h:SS C X n b sc c st)(hr:SL C X n b sc r jK):SL C X n b sc (Ir c r) (st::jK):=λA σ W s E env f I e=>by
 rw[arm_execs_cons];refine Sp.bind (m:=λk ke=>c X E σ k ke) (g:=λfl σ k ke=>match fl with | .next=>r X E σ k ke |f=>k f σ) (h A σ W s E env f I e) λfl cf σ1 W1 s1 X1 I1 r1=>?_
 cases r1 with
 |next=>exact hr A σ1 W1 s1 E env f I1 (e.up X1.up)
 |brk=>exact .pure I1 (λ_ _ h=>h) .brk
 |cont=>exact .pure I1 (λ_ _ h=>h) .cont
 |ret v=>exact .pure I1 (λ_ _ h=>h) (.ret v)
def GU:Expr->Bool
 | .ListComp .. =>false | .SetComp .. =>false | .DictComp .. =>false |_=>true
theorem C7(h:GU v=true)(t:Option Expr)(l:Nat)(env:Env):swapsWith v t l env=pure false:=by cases v<;>first |rfl |cases h
theorem Lx(e:A8 C A W sc E env):interactive env=false:=by unfold interactive;rw[e.scope,e.kind];rfl
theorem SS.expr{pos:Pos}(hn:GU v=true)(h:SE C X n b sc c v):SS C X n b sc (V1 c) (.Expr v pos):=λA σ W s E env f I e=>by rw[arm_exec_Expr,Lx e,C7 hn];intro k ke q;refine Ao2<|ApT ?_;rw[if_neg (by decide)];refine Ao2<|Ao4 ?_;rw[if_neg (by decide)];refine Ao2 (Apa (h A σ W s E env f I e _ ke q) (λv s1 q=>?_) λ_ _ q=>q);obtain⟨a,σ1,W1,h1,X1,I1,r1⟩:=q;exact wpAny_dropValue ⟨.next,σ1,W1,h1,X1,I1,.next⟩
theorem SS.const{c:Const}{kk:Nat}{p pos:Pos}(hc:(match c with | .none=>true | .bool _=>true | .str _=>true |_=>false)=true):SS C X n b sc (Dq .next) (.Expr (.Constant c kk p) pos):=λA σ W s E env f I e=>by
 rw[arm_exec_Expr,Lx e,C7 rfl];intro k ke q;refine Ao2<|ApT ?_;rw[if_neg (by decide)];refine Ao2<|Ao4 ?_;rw[if_neg (by decide)];rw[arm_eval_Constant];cases c with
 |none=>exact Ao2 (Ao4 (wpAny_dropValue ((Bx.refl I).post q .next)))
 |bool _=>exact Ao2 (Ao4 (wpAny_dropValue ((Bx.refl I).post q .next)))
 |str _=>exact Ao2 (wpAny_mkText (wpAny_dropValue ((Bx.refl I).By (R:=RF C) (k:=k) q RF.next)))
 |_=>cases hc
theorem SS.pass{pos}:SS C X n b sc (Dq .next) (.Pass pos):=λA σ W s E env f I e=>by rw[arm_exec_Pass];exact Sp.standAt (.pure (m:=λk ke=>Dq .next X E σ k ke) I (λ_ _ h=>h) .next)
theorem SS.brk{pos}:SS C X n b sc (Dq .brk) (.Break pos):=λA σ W s E env f I e=>by rw[arm_exec_Break];exact Sp.standAt (.pure (m:=λk ke=>Dq .brk X E σ k ke) I (λ_ _ h=>h) .brk)
theorem SS.cont{pos}:SS C X n b sc (Dq .cont) (.Continue pos):=λA σ W s E env f I e=>by rw[arm_exec_Continue];exact Sp.standAt (.pure (m:=λk ke=>Dq .cont X E σ k ke) I (λ_ _ h=>h) .cont)
theorem SS.ret{pos:Pos}(h:SE C X n b sc c v):SS C X n b sc (retS c) (.Return (some v) pos):=λA σ W s E env f I e=>by rw[arm_exec_Return,arm_evalOpt_some];refine Sp.standAt ?_;show Sp C A σ W s (eval v env>>=λx=>Apx (Flow.ret x)) _ _;refine(Sp.bind (m:=λk ke=>c X E σ k ke) (g:=λv σ k ke=>k (Fl.ret v) σ) (h A σ W s E env f I e) λa ca σ1 W1 s1 X1 I1 r1=>?_);exact .pure I1 (λ_ _ h=>h) (.ret r1)
theorem SS.AfK{pos:Pos}:SS C X n b sc (retS<|Dz .A4) (.Return none pos):=λA σ W s E env f I e=>by rw[arm_exec_Return];exact Sp.standAt (.pure (m:=λk ke=>retS (Dz .A4) X E σ k ke) I (λ_ _ h=>h)<|.ret .A4)
theorem SS.Oz{by_:List Arw}{pos}(ht:SB C X n b sc t et)(hx:SL C X n b sc x bx)(hy:SL C X n b sc y by_):SS C X n b sc (vU t x y) (.If et bx by_ pos):=λA σ W s E env f I e=>by
 rw[arm_exec_If];refine Sp.standAt (Sp.bind (m:=λk ke=>t X E σ k ke) (g:=λc σ k ke=>bt c (x X E σ k ke) (y X E σ k ke)) (ht A σ W s E env f I e) λc c' σ1 W1 s1 X1 I1 r1=>?_);cases(show c=c' from r1);cases c with
 |true=>exact hx A σ1 W1 s1 E env f I1 (e.up X1.up)
 |false=>exact hy A σ1 W1 s1 E env f I1 (e.up X1.up)
def isName:Expr->Bool
 | .Name .. =>true |_=>false
def M4(t value:Expr):Bool:=match t,value with
 | .Tuple ts _ _,.Tuple vs _ _=> !(ts.length==2||ts.length==3)||vs.length != ts.length|| !ts.all isName | .List ..,_=>false |_,_=>true
theorem H4{f:Str->Pos->Option Str}:∀{ts:List Expr},ts.all isName=false->(ts.filterMap λ| .Name id pos=>f id pos |_=>none).length<ts.length
 | [],h=>by cases h
 |t::ts,h=>by
  rw[List.all_cons] at h;have le:(ts.filterMap λ| .Name id pos=>f id pos |_=>none).length≤ts.length:=List.length_filterMap_le _ _;cases q:isName t with
  |false=>
   have e:(match t with | .Name id pos=>f id pos |_=>none)=none:=by cases t<;>first |rfl |cases q
   rw[List.filterMap_cons,e,ApD];exact Nat.lt_succ_of_le le
  |true=>
   rw[q,Bool.true_and] at h;have ih:=H4 (f:=f) h;rw[List.filterMap_cons,ApD];split
   ·exact ArT ih
   ·rw[ApD];exact Nat.succ_lt_succ ih
theorem T9(h:M4 t value=true)(env:Env):swappedStores [t] value env=pure none:=by
 cases t with
 |Tuple ts k p=>
  cases value with
  |Tuple vs k2 p2=>
   unfold M4 at h;dsimp only at h;unfold swappedStores;dsimp only;by_cases c1:(!(ts.length==2||ts.length==3)||vs.length != ts.length||env.blockKind != .function)=true
   ·exact if_pos c1
   ·rw[if_neg c1];split
    ·rfl
    ·have c2:ts.all isName=false:=by
      cases q:ts.all isName with
      |false=>rfl |true=>exfalso;rw[q,Bool.not_true,Bool.or_false] at h;exact c1 (by rw[h];rfl)
     have lt:=H4 (f:=λid pos=>if env.kindOf id==some .local&&pos.line==(ts.head?.map (·.pos.line)).getD 0 then some id else none) c2;refine if_pos ?_;rw[Bool.or_eq_true];exact .inl (bne_iff_ne.mpr<|AqU lt)
  |_=>rfl
 |List ts p=>cases h
 |_=>cases value<;>rfl
theorem SS.rH{pos:Pos}(hn:GU v=true)(hw:M4 et v=true)(hs:isStar et=false)(h:SE C X n b sc c v)(ht:ST C X n b sc t et):SS C X n b sc (sT t c) (.Assign [et] v pos):=λA σ W s E env f I e=>by rw[arm_exec_Assign];rw[show swapsWithSole [et] v pos.line env=Apx false from C7 hn _ _ _,T9 hw,EN hs];intro k ke q;refine Ao2<|ApT<|Ao2<|Ao4 ?_;rw[if_neg (by decide)];refine Ao2 (Apa (h A σ W s E env f I e _ ke q) (λv s1 q=>?_) λ_ _ q=>q);obtain⟨a,σ1,W1,h1,X1,I1,r1⟩:=q;refine Ao2<|Ao4 ?_;show Aph _ _ (assign et env v>>=λ_=>Apx Flow.next) _ _ _;refine Ao2 (Apa (ht A σ1 W1 s1 E env a v f I1 (e.up X1.up) r1 _ ke h1) (λ_ s2 q=>?_) λ_ _ q=>q.base X1);obtain⟨_,σ2,W2,h2,X2,I2,_⟩:=q;exact Ao4 ⟨.next,σ2,W2,h2,X1.trans X2,I2,.next⟩
def Xl(sc:ApH)(line:Nat)(nm:Str):Expr->Bool
 | .Name id pos=>id==nm&&(sc.names.lookup nm==some .local&&pos.line==line) |_=>false
def I7(sc:ApH)(line:Nat):List Str->List Expr->Bool
 | [],[]=>true |nm::ns,t::ts=>Xl sc line nm t&&I7 sc line ns ts |_,_=>false
def Mw(sc:ApH)(ns:List Str)(ts vs:List Expr):Bool:=
 (ts.length==2||ts.length==3)&&(vs.length==ts.length&&(vs.all (λe=> !isStar e)&&(I7 sc ((ts.head?.map (·.pos.line)).getD 0) ns ts&&
  (ns.eraseDups.length==ns.length&&(!vs.all (foldedForSure 8)&& !vs.all (constantsAlone 8))))))
theorem HQ{sc:ApH}{env:Env}(he:env.scope=sc){line:Nat}:∀{ns:List Str} {ts:List Expr},I7 sc line ns ts=true->
  (ts.filterMap λ| .Name id pos=>if env.kindOf id==some .local&&pos.line==line then some id else none |_=>none)=ns∧ns.length=ts.length
 | [],[],_=>⟨rfl,rfl⟩
 |nm::ns,t::ts,h=>by
  obtain⟨h1,h2⟩:=ApI.mp h;obtain⟨a,b⟩:=HQ he h2;cases t with
  |Name id pos=>
   unfold Xl at h1;obtain⟨q1,q2⟩:=ApI.mp h1;cases(beq_iff_eq.mp q1);rw[List.filterMap_cons];have e:env.kindOf nm=sc.names.lookup nm:=by unfold AqJ;rw[he]
   have e2:(if env.kindOf nm==some .local&&pos.line==line then some nm else none)=some nm:=by rw[e,q2];rfl
   dsimp only;rw[e2];exact⟨congrArg _ a,by simp[b]⟩
  |_=>cases h1
 | [],_::_,h=>by cases h
 |_::_,[],h=>by cases h
theorem TF(e:A8 C A W sc E env){k1 k2 p1 p2}(h:Mw sc ns ts vs=true):
  swappedStores [.Tuple ts k1 p1] (.Tuple vs k2 p2) env=pure (some ns)∧ns.length=ts.length:=by
 unfold Mw at h;simp only[Ap8,Bool.not_eq_true'] at h;obtain⟨h1,h2,h3,h4,h5,h6,h7⟩:=h;obtain⟨n1,n2⟩:=HQ e.scope h4;refine⟨?_,n2⟩;unfold swappedStores;dsimp only;have hb:env.blockKind= .function:=by unfold Env.blockKind;rw[e.scope,e.kind];rfl
 have c1:¬(!(ts.length==2||ts.length==3)||vs.length != ts.length||env.blockKind != .function)=true:=by rw[h1,hb,beq_iff_eq.mp h2];simp
 refine(if_neg c1).trans ?_;have c2:¬(vs.any λ| .Starred .. =>true |_=>false)=true:=by intro q;obtain⟨x,hx,hq⟩:=Arz.mp q;have:=List.all_eq_true.mp h3 x hx;cases x<;>first |(simp[isStar] at this;done)|cases hq
 refine(if_neg c2).trans ?_;have c3:¬(ns.length != ts.length||ns.eraseDups.length != ns.length)=true:=by rw[beq_iff_eq.mp h5,n2];simp
 have key:∀l:List Str,l=ns->(if(l.length != ts.length||l.eraseDups.length != l.length)=true then(Apx none:Sem (Option<|List Str)) else
   if vs.all (foldedForSure 8)=true then Apx none else do
    if vs.all (constantsAlone 8)=true then unsupported "assign.tuple-of-constant-expressions:order-of-the-stores"
    Apx (some l))=Apx (some ns):=by
  intro l hl;subst hl;refine(if_neg c3).trans<|(if_neg (by rw[h6];decide)).trans ?_;rw[if_neg (by rw[h7];decide)]
 exact key _ n1
end
end
section
variable{C:Cx}
structure B0(C:Cx)(fr:List Apc)(e:Apc)(h h':Apn):Prop where
 keep:∀b o,h.get? b=some o->Bj o->∃sl,h'.get? b=some {o with slots:=sl}∧(b∉fr->sl=o.slots)
 alive:∀b o,h.get? b=some o->∃o',h'.get? b=some o'
 base:∀b o,C.h1.get? b=some o->h.get? b=some o->h'.get? b=some o
 exc:∀o vs,h.get? e=some o->o.data= .fields vs->∃uJ,h'.get? e=some {o with data:=.fields uJ}
theorem B0.refl(fr:List Apc)(e:Apc)(h:Apn):B0 C fr e h h:=⟨λb o a _=>⟨o.slots,a,λ_=>rfl⟩,λb o a=>⟨o,a⟩,λb o _ a=>a,λo vs a d=>⟨vs,by rw[a];obtain⟨c,dd,dt,sl⟩:=o;cases(show dt= .fields vs from d);rfl⟩⟩
theorem B0.trans(x:B0 C fr e h1 h2)(y:B0 C fr e h2 h3):B0 C fr e h1 h3:=by
 refine⟨λb o a n=>?_,λb o a=>?_,λb o q a=>y.base b o q (x.base b o q a),λo vs a d=>?_⟩
 ·obtain⟨sl,q1,q2⟩:=x.keep b o a n;obtain⟨zP,q3,q4⟩:=y.keep b _ q1 n;exact⟨zP,q3,λq=>(q4 q).trans (q2 q)⟩
 ·obtain⟨o1,q⟩:=x.alive b o a;exact y.alive b o1 q
 ·obtain⟨fs,q⟩:=x.exc o vs a d;obtain⟨uJ,q'⟩:=y.exc _ fs q rfl;exact⟨uJ,q'⟩
theorem B0.field{T:Apc}{h:Apn}{oT:Obj}{ts:Array Ao3}(hT:h.get? T=some oT)(hd:oT.data= .fields ts)(hb:C.h1.get? T=none)(f:Array Ao3->Array Ao3):B0 C fr e h (h.update T<|AqE f):=by
 obtain⟨c,dd,dt,sl⟩:=oT;cases(show dt= .fields ts from hd);have g:(h.update T<|AqE f).get? T=some ⟨c,dd,.fields<|f ts,sl⟩:=Apm _ hT rfl;have other:∀b,b≠T->(h.update T<|AqE f).get? b=h.get? b:=λb q=>Apw _ _ (ArQ q)
 refine⟨λb o a n=>?_,λb o a=>?_,λb o q a=>?_,λo vs a d=>?_⟩
 ·have ne:b≠T:=λq=>by subst q;rw[hT] at a;cases a;exact n _ rfl
  exact⟨o.slots,(other b ne).trans a,λ_=>rfl⟩
 ·by_cases q:b=T
  ·subst q;exact⟨_,g⟩
  ·exact⟨o,(other b q).trans a⟩
 ·exact(other b λr=>by subst r;rw[hb] at q;cases q).trans a
 ·by_cases q:e=T
  ·subst q;rw[hT] at a;cases a;exact⟨_,g⟩
  ·refine⟨vs,(other e q).trans ?_⟩;rw[a];obtain⟨c,dd,dt,sl⟩:=o;cases(show dt= .fields vs from d);rfl
section
variable{M:ArJ}{A:Apg}{E:Ao3->Ao5->Prop}{s:Ao5}
structure Frames(C:Cx)(A:Apg)(h:Apn)(fsl:List Apc)(env:Env):Prop where
 frames:∃l,A.frames=some l∧(∀e∈l,e.scope.kind≠ .module∧∃L∈fsl,e.frame=some L)∧∃e∈l,e.frame=env.frame
 here:∀a∈fsl,C.h1.get? a=none∧∃o,h.get? a=some o∧C0 o
theorem C0.Bj(h:C0 o):Bj o:=λvs e=>by obtain⟨_,es,n,d⟩:=h;rw[d] at e;cases e
theorem La{h:Apn}{fsl:List Apc}(hh:∀a∈fsl,C.h1.get? a=none∧∃o,h.get? a=some o∧C0 o):∀{l:List Env},(∀e∈l,e.scope.kind≠ .module∧∃L∈fsl,e.frame=some L)->h.FunFrames C.h1 l
 | [],_=>trivial
 |e::l,q=>by obtain⟨a,L,b,c⟩:=q e (.head _);obtain⟨d,o,f,g⟩:=hh L b;exact⟨a,⟨L,o,c,d,f,g.Bj⟩,La hh λe he=>q e (.tail _ he)⟩
theorem VK{f:Option Apc}:∀{l:List Env},(∃e∈l,e.frame=f)->∃e1 rest,l.dropWhile (λx=>x.frame != f)=e1::rest∧e1.frame=f∧∀e∈e1::rest,e∈l
 | [],h=>by obtain⟨e,he,_⟩:=h;cases he
 |a::l,h=>by
  by_cases q:a.frame=f
  ·refine⟨a,l,?_,q,λe he=>he⟩;rw[List.dropWhile_cons,if_neg (by simp[q])]
  ·obtain⟨e1,rest,r1,r2,r3⟩:=VK (l:=l) (by
    obtain⟨e,he,hf⟩:=h;rcases Apf.mp he with rfl |he
    ·exact absurd hf q
    ·exact⟨e,he,hf⟩)
   refine⟨e1,rest,?_,r2,λe he=>.tail _ (r3 e he)⟩;rw[List.dropWhile_cons,if_pos (by simpa using q)];exact r1
theorem Qt{L:Apc}{Q:Ao3->Ao5->Prop}(F:Frames C A s.heap fsl env)(hf:env.frame=some L)(h:∀h',Heap.SlotsOnly fsl s.heap h'->Q (.ref L) {s with heap:=h'}):Aph M A (frameOf env) Q E s:=by obtain⟨l,h1,h2,h3⟩:=F.frames;obtain⟨e1,rest,r1,r2,r3⟩:=VK h3;unfold PySem.frameOf;refine Ao2<|wpAny_frameEnvs h1 ?_;rw[r1];unfold frameObject;have ff:=La F.here (λe he=>h2 e (r3 e he));refine Ao2<|Ao2 (wpAny_readyFrames_fun ff λh' hs=>Ao4 ?_);rw[r2,hf];refine Ao4<|h h' (hs.mono λb hb=>?_);obtain⟨e,he,hq⟩:=List.mem_filterMap.mp hb;obtain⟨_,L',q1,q2⟩:=h2 e (r3 e he);rw[q2] at hq;cases hq;exact q1
theorem SlotsOnly.note{fsl:List Apc}{h h':Apn}(hh:∀a∈fsl,C.h1.get? a=none∧∃o,h.get? a=some o∧C0 o)(x:Heap.SlotsOnly fsl h h'):B0 C fsl e h h':=by
 refine⟨λb o a n=>?_,λb o a=>?_,λb o q a=>?_,λo vs a d=>?_⟩
 ·obtain⟨sl,q⟩:=x.2.2 b o a;refine⟨sl,q,λnb=>?_⟩;rw[x.2.1 b nb,a] at q;exact(congrArg Obj.slots<|Apr q).symm
 ·obtain⟨sl,q⟩:=x.2.2 b o a;exact⟨_,q⟩
 ·exact(x.2.1 b λr=>by rw[(hh b r).1] at q;cases q).trans a
 ·refine⟨vs,(x.2.1 e λr=>?_).trans ?_⟩
  ·obtain⟨_,o',h1,h2⟩:=hh e r;rw[a] at h1;cases h1;exact h2.Bj _ d
  ·rw[a];obtain⟨c,dd,dt,sl⟩:=o;cases(show dt= .fields vs from d);rfl
theorem B0.push(o:Obj):B0 C fr e h (h.push o):=
 ⟨λb x a _=>⟨x.slots,Ao8 o a,λ_=>rfl⟩,λb x a=>⟨x,Ao8 o a⟩,λb x _ a=>Ao8 o a,
  λx vs a d=>⟨vs,by rw[Ao8 o a];obtain⟨c,dd,dt,sl⟩:=x;cases(show dt= .fields vs from d);rfl⟩⟩
theorem H5{fsl:List Apc}{env:Env}{L e:Apc}{oe:Obj}{vs:Array Ao3}{head:Ao3}{aQ:Bool}{Q:Unit->Ao5->Prop}(F:Frames C A s.heap fsl env)(hf:env.frame=some L)
  (he:s.heap.get? e=some oe)(hd:oe.data= .fields vs)(Gb:1<vs.size)(hen:C.h1.get? e=none)(kb:∀a o,C.h1.get? a=some o->s.heap.get? a=some o)
  (h:∀h',B0 C fsl e s.heap h'->Traced C h' e->Q () {s with heap:=h'}):
  Aph M A (do let a ←frameOf env;let pl ←entryPlaceOf L aQ;let b ←EntryCells.newEntry head a .none (Aq1 L) .none pl;setField (.ref e) 1 b) Q E s:=by
 refine Ao2 (Qt F hf λh₁ QC=>?_);refine Ao2 (wpAny_entryPlaceOf λpl hpl=>?_);unfold EntryCells.newEntry newFields;refine Ao2<|ApR ?_<|hpl.sizeOk5 _ _ _ _ _;have AeA:e∉fsl:=λr=>by obtain⟨_,o',h1,h2⟩:=F.here e r;rw[he] at h1;cases h1;exact h2.Bj _ hd
 have N1:B0 C fsl e s.heap h₁:=SlotsOnly.note F.here QC;have oG:h₁.get? e=some oe:=(QC.2.1 e AeA).trans he;have iT:=Ao8 (h:=h₁) {cls:=.type "traceback",dict:=none,data:=.fields ([head,.ref L,.none,Aq1 L,.none]++(if pl.isEmpty then List.replicate 6 Aqp else pl)).toArray} oG;refine Arb iT hd Gb (h _ ((N1.trans (.push _)).trans (.field iT hd hen _)) ?_);obtain⟨c,dd,dt,sl⟩:=oe;cases(show dt= .fields vs from hd);have iP:h₁.objs.size≠e:=AqV (Aqe oG);refine⟨_,_,h₁.objs.size,_,_,Aq1 L,Apm _ iT rfl,rfl,by simp[Gb],?_,iP,(Apw _ _ (ArQ iP)).trans (Apl _ rfl),rfl,by simp⟩;cases q:C.h1.get? h₁.objs.size with
 |none=>rfl |some o=>have:=N1.base _ _ q (kb _ _ q);rw[Ax] at this;cases this
theorem M6{fsl:List Apc}{env:Env}{e:Apc}{Q:Unit->Ao5->Prop}(F:Frames C A s.heap fsl env)(fl:Ma C s.heap e)(hen:C.h1.get? e=none)(kb:∀a o,C.h1.get? a=some o->s.heap.get? a=some o)
  (h:∀h',B0 C fsl e s.heap h'->Traced C h' e->Q () {s with heap:=h'}):Aph M A (noteFrame (.ref e) env) Q E s:=by
 obtain⟨L,hf⟩:∃L,env.frame=some L:=by obtain⟨l,h1,h2,e0,h3,h4⟩:=F.frames;obtain⟨_,L,_,h5⟩:=h2 e0 h3;exact⟨L,h4▸h5⟩
 unfold noteFrame;simp only[hf];rcases fl with⟨o,fs,he,hd,h1⟩|⟨o,fs,T,oT,ts,m,he,hd,h1,uT,iP,hT,Sl,h3⟩
 ·refine Ao2<|ApJ he hd h1 ?_;rw[if_neg (by decide)];exact H5 F hf he hd (Ap9.mp h1).1 hen kb h
 ·refine Ao2<|ApJ he hd h1 ?_;rw[if_pos (show(Aqu T != Aqp)=true from by simp)];refine Ao2<|ApJ hT Sl h3 ?_;by_cases q:(m==Aq1 L)=true
  ·rw[if_pos q];exact Ao4 (h _ (.refl _ _ _) ⟨o,fs,T,oT,ts,m,he,hd,h1,uT,iP,hT,Sl,h3⟩)
  ·rw[if_neg q];refine Ao2<|Arb hT Sl (Ap9.mp h3).1 ?_;have N1:B0 C fsl e s.heap (s.heap.update T (AqE (·.setIfInBounds 3 Aqp))):=.field hT Sl uT _;have iS:(s.heap.update T (AqE (·.setIfInBounds 3 Aqp))).get? e=some o:=(Apw _ _ iP).trans he;refine H5 (s:={s with heap:=s.heap.update T (AqE (·.setIfInBounds 3 Aqp))}) ⟨F.frames,λa ha=>?_⟩ hf iS hd (Ap9.mp h1).1 hen (λa o q=>N1.base a o q (kb a o q)) λh' N2 tr=>h h' (N1.trans N2) tr
   obtain⟨q1,o',q2,q3⟩:=F.here a ha;refine⟨q1,o',(Apw _ _ λr=>?_).trans q2,q3⟩;subst r;rw[hT] at q2;cases q2;exact q3.Bj _ Sl
theorem G4{f:Option Apc}{Q:Unit->Ao5->Prop}(tr:Traced C s.heap e)(h:∀h',B0 C fsl e s.heap h'->Traced C h' e->Q () {s with heap:=h'}):Aph M A (setFlight (.ref e) f) Q E s:=by obtain⟨o,fs,T,oT,ts,m,he,hd,h1,uT,iP,hT,Sl,h3⟩:=tr;unfold setFlight;refine Ao2<|ApJ he hd h1 ?_;rw[if_pos (show(Aqu T != Aqp)=true from by simp)];have hz:=(Ap9.mp h3).1;refine Arb hT Sl hz<|h _ (.field hT Sl uT _) ?_;obtain⟨c,dd,dt,sl⟩:=oT;cases(show dt= .fields ts from Sl);exact⟨o,fs,T,_,_,_,(Apw _ _ iP).trans he,hd,h1,uT,iP,Apm _ hT rfl,rfl,by simp[hz];rfl⟩
end
end
section
variable{C:Cx}
section
variable{W:Wd}{σ:St}{s:Ao5}
theorem St.To(σ:St)(j D:Nat)(l:Option Nat):(σ.after j D l).Bq=σ.Bq+1:=rfl
theorem St.HD{σ:St}{j D i:Nat}{l:Option Nat}{y:AO}(h:(σ.after j D l).obj i=some y):(i=j∧y= .old D l)∨(i≠j∧∃o,σ.obj i=some o∧y=Cv o):=by
 rcases PA.get_set _ _ _ _ _ h with⟨a,b⟩|⟨a,b⟩
 ·exact .inl ⟨a,b⟩
 ·exact .inr ⟨a,PA.Jw _ _ _ b⟩
theorem B0.exact(N:B0 C fr e h h')(hf:∀a∈fr,∃o,h.get? a=some o∧C0 o){a:Apc}{o:Obj}(ho:h.get? a=some o)(n:Bj o)(nf:¬C0 o):h'.get? a=some o:=by
 obtain⟨sl,q1,q2⟩:=N.keep a o ho n;have:a∉fr:=λr=>by obtain⟨o',q,q'⟩:=hf a r;rw[ho] at q;cases q;exact nf q'
 rw[q1,q2 this]
theorem Inv.note{j D:Nat}{l:Option Nat}{p:Apc×Apc}(I:Inv C W (σ.after j D l) s)(hp:W.τ[j]?=some p)(N:B0 C W.fs p.1 s.heap h'):Inv C W (σ.after j D l) {s with heap:=h'}:=by
 have ex:∀{a:Apc} {o:Obj},s.heap.get? a=some o->Bj o->¬C0 o->h'.get? a=some o:=λho n nf=>N.exact (λa ha=>(I.Kn a ha).2) ho n nf
 have T:Bb W W s.heap h':=λa items ⟨w,w2,⟨o,ho,hc,n,hd⟩,o',Dx,Kw⟩=>by have e:=ex ho (λvs q=>by rw[hd] at q;cases q) (BI hc (by decide));rw[ho] at Dx;cases Dx;exact⟨w,w2,⟨o,e,hc,n,hd⟩,o,e,Kw⟩
 have S:DU W W s.heap h':=⟨Apb _,Apb _,λ_ _=>rfl,λ_ _=>rfl,T⟩;refine⟨I.nτ,I.kρ,I.rl,I.Bi,I.neg,I.Ca,λi y h=>?_,I.apart,I.new,λq hq=>?_,λa ha=>⟨(I.Kn a ha).1,?_⟩,λa o h=>N.base a o h (I.base a o h),I.gens,I.os,λa ha=>⟨(I.fo a ha).1,let⟨o,h⟩:=(I.fo a ha).2;N.alive _ _ h⟩⟩
 ·obtain⟨q,hq,hb⟩:=I.obj i y h;refine⟨q,hq,?_⟩;rcases St.HD h with⟨rfl,rfl⟩|⟨ne,o,ho,rfl⟩
  ·rw[hp] at hq;cases hq;obtain⟨ep,xc,dd,fs,sl,a,b⟩:=hb;obtain⟨uJ,b'⟩:=N.exc _ _ b rfl;exact⟨ep,xc,dd,uJ,sl,a.Bg S,b'⟩
  ·have same:∀{a:Apc} {o:Obj},s.heap.get? a=some o->Bj o->¬C0 o->h'.get? a=s.heap.get? a:=λho n nf=>(ex ho n nf).trans ho.symm
   cases o with
   |list pre l suf=>have BO:=hb;obtain⟨ep,vs,_,⟨o,ho,hc,n,hd⟩,_⟩:=BO;have e1:=same ho (λvs q=>by rw[hd] at q;cases q) (BI hc (by decide));exact Ob.Bg S e1 (by rw[ep];exact e1) hb
   |dict l=>have BO:=hb;obtain⟨ep,Ci,⟨o,es,en,ho,hx,hd,_⟩,_⟩:=BO;have e1:=same ho (λvs q=>by rw[hd] at q;cases q) (BI hx.1 (by decide));exact Ob.Bg S e1 (by rw[ep];exact e1) hb
   |inst Cl l=>have BO:=hb;obtain⟨⟨sl,ho⟩,es,n,Cg,hd,_⟩:=BO;exact Ob.Bg S (same ho (λvs q=>nomatch q) (λq=>nomatch q.1)) (same hd (λvs q=>nomatch q) (BI (t:="dict") rfl (by decide))) hb
   |exc _ _=>trivial
   |old _ _=>trivial
   |iter _=>trivial
   |G2 _ _ _=>trivial
   |dead=>trivial
   |AE f=>have BO:=hb;obtain⟨ep,x,y,t,u,⟨o,ho,hc,n,hd⟩,_⟩:=BO;have e1:=same ho (λvs q=>by rw[hd] at q;cases q) (BI hc (by decide));exact Ob.Bg S e1 (by rw[ep];exact e1) hb
   |mid l a m=>have BO:=hb;obtain⟨ep,vs,ws,_,_,⟨o,ho,hc,n,hd⟩,_⟩:=BO;have e1:=same ho (λvs q=>by rw[hd] at q;cases q) (BI hc (by decide));exact Ob.Bg S e1 (by rw[ep];exact e1) hb
   |ed l=>have BO:=hb;obtain⟨ep,es,n,Cg,hd,_⟩:=BO;have e1:=same hd (λvs q=>nomatch q) (BI (t:="dict") rfl (by decide));exact Ob.Bg S e1 (by rw[ep];exact e1) hb
   |cell v=>
    have key:∀{w:Option Ao3},s.heap.IsCell q.1 w->h'.get? q.1=s.heap.get? q.1:=λ⟨o,ho,hd⟩=>
     same ho (λvs q=>by rw[hd] at q;cases q) (λq=>by obtain⟨_,es,n,d⟩:=q;rw[hd] at d;cases d)
    cases v with
    |none=>exact Ob.Bg S (key hb.2) (by rw[hb.1];exact key hb.2) hb
    |some v=>have BO:=hb;obtain⟨ep,cv,hc,_⟩:=BO;exact Ob.Bg S (key hc) (by rw[ep];exact key hc) hb
   |frame l=>obtain⟨ep,m,⟨o,es,n,ho,hd,r⟩,hN⟩:=hb;obtain⟨sl,q1,_⟩:=N.keep _ _ ho (λvs q=>by rw[hd] at q;cases q);exact⟨ep,m,⟨_,es,n,q1,hd,r⟩,hN.Bg S⟩
 ·obtain⟨⟨o,h,_⟩,o',h',_⟩:=I.live q hq;obtain⟨x,hx⟩:=N.alive _ _ h;obtain⟨y,hy⟩:=N.alive _ _ h';exact⟨⟨x,hx,trivial⟩,y,hy,trivial⟩
 ·obtain⟨o,h,q⟩:=(I.Kn a ha).2;obtain⟨sl,q1,_⟩:=N.keep _ _ h q.Bj;exact⟨_,q1,q⟩
theorem Ext.note{j D:Nat}{l:Option Nat}(x:Ext σ0 W0 s0 (σ.after j D l) W s)(hv:σ0.Bq≤σ.Bq)(I:Inv C W (σ.after j D l) s)(N:B0 C W.fs e s.heap h'):
  Ext σ0 W0 s0 (σ.after j D l) W {s with heap:=h'}:=by
 refine⟨x.τ,x.ρ,x.q,x.ls,x.low,x.Bq,λa o h n no=>?_,λv=>?_,x.fresh,λa o h=>?_,λa o h q=>?_,x.fs,x.fo⟩
 ·obtain⟨sl,q1,q2⟩:=x.keep a o h n no;obtain⟨zP,q3,q4⟩:=N.keep a _ q1 n;refine⟨zP,q3,λq=>(q4 λr=>?_).trans (q2 q)⟩;obtain⟨o',h1,h2⟩:=(I.Kn a r).2;rw[q1] at h1;cases h1;exact q h2.1
 ·rw[St.To] at v;omega
 ·obtain⟨o1,q⟩:=x.alive a o h;exact N.alive _ _ q
 ·obtain⟨o1,h1,q1⟩:=x.fr a o h q;obtain⟨sl,q3,_⟩:=N.keep a _ h1 q1.Bj;exact⟨_,q3,q1⟩
def BD(C:Cx)(ke:K AV)(σ:St)(W:Wd)(s:Ao5)(e:Ao3)(s':Ao5):Prop:=AG C ke σ W s e s'∧∃x,e= .ref x∧Traced C s'.heap x
variable{A:Apg}{sc:ApH}{E:Bo}{env:Env}{ke:K AV}{e:Ao3}{s':Ao5}
theorem AG.step(P:AG C ke σ W s e s'):∃x fsl,e= .ref x∧Ma C s'.heap x∧C.h1.get? x=none∧(∀a o,C.h1.get? a=some o->s'.heap.get? a=some o)∧(∀a∈W.fs,a∈fsl)∧(∀a∈fsl,C.h1.get? a=none∧∃o,s'.heap.get? a=some o∧C0 o)∧
  ∀h',B0 C fsl x s'.heap h'->Ma C h' x->AG C ke σ W s e {s' with heap:=h'}:=by
 obtain⟨j,D,l,σ',W',p,h1,h0,h2,h3,rfl,h5,h6,h7⟩:=P;exact⟨p.1,W'.fs,rfl,h5,(h7.new p<|get_mem h3).1,h7.base,λa ha=>h6.fs.subset ha,h7.Kn,λh' N fl=>⟨j,D,l,σ',W',p,h1,h0,h2,h3,rfl,fl,h6.note h0 h7 N,h7.note h3 N⟩⟩
theorem A8.frames(ev:A8 C A W sc E env){fsl:List Apc}{h:Apn}(hs:∀a∈W.fs,a∈fsl)(hh:∀a∈fsl,C.h1.get? a=none∧∃o,h.get? a=some o∧C0 o):Frames C A h fsl env:=
 ⟨let⟨l,a,b,c⟩:=ev.around;⟨l,a,λe he=>let⟨x,L,y,z⟩:=b e he;⟨x,L,hs L y,z⟩,c⟩,hh⟩
theorem Ek{M:ArJ}{Er:Ao3->Ao5->Prop}(P:AG C ke σ W s e s')(ev:A8 C A W sc E env):Aph M A (noteFrame e env) (λ_ YH=>BD C ke σ W s e YH) Er s':=by obtain⟨x,fsl,rfl,fl,hn,kb,hs,hh,st⟩:=P.step;exact M6 (ev.frames hs hh) fl hn kb λh' N tr=>⟨st h' N<|.inr tr,x,rfl,tr⟩
theorem Fh{M:ArJ}{A:Apg}{f:Option Apc}{Er:Ao3->Ao5->Prop}(P:BD C ke σ W s e s'):Aph M A (setFlight e f) (λ_ YH=>BD C ke σ W s e YH) Er s':=by obtain⟨P,y,rfl,tr⟩:=P;obtain⟨x,fsl,e1,fl,hn,kb,hs,hh,st⟩:=P.step;cases e1;exact G4 (fsl:=fsl) tr λh' N tr'=>⟨st h' N<|.inr tr',_,rfl,tr'⟩
theorem EP{M:ArJ}(P:BD C ke σ W s e s'):cameBackBy M A env (AG C ke σ W s) e s':=by obtain⟨y,rfl,o,fs,T,oT,ts,m,he,hd,h1,r⟩:=P.2;unfold cameBackBy;refine Ao2<|ApJ he hd h1 ?_;rw[if_neg (by simp)];exact Apa (Fh P) (λ_ _ q=>q.1) λ_ _ q=>q
theorem QN{M:ArJ}{Er:Ao3->Ao5->Prop}(P:AG C ke σ W s e s')(ev:A8 C A W sc E env):Aph M A (leaving env e) (λ_ YH=>AG C ke σ W s e YH) Er s':=by unfold leaving;exact Ao2 (Apa (Ek (Er:=Er) P ev) (λ_ _ q=>Apa (Fh q) (λ_ _ q=>q.1) λ_ _ q=>q) λ_ _ q=>q)
end
end
section
variable{C:Cx}
def F0(h:Apn)(it l:Apc)(i:Nat)(items:Array Ao3):Prop:=(h.IsListIter it l i∧h.IsList l items)∨(h.IsTupleIter it l i∧h.IsTuple l items)
def Stop(h:Apn)(e:Ao3):Prop:=∃x o,e= .ref x∧h.get? x=some o∧o.cls= .type "StopIteration"
def Hd(h:Apn)(a:Apc):Prop:=∃o,h.get? a=some o
theorem YP{l:Apc}{i:Nat}{items:Array Ao3}(q:F0 h it l i items):l≠it:=by
 rintro rfl;rcases q with⟨⟨o,h1,c1,_⟩,o',h2,c2,_⟩|⟨⟨o,h1,c1,_⟩,o',h2,c2,_⟩
 ·rw[h1] at h2;cases h2;rw[c1] at c2;simp at c2
 ·rw[h1] at h2;cases h2;rw[c1] at c2;simp at c2
section
variable{prog:Ap3}{w:Ao7}{A:Apg}{E:Ao3->Ao5->Prop}{s:Ao5}
theorem HR{it l:Apc}{i:Nat}{items:Array Ao3}{Q:Option Ao3->Ao5->Prop}(hh:A.handled=none)(hs:F0 s.heap it l i items)
  (h1:∀x h',items[i]?=some x->F0 h' it l (i+1) items->ApP it s.heap h'->Q (some x) {s with heap:=h'})
  (h2:items[i]?=none->∀h' e,Aqs it s.heap h'->Hd h' it->Stop h' e->E e {s with heap:=h'}):
  Aph (model prog w) A (callSpecial? (.ref it) "__next__") Q E s:=by
 have ne:=YP hs;rcases hs with⟨hit,hl⟩|⟨hit,hl⟩
 ·obtain⟨o,ho,hc,hd⟩:=id hit;obtain⟨ol,hol,_,nl,hdl⟩:=id hl;refine ApZ (name:=Ao1 "__next__") hit.typeIs slot_listiter_next (Aqm slot_listiter_next hit.typeIs entry_listiter_next ?_ (args_listiter_next _));show Aph _ _ (field (.ref it) 0>>=_) _ _ s;refine Ao2 (ApJ ho hd (x:=.ref l) rfl ?_);show Aph _ _ (if(Aqu l==Aqp)=true then _ else _) _ _ s;rw[if_neg (show¬((Aqu l==Aqp)=true) from ApV)];show Aph _ _ (field (.ref it) 1>>=_) _ _ s;refine Ao2 (ApJ ho hd (x:=.int i 0) rfl ?_);show Aph _ _ (seqItems? (.ref l)>>=_) _ _ s;refine Ao2 (Arc hol hdl ?_);cases hx:items[i]? with
  |some x=>
   simp only[ArS,hx];have SB:ApP it s.heap (s.heap.update it (AqE λx=>x.setIfInBounds 1 (Aq1<|(i:Int)+1))):=ApW ..;refine Ao2<|Arb ho hd (by simp)<|Ao4 ⟨x,rfl,(h1 x _ hx (.inl ⟨?_,hl.extBut SB.extBut ne⟩) SB)⟩;exact⟨_,Apm _ ho<|Arf<|Ard hd _,(Obj.cls_mapFields ..).trans hc,by
    rw[Ard hd];simp[Aq1]⟩
  |none=>
   simp only[ArS,hx];refine Ao2 (AqR (Ao2 (Arb ho hd (by simp) ?_)));show Aph _ _ (newExc (.type "StopIteration") []>>=_) _ _ _;refine Ao2 ?_;simp only[newExc,newTuple];refine Ao2 (ApR ?_ (by size_fits));refine Ao2 (m:=Ar0 _ _) (wpAny_of_eq (a:=Aqp) (by first |rfl |(simp only[Ar0];rfl)) ?_);refine ApR ?_ (by size_fits);simp only[raiseNew];refine Ao2 (wpAny_handled ?_)
   first |rw[show A.in1.handled=none from hh] |rw[hh]
   refine Ao2<|Ao4<|wpAny_throw ?_;refine h2 hx _ _ (((ApW ..).extBut.push _).push _) ⟨_,Ao8 _<|Ao8 _<|Apm _ ho<|Arf<|Ard hd _⟩ ⟨_,_,rfl,Apl _ rfl,rfl⟩
 ·obtain⟨o,ho,hc,hd⟩:=id hit;obtain⟨ol,hol,_,nl,hdl⟩:=id hl;refine ApZ (name:=Ao1 "__next__") hit.typeIs F.slot_tuple_iterator_next (Aqm F.slot_tuple_iterator_next hit.typeIs F.entry_tuple_iterator_next ?_ (F.args_tuple_iterator_next_1 _));show Aph _ _ (field (.ref it) 0>>=_) _ _ s;refine Ao2 (ApJ ho hd (x:=.ref l) rfl ?_);show Aph _ _ (if(Aqu l==Aqp)=true then _ else _) _ _ s;rw[if_neg (show¬((Aqu l==Aqp)=true) from ApV)];show Aph _ _ (field (.ref it) 1>>=_) _ _ s;refine Ao2 (ApJ ho hd (x:=.int i 0) rfl ?_);show Aph _ _ (seqItems? (.ref l)>>=_) _ _ s;refine Ao2 (Arc hol hdl ?_);cases hx:items[i]? with
  |some x=>
   simp only[ArS,hx];have SB:ApP it s.heap (s.heap.update it (AqE λx=>x.setIfInBounds 1 (Aq1<|(i:Int)+1))):=ApW ..;refine Ao2<|Arb ho hd (by simp)<|Ao4 ⟨x,rfl,(h1 x _ hx (.inr ⟨?_,hl.extBut SB.extBut ne⟩) SB)⟩;exact⟨_,Apm _ ho<|Arf<|Ard hd _,(Obj.cls_mapFields ..).trans hc,by
    rw[Ard hd];simp[Aq1]⟩
  |none=>
   simp only[ArS,hx];refine Ao2 (AqR (Ao2 (Arb ho hd (by simp) ?_)));show Aph _ _ (newExc (.type "StopIteration") []>>=_) _ _ _;refine Ao2 ?_;simp only[newExc,newTuple];refine Ao2 (ApR ?_ (by size_fits));refine Ao2 (m:=Ar0 _ _) (wpAny_of_eq (a:=Aqp) (by first |rfl |(simp only[Ar0];rfl)) ?_);refine ApR ?_ (by size_fits);simp only[raiseNew];refine Ao2 (wpAny_handled ?_)
   first |rw[show A.in1.handled=none from hh] |rw[hh]
   refine Ao2<|Ao4<|wpAny_throw ?_;refine h2 hx _ _ (((ApW ..).extBut.push _).push _) ⟨_,Ao8 _<|Ao8 _<|Apm _ ho<|Arf<|Ard hd _⟩ ⟨_,_,rfl,Apl _ rfl,rfl⟩
theorem Nf{M:ArJ}{Q:Bool->Ao5->Prop}(h:Stop s.heap e)(hq:Q true s):Aph M A (ArY e (.type "StopIteration")) Q E s:=by obtain⟨x,o,rfl,ho,hc⟩:=h;exact wpAny_isInstance (T:="StopIteration") (b:=true) ⟨o,ho,hc⟩ isSubtype_stop hq
theorem Uh{it l:Apc}{i:Nat}{items:Array Ao3}{Q:Option Ao3->Ao5->Prop}(hh:A.handled=none)(hs:F0 s.heap it l i items)
  (h1:∀x h',items[i]?=some x->F0 h' it l (i+1) items->ApP it s.heap h'->Q (some x) {s with heap:=h'})
  (h2:items[i]?=none->∀h',Aqs it s.heap h'->Hd h' it->Q none {s with heap:=h'}):
  Aph (model prog w) A (pyNext<|.ref it) Q E s:=by
 unfold pyNext;refine Ao2 (ArO (HR hh hs (λx h' a b c=>Ao4 (h1 x h' a b c)) λa h' e b c d=>Ao2 (Nf d<|Ao4<|h2 a h' b c)))
theorem HA{it l:Apc}{i:Nat}{items:Array Ao3}{Q:Ao3->Ao5->Prop}(hh:A.handled=none)(hs:F0 s.heap it l i items)
  (h1:∀x h',items[i]?=some x->F0 h' it l (i+1) items->ApP it s.heap h'->Q x {s with heap:=h'})
  (h2:items[i]?=none->∀h' e,Aqs it s.heap h'->Hd h' it->Stop h' e->E e {s with heap:=h'}):
  Aph (model prog w) A (Ari<|.ref it) Q E s:=by
 unfold Ari;exact Ao2 (HR hh hs (λx h' a b c=>Ao4 (h1 x h' a b c)) h2)
theorem O3{e it l:Apc}{n:Int}{i:Nat}{items:Array Ao3}{old:Ao3}{Q:Option Ao3->Ao5->Prop}(hh:A.handled=none)
  (he:IsEnum s.heap e it n old)(hs:F0 s.heap it l i items)(Qx:e≠it)
  (h1:∀x h₁ h',items[i]?=some x->F0 h₁ it l (i+1) items->ApP it s.heap h₁->IsEnumOut h' e it (n+1) x s.heap.objs.size->
   h'.get? s.heap.objs.size=some {cls:=.type "tuple",data:=.seq #[.int n s.toks,x]}->(∀b o,b≠e->h₁.get? b=some o->h'.get? b=some o)->Q (some (.ref s.heap.objs.size)) {s with heap:=h',toks:=s.toks+1})
  (h2:items[i]?=none->∀h',Aqs it s.heap h'->Hd h' it->Q none {s with heap:=h'}):
  Aph (model prog w) A (pyNext<|.ref e) Q E s:=by
 have hT:s.TypeIs (.ref e) "enumerate":=⟨_,he,rfl⟩;unfold pyNext;refine Ao2 (ArO (ApZ (name:=Ao1 "__next__") hT F.slot_enumerate_next
  (Aqm F.slot_enumerate_next hT F.entry_enumerate_next ?_<|F.args_enumerate_next_1 _)))
 obtain⟨hp,g,d,tk,os⟩:=s;show Aph _ _ (field (.ref e) 2>>=_) _ _ _;refine Ao2<|ApJ he rfl (x:=.ref it) rfl ?_;refine Ao2 (HA hh hs (λx h₁ hx hq QC=>?_) λa h' e b c d=>Ao2 (Nf d<|Ao4<|h2 a h' b c))
 replace QC:ApP it hp h₁:=QC
 have oG:IsEnum h₁ e it n old:=(QC.2 e Qx).trans he;show Aph _ _ (field (.ref e) 3>>=_) _ _ ⟨h₁,g,d,tk,os⟩;refine Ao2<|ApJ oG rfl (x:=Aq1 n) rfl ?_;show Aph _ _ (field (.ref e) 4>>=_) _ _ ⟨h₁,g,d,tk,os⟩;refine Ao2<|ApJ oG rfl (x:=.none) rfl ?_;show Aph _ _ (mkInt n>>=_) _ _ ⟨h₁,g,d,tk,os⟩;refine Ao2<|wpAny_mkInt ?_;show Aph _ _ (setField (.ref e) 3 (Aq1<|n+1)>>=_) _ _ ⟨h₁,g,d,tk+1,os⟩;refine Ao2 (Aqg oG (by simp) λh₂ iT Ow=>?_)
 replace Ow:ApP e h₁ h₂:=Ow
 replace iT:IsEnum h₂ e it (n+1) old:=iT
 show Aph _ _ (setField (.ref e) 4 .none>>=_) _ _ ⟨h₂,g,d,tk+1,os⟩;refine Ao2 (Aqg iT (by simp) λh₃ he₃ Uz=>?_)
 replace Uz:ApP e h₂ h₃:=Uz
 replace he₃:IsEnum h₃ e it (n+1) old:=he₃
 show Aph _ _ (newTuple [.int n tk,x]>>=_) _ _ ⟨h₃,g,d,tk+1,os⟩;refine Ao2 (wpAny_newTuple ?_);have he₄:IsEnum (h₃.push {cls:=.type "tuple",data:=.seq #[.int n tk,x]}) e it (n+1) old:=Ao8 _ he₃;generalize hh₄:h₃.push {cls:=.type "tuple",data:=.seq #[.int n tk,x]}=h₄ at he₄;have Gb:h₃.objs.size=hp.objs.size:=by rw[Uz.1,Ow.1,QC.1]
 have hel:e<hp.objs.size:=Aqe he;have ht₄:h₄.get? hp.objs.size=some {cls:=.type "tuple",data:=.seq #[.int n tk,x]}:=by rw[←hh₄,←Gb];exact Apl _ rfl
 have hk₄:∀b o,b≠e->h₁.get? b=some o->h₄.get? b=some o:=λb o uU hb=>by rw[←hh₄];exact Ao8 _ (Uz.extBut b o uU<|Ow.extBut b o uU hb)
 show Aph _ _ (Aqv (.ref e)>>=_) _ _ ⟨h₄,g,d,tk+1,os⟩;rw[Gb];clear hh₄ he₃ Uz iT Ow oG Gb;refine Ao2 ?_
 ·unfold Aqv;refine Ao2<|ApJ he₄ rfl (x:=.none) rfl (Ao4 ?_);simp only[if_true];refine Ao2<|AqR ?_;refine Ao2<|ApJ he₄ rfl (x:=old) rfl ?_;refine Ao2 (Aqg he₄ (by simp) λh₅ he₅ TR=>?_)
  replace TR:ApP e h₄ h₅:=TR
  replace he₅:IsEnum h₅ e it (n+1) x:=he₅
  show Aph _ _ (Aqr (.ref e) (.ref hp.objs.size)>>=_) _ _ ⟨h₅,g,d,tk+1,os⟩;refine Ao2 ?_
  ·unfold Aqr;refine Ao2 (Aqg he₅ (by simp) λh₆ he₆ hs₆=>?_)
   replace hs₆:ApP e h₅ h₆:=hs₆
   replace he₆:IsEnumOut h₆ e it (n+1) x hp.objs.size:=he₆
   refine Aqg he₆ (by simp) λh₇ he₇ rW=>?_
   replace rW:ApP e h₆ h₇:=rW
   replace he₇:IsEnumOut h₇ e it (n+1) x hp.objs.size:=he₇
   have up:∀b o,b≠e->h₄.get? b=some o->h₇.get? b=some o:=λb o c q=>rW.extBut b o c (hs₆.extBut b o c<|TR.extBut b o c q)
   refine Ao2 (wpAny_letGo<|Ao4 ⟨_,rfl,Ao4<|h1 x h₁ h₇ hx hq QC he₇ ?_ ?_⟩)
   ·exact up _ _ (AqV hel) ht₄
   ·exact λb o uU hb=>up b o uU (hk₄ b o uU hb)
end
end
section
variable{C:Cx}
section
variable{W:Wd}{σ:St}{s:Ao5}
theorem DU.of(T:Bb W W h h'):DU W W h h':=⟨Apb _,Apb _,λ_ _=>rfl,λ_ _=>rfl,T⟩
theorem GQ(I:Inv C W σ s){j:Nat}{p:Apc×Apc}(hj:W.τ[j]?=some p){k:K (Option AV)}(h:H6 j σ k=true):
  ∃l i items o3,σ.obj j=some (.iter o3)∧F0 s.heap p.1 l i items∧
   (∀cx,items[i]?=some cx->∃v y,VR C W s.heap v cx∧k (some v) (σ.put j<|.iter y)=true∧
    ∀s':Ao5,s'.gens=s.gens->s'.os=s.os->Aqs p.1 s.heap s'.heap->F0 s'.heap p.1 l (i+1) items->Inv C W (σ.put j<|.iter y) s'∧Ext σ W s (σ.put j<|.iter y) W s')∧
   (items[i]?=none->k none (σ.put j .dead)=true∧
    ∀s':Ao5,s'.gens=s.gens->s'.os=s.os->Aqs p.1 s.heap s'.heap->Hd s'.heap p.1->Inv C W (σ.put j .dead) s'∧Ext σ W s (σ.put j .dead) W s'):=by
 have dead:∀{o:Obj} {t:String},p.2=p.1->s.heap.get? p.1=some o->o.cls= .type t->(t=="frame")=false->∀s':Ao5,s'.gens=s.gens->s'.os=s.os->Aqs p.1 s.heap s'.heap->Hd s'.heap p.1->
   Inv C W (σ.put j .dead) s'∧Ext σ W s (σ.put j .dead) W s':=by
  intro o t ep ho hc ht s' hg Hb hx hl;obtain⟨o',hl⟩:=hl;refine I.put (o:=.dead) hj (λb x n1 _ e=>hx b x n1 e) (λ_=>trivial) ⟨o',hl,trivial⟩ ⟨o',by rw[ep];exact hl,trivial⟩ (λa ha x bC fr=>?_) hg Hb;rcases ha with rfl |rfl
  ·rw[ho] at bC;cases bC;exact(BI hc ht fr).elim
  ·rw[ep,ho] at bC;cases bC;exact(BI hc ht fr).elim
 have live:∀{o:Obj} {t:String} {y:It} {s':Ao5},p.2=p.1->s.heap.get? p.1=some o->o.cls= .type t->(t=="frame")=false->s'.gens=s.gens->s'.os=s.os->Aqs p.1 s.heap s'.heap->Hd s'.heap p.1->
   (Bb W W s.heap s'.heap->rD C W s'.heap p.1 p.2 y)->Inv C W (σ.put j<|.iter y) s'∧Ext σ W s (σ.put j<|.iter y) W s':=by
  intro o t y s' ep ho hc ht hg Hb hx hl hy;obtain⟨o',hl⟩:=hl;refine I.put (o:=.iter y) hj (λb x n1 _ e=>hx b x n1 e) (λT=>⟨.inl ep,hy T⟩) ⟨o',hl,trivial⟩ ⟨o',by rw[ep];exact hl,trivial⟩ (λa ha x bC fr=>?_) hg Hb;rcases ha with rfl |rfl
  ·rw[ho] at bC;cases bC;exact(BI hc ht fr).elim
  ·rw[ep,ho] at bC;cases bC;exact(BI hc ht fr).elim
 unfold H6 at h;split at h
 ·rename_i l oj;obtain⟨q,hq,ep,T,i,items,hit,hT,hv⟩:=I.obj _ _ oj;rw[hj] at hq;cases hq;have ee:p.2=p.1:=ep.resolve_right (λ⟨_,_,e⟩=>nomatch e);refine⟨T,i,items,_,oj,.inr ⟨hit,hT.Ak⟩,λcx hx=>?_,λhx=>?_⟩
  ·have MQ:items.toList.drop i=cx::items.toList.drop (i+1):=by
    obtain⟨lt,e⟩:=Ap9.mp hx;rw[Aqo (by simpa using lt)];simp[e]
   rw[MQ] at hv;cases hv with
   |cons hv hr=>
    refine⟨_,.seq _,hv,h,λs' hg Hb hb hs=>?_⟩;obtain⟨o,ho,hc,hd⟩:=id hit;rcases hs with⟨_,o2,a2,b2,_⟩|⟨Wm,Wv⟩
    ·exfalso;obtain⟨ol,e1,c1,_⟩:=hT.Ak;have:=hb _ _ (YP<|.inr ⟨hit,hT.Ak⟩) e1;rw[this] at a2;cases a2;rw[c1] at b2;simp at b2
    ·obtain⟨o',a,b,c⟩:=id Wm;exact live ee ho hc (by decide) hg Hb hb ⟨o',a⟩ λTK=>⟨T,i+1,items,Wm,TK _ _ hT,hr.keep (Apb _) (Apb _) (λ_ _=>rfl) TK⟩
  ·have MQ:items.toList.drop i= []:=by
    rw[List.drop_eq_nil_iff];have:=Array.getElem?_eq_none_iff.mp hx;simpa using this
   rw[MQ] at hv;cases hv;obtain⟨o,ho,hc,hd⟩:=id hit;exact⟨h,λs' hg Hb hb hl=>dead ee ho hc (by decide) s' hg Hb hb hl⟩
 ·rename_i sj n oj;obtain⟨q,hq,ep,r,hr,hit⟩:=I.obj _ _ oj;rw[hj] at hq;cases hq;have ee:p.2=p.1:=ep.resolve_right (λ⟨_,_,e⟩=>nomatch e);unfold jB at h;split at h
  ·rename_i l os';obtain⟨r',P1,Z0,vs,hv,hl,_⟩:=I.obj _ _ os';rw[hr] at P1;cases P1;simp only[Aq,ApC,Apj] at hl;obtain⟨o,ho,hc,hd⟩:=id hit;refine⟨r.1,n,vs.toArray,_,oj,.inl ⟨hit,hl⟩,λcx hx=>?_,λhx=>?_⟩
   ·rw[AA] at h;have hx:vs[n]?=some cx:=by simpa using hx
    have lt:n<l.length:=by rw[←hv.length];exact(Ape.mp hx).1
    rw[Apk lt] at h;obtain⟨cv,e1,e2⟩:=hv.get (i:=n) (v:=l[n]) (Apk lt);rw[hx] at e1;cases e1;refine⟨_,.lst sj<|n+1,e2,h,λs' hg Hb hb hs=>?_⟩;rcases hs with⟨Wm,_⟩|⟨⟨o',a,b,c⟩,⟨o2,a2,b2,_⟩⟩
    ·obtain⟨o',a,b,c⟩:=id Wm;exact live ee ho hc (by decide) hg Hb hb ⟨o',a⟩ λTK=>⟨r,hr,Wm⟩
    ·exfalso;obtain⟨ol,e1,c1,_⟩:=id hl;have:=hb _ _ (YP<|.inl ⟨hit,hl⟩) e1;rw[this] at a2;cases a2;rw[c1] at b2;simp at b2
   ·have hx:vs[n]?=none:=by simpa using hx
    have ge:l.length≤n:=by rw[←hv.length];exact List.getElem?_eq_none_iff.mp hx
    rw[AA,List.getElem?_eq_none_iff.mpr ge] at h;exact⟨h,λs' hg Hb hb hl=>dead ee ho hc (by decide) s' hg Hb hb hl⟩
  ·cases h
 ·cases h
end
end
section
variable{C:Cx}
section
variable{prog:Ap3}{w:Ao7}{A:Apg}{E:Ao3->Ao5->Prop}{s:Ao5}
theorem Rf{z TI TO i1 i2:Apc}{x0 y0:Ao3}{Q:Option Ao3->Ao5->Prop}(hh:A.handled=none)(hz:IsZip s.heap z TI TO .none)(hTI:s.heap.IsTuple TI #[.ref i1,.ref i2])(rQ:Ar6 s.heap TO x0 y0)
  (TOz:TO≠z)(i1z:i1≠z)(i2z:i2≠z)(TO1:TO≠i1)(TO2:TO≠i2)
  (step:∀h₁,ApP z s.heap h₁->IsZip h₁ z TI TO .ellipsis->∃l1 k1 xs,F0 h₁ i1 l1 k1 xs∧
   (∀x h₂,xs[k1]?=some x->F0 h₂ i1 l1 (k1+1) xs->ApP i1 h₁ h₂->∀h₃,ApP TO h₂ h₃->Ar6 h₃ TO x y0->∃l2 k2 ys,F0 h₃ i2 l2 k2 ys∧
    (∀y h₄,ys[k2]?=some y->F0 h₄ i2 l2 (k2+1) ys->ApP i2 h₃ h₄->∀h',IsZip h' z TI TO (Aq1 s.heap.objs.size)->Ar6 h' TO x y->Ar6 h' s.heap.objs.size x y->
     (∀b o,b≠z->b≠TO->h₄.get? b=some o->h'.get? b=some o)->Q (some<|.ref s.heap.objs.size) {s with heap:=h'})∧
    (ys[k2]?=none->∀h₄,Aqs i2 h₃ h₄->Hd h₄ i2->∀h',Aqs z h₄ h'->Hd h' z->Q none {s with heap:=h'}))∧
   (xs[k1]?=none->∀h₂,Aqs i1 h₁ h₂->Hd h₂ i1->∀h',Aqs z h₂ h'->Hd h' z->Q none {s with heap:=h'})):
  Aph (model prog w) A (pyNext<|.ref z) Q E s:=by
 have hT:s.TypeIs (.ref z) "zip":=⟨_,hz,rfl⟩;unfold pyNext;refine Ao2 (ArO (ApZ (name:=Ao1 "__next__") hT F.slot_zip_next
  (Aqm F.slot_zip_next hT F.entry_zip_next ?_<|F.args_zip_next_1 _)))
 obtain⟨oT,hoT,_,nT,Sl⟩:=hTI;show Aph _ _ (field (.ref z) 2>>=_) _ _ _;refine Ao2<|ApJ hz rfl (x:=.bool false) rfl ?_;show Aph _ _ (field (.ref z) 3>>=_) _ _ _;refine Ao2<|ApJ hz rfl (x:=.ref TI) rfl ?_;refine Ao2<|Arc hoT Sl ?_;show Aph _ _ (Aqv (.ref z)>>=_) _ _ _;refine Ao2 ?_;unfold Aqv;refine Ao2<|ApJ hz rfl (x:=.none) rfl (Ao4 ?_);simp only[if_true];refine Ao2<|AqR ?_;refine Ao2<|ApJ hz rfl (x:=.ref TO) rfl ?_;refine Ao2 (Aqg hz (by simp) λh₁ bE QC=>?_)
 replace bE:IsZip h₁ z TI TO .ellipsis:=bE
 obtain⟨l1,k1,xs,q1,EK,en1⟩:=step h₁ QC bE;refine Ao2 ?_;simp only[List.zipIdx_cons,List.zipIdx_nil,AqB,AqZ];refine Ao2<|Ao2<|wpAny_onRaise ?_;show Aph _ _ (Ari (.ref i1)>>=_) _ _ _;refine Ao2 (HA hh q1 (λx h₂ hx hq₂ Ow=>Ao4 ?_) λhx h₂ e Ow lv₂ he=>?_)
 ·have uQ:Ar6 h₂ TO x0 y0:=Ow.extBut _ _ TO1 (QC.extBut _ _ TOz rQ);refine Ao2<|Arc uQ rfl ?_;refine Ao2 (wpAny_updateSeq_pair uQ λh₃ aO Uz=>?_)
  replace aO:Ar6 h₃ TO x y0:=aO
  refine Ao2<|wpAny_letGo<|Ao4 ?_;obtain⟨l2,k2,ys,q2,st2,en2⟩:=EK x h₂ hx hq₂ Ow h₃ Uz aO;refine Ao2<|Ao2<|wpAny_onRaise ?_;show Aph _ _ (Ari (.ref i2)>>=_) _ _ _;have hz₃:IsZip h₃ z TI TO .ellipsis:=Uz.extBut _ _ TOz.symm (Ow.extBut _ _ i1z.symm bE);refine Ao2 (HA hh q2 (λy h₄ hy hq₄ Wu=>Ao4 ?_) λhy h₄ e Wu lv₄ he=>?_)
  ·have uR:Ar6 h₄ TO x y0:=Wu.extBut _ _ TO2 aO;refine Ao2<|Arc uR rfl ?_;refine Ao2 (wpAny_updateSeq_pair uR λh₅ aP TR=>?_)
   replace aP:Ar6 h₅ TO x y:=aP
   refine Ao2<|wpAny_letGo<|Ao4<|Ao4 ?_;refine Ao2<|Arc aP rfl ?_;refine Ao2<|wpAny_newTuple ?_;have Gb:h₅.objs.size=s.heap.objs.size:=by rw[TR.1,Wu.1,Uz.1,Ow.1,QC.1]
   have rX:IsZip h₅ z TI TO .ellipsis:=TR.extBut _ _ TOz.symm (Wu.extBut _ _ i2z.symm hz₃);have vN:z<h₅.objs.size:=Aqe rX;show Aph _ _ (Aqr (.ref z) (.ref h₅.objs.size)>>=_) _ _ _;refine Ao2 ?_;unfold Aqr;have hz₆:IsZip (h₅.push {cls:=.type "tuple",data:=.seq #[x,y]}) z TI TO .ellipsis:=Ao8 _ rX;refine Ao2 (Aqg hz₆ (by simp) λh₇ hz₇ rW=>?_)
   replace hz₇:IsZip h₇ z TI TO (Aq1 h₅.objs.size):=hz₇
   refine Aqg hz₇ (by simp) λh₈ hz₈ hs₈=>?_
   replace hz₈:IsZip h₈ z TI TO (Aq1 h₅.objs.size):=hz₈
   have up:∀c o,c≠z->h₅.get? c=some o->h₈.get? c=some o:=λc o c1 e=>hs₈.extBut _ _ c1 (rW.extBut _ _ c1<|Ao8 _ e)
   have hT₈:Ar6 h₈ h₅.objs.size x y:=hs₈.extBut _ _ (AqV vN) (rW.extBut _ _ (AqV vN)<|Apl _ rfl);have fin:=st2 y h₄ hy hq₄ Wu h₈ (Gb▸hz₈) (up _ _ TOz aP) (Gb▸hT₈) λb o b1 b2 e=>up b o b1 (TR.extBut _ _ b2 e)
   refine Ao4 ⟨_,rfl,Ao4 ?_⟩;show Q (some<|.ref h₅.objs.size) _;rw[Gb];exact fin
  ·have hz₄:IsZip h₄ z TI TO .ellipsis:=Wu _ _ i2z.symm hz₃;obtain⟨xe,oe,rfl,oS,uV⟩:=he;have hez:xe≠z:=λx=>by subst x;rw[hz₄] at oS;cases oS;simp at uV
   refine Aqg hz₄ (by simp) λh₅ rX TR=>?_
   refine Ao2<|Nf ⟨_,oe,rfl,TR.extBut _ _ hez oS,uV⟩<|Ao4 ?_;exact en2 hy h₄ Wu lv₄ h₅ TR.extBut ⟨_,rX⟩
 ·have hz₂:IsZip h₂ z TI TO .ellipsis:=Ow _ _ i1z.symm bE;obtain⟨xe,oe,rfl,oS,uV⟩:=he;have hez:xe≠z:=λx=>by subst x;rw[hz₂] at oS;cases oS;simp at uV
  refine Aqg hz₂ (by simp) λh₅ rX TR=>?_
  refine Ao2<|Nf ⟨_,oe,rfl,TR.extBut _ _ hez oS,uV⟩<|Ao4 ?_;exact en1 hx h₂ Ow lv₂ h₅ TR.extBut ⟨_,rX⟩
theorem JW{it:Apc}{x left step:Int}{Q:Option Ao3->Ao5->Prop}(hh:A.handled=none)(hit:IsRangeIter s.heap it x left step)(u9:left≤0)
  (hQ:∀h',(∀b o,s.heap.get? b=some o->h'.get? b=some o)->Q none {s with heap:=h'}):Aph (model prog w) A (pyNext<|.ref it) Q E s:=by
 have hT:s.TypeIs (.ref it) "range_iterator":=⟨_,hit,rfl⟩;unfold pyNext;refine Ao2 (ArO (ApZ (name:=Ao1 "__next__") hT F.slot_range_iterator_next
  (Aqm F.slot_range_iterator_next hT F.entry_range_iterator_next ?_<|F.args_range_iterator_next_1 _)))
 show Aph _ _ (field (.ref it) 0>>=_) _ _ s;refine Ao2 (ApJ hit rfl (x:=Aq1 x) rfl ?_);show Aph _ _ (field (.ref it) 1>>=_) _ _ s;refine Ao2 (ApJ hit rfl (x:=Aq1 left) rfl ?_);show Aph _ _ (field (.ref it) 2>>=_) _ _ s;refine Ao2 (ApJ hit rfl (x:=Aq1 step) rfl ?_);show Aph _ _ (if left≤0 then _ else _) _ _ s;rw[if_pos u9];refine Ao2 (AqR ?_);refine Ao2 ?_;show Aph _ _ (newExc (.type "StopIteration") []>>=_) _ _ _;refine Ao2 ?_;simp only[newExc,newTuple];refine Ao2 (ApR ?_ (by size_fits));refine Ao2 (m:=Ar0 _ _) (wpAny_of_eq (a:=Aqp) (by first |rfl |(simp only[Ar0];rfl)) ?_);refine ApR ?_ (by size_fits);simp only[raiseNew];refine Ao2 (wpAny_handled ?_)
 first |rw[show A.in1.handled=none from hh] |rw[hh]
 refine Ao2 (Ao4 (wpAny_throw ?_));refine Ao2 (wpAny_isInstance (T:="StopIteration") (b:=true) ⟨_,Apl _ rfl,rfl⟩ isSubtype_stop ?_);exact Ao4 (hQ _ λb o e=>Ao8 _ (Ao8 _ e))
end
theorem LD{c e st:Int}(h0:st≠0):(0<ApL c e st)↔(if 0<st then c<e else e<c):=by
 unfold ApL;by_cases h:0<st
 ·rw[if_pos h,if_pos h];split
  ·rename_i hl;have:=Int.ediv_nonneg (a:=e-c-1) (b:=st) (by omega) (by omega);constructor
   ·intro _;exact hl
   ·intro _;omega
  ·constructor
   ·intro q;omega
   ·intro q;omega
 ·rw[if_neg h,if_neg h];split
  ·rename_i hl;have:=Int.ediv_nonneg (a:=c-e-1) (b:= -st) (by omega) (by omega);constructor
   ·intro _;exact hl
   ·intro _;omega
  ·constructor
   ·intro q;omega
   ·intro q;omega
theorem Rp{c e st:Int}(h0:st≠0)(h:if 0<st then c<e else e<c):ApL (c+st) e st=ApL c e st-1:=by
 unfold ApL;by_cases hp:0<st
 ·rw[if_pos hp] at h;rw[if_pos hp,if_pos hp,if_pos h];split
  ·have:e-c-1=(e-(c+st)-1)+st*1:=by omega
   rw[this,Int.add_mul_ediv_left _ _ (by omega)];omega
  ·rw[Int.ediv_eq_zero_of_lt (by omega) (by omega)];omega
 ·rw[if_neg hp] at h;rw[if_neg hp,if_neg hp,if_pos h];split
  ·have:c-e-1=(c+st-e-1)+(-st)*1:=by omega
   rw[this,Int.add_mul_ediv_left _ _ (by omega)];omega
  ·rw[Int.ediv_eq_zero_of_lt (by omega) (by omega)];omega
end
section
variable{C:Cx}
def Kr(own:Bool)(t:Expr):Prop:=match own with
 |true=>∃elts x pos,t= .Tuple elts x pos |false=>∀it v,ArK t it v=Apx ()
def RO(C:Cx)(W:Wd)(h:Apn):Option AV->Option Ao3->Prop
 |none,none=>True |some v,some cv=>VR C W h v cv |_,_=>False
def RI(M:ArJ)(A:Apg)(t:Expr)(it:Ao3)(Q:Option Ao3->Ao5->Prop)(E:Ao3->Ao5->Prop)(s:Ao5):Prop:=
 Aph M A (pyNext it) (λr s1=>match r with
  |none=>Q none s1
  |some v=>Aph M A (ArK t it v) (λ_ s2=>Q (some v) s2) E s1) E s
theorem JC(a b:Int):CH a b=decide (a<b):=by rw[AqA,AZ,decide_eq_true_iff]
def O1:List String:=["enumerate","zip","dict_itemiterator","dict_reverseitemiterator","odict_iterator","itertools.zip_longest","itertools.pairwise"]
theorem Ge{M:ArJ}{A:Apg}{E:Ao3->Ao5->Prop}{s:Ao5}{t:Expr}{it:Apc}{v:Ao3}{o:Obj}{n:String}{Q:Unit->Ao5->Prop}(ho:s.heap.get? it=some o)(hc:o.cls= .type n)(hn:O1.contains n=false)(hq:Q () s):
  Aph M A (ArK t (.ref it) v) Q E s:=by
 have key:Aph M A (do
   let(.ref r,.ref a):=(Aqu it,v)|return
   let o ←load r
   match o.cls,o.data with
   | .type n,.fields vs=>
    if ["enumerate","zip","dict_itemiterator","dict_reverseitemiterator","odict_iterator","itertools.zip_longest","itertools.pairwise"].contains n&&vs[0]? ==some (Aq1 a) then
     rule "for.unpacks-the-owned-tuple"
     updateField r 0 .none
   |_,_=>Apx ():Sem Unit) Q E s:=by
  cases v with
  |ref a=>
   refine Ao2<|wpAny_load ho ?_;rw[hc];cases o.data with
   |fields vs=>show Aph _ _ (if(O1.contains n&&vs[0]? ==some (Aq1 a))=true then _ else _) _ _ _;rw[hn,Bool.false_and];exact Ao4 hq
   |_=>exact Ao4 hq
  |_=>exact Ao4 hq
 unfold ArK;split
 ·exact key
 ·exact key
 ·exact Ao4 hq
section
variable{W:Wd}{σ:St}{s:Ao5}{A:Apg}{t:Expr}{own:Bool}{X:Ao3->Ao5->Prop}
theorem Lu(ow:Kr own t)(hh:A.handled=none)(I:Inv C W σ s){j:Nat}{p:Apc×Apc}(hj:W.τ[j]?=some p){k:K (Option AV)}(h:nextOf own j σ k=true):
  RI (model C.prog C.w) A t (.ref p.1) (A7 C k σ W s<|RO C) X s:=by
 have plain:H6 j σ k=true->RI (model C.prog C.w) A t (.ref p.1) (A7 C k σ W s<|RO C) X s:=by
  intro h;obtain⟨l,i,items,o3,oj,sq,q1,q2⟩:=GQ I hj h;refine Uh hh sq (λx h' hx hq hs=>?_) λhx h' hb hl=>?_
  ·obtain⟨v,y,hv,hk,hi⟩:=q1 x hx;obtain⟨J,Y⟩:=hi {s with heap:=h'} rfl rfl hs.extBut hq;have fin:A7 C k σ W s (RO C) (some x) {s with heap:=h'}:=⟨some v,_,W,hk,Y,J,I.vr Y hv⟩;rcases hq with⟨⟨o,ho,hc,_⟩,_⟩|⟨⟨o,ho,hc,_⟩,_⟩
   ·exact Ge ho hc (by decide) fin
   ·exact Ge ho hc (by decide) fin
  ·obtain⟨hk,hi⟩:=q2 hx;obtain⟨J,Y⟩:=hi {s with heap:=h'} rfl rfl hb hl;exact⟨none,_,W,hk,Y,J,trivial⟩
 unfold nextOf at h;split at h
 ·rename_i i n oj;obtain⟨hw,h⟩:=Ac h;obtain⟨elts,x1,pos,rfl⟩:=(show∃elts x pos,t= .Tuple elts x pos by rw[hw] at ow;exact ow);obtain⟨p',BK,ep,q,old,hq,he⟩:=I.obj _ _ oj;rw[hj] at BK;cases BK;have ep:p.2=p.1:=ep.resolve_right (λ⟨_,_,e⟩=>nomatch e);obtain⟨l,m,items,o3,oi,sq,q1,q2⟩:=GQ I hq h;have ij:i≠j:=λe=>by subst e;rw[oj] at oi;cases oi;rw[hj] at hq;cases hq;obtain⟨o,h1,h2,_⟩|⟨o,h1,h2,_⟩:=(show(∃o,s.heap.get? p.1=some o∧o.cls= .type "list_iterator"∧True)∨(∃o,s.heap.get? p.1=some o∧o.cls= .type "tuple_iterator"∧True) by
   rcases sq with⟨⟨o,a,b,_⟩,_⟩|⟨⟨o,a,b,_⟩,_⟩
   ·exact .inl ⟨o,a,b,trivial⟩
   ·exact .inr ⟨o,a,b,trivial⟩)<;>(rw[he] at h1;cases h1;simp at h2)
  have ap:=I.apart j i p q hj hq ij.symm;refine O3 hh he sq ap.1 (λx h₁ h' hx hq1 Wt heo hT up=>?_) λhx h' hb hl=>?_
  ·obtain⟨v,y,hv,hk,hi⟩:=q1 x hx;obtain⟨J,Y⟩:=hi {s with heap:=h₁} rfl rfl Wt.extBut hq1;refine wpAny_letOwnedTupleGo_enum heo λWl oF Ky=>?_
   replace Ky:ApP p.1 h' Wl:=Ky
   have up2:∀b o,b≠p.1->h₁.get? b=some o->Wl.get? b=some o:=λb o c e=>Ky.extBut _ _ c (up b o c e)
   have fr:s.heap.objs.size≠p.1:=AqV (Aqe he);have uO:Wl.get? s.heap.objs.size=some {cls:=.type "tuple",data:=.seq #[.int n s.toks,x]}:=Ky.extBut _ _ fr hT;have P:=J.put (i:=j) (o:=.iter (.VQ i (n+1))) (s':={s with heap:=Wl,toks:=s.toks+1}) (p:=p) hj (λb o c _ e=>up2 b o c e) (λTK=>⟨.inl ep,q,x,hq,oF⟩) ⟨_,oF,trivial⟩ ⟨_,by rw[ep];exact oF,trivial⟩
    (λa ha o ho JA=>by
     have Zr:h₁.get? p.1=_:=(Wt.2 p.1 ap.1).trans he;have ho:h₁.get? a=some o:=ho;exfalso;rcases ha with rfl |rfl
     ·rw[Zr] at ho;cases ho;exact BI rfl (by decide) JA
     ·rw[ep,Zr] at ho;cases ho;exact BI rfl (by decide) JA) rfl rfl
   obtain⟨J2,Y2⟩:=P;refine⟨some<|.Ak [.int (.k n),v],_,W,hk,Y.trans Y2,J2,?_⟩;refine VR.Ak (vs:=[.int n s.toks,x]) ⟨I.M5<|Ax _,I.SM<|Ax _,⟨_,uO,rfl,_,rfl⟩,_,uO,rfl⟩<|.cons (.int ?_)<|.cons (J.vr Y2<|I.vr Y hv) .nil;simp[Ap.ev,Ap.k,CN]
  ·obtain⟨hk,hi⟩:=q2 hx;obtain⟨J,Y⟩:=hi {s with heap:=h'} rfl rfl hb hl;have iS:IsEnum h' p.1 q.1 n old:=hb _ _ ap.1 he;obtain⟨J2,Y2⟩:=J.put (i:=j) (o:=.dead) (s':={s with heap:=h'}) (p:=p) hj (λb o _ _ e=>e) (λTK=>trivial) ⟨_,iS,trivial⟩ ⟨_,by rw[ep];exact iS,trivial⟩ (λa ha o ho JA=>⟨o,ho,JA⟩) rfl rfl;exact⟨none,_,W,hk,Y.trans Y2,J2,trivial⟩
 ·rename_i a b oj;obtain⟨hw,h⟩:=Ac h;obtain⟨hw,rR⟩:=Ac hw;obtain⟨rR,hbj⟩:=Ac rR;have rR:a≠j:=λe=>by subst e;rw[show Ao9 a a=true from ArD a] at rR;cases rR
  have hbj:b≠j:=λe=>by subst e;rw[show Ao9 b b=true from ArD b] at hbj;cases hbj
  obtain⟨elts,x1,pos,rfl⟩:=(show∃elts x pos,t= .Tuple elts x pos by rw[hw] at ow;exact ow);obtain⟨p',BK,_,TI,qa,qb,x0,y0,hz,hTI,ha,hb,rQ⟩:=I.obj _ _ oj;rw[hj] at BK;cases BK;have nf1:∀{h:Apn} {c:Apc} {o o':Obj},h.get? c=some o->h.get? c=some o'->o'.cls≠ .type "frame"->¬C0 o:=λe1 e2 n f=>by rw[e1] at e2;cases e2;exact n f.1
  have dead:∀{σ1:St} {s1:Ao5} (I1:Inv C W σ1 s1) {s2:Ao5} {o1 o2:Obj} {y:AO},(∀b x,b≠p.1->b≠p.2->s1.heap.get? b=some x->s2.heap.get? b=some x)->(Bb W W s1.heap s2.heap->Ob C W s2.heap p y)->s1.heap.get? p.1=some o1->o1.cls≠ .type "frame"->s1.heap.get? p.2=some o2->o2.cls≠ .type "frame"->Hd s2.heap p.1->Hd s2.heap p.2->s2.gens=s1.gens->s2.os=s1.os->
    Inv C W (σ1.put j y) s2∧Ext σ1 W s1 (σ1.put j y) W s2:=by
   intro σ1 s1 I1 s2 o1 o2 y hk hy h1 c1 h2 c2 ⟨l1,hl1⟩ ⟨l2,rV⟩ hg Hb;refine I1.put (o:=y) hj hk hy ⟨l1,hl1,trivial⟩ ⟨l2,rV,trivial⟩ (λa ha x hx fr=>?_) hg Hb;rcases ha with rfl |rfl
   ·exact(nf1 hx h1 c1 fr).elim
   ·exact(nf1 hx h2 c2 fr).elim
  have TOz:p.2≠p.1:=λe=>by have h2:s.heap.get? p.2=_:=rQ;rw[e,hz] at h2;simp at h2
  have za:=I.apart j a p qa hj ha rR.symm;have zb:=I.apart j b p qb hj hb hbj.symm;refine Rf hh hz hTI.Ak rQ TOz za.1.symm zb.1.symm za.2.2.1 zb.2.2.1 λh₁ QC bE=>?_
  have oA:Ar6 h₁ p.2 x0 y0:=QC.extBut _ _ TOz rQ;obtain⟨I0,Y0⟩:=dead I (s2:={s with heap:=h₁}) (y:=.dead) (λb x n _ e=>QC.extBut b x n e) (λ_=>trivial) hz (by simp) rQ (by simp) ⟨_,bE⟩ ⟨_,oA⟩ rfl rfl;obtain⟨l1,k1,xs,it1,o1,sq1,a1,a2⟩:=GQ I0 ha h;refine⟨l1,k1,xs,sq1,λx h₂ hx hq₂ Ow h₃ Uz oB=>?_,λhx h₂ hb₂ lv₂ h' BO lv'=>?_⟩
  ·obtain⟨v,y1,hv,hk,hi⟩:=a1 x hx;obtain⟨I1,Y1⟩:=hi {s with heap:=h₂} rfl rfl Ow.extBut hq₂;have aM:Ar6 h₂ p.2 x0 y0:=Ow.extBut _ _ za.2.2.1 oA;have iY:IsZip h₂ p.1 TI p.2 .ellipsis:=Ow.extBut _ _ za.1 bE;have hz3:IsZip h₃ p.1 TI p.2 .ellipsis:=Uz.extBut _ _ TOz.symm iY;obtain⟨I2,Y2⟩:=dead I1 (s2:={s with heap:=h₃}) (y:=.dead) (λb x _ n e=>Uz.extBut b x n e) (λ_=>trivial) iY (by simp) aM (by simp) ⟨_,hz3⟩ ⟨_,oB⟩ rfl rfl;obtain⟨l2,k2,ys,o4,o2,sq2,b1,b2⟩:=GQ I2 hb hk;refine⟨l2,k2,ys,sq2,λy h₄ hy hq₄ Wu h' bD Aeo hT' up=>?_,λhy h₄ hb₄ lv₄ h' BO lv'=>?_⟩
   ·obtain⟨u,y2,hu,oK,Qw⟩:=b1 y hy;obtain⟨I3,Y3⟩:=Qw {s with heap:=h₄} rfl rfl Wu.extBut hq₄;have aN:Ar6 h₄ p.2 x y0:=Wu.extBut _ _ zb.2.2.1 oB;have hz4:IsZip h₄ p.1 TI p.2 .ellipsis:=Wu.extBut _ _ zb.1 hz3;refine wpAny_letOwnedTupleGo_zip bD λWl vM Ky=>?_
    replace Ky:ApP p.1 h' Wl:=Ky
    have Y4:=((Y0.trans Y1).trans Y2).trans Y3;have uP:Ar6 Wl p.2 x y:=Ky.extBut _ _ TOz Aeo;obtain⟨I5,Y5⟩:=dead I3 (s2:={s with heap:=Wl}) (y:=.iter (.zip a b)) (λb x n1 n2 e=>Ky.extBut b x n1 (up b x n1 n2 e))
     (λTK=>⟨.inr ⟨a,b,rfl⟩,TI,qa,qb,x,y,vM,TK _ _<|I.qW Y4 _ _ hTI,ha,hb,uP⟩) hz4 (by simp) aN (by simp) ⟨_,vM⟩ ⟨_,uP⟩ rfl rfl
    have hT5:Ar6 Wl s.heap.objs.size x y:=Ky.extBut _ _ (AqV<|Aqe hz) hT';refine⟨some<|.Ak [v,u],_,W,oK,Y4.trans Y5,I5,?_⟩;refine VR.Ak (vs:=[x,y]) ⟨I.M5<|Ax _,I.SM<|Ax _,⟨_,hT5,rfl,_,rfl⟩,_,hT5,rfl⟩<|.cons ?_<|.cons (I3.vr Y5<|I2.vr Y3 hu) .nil;exact I0.vr (((Y1.trans Y2).trans Y3).trans Y5) hv
   ·obtain⟨oK,Qw⟩:=b2 hy;obtain⟨I3,Y3⟩:=Qw {s with heap:=h₄} rfl rfl hb₄ lv₄;have aN:Ar6 h₄ p.2 x y0:=hb₄ _ _ zb.2.2.1 oB;have hz4:IsZip h₄ p.1 TI p.2 .ellipsis:=hb₄ _ _ zb.1 hz3;obtain⟨I5,Y5⟩:=dead I3 (s2:={s with heap:=h'}) (y:=.dead) (λb x n1 _ e=>BO b x n1 e) (λ_=>trivial) hz4 (by simp) aN (by simp) lv' ⟨_,BO _ _ TOz aN⟩ rfl rfl;exact⟨none,_,W,oK,(((Y0.trans Y1).trans Y2).trans Y3).trans Y5,I5,trivial⟩
  ·obtain⟨hk,hi⟩:=a2 hx;obtain⟨I1,Y1⟩:=hi {s with heap:=h₂} rfl rfl hb₂ lv₂;have aM:Ar6 h₂ p.2 x0 y0:=hb₂ _ _ za.2.2.1 oA;have iY:IsZip h₂ p.1 TI p.2 .ellipsis:=hb₂ _ _ za.1 bE;obtain⟨I5,Y5⟩:=dead I1 (s2:={s with heap:=h'}) (y:=.dead) (λb x n1 _ e=>BO b x n1 e) (λ_=>trivial) iY (by simp) aM (by simp) lv' ⟨_,BO _ _ TOz aM⟩ rfl rfl;exact⟨none,_,W,hk,(Y0.trans Y1).trans Y5,I5,trivial⟩
 ·unfold Xp at h;split at h
  ·rename_i c e st oj;obtain⟨p',BK,ep,hr,h0⟩:=I.obj _ _ oj;rw[hj] at BK;cases BK;have ep:p.2=p.1:=ep.resolve_right (λ⟨_,_,e⟩=>nomatch e);have cnd:(match CH 0 st with |true=>CH c e |false=>CH e c)=decide (if 0<st then c<e else e<c):=by
    rw[JC];by_cases q:0<st
    ·simp[q,JC]
    ·simp[q,JC]
   unfold jC at h
   replace h:(match decide (if 0<st then c<e else e<c) with |true=>k (some<|.int<|.k c) (σ.put j<|.iter<|.Bi (c+st) e st)|false=>k none σ)=true:=by rw[←cnd];exact h
   by_cases q:(if 0<st then c<e else e<c)
   ·rw[decide_eq_true q] at h;refine wpAny_pyNext_range_item hr ((LD h0).mpr q) λh' P1 hs=>?_
    rw[←Rp h0 q] at P1
    replace hs:ApP p.1 s.heap h':=hs
    obtain⟨J,Y⟩:=I.put (i:=j) (o:=.iter (.Bi (c+st) e st)) (s':={s with heap:=h',toks:=s.toks+1}) hj (λb x n1 _ e=>hs.extBut b x n1 e) (λ_=>⟨.inl ep,P1,h0⟩) ⟨_,P1,trivial⟩ ⟨_,by rw[ep];exact P1,trivial⟩
     (λa ha o ho JA=>by
      exfalso;rcases ha with rfl |rfl
      ·rw[hr] at ho;cases ho;exact BI rfl (by decide) JA
      ·rw[ep,hr] at ho;cases ho;exact BI rfl (by decide) JA) rfl rfl
    refine Ge P1 rfl (by decide) ⟨some<|.int<|.k c,_,W,h,Y,J,.int (by simp[Ap.ev,Ap.k,CN])⟩
   ·rw[decide_eq_false q] at h;refine JW hh hr (Int.not_lt.mp λx=>q ((LD h0).mp x)) λh' hk=>?_
    obtain⟨J,Y⟩:=I.grow (s':={s with heap:=h'}) hk rfl rfl;exact⟨none,σ,W,h,Y,J,trivial⟩
  ·exact plain h
end
end
section
variable{C:Cx}
def RIt(W:Wd)(h:Apn)(j:Nat)(cv:Ao3):Prop:=∃p,W.τ[j]?=some p∧cv= .ref p.1
theorem Ft{a:Int}(h:near a=true): -1000000≤a∧a≤1000000:=by obtain⟨h1,h2⟩:=Ac h;exact⟨(BW _ _).mp h1,(BW _ _).mp h2⟩
theorem O9{a b s:Int}(h:S3 a b s=true):PySem.Builtin.Range.small a b s=true∧s≠0:=by
 obtain⟨h1,h⟩:=Ac h;obtain⟨h2,h⟩:=Ac h;obtain⟨h3,h4⟩:=Ac h;obtain⟨a1,a2⟩:=Ft h1;obtain⟨b1,b2⟩:=Ft h2;obtain⟨s1,s2⟩:=Ft h3;have s0:s≠0:=λe=>by subst e;cases h4
 refine⟨?_,s0⟩;have fit:∀x:Int, -3000000≤x->x≤3000000->PySem.Builtin.Range.rangeFitsLong x=true:=by intro x q1 q2;unfold PySem.Builtin.Range.rangeFitsLong;simp only[Ap8,decide_eq_true_eq];constructor<;>omega
 have sz:0≤ApL a b s∧ApL a b s≤2000001:=by
  unfold ApL;split
  ·split
   ·have e1:=Int.ediv_nonneg (a:=b-a-1) (b:=s) (by omega) (by omega);have e2:=Int.ediv_le_self (b:=s) (show 0≤b-a-1 by omega);omega
   ·omega
  ·split
   ·have e1:=Int.ediv_nonneg (a:=a-b-1) (b:= -s) (by omega) (by omega);have e2:=Int.ediv_le_self (b:= -s) (show 0≤a-b-1 by omega);omega
   ·omega
 unfold PySem.Builtin.Range.small;rw[fit a (by omega) (by omega),fit b (by omega) (by omega),fit s (by omega) (by omega),fit _ (by omega) (by omega)];split
 ·rw[fit _ (by omega) (by omega)];simp
 ·rw[fit _ (by omega) (by omega)];simp
section
variable{W:Wd}{σ:St}{s:Ao5}{A:Apg}
theorem Sp.Bv(I:Inv C W σ s)(hv:VR C W s.heap v cv):Sp C A σ W s (pyIter cv) (λk _=>Mine.Bv v σ k) RIt:=λk ke h=>by
 obtain⟨v',σ1,n1,Ko,_,h⟩:=AN I hv h;have mk:∀{y:It} {o:Obj},(DU W (W.more (s.heap.objs.size,s.heap.objs.size)) s.heap (s.heap.push o)->(s.heap.push o).get? s.heap.objs.size=some o->rD C (W.more (s.heap.objs.size,s.heap.objs.size)) (s.heap.push o) s.heap.objs.size s.heap.objs.size y)->o.isFreed=false->
   k σ1.n (σ1.new<|.iter y)=true->A7 C k σ W s RIt (.ref s.heap.objs.size) {s with heap:=s.heap.push o}:=by
  intro y o hy hf hk;have g:(s.heap.push o).get? s.heap.objs.size=some o:=Apl _ hf;obtain⟨J,Y⟩:=n1.1.make (o:=.iter y) (s':={s with heap:=s.heap.push o}) (p:=(s.heap.objs.size,s.heap.objs.size)) (λ_ _ e=>Ao8 _ e) (Ax _) (Ax _) (λS=>⟨.inl rfl,hy S g⟩) ⟨_,g,trivial⟩ ⟨_,g,trivial⟩ rfl rfl;exact⟨σ1.n,_,_,hk,n1.ext.trans Y,J,_,St.Bw n1.1 _,rfl⟩
 split at h
 ·cases Ko with
  |Ak ht vv=>exact wpAny_pyIter_tuple ht.Ak (mk (y:=.seq _) (λS g=>⟨_,0,_,⟨_,g,rfl,rfl⟩,S.Ak _ _ ht,vv.keep S.ρ S.τ S.q S.Ak⟩) rfl h)
 ·cases Ko with
  |obj hj=>
   split at h
   ·rename_i l oj;obtain⟨p',BK,ep,vs,vv,hl,_⟩:=n1.1.obj _ _ oj;rw[hj] at BK;cases BK;simp only[Aq,ApC,Apj] at hl;exact wpAny_pyIter_list hl (mk (y:=.lst _ 0) (λS g=>⟨_,Ah S.τ hj,_,g,rfl,rfl⟩) rfl h)
   ·rename_i a b st oj;obtain⟨hs,h⟩:=Ac h;obtain⟨sm,s0⟩:=O9 hs;obtain⟨p',BK,ep,t,u,w,hr⟩:=n1.1.obj _ _ oj;rw[hj] at BK;cases BK;exact wpAny_pyIter_range hr sm (mk (y:=.Bi a b st) (λS g=>⟨g,s0⟩) rfl h)
   ·rename_i i n oj;obtain⟨p',BK,_,q,old,hq,he⟩:=n1.1.obj _ _ oj;rw[hj] at BK;cases BK;exact wpAny_pyIter_enum he ⟨_,σ1,W,h,n1.ext,n1.1,_,hj,rfl⟩
   ·rename_i i n oj;obtain⟨p',BK,_,TI,qa,qb,x0,y0,hz,_⟩:=n1.1.obj _ _ oj;rw[hj] at BK;cases BK;exact wpAny_pyIter_zip hz ⟨_,σ1,W,h,n1.ext,n1.1,_,hj,rfl⟩
   ·cases h
 ·cases h
theorem OS{own:Bool}{j:Nat}{k:K (Option AV)}(h:nextOf own j σ k=true):∃it,σ.obj j=some (.iter it):=by
 unfold nextOf at h;split at h
 ·exact⟨_,by assumption⟩
 ·exact⟨_,by assumption⟩
 ·unfold Xp at h;split at h
  ·exact⟨_,by assumption⟩
  ·unfold H6 at h;split at h
   ·exact⟨_,by assumption⟩
   ·exact⟨_,by assumption⟩
   ·cases h
theorem pyIter_self(I:Inv C W σ s){j:Nat}{p:Apc×Apc}(hj:W.τ[j]?=some p){it:It}(oj:σ.obj j=some (.iter it)){Q:Ao3->Ao5->Prop}{E:Ao3->Ao5->Prop}(h:Q (.ref p.1) s):
  Aph (model C.prog C.w) A (pyIter<|.ref p.1) Q E s:=by
 obtain⟨p',BK,_,r⟩:=I.obj _ _ oj;rw[hj] at BK;cases BK;cases it with
 |seq l=>obtain⟨T,i,items,hit,_⟩:=r;exact wpAny_pyIter_tupleiter hit h
 |lst a b=>obtain⟨q,hq,hit⟩:=r;exact wpAny_pyIter_listiter hit h
 |Bi c e st=>obtain⟨hr,_⟩:=r;exact wpAny_pyIter_rangeiter hr h
 |VQ a b=>obtain⟨q,old,_,he⟩:=r;exact wpAny_pyIter_enum he h
 |zip a b=>obtain⟨TI,qa,qb,x0,y0,hz,_⟩:=r;exact wpAny_pyIter_zip hz h
end
end
section
variable{C:Cx}
section
variable{prog:Ap3}{w:Ao7}{A:Apg}{E:Ao3->Ao5->Prop}{s:Ao5}
theorem V8{R:Aru->Ao5->Prop}{target:Expr}{it:Ao3}{body:List Arw}{env:Env}
  (turn:RI (model prog w) A target it (λr s₁=>match r with
   |none=>R (.ok .next) s₁
   |some v=>Aph (model prog w) A (assign target env v) (λ_ s₂=>Aph (model prog w) A (execs body env) (λf s₃=>match f with
      | .next | .cont=>ApG (model prog w) A (.forLoop target it body [] env) R s₃
      | .brk=>R (.ok .next) s₃
      | .ret v=>R (.ok (.ret v)) s₃) (AqW (model prog w) A env λe s'=>R (.error e) s') s₂) (AqW (model prog w) A env λe s'=>R (.error e) s') s₁) (AqW (model prog w) A env λe s'=>R (.error e) s') s):
  ApG (model prog w) A (.forLoop target it body [] env) R s:=by
 refine ArL ?_;show Aph _ A ((forTurn target it body [] env).onRaise (λx=>do noteFrame x env;theTreesLotGoes x)) _ _ s;refine wpAny_noted ?_;simp only[forTurn];refine Ao2<|ApT<|Ao2<|wpAny_onRaise (Apa turn (λr s₁ h₁=>?_) λ_ _ h'=>ApT h');cases r with
 |none=>refine Ao4 ⟨rfl,codeAny_block ?_⟩;rw[arm_execs_nil];exact Ao4 h₁
 |some v=>
  refine Ao2 (Apa h₁ (λ_ s₁' h₁'=>?_) λ_ _ h'=>h');refine Ao2 (Apa h₁' (λ_ s₂ h₂=>Ao2 (Apa h₂ (λf s₃ h₃=>?_) λ_ _ h'=>h')) λ_ _ h'=>h');cases f with
  |next=>exact Ao4 ⟨rfl,h₃⟩
  |cont=>exact Ao4 ⟨rfl,h₃⟩
  |brk=>exact Ao4 h₃
  |ret v=>exact Ao4 h₃
theorem Kh{R:Aru->Ao5->Prop}{test:Expr}{body:List Arw}{env:Env}
  (turn:Aph (model prog w) A (isTrue test env<|eval test env) (λb s₂=>
    if b then Aph (model prog w) A (execs body env) (λf s₃=>match f with
      | .next | .cont=>ApG (model prog w) A (.whileLoop test body [] env) R s₃
      | .brk=>R (.ok .next) s₃
      | .ret v=>R (.ok (.ret v)) s₃) (AqW (model prog w) A env λe s'=>R (.error e) s') s₂
    else R (.ok .next) s₂)
    (AqW (model prog w) A env λe s'=>R (.error e) s') s):ApG (model prog w) A (.whileLoop test body [] env) R s:=by
 refine ArL ?_;show Aph _ A ((whileTurn test body [] env).onRaise (λx=>do noteFrame x env;theTreesLotGoes x)) _ _ s;refine wpAny_noted ?_;simp only[whileTurn];refine Ao2 (Apa turn (λb s₂ h₂=>?_) λ_ _ h'=>h');cases b with
 |false=>simp only[ApY,if_false] at h₂ ⊢;rw[arm_execs_nil];exact Ao2 (Ao4 (Ao4 h₂))
 |true=>
  simp only[if_true] at h₂ ⊢;refine Ao2 (Apa h₂ (λf s₃ h₃=>?_) λ_ _ h'=>h');cases f with
  |next=>exact Ao4 ⟨rfl,h₃⟩
  |cont=>exact Ao4 ⟨rfl,h₃⟩
  |brk=>exact Ao4 h₃
  |ret v=>exact Ao4 h₃
end
def sO(C:Cx)(k:K Fl)(ke:K AV)(σ:St)(W:Wd)(s:Ao5):Aru->Ao5->Prop:=λr s'=>match r with
 | .ok f=>A7 C k σ W s (RF C) f s' | .error e=>BD C ke σ W s e s'
theorem BD.base(x:Ext σ W s σ' W' s')(h:BD C ke σ' W' s' e s2):BD C ke σ W s e s2:=⟨h.1.base x,h.2⟩
theorem sO.base{k:K Fl}(x:Ext σ W s σ' W' s')(h:sO C k ke σ' W' s' r s2):sO C k ke σ W s r s2:=by
 cases r with
 |ok f=>exact A7.base x h
 |error e=>exact BD.base x h
section
variable{X:CX}{n:Nat}{b:Bool}{sc:ApH}
theorem H2(own:Bool)(turn:AV->St->M Fl)(j m:Nat)(σ:St)(k:K Fl)(ke:K AV):BZ own turn j (m+1) σ k ke =
 nextOf own j σ λr σ=>OR (k .next σ) (λv=>turn v σ (λf σ=>turned f k (λσ=>BZ own turn j m σ k ke) σ) ke) r:=rfl
theorem V7{own:Bool}(ow:Kr own et)(ht:ST C X n true sc t et)(hb:SL C X n true sc c bx)(f:CJ n true A){j:Nat}{p:Apc×Apc}{k:K Fl}:
  ∀(m:Nat) (σ:St) (W:Wd) (s:Ao5) (R:Aru->Ao5->Prop),Inv C W σ s->A8 C A W sc E env->W.τ[j]?=some p->BZ own (λv σ k ke=>t X E v σ (λ_ σ=>c X E σ k ke) ke) j m σ k ke=true->(∀r s',sO C k ke σ W s r s'->R r s')->
   ApG (model C.prog C.w) A (.forLoop et (.ref p.1) bx [] env) R s
 |0,σ,W,s,R,I,e,hj,h,hR=>by cases h
 |m+1,σ,W,s,R,I,e,hj,h,hR=>by
  rw[H2] at h;have nx:=Lu (X:=AqW (model C.prog C.w) A env λe s'=>R (.error e) s') ow (f.hand rfl) I hj h;refine V8 (Apa nx (λr s1 q=>?_) λ_ _ q=>q);have fin:∀(r:Option Ao3) (s1:Ao5),A7 C (λr σ=>OR (k .next σ) (λv=>t X E v σ (λ_ σ=>c X E σ (λf σ=>turned f k (λσ=>BZ own (λv σ k ke=>t X E v σ (λ_ σ=>c X E σ k ke) ke) j m σ k ke) σ) ke) ke) r) σ W s (RO C) r s1->(match r with
   |none=>R (.ok .next) s1
   |some v=>Aph (model C.prog C.w) A (assign et env v) (λ_ s₂=>Aph (model C.prog C.w) A (execs bx env) (λf s₃=>match f with
      | .next | .cont=>ApG (model C.prog C.w) A (.forLoop et (.ref p.1) bx [] env) R s₃
      | .brk=>R (.ok .next) s₃
      | .ret v=>R (.ok (.ret v)) s₃) (AqW (model C.prog C.w) A env λe s'=>R (.error e) s') s₂) (AqW (model C.prog C.w) A env λe s'=>R (.error e) s') s1):=by
   intro r s1 q;obtain⟨a,σ1,W1,h1,X1,I1,r1⟩:=q;cases r with
   |none=>
    cases a with
    |some _=>exact r1.elim
    |none=>exact hR _ _ ⟨.next,σ1,W1,h1,X1,I1,.next⟩
   |some cv=>
    cases a with
    |none=>exact r1.elim
    |some v=>
     have e1:=e.up X1.up;have er:∀{σ2:St} {W2:Wd} {s2 s3:Ao5} {x:Ao3},Ext σ W s σ2 W2 s2->A8 C A W2 sc E env->AG C ke σ2 W2 s2 x s3->AqW (model C.prog C.w) A env (λe s'=>R (.error e) s') x s3:=by intro σ2 W2 s2 s3 x X2 e2 q;exact Apa (Ek q e2 (Er:=λe s'=>R (.error e) s')) (λ_ _ q=>hR _ _ (BD.base X2 q)) λ_ _ q=>q
     refine Apa (ht A σ1 W1 s1 E env v cv f I1 e1 r1 _ ke h1) (λ_ s2 q=>?_) λ_ _ q=>er X1 e1 q
     obtain⟨_,σ2,W2,h2,X2,I2,_⟩:=q;have e2:=e1.up X2.up;refine Apa (hb A σ2 W2 s2 E env f I2 e2 _ ke h2) (λfl s3 q=>?_) λ_ _ q=>er (X1.trans X2) e2 q
     obtain⟨a,σ3,W3,h3,X3,I3,r3⟩:=q;have Fg:=(X1.trans X2).trans X3;have again:BZ own (λv σ k ke=>t X E v σ (λ_ σ=>c X E σ k ke) ke) j m σ3 k ke=true->ApG (model C.prog C.w) A (.forLoop et (.ref p.1) bx [] env) R s3:=λh=>
      V7 ow ht hb f m σ3 W3 s3 R I3 (e2.up X3.up) (Ah Fg.τ hj) h λr s' q=>hR r s' (q.base Fg)
     cases r3 with
     |next=>exact again h3
     |cont=>exact again h3
     |brk=>exact hR _ _ ⟨.next,σ3,W3,h3,Fg,I3,.next⟩
     |ret hv=>exact hR _ _ ⟨.ret _,σ3,W3,h3,Fg,I3,.ret hv⟩
  cases r with
  |none=>exact fin none s1 q
  |some v=>exact Apa q (λ_ s2 q=>fin (some v) s2 q) λ_ _ q=>q
def C4:Expr->Bool
 | .Set .. =>false |_=>true
theorem Ck(h:C4 e=true)(env:Env)(x:Ao3):foldedSetIterable e env x=Apx x:=by cases e<;>first |rfl |cases h
theorem SS.V6{own:Bool}{pos:Pos}(ow:Kr own et)(hs:C4 ei=true)(hi:SE C X n true sc ci ei)(ht:ST C X n true sc t et)(hb:SL C X n true sc c bx):
  SS C X n true sc (uA own t ci c) (.For et ei bx [] pos):=λA σ W s E env f I e k ke h=>by
 refine wpAny_For ?_<|Ck hs env;refine Apa (hi A σ W s E env f I e _ ke h) (λx s1 q=>?_) λ_ _ q=>q
 obtain⟨a,σ1,W1,h1,X1,I1,r1⟩:=q;refine Apa (Sp.Bv (A:=A) I1 r1 _ ke h1) (λcv s2 q=>?_) λ_ _ q=>q.base X1
 obtain⟨j,σ2,W2,h2,X2,I2,p,hj,rfl⟩:=q;refine V7 ow ht hb f Qq σ2 W2 s2 _ I2 ((e.up X1.up).up X2.up) hj h2 λr s' q=>?_
 have q:=q.base (X1.trans X2);cases r with
 |ok f=>exact q
 |error e=>exact EP q
theorem Nr(X:CX)(E:Bo)(tag:Nat)(t:Cb)(body:Cs)(m:Nat)(σ:St)(k:K Fl)(ke:K AV):DS X E tag t body (m+1) σ k ke =
 OR (Zf X E t body (DS X E tag t body m) σ k ke) (λr=>r (λ_ σ=>DS X E tag t body m σ k ke) ke) (X.T.loop tag E σ):=rfl
def Hook(C:Cx)(X:CX)(n:Nat)(b:Bool)(sc:ApH)(tag:Nat)(et:Expr)(bx:List Arw):Prop:=
 ∀(A:Apg) (σ:St) (W:Wd) (s:Ao5) (E:Bo) (env:Env) (r:M Unit) (k:K Unit) (ke:K AV) (R:Aru->Ao5->Prop),CJ n b A->Inv C W σ s->A8 C A W sc E env->X.T.loop tag E σ=some r->r k ke=true->
  (∀σ' W' s',k () σ'=true->Ext σ W s σ' W' s'->Inv C W' σ' s'->ApG (model C.prog C.w) A (.whileLoop et bx [] env) R s')->(∀e s',BD C ke σ W s e s'->R (.error e) s')->
  ApG (model C.prog C.w) A (.whileLoop et bx [] env) R s
theorem Kg{tag:Nat}(hk:Hook C X n b sc tag et bx)(ht:SB C X n b sc t et)(hb:SL C X n b sc c bx)(f:CJ n b A){k:K Fl}:
  ∀(m:Nat) (σ:St) (W:Wd) (s:Ao5) (R:Aru->Ao5->Prop),Inv C W σ s->A8 C A W sc E env->DS X E tag t c m σ k ke=true->(∀r s',sO C k ke σ W s r s'->R r s')->
   ApG (model C.prog C.w) A (.whileLoop et bx [] env) R s
 |0,σ,W,s,R,I,e,h,hR=>by cases h
 |m+1,σ,W,s,R,I,e,h,hR=>by
  rw[Nr] at h;cases q:X.T.loop tag E σ with
  |some r=>
   rw[q] at h;refine hk A σ W s E env r (λ_ σ=>DS X E tag t c m σ k ke) ke R f I e q h (λσ' W' s' h' X' I'=>?_) λe s' q=>hR _ _ q
   exact Kg hk ht hb f m σ' W' s' R I' (e.up X'.up) h' λr s' q=>hR r s' (q.base X')
  |none=>
   rw[q] at h
   replace h:t X E σ (λb σ=>bt b (c X E σ (λf σ=>turned f k (λσ=>DS X E tag t c m σ k ke) σ) ke) (k .next σ)) ke=true:=h
   have er:∀{σ2:St} {W2:Wd} {s2 s3:Ao5} {x:Ao3},Ext σ W s σ2 W2 s2->A8 C A W2 sc E env->AG C ke σ2 W2 s2 x s3->AqW (model C.prog C.w) A env (λe s'=>R (.error e) s') x s3:=by intro σ2 W2 s2 s3 x X2 e2 q;exact Apa (Ek q e2 (Er:=λe s'=>R (.error e) s')) (λ_ _ q=>hR _ _ (BD.base X2 q)) λ_ _ q=>q
   refine Kh (Apa (ht A σ W s E env f I e _ ke h) (λbo s1 q=>?_) λ_ _ q=>er (.refl _ _ _) e q);obtain⟨a,σ1,W1,h1,X1,I1,r1⟩:=q;cases(show a=bo from r1);cases bo with
   |false=>rw[if_neg (by decide)];exact hR _ _ ⟨.next,σ1,W1,h1,X1,I1,.next⟩
   |true=>
    rw[if_pos rfl];have e1:=e.up X1.up;refine Apa (hb A σ1 W1 s1 E env f I1 e1 _ ke h1) (λfl s3 q=>?_) λ_ _ q=>er X1 e1 q
    obtain⟨a,σ3,W3,h3,X3,I3,r3⟩:=q;have Fg:=X1.trans X3;have again:DS X E tag t c m σ3 k ke=true->ApG (model C.prog C.w) A (.whileLoop et bx [] env) R s3:=λh=>
     Kg hk ht hb f m σ3 W3 s3 R I3 (e1.up X3.up) h λr s' q=>hR r s' (q.base Fg)
    cases r3 with
    |next=>exact again h3
    |cont=>exact again h3
    |brk=>exact hR _ _ ⟨.next,σ3,W3,h3,Fg,I3,.next⟩
    |ret hv=>exact hR _ _ ⟨.ret _,σ3,W3,h3,Fg,I3,.ret hv⟩
theorem SS.Zx{tag:Nat}{pos:Pos}(hk:Hook C X n b sc tag et bx)(ht:SB C X n b sc t et)(hb:SL C X n b sc c bx):SS C X n b sc (rB tag t c) (.While et bx [] pos):=λA σ W s E env f I e k ke h=>by
 refine wpAny_While ?_;refine Kg hk ht hb f Qq σ W s _ I e h λr s' q=>?_
 cases r with
 |ok f=>exact q
 |error e=>exact EP q
theorem Hook.none{tag:Nat}(h:∀E σ,X.T.loop tag E σ=none):Hook C X n b sc tag et bx:=λA σ W s E env r k ke R f I e q=>by rw[h] at q;cases q
end
end
section
variable{C:Cx}
theorem PA.Ds(v:Option AO)(l r:PA)(j:Nat):PA.get (.Ae v l r) (j+1)=bt (Ao9 (Ap7 j 2) 0) (l.get<|Aqy j 2) (r.get<|Aqy j 2):=rfl
theorem PA.PI(v:Option AO)(l r:PA)(x:AO)(i:Nat):PA.set (.Ae v l r) x (i+1)=bt (Ao9 (Ap7 i 2) 0) (.Ae v (l.set x<|Aqy i 2) r) (.Ae v l<|r.set x<|Aqy i 2):=rfl
theorem M3(k:Nat):Ao9 (Ap7 k 2) 0=true↔k % 2=0:=⟨λh=>Ao6 h,λh=>by rw[show Ap7 k 2=0 from h];rfl⟩
theorem OP(k:Nat):Ao9 (Ap7 k 2) 0=false↔¬k % 2=0:=by rw[←M3,Bool.not_eq_true]
theorem PA.Oi:∀(t:PA) (x o:AO) (i:Nat),t.get i=some o->(t.set x i).get i=some x:=by
 intro t x
 induction t with
 |nil=>intro o i h;cases h
 |Ae v l r bI bJ=>
  intro o i h;cases i with
  |zero=>rfl
  |succ i=>
   rw[PA.Ds] at h;rw[PA.PI];cases q:Ao9 (Ap7 i 2) 0 with
   |true=>rw[q] at h;show PA.get (.Ae v (l.set x (Aqy i 2)) r) (i+1)=_;rw[PA.Ds,q];exact bI _ _ h
   |false=>rw[q] at h;show PA.get (.Ae v l (r.set x (Aqy i 2))) (i+1)=_;rw[PA.Ds,q];exact bJ _ _ h
theorem PA.Qv:∀(t:PA) (x o:AO) (i j:Nat),j≠i->t.get j=some o->(t.set x i).get j=some o:=by
 intro t x
 induction t with
 |nil=>intro o i j n h;cases h
 |Ae v l r bI bJ=>
  intro o i j n h;cases i with
  |zero=>
   cases j with
   |zero=>exact absurd rfl n
   |succ j=>exact h
  |succ i=>
   rw[PA.PI];cases j with
   |zero=>cases q:Ao9 (Ap7 i 2) 0<;>exact h
   |succ j=>
    rw[PA.Ds] at h;cases q:Ao9 (Ap7 i 2) 0 with
    |true=>
     show PA.get (.Ae v (l.set x<|Aqy i 2) r) (j+1)=_;rw[PA.Ds];cases q':Ao9 (Ap7 j 2) 0 with
     |true=>rw[q'] at h;refine bI _ _ _ (λe=>n ?_) h;have a:j/2=i/2:=e;have:=(M3 i).mp q;have:=(M3 j).mp q';omega
     |false=>rw[q'] at h;exact h
    |false=>
     show PA.get (.Ae v l<|r.set x<|Aqy i 2) (j+1)=_;rw[PA.Ds];cases q':Ao9 (Ap7 j 2) 0 with
     |true=>rw[q'] at h;exact h
     |false=>rw[q'] at h;refine bJ _ _ _ (λe=>n ?_) h;have a:j/2=i/2:=e;have:=(OP i).mp q;have:=(OP j).mp q';omega
theorem PA.OB:∀(t:PA) (j:Nat) (o:AO),t.get j=some o->t.kill.get j=some (Cv o):=by
 intro t
 induction t with
 |nil=>intro j y h;cases h
 |Ae v l r bI bJ=>
  intro j o h;cases j with
  |zero=>have h:v=some o:=h;subst h;rfl
  |succ j=>
   rw[PA.Ds] at h;show bt (Ao9 (Ap7 j 2) 0) (l.kill.get<|Aqy j 2) (r.kill.get<|Aqy j 2)=_;cases q:Ao9 (Ap7 j 2) 0 with
   |true=>rw[q] at h;exact bI _ _ h
   |false=>rw[q] at h;exact bJ _ _ h
theorem St.O2{σ:St}{i:Nat}{o:AO}(h:σ.obj i=some o):(σ.put i x).obj i=some x:=PA.Oi _ _ _ _ h
theorem St.Rd{σ:St}{i j:Nat}{o:AO}(n:j≠i)(h:σ.obj j=some o):(σ.put i x).obj j=some o:=PA.Qv _ _ _ _ _ n h
theorem St.F2{σ:St}{j D:Nat}{l:Option Nat}{o:AO}(h:σ.obj j=some o):(σ.after j D l).obj j=some (.old D l):=PA.Oi _ _ _ _ (PA.OB _ _ _ h)
theorem St.Dl{σ:St}{i j D:Nat}{l:Option Nat}{o:AO}(n:i≠j)(h:σ.obj i=some o):(σ.after j D l).obj i=some (Cv o):=PA.Qv _ _ _ _ _ n (PA.OB _ _ _ h)
section
variable{M:ArJ}{A:Apg}{E:Ao3->Ao5->Prop}{s:Ao5}{env:Env}
structure Dk(a:Apc)(h h':Apn):Prop where
 but:ApP a h h'
 ns:∃m,h'.Ns a m
 fr:∀o,h.get? a=some o->C0 o->∃o',h'.get? a=some o'∧C0 o'
theorem Dk.refl{a:Apc}{h:Apn}{m}(n:h.Ns a m):Dk a h h:=⟨.refl ..,⟨m,n⟩,λo e f=>⟨o,e,f⟩⟩
theorem Dk.trans(x:Dk a h h1)(y:Dk a h1 h2):Dk a h h2:=⟨x.but.trans y.but,y.ns,λo e f=>let⟨o1,e1,f1⟩:=x.fr o e f;y.fr o1 e1 f1⟩
theorem OU{a:Apc}{m}{name:Str}{Q:Bool->Ao5->Prop}(hn:s.heap.Ns a m)
  (hQ:∀h',Dk a s.heap h'->Q (m name).isSome {s with heap:=h'}):Aph M A (nsDel a name) Q E s:=by
 obtain⟨o,es,ep,ho,hd,hk,hm⟩:=id hn;have Aeq:es.any (·.refKey)=false:=by rw[Array.any_eq_false'];intro e he;obtain⟨n,t,h⟩:=hk e he;simp[DictEntry.refKey,h]
 have vI:(m name).isSome=es.any (·.key.isStr name):=by
  rw[←hm name];simp only[Aro,findBy,Option.isSome_map];rw[AqA];simp only[Array.find?_isSome,Array.any_eq_true];constructor
  ·rintro⟨x,hx,hp⟩;obtain⟨i,hi,rfl⟩:=Array.mem_iff_getElem.mp hx;exact⟨i,hi,hp⟩
  ·rintro⟨i,hi,hp⟩;exact⟨_,Array.getElem_mem hi,hp⟩
 have AeK:nsHas name o=pure (es.any (·.key.isStr name)):=by rw[nsHas_eq];unfold nsHasByArray;rw[hd];show(if(es.any λx=>x.key.isStr name)=true then _ else _)=_;generalize (es.any λx=>x.key.isStr name)=b;cases b<;>simp[Aeq]
 unfold nsDel;refine Ao2<|ArV ho ?_;rw[AeK];refine Ao2<|Ao4 ?_;rw[←vI];cases hmn:(m name).isSome
 ·have:=hQ s.heap (.refl hn);rw[hmn] at this;exact Ao4 this
 ·refine Ao2<|wpAny_updatePart ho<|Ao4 ?_;have key:∃VV n',(s.heap.update a<|Obj.dropName name).get? a=some {o with data:=.dict VV n'}∧StrKeys VV:=by
   obtain⟨cl,d,dt,sl⟩:=o;subst hd;cases hi:es.findIdx? (·.key.isStr name) with
   |some i=>exact⟨_,ep+1,(Apm _ ho (by simp only[Obj.dropName_eq,Obj.dropNameByArray,hi]<;>rfl)).trans (congrArg some (by simp only[Obj.dropName_eq,Obj.dropNameByArray,hi]<;>rfl)),hk.erase i⟩
   |none=>exact⟨_,ep,(Apm _ ho (by simp only[Obj.dropName_eq,Obj.dropNameByArray,hi]<;>rfl)).trans (congrArg some (by simp only[Obj.dropName_eq,Obj.dropNameByArray,hi]<;>rfl)),hk⟩
  obtain⟨VV,n',g,aV⟩:=key;have:=hQ _ ⟨ApW ..,⟨Aro VV,_,VV,n',g,rfl,aV,λ_=>rfl⟩,λo' e f=>⟨_,g,by rw[ho] at e;cases e;exact⟨f.1,_,_,rfl⟩⟩⟩;rw[hmn] at this;exact this
theorem JI{cenv:Env}{cellsOf:List (Str×Aqw)->List Ao3}(HY:cenv.scope.kind= .function){Q:Unit->Ao5->Prop}:
  ∀(vs:List (Str×Aqw)) (s:Ao5) (m:Str->Option Ao3),(∀x∈vs,x.2= .local->cenv.kindOf x.1=some .local)->s.heap.Ns cenv.locals m->
   (∀h',Dk cenv.locals s.heap h'->Q () {s with heap:=h'})->Aph M A (comprehension.letGo cenv cellsOf vs) Q E s:=by
 intro vs
 induction vs with
 |nil=>intro s m _ hn hQ;exact Ao4 (hQ s.heap (.refl hn))
 |cons x r ih=>
  intro s m hv hn hQ;obtain⟨n,k⟩:=x;rw[comprehension.letGo];have hr:∀y∈r,y.2= .local->cenv.kindOf y.1=some .local:=λy hy=>hv y (List.mem_cons_of_mem _ hy)
  refine Ao2<|ApA ?_;by_cases hk:k= .local
  ·subst hk;have hkn:cenv.kindOf n=some .local:=hv (n,.local) List.mem_cons_self rfl;simp only[beq_self_eq_true,if_true];refine Ao2<|wpAny_nsGet hn ?_;cases hmn:(m n).isSome
   ·simp only[ApY,if_false];exact Ao4 (ih s m hr hn hQ)
   ·simp only[if_true];unfold unbindName deleteName;refine Ao2<|wpAny_point<|Ao2 ?_;simp only[hkn,HY];refine Ao2 (m:=nsDel cenv.locals n) (OU hn λh' hb=>?_);rw[hmn];refine Ao4<|wpAny_point ?_;obtain⟨m',aY⟩:=hb.ns;exact ih {s with heap:=h'} m' hr aY λWl BO=>hQ Wl (hb.trans BO)
  ·have hb:(k==NameKind.local)=false:=by simpa using hk
   simp only[hb,ApY,if_false];exact wpAny_point (ih s m hr hn hQ)
def Ep(M:ArJ)(A:Apg)(E:Ao3->Ao5->Prop)(use:Option (Ao3->Sem Unit))(Q:Ao3->Ao5->Prop)(acc:Ao3)(cenv:Env)(r:Aru)(s':Ao5):Prop:=
 match r,use with
 | .ok _,none=>∃m,s'.heap.Ns cenv.locals m∧∀h',Dk cenv.locals s'.heap h'->Q acc {s' with heap:=h'} | .ok _,some u=>Aph M A (u acc) (λ_ YH=>∃m,YH.heap.Ns cenv.locals m∧∀h',Dk cenv.locals YH.heap h'->Q .none {YH with heap:=h'}) E s' | .error x,_=>∃m,s'.heap.Ns cenv.locals m∧∀h',Dk cenv.locals s'.heap h'->Aph M A (passOn "comprehension.variables-let-go" x cenv:Sem Ao3) (λ_ _=>False) E {s' with heap:=h'}
theorem Hk{e:Expr}{scope:ApH}{pos:Pos}{Xo first:Sem Ao3}{g:Asa}{gs:List Asa}{cl:List (Str×Apc)}{use:Option (Ao3->Sem Unit)}
  {Q:Ao3->Ao5->Prop}
  (Oq:clausesOf e=g::gs)(hs:∀x,foldedSetIterable g.iter env x=pure x)(Jz:closureFor scope env=pure cl)
  (HY:scope.kind= .function)(oP:∀x∈scope.names,x.2= .local->scope.names.lookup x.1=some .local)
  (h:Aph M A first (λx s₁=>Aph M A (pyIter x) (λit s₂=>Aph M A Xo (λacc s₃=>
   Aph M A (newFunctionEnv scope env.globals cl [] env.qual none .none<|some env) (λcenv s₄=>
    ApG M A (.compStart e 0 it acc {cenv with scope:=relabel scope env}) (Ep M A E use Q acc {cenv with scope:=relabel scope env}) s₄) E s₃) E s₂) E s₁) E s):
  Aph M A (comprehension e scope env pos Xo false first use) Q E s:=by
 unfold comprehension;rw[Jz,Oq];refine Ao2 (Apa h (λx s₁ h₁=>Ao2 (ApT (Ao2 (wpAny_of_eq (hs x) (Ao2 (ApA (Apa h₁ (λit s₂ h₂=>
  wpAny_standIf (Ao2 (Apa h₂ (λacc s₃ h₃=>Ao2 (Ao4<|Ao2 (Apa h₃ (λcenv s₄ h₄=>?_) λ_ _ h'=>h'))) λ_ _ h'=>h')))
   λ_ _ h'=>h'))))))) λ_ _ h'=>h')
 dsimp only;have hv:∀x∈(scope.names.filter λx=>(x.2== .local||x.2== .cell)&&x.1 != (".0":Str)).reverse,x.2= .local->
   AqJ {cenv with scope:=relabel scope env} x.1=some .local:=λx hx hl=>lookup_relabel_local (oP x (List.mem_filter.mp<|List.mem_reverse.mp hx).1 hl)
 have Ko:∀x∈(scope.names.filter λx=>(x.2== .local||x.2== .cell)&&x.1 != (".0":Str)).reverse.drop 1++(scope.names.filter λx=>(x.2== .local||x.2== .cell)&&x.1 != (".0":Str)).reverse.take 1,
   x.2= .local->AqJ {cenv with scope:=relabel scope env} x.1=some .local:=λx hx hl=>by
  rcases ApM.mp hx with h1 |h1
  ·exact hv x (List.mem_of_mem_drop h1) hl
  ·exact hv x (List.mem_of_mem_take h1) hl
 refine ApA<|Ao2<|ArO<|ApA<|wpAny_run (Arn h₄ λr s' hr=>?_);cases r with
 |ok f=>
  cases use with
  |none=>obtain⟨m,hn,hr⟩:=hr;exact Ao2 (ApA (JI (cenv:={cenv with scope:=relabel scope env}) HY _ s' m hv hn λh' Kx=>Ao4 (hr h' Kx)))
  |some u=>refine Ao2 (AqR (Ao2 (ApA (Apa hr (λ_ YH P1=>?_) λ_ _ h'=>h'))));obtain⟨m,hn,P1⟩:=P1;exact Ao2 (JI (cenv:={cenv with scope:=relabel scope env}) HY _ YH m Ko hn λh' Kx=>Ao4 (P1 h' Kx))
 |error x=>
  have P1:∃m,s'.heap.Ns cenv.locals m∧∀h',Dk cenv.locals s'.heap h'->Aph M A (passOn "comprehension.variables-let-go" x {cenv with scope:=relabel scope env}:Sem Ao3) (λ_ _=>False) E {s' with heap:=h'}:=by cases use<;>exact hr
  obtain⟨m,hn,hr⟩:=P1;exact Ao2 (ApA (JI (cenv:={cenv with scope:=relabel scope env}) HY _ s' m hv hn λh' Kx=>Apa (hr h' Kx) (λ_ _ f=>f.elim) λ_ _ y=>y))
end
end
section
variable{C:Cx}
def Kz(env:Env)(ifs:List Expr)(r:Bool):Sem Bool:=forIn ifs r λc r=>if r=true then do let ok ←isTrue c env (eval c env);pure (ApS ok) else pure (ApS r)
def Kd(target:Expr)(ifs:List Expr)(p:Pos)(emit:Sem Unit)(ag:Sem Fin)(it:Ao3)(env:Env):Sem Fin:=do
 standAt p
 match←pyNext it with
 |none=>pure (.done .next)
 |some v=>
  ArK target it v
  assign target env v
  let mut ok:=true
  for c in ifs do
   if ok then ok ←isTrue c env (eval c env)
  if ok then
   emit
  ag
section
variable{prog:Ap3}{w:Ao7}{A:Apg}{E:Ao3->Ao5->Prop}{s:Ao5}
theorem TB{R:Aru->Ao5->Prop}{elt target:Expr}{gens:List Asa}{scope:ApH}{pos p:Pos}{d:Nat}{it acc:Ao3}{env:Env}{ifs:List Expr}{emit:Sem Unit}
  (hT:compTurn (.ListComp elt gens scope pos) d it acc env=Kd target ifs p emit (again<|.compLoop (.ListComp elt gens scope pos) d it acc env) it env)
  (turn:RI (model prog w) A target it (λr s₁=>match r with
   |none=>R (.ok .next) s₁
   |some v=>Aph (model prog w) A (assign target env v) (λ_ s₂=>Aph (model prog w) A (Kz env ifs true) (λok s₃=>
      if ok=true then Aph (model prog w) A emit (λ_ s₄=>ApG (model prog w) A (.compLoop (.ListComp elt gens scope pos) d it acc env) R s₄) (AqW (model prog w) A env λe s'=>R (.error e) s') s₃
      else ApG (model prog w) A (.compLoop (.ListComp elt gens scope pos) d it acc env) R s₃) (AqW (model prog w) A env λe s'=>R (.error e) s') s₂) (AqW (model prog w) A env λe s'=>R (.error e) s') s₁) (AqW (model prog w) A env λe s'=>R (.error e) s') s):
  ApG (model prog w) A (.compLoop (.ListComp elt gens scope pos) d it acc env) R s:=by
 refine ArL ?_;show Aph _ A ((compTurn (.ListComp elt gens scope pos) d it acc env).onRaise (λx=>do noteFrame x env;theTreesLotGoes x)) _ _ s;refine wpAny_noted ?_;rw[hT];unfold Kd;refine Ao2<|ApT<|Ao2 (Apa turn (λr s₁ h₁=>?_) λ_ _ h'=>h');cases r with
 |none=>exact Ao4 h₁
 |some v=>
  refine Ao2 (Apa h₁ (λ_ s₁' h₁'=>?_) λ_ _ h'=>h');refine Ao2 (Apa h₁' (λ_ s₂ h₂=>Ao2 (Apa h₂ (λok s₃ h₃=>?_) λ_ _ h'=>h')) λ_ _ h'=>h');cases ok with
  |false=>exact Ao4 ⟨rfl,h₃⟩
  |true=>exact Ao2 (Apa h₃ (λ_ s₄ h₄=>Ao4 ⟨rfl,h₄⟩) λ_ _ h'=>h')
theorem Et{R:Aru->Ao5->Prop}{elt target iter:Expr}{gens:List Asa}{scope:ApH}{pos:Pos}{d:Nat}{ifs:List Expr}{it acc:Ao3}{env:Env}
  (hg:gens[d]?=some ⟨target,iter,ifs,0⟩)(h0:ApG (model prog w) A (.compLoop (.ListComp elt gens scope pos) d it acc env) R s)
  (h:Aph (model prog w) A (pyIter it) (λit' s'=>ApG (model prog w) A (.compLoop (.ListComp elt gens scope pos) d it' acc env) R s')
   (AqW (model prog w) A env λx s'=>R (.error x) s') s):
  ApG (model prog w) A (.compStart (.ListComp elt gens scope pos) d it acc env) R s:=by
 refine ArL ?_;show Aph _ _ ((Asc (.ListComp elt gens scope pos) d it acc env).onRaise (λx=>do noteFrame x env;standAt theWindowsPlace)) _ _ s;refine wpAny_notedAt ?_;unfold Asc;have hc:(clausesOf<|.ListComp elt gens scope pos)[d]?=some ⟨target,iter,ifs,0⟩:=hg;rw[hc];show Aph _ _ (ask>>=_) _ _ s;refine Ao2<|wpAny_askSetting<|wpAny_ite ?_;split
 ·first
   |exact Ao2 (Ao4 (Ao4 (And.intro rfl h0)))
   |exact Ao4 (And.intro rfl h0)
 ·first
   |exact Ao2 (AqR (Ao2 (ApT (Ao2 (Apa h (λit' s' h'=>Ao4 (And.intro rfl h')) λ_ _ x=>x)))))
   |(refine Ao2 (AqR ?_);show Aph _ _ (standAt iter.pos>>=_) _ _ s;exact Ao2 (ApT (Ao2 (Apa h (λit' s' h'=>Ao4 (And.intro rfl h')) λ_ _ x=>x))))
theorem Lh{Q:Bool->Ao5->Prop}(h:Q false s):∀ifs:List Expr,Aph (model prog w) A (Kz env ifs false) Q E s
 | []=>by unfold Kz;rw[AqZ];exact Ao4 h
 |c::r=>by unfold Kz;rw[AqB];simp only[ApY,if_false];exact Ao2 (Ao4 (Lh h r))
end
section
variable{X:CX}{n:Nat}{sc:ApH}
theorem Sp.ifs{l:List Cb}(h:Zl C X n true sc l es)(f:CJ n true A):∀{σ:St} {W:Wd} {s:Ao5},Inv C W σ s->A8 C A W sc E env->
  Sp C A σ W s (Kz env es true) (λk ke=>allB .And l X E σ k ke) RB:=by
 induction h with
 |nil=>intro σ W s I e;unfold Kz;rw[AqZ];exact .pure I (λ_ _ h=>h) rfl
 | @cons c1 e1 l es h1 hs ih=>
  intro σ W s I e k ke q;unfold Kz;rw[AqB];simp only[if_true];refine Ao2<|Ao2 (Apa (h1 A σ W s E env f I e _ ke q) (λb s1 q=>Ao4 ?_) λ_ _ q=>q);obtain⟨a,σ1,W1,q1,X1,I1,r1⟩:=q;cases(show a=b from r1);cases b with
  |false=>exact Lh (⟨false,σ1,W1,q1,X1,I1,rfl⟩) es
  |true=>exact Apa (ih I1 (e.up X1.up) k ke q1) (λ_ _ q=>q.base X1) λ_ _ q=>q.base X1
def CR(C:Cx)(k:K Fl)(ke:K AV)(σ:St)(W:Wd)(s:Ao5):Aru->Ao5->Prop:=λr s'=>match r with
 | .ok _=>A7 C k σ W s (λ_ _ (f:Fl) (_:Unit)=>f= .next) () s' | .error e=>BD C ke σ W s e s'
theorem CR.base{k:K Fl}(x:Ext σ W s σ' W' s')(h:CR C k ke σ' W' s' r s2):CR C k ke σ W s r s2:=by
 cases r with
 |ok f=>exact A7.base (R:=λ_ _ (f:Fl) (_:Unit)=>f= .next) (b:=()) x h
 |error e=>exact BD.base x h
theorem CM{t:Ct}{ifs:List Cb}{own:Bool}{elt target:Expr}{gens:List Asa}{scope:ApH}{pos p0:Pos}{d:Nat}{acc:Ao3}{eifs:List Expr}{emit:St->M Unit}{VN:Sem Unit}
  (ow:Kr own target)(ht:ST C X n true sc t target)(hi:Zl C X n true sc ifs eifs){A:Apg}{E:Bo}{env:Env}(f:CJ n true A){j na:Nat}{p pa:Apc×Apc}{k:K Fl}{ke:K AV}
  (em:∀(σ:St) (W:Wd) (s:Ao5),Inv C W σ s->A8 C A W sc E env->W.τ[na]?=some pa->Sp C A σ W s VN (λk ke=>emit σ k ke) RU)
  (hT:compTurn (.ListComp elt gens scope pos) d (.ref p.1) acc env=Kd target eifs p0 VN (again<|.compLoop (.ListComp elt gens scope pos) d (.ref p.1) acc env) (.ref p.1) env):
  ∀(m:Nat) (σ:St) (W:Wd) (s:Ao5) (R:Aru->Ao5->Prop),Inv C W σ s->A8 C A W sc E env->W.τ[j]?=some p->W.τ[na]?=some pa->BZ own (G8 X E t ifs emit) j m σ k ke=true->(∀r s',CR C k ke σ W s r s'->R r s')->
   ApG (model C.prog C.w) A (.compLoop (.ListComp elt gens scope pos) d (.ref p.1) acc env) R s
 |0,σ,W,s,R,I,e,hj,oO,h,hR=>by cases h
 |m+1,σ,W,s,R,I,e,hj,oO,h,hR=>by
  rw[H2] at h;have nx:=Lu (X:=AqW (model C.prog C.w) A env λe s'=>R (.error e) s') ow (f.hand rfl) I hj h;refine TB hT (Apa nx (λr s1 q=>?_) λ_ _ q=>q);have fin:∀(r:Option Ao3) (s1:Ao5),A7 C (λr σ=>OR (k .next σ) (λv=>G8 X E t ifs emit v σ (λf σ=>turned f k (λσ=>BZ own (G8 X E t ifs emit) j m σ k ke) σ) ke) r) σ W s (RO C) r s1->(match r with
   |none=>R (.ok .next) s1
   |some v=>Aph (model C.prog C.w) A (assign target env v) (λ_ s₂=>Aph (model C.prog C.w) A (Kz env eifs true) (λok s₃=>
      if ok=true then Aph (model C.prog C.w) A VN (λ_ s₄=>ApG (model C.prog C.w) A (.compLoop (.ListComp elt gens scope pos) d (.ref p.1) acc env) R s₄) (AqW (model C.prog C.w) A env λe s'=>R (.error e) s') s₃
      else ApG (model C.prog C.w) A (.compLoop (.ListComp elt gens scope pos) d (.ref p.1) acc env) R s₃) (AqW (model C.prog C.w) A env λe s'=>R (.error e) s') s₂) (AqW (model C.prog C.w) A env λe s'=>R (.error e) s') s1):=by
   intro r s1 q;obtain⟨a,σ1,W1,h1,X1,I1,r1⟩:=q;cases r with
   |none=>
    cases a with
    |some _=>exact r1.elim
    |none=>exact hR _ _ ⟨.next,σ1,W1,h1,X1,I1,rfl⟩
   |some cv=>
    cases a with
    |none=>exact r1.elim
    |some v=>
     have e1:=e.up X1.up;have er:∀{σ2:St} {W2:Wd} {s2 s3:Ao5} {x:Ao3},Ext σ W s σ2 W2 s2->A8 C A W2 sc E env->AG C ke σ2 W2 s2 x s3->AqW (model C.prog C.w) A env (λe s'=>R (.error e) s') x s3:=by intro σ2 W2 s2 s3 x X2 e2 q;exact Apa (Ek q e2 (Er:=λe s'=>R (.error e) s')) (λ_ _ q=>hR _ _ (BD.base X2 q)) λ_ _ q=>q
     refine Apa (ht A σ1 W1 s1 E env v cv f I1 e1 r1 _ ke h1) (λ_ s2 q=>?_) λ_ _ q=>er X1 e1 q
     obtain⟨_,σ2,W2,h2,X2,I2,_⟩:=q;have e2:=e1.up X2.up;have Hf:=X1.trans X2;have again:∀{σ3:St} {W3:Wd} {s3:Ao5},Ext σ W s σ3 W3 s3->Inv C W3 σ3 s3->BZ own (G8 X E t ifs emit) j m σ3 k ke=true->ApG (model C.prog C.w) A (.compLoop (.ListComp elt gens scope pos) d (.ref p.1) acc env) R s3:=λX3 I3 h=>
      CM ow ht hi f em hT m _ _ _ R I3 (e.up X3.up) (Ah X3.τ hj) (Ah X3.τ oO) h λr s' q=>hR r s' (q.base X3)
     refine Apa (Sp.ifs hi f I2 e2 _ ke h2) (λok s3 q=>?_) λ_ _ q=>er Hf e2 q
     obtain⟨a,σ3,W3,h3,X3,I3,r3⟩:=q;cases(show a=ok from r3);have Fg:=Hf.trans X3;cases ok with
     |false=>rw[if_neg (by decide)];exact again Fg I3 h3
     |true=>
      rw[if_pos rfl];refine Apa (em σ3 W3 s3 I3 (e2.up X3.up) (Ah Fg.τ oO) _ ke h3) (λ_ s4 q=>?_) λ_ _ q=>er Fg (e2.up X3.up) q
      obtain⟨_,σ4,W4,h4,X4,I4,_⟩:=q;exact again (Fg.trans X4) I4 h4
  cases r with
  |none=>exact fin none s1 q
  |some v=>exact Apa q (λ_ s2 q=>fin (some v) s2 q) λ_ _ q=>q
end
theorem Inv.congr{σ':St}(I:Inv C W σ s)(hn:σ'.n=σ.n)(hk:σ'.k=σ.k)(hr:σ'.Bi=σ.Bi)(h1:σ'.neg=σ.neg)(h2:σ'.Ca=σ.Ca)(ho:∀i y,σ'.obj i=some y->σ.obj i=some y):Inv C W σ' s:=by refine⟨I.nτ.trans hn.symm,I.kρ.trans hk.symm,by rw[hr,hk];exact I.rl,λa x h=>?_,by rw[h1];exact I.neg,by rw[h2];exact I.Ca,λi o h=>I.obj i o (ho i o h),I.apart,I.new,I.live,I.Kn,I.base,I.gens,I.os,I.fo⟩;have:=I.Bi a x h;unfold St.rg at this ⊢;rw[hr,hk];exact this
section
variable{σ σ2:St}{W W2:Wd}{s s2 s1:Ao5}{ke:K AV}{f:Nat}{pf:Apc×Apc}{e:Ao3}
theorem Gw{k:St->Bool}(h:Mz f σ k=true):∃m,σ.obj f=some (.frame m)∧k (σ.put f .dead)=true:=by
 unfold Mz at h;split at h
 ·exact⟨_,by assumption,h⟩
 ·cases h
theorem Inv.Fj(I:Inv C W σ s){m:List (Nm×AV)}(hf:W.τ[f]?=some pf)(h:σ.obj f=some (.frame m)):pf.2=pf.1∧∃mm,s.heap.Ns pf.1 mm:=by obtain⟨p,hp,ep,mm,hn,_⟩:=I.obj _ _ h;rw[hf] at hp;cases hp;exact⟨ep,mm,hn⟩
theorem Inv.Cj(I:Inv C W σ s){m:List (Nm×AV)}(hf:W.τ[f]?=some pf)(h:σ.obj f=some (.frame m))(nb:Dk pf.1 s.heap h'):Inv C W (σ.put f .dead) {s with heap:=h'}∧Ext σ W s (σ.put f .dead) W {s with heap:=h'}:=by obtain⟨ep,_⟩:=I.Fj hf h;obtain⟨mm,o,es,n,ho,_⟩:=nb.ns;refine I.put (o:=.dead) (s':={s with heap:=h'}) hf (λb x n1 _ e=>nb.but.extBut b x n1 e) (λ_=>trivial) ⟨o,ho,trivial⟩ ⟨o,by rw[ep];exact ho,trivial⟩ (λa ha x hx fr=>?_) rfl rfl;have:a=pf.1:=ha.elim id (λe=>e.trans ep);subst this;exact nb.fr x hx fr
theorem BD.Cj(P:BD C (λe σ'=>Mz f σ' λσ'=>ke e σ') σ2 W2 s2 e s1)(X:Ext σ W s σ2 W2 s2)(hf:W2.τ[f]?=some pf)(AeX:s.heap.get? pf.1=none):
  (∃m,s1.heap.Ns pf.1 m)∧∀h',Dk pf.1 s1.heap h'->BD C ke σ W s e {s1 with heap:=h'}:=by
 obtain⟨⟨j,D,l,σ',W',p,h1,h0,h2,h3,rfl,h5,h6,h7⟩,y,ey,o,fs,T,oT,ts,mm,he,hd,hfs,hC,Qx,hT,Sl,hm⟩:=P;have ey:p.1=y:=by simpa using ey
 subst ey;obtain⟨m,JA,hke⟩:=Gw h1;have hf':W'.τ[f]?=some pf:=Ah h6.τ hf;have jf:j≠f:=λe=>by subst e;rw[h2] at JA;cases JA
 have oH:(σ'.after j D l).obj f=some (.frame m):=St.Dl (ArQ jf) JA;obtain⟨ep,Hv⟩:=h7.Fj hf' oH;refine⟨Hv,λh' nb=>?_⟩;have ap:=h7.apart j f p pf h3 hf' jf;have dat:∀{a:Apc} {o:Obj} {fs:Array Ao3},s1.heap.get? a=some o->o.data= .fields fs->a≠pf.1:=by rintro a o fs ho hd rfl;obtain⟨_,o',es,n,Dx,Il,_⟩:=Hv;rw[ho] at Dx;cases Dx;rw[hd] at Il;cases Il
 have g1:h'.get? p.1=some o:=nb.but.extBut _ _ ap.1 he;have gT:h'.get? T=some oT:=nb.but.extBut _ _ (dat hT Sl) hT;have tr:Traced C h' p.1:=⟨o,fs,T,oT,ts,mm,g1,hd,hfs,hC,Qx,gT,Sl,hm⟩;obtain⟨J,Y⟩:=h7.Cj hf' oH nb;have hv:((σ'.put f .dead).after j D l).Bq=(σ'.put f .dead).Bq+1:=rfl;have hv2:(σ'.after j D l).Bq=σ'.Bq+1:=rfl;have pv:σ'.Bq≤(σ'.put f .dead).Bq:=by
  rw[St.M9];cases Aq0 f σ'.low
  ·exact Aqc _
  ·exact Nat.le_succ _
 have XX:=X.trans h6;refine⟨⟨j,D,l,σ'.put f .dead,W',p,hke,AqT (AqT X.Bq h0) pv,St.Rd jf h2,h3,rfl,.inr tr,?_,?_⟩,p.1,rfl,tr⟩
 ·have ne:∀{a:Apc} {o:Obj},s.heap.get? a=some o->a≠pf.1:=λe q=>by rw[q,AeX] at e;cases e
  have same:∀{a:Apc} {o o':Obj},s.heap.get? a=some o->s1.heap.get? a=some o'->h'.get? a=some o':=λe e'=>nb.but.extBut _ _ (ne e) e'
  refine⟨XX.τ,XX.ρ,XX.q,XX.ls,XX.low,by rw[hv];have:=X.Bq;omega,λa o e nf no=>?_,λv=>?_,XX.fresh,λa o e=>?_,λa o e q=>?_,XX.fs,XX.fo⟩
  ·obtain⟨sl,q1,q2⟩:=XX.keep a o e nf no;exact⟨sl,same e q1,q2⟩
  ·exfalso;have:=X.Bq;rw[hv] at v;omega
  ·obtain⟨o',q⟩:=XX.alive a o e;exact⟨o',same e q⟩
  ·obtain⟨o',q,r⟩:=XX.fr a o e q;exact⟨o',same e q,r⟩
 ·refine J.congr rfl rfl rfl rfl rfl λi y hy=>?_
  rcases St.HD hy with⟨rfl,rfl⟩|⟨n,o,ho,rfl⟩
  ·exact St.Rd jf (St.F2 h2)
  ·rcases St.SP ho with⟨rfl,rfl⟩|⟨n2,ho⟩
   ·exact St.O2 oH
   ·exact St.Rd n2 (St.Dl n ho)
end
end
section
variable{C:Cx}
def XN(sc:ApH)(n:Str)(k:Aqw):Aqw:=match k,sc.kind,sc.names.lookup n with
 | .free,.function,some .cell=>.cell |k,_,_=>k
def Rj(sc:ApH):List (Str×Aqw)->List (Str×Aqw)
 | []=>[] |(n,k)::r=>(n,XN sc n k)::Rj sc r
def C5(scope sc:ApH):ApH:={scope with names:=Rj sc scope.names}
theorem S0{env:Env}{sc:ApH}(h:env.scope=sc):∀l:List (Str×Aqw),(l.map λ(n,k)=>if(k==Aqk&&env.scope.kind== .function&&env.kindOf n==some .cell) then(n,ArP) else(n,k))=Rj sc l
 | []=>rfl
 |(n,k)::r=>by
  have hd:(if(k==Aqk&&env.scope.kind== .function&&env.kindOf n==some .cell)=true then(n,ArP) else(n,k))=(n,XN sc n k):=by unfold AqJ XN;rw[h];generalize sc.names.lookup n=q;generalize sc.kind=sk;cases k<;>cases sk<;>first |rfl |(rcases q with _ |kk<;>first |rfl |(cases kk<;>rfl))
  show(if(k==Aqk&&env.scope.kind== .function&&env.kindOf n==some .cell)=true then(n,ArP) else(n,k))::_=(n,XN sc n k)::Rj sc r;rw[hd,S0 h r]
theorem Rl{env:Env}{sc:ApH}(h:env.scope=sc)(scope:ApH):relabel scope env=C5 scope sc:=by unfold relabel C5;rw[S0 h]
theorem LA{nm:Str}:∀{l:List (Str×Aqw)},(Rj sc l).lookup nm=some .cell∨(Rj sc l).lookup nm=some .free->∃k,(nm,k)∈l∧(k= .cell∨k= .free)
 | [],h=>by rcases h with h |h<;>cases h
 |(n,k)::r,h=>by
  unfold Rj at h;by_cases e:nm=n
  ·subst e;simp only[Apy,beq_self_eq_true] at h;refine⟨k,.head _,?_⟩;unfold XN at h;split at h
   ·exact .inr rfl
   ·exact h.imp (λe=>Apr e) (λe=>Apr e)
  ·have ne:(nm==n)=false:=by simpa using e
   simp only[Apy,ne] at h;obtain⟨k',m,q⟩:=LA h;exact⟨k',.tail _ m,q⟩
def Cc(scope sc:ApH):Bool:=(match scope.kind with | .function=>true |_=>false)&&scope.names.all λ(n,k)=>match k with
 | .cell=>false | .free=>(match sc.names.lookup n with |some .cell=>true |some .free=>true |_=>false) | .local=>(match scope.names.lookup n with |some .local=>true |_=>false) |_=>true
structure LZ(scope sc:ApH):Prop where
 kind:scope.kind= .function
 cell:∀x∈scope.names,x.2≠ .cell
 free:∀x∈scope.names,x.2= .free->sc.names.lookup x.1=some .cell∨sc.names.lookup x.1=some .free
 l:∀x∈scope.names,x.2= .local->scope.names.lookup x.1=some .local
theorem Es(h:Cc scope sc=true):LZ scope sc:=by
 unfold Cc at h;obtain⟨h1,h2⟩:=ApI.mp h;have h2:=List.all_eq_true.mp h2;refine⟨?_,λx hx e=>?_,λx hx e=>?_,λx hx e=>?_⟩
 ·cases q:scope.kind<;>first |rfl |(rw[q] at h1;cases h1)
 ·have:=h2 x hx;obtain⟨n,k⟩:=x;cases e;cases this
 ·have:=h2 x hx;obtain⟨n,k⟩:=x;cases e;dsimp only at this ⊢;split at this
  ·exact .inl (by assumption)
  ·exact .inr (by assumption)
  ·cases this
 ·have:=h2 x hx;obtain⟨n,k⟩:=x;cases e;dsimp only at this ⊢;split at this
  ·assumption
  ·cases this
theorem F6{env:Env}:∀{l:List (Str×Aqw)} (cs:List (Str×Apc)),(∀x∈l,x.2= .free->∃a,env.cells.lookup x.1=some a)->
  ∃cl,(forIn l cs λ(x:Str×Aqw) r=>match x with |(name,kind)=>if(kind==Aqk)=true then do let a ←cellOf env name;Apx (ApS ((name,a)::r)) else Apx (ApS r):Sem (List<|Str×Apc))=Apx cl∧
   (∀nm,(nm,Aqk)∈l->cl.lookup nm=env.cells.lookup nm)∧∀nm,(nm,Aqk)∉l->cl.lookup nm=cs.lookup nm
 | [],cs,h=>⟨cs,rfl,λ_ q=>(nomatch q),λ_ _=>rfl⟩
 |(n,k)::r,cs,h=>by
  rw[AqB];by_cases hk:k= .free
  ·subst hk;obtain⟨a,ha⟩:=h (n,.free) (.head _) rfl;obtain⟨cl,e1,e2,e3⟩:=F6 (l:=r) ((n,a)::cs) λx hx=>h x (.tail _ hx)
   refine⟨cl,?_,λnm q=>?_,λnm q=>?_⟩
   ·rw[←e1];simp only[beq_self_eq_true,if_true];unfold cellOf;rw[ha];rfl
   ·by_cases m:(nm,Aqk)∈r
    ·exact e2 nm m
    ·rcases Apf.mp q with q |q
     ·cases q;rw[e3 _ m];simp[Apy,ha]
     ·exact absurd q m
   ·have q1:nm≠n:=λe=>q (by rw[e];exact .head _)
    rw[e3 nm λm=>q (.tail _ m)];have:(nm==n)=false:=by simpa using q1
    simp[Apy,this]
  ·obtain⟨cl,e1,e2,e3⟩:=F6 (l:=r) cs λx hx=>h x (.tail _ hx)
   refine⟨cl,?_,λnm q=>?_,λnm q=>?_⟩
   ·rw[←e1];have:(k==Aqk)=false:=by simpa using hk
    simp only[this,ApY,if_false];rfl
   ·rcases Apf.mp q with q |q
    ·cases q;exact absurd rfl hk
    ·exact e2 nm q
   ·exact e3 nm λm=>q (.tail _ m)
theorem DZ(e:A8 C A W sc E env)(cs:LZ scope sc):∃cl,closureFor scope env=Apx cl∧∀nm,(nm,Aqk)∈scope.names->cl.lookup nm=env.cells.lookup nm:=by
 obtain⟨cl,e1,e2,_⟩:=F6 (env:=env) (l:=scope.names) [] λx hx q=>e.full _ (cs.free x hx q)
 refine⟨cl,?_,e2⟩;unfold closureFor;exact(congrArg (λm=>m>>=λcs=>Apx cs) e1).trans rfl
theorem F7(e:A8 C A W sc E env)(cs:LZ scope sc){cl:List (Str×Apc)}(Oq:∀nm,(nm,Aqk)∈scope.names->cl.lookup nm=env.cells.lookup nm){L:Apc}{f:Nat}(hf:W.τ[f]?=some (L,L)):
  A8 C A W (C5 scope sc) ⟨f,E.cells⟩ (compEnvC scope cl L env):=by
 have fr:∀nm,((C5 scope sc).names.lookup nm=some .cell∨(C5 scope sc).names.lookup nm=some .free)->(nm,Aqk)∈scope.names:=by
  intro nm h;obtain⟨k,m,q⟩:=LA h;rcases q with rfl |rfl
  ·exact absurd rfl (cs.cell _ m)
  ·exact m
 refine⟨Rl e.scope scope,cs.kind,e.glob,e.bi,⟨_,hf,rfl⟩,λx j nm hx hn hk=>?_,λnm hk=>?_,e.around⟩
 ·have m:=fr nm hk;obtain⟨p,hp,hl⟩:=e.cells x j nm hx hn (cs.free _ m rfl);exact⟨p,hp,(Oq nm m).trans hl⟩
 ·have m:=fr nm hk;obtain⟨a,ha⟩:=e.full nm (cs.free _ m rfl);exact⟨a,(Oq nm m).trans ha⟩
theorem HG{M:ArJ}{A:Apg}{AfZ:String}{env:Env}{Q:Ao3->Ao5->Prop}(P:BD C ke σ W s e s'):Aph M A (PySem.passOn AfZ e env:Sem Ao3) Q (AG C ke σ W s) s':=by obtain⟨y,rfl,o,fs,T,oT,ts,m,he,hd,h1,r⟩:=id P.2;unfold PySem.passOn;refine Ao2<|ApJ he hd h1 ?_;rw[if_neg (by simp)];exact Ao2 (Apa (Fh P) (λ_ _ q=>wpAny_throw q.1) λ_ _ q=>q)
theorem Jg{A:Apg}{W:Wd}{σ:St}{s:Ao5}{sc scope:ApH}{E:Bo}{env:Env}(I:Inv C W σ s)(e:A8 C A W sc E env)(cs:LZ scope sc){cl:List (Str×Apc)}(Oq:∀nm,(nm,Aqk)∈scope.names->cl.lookup nm=env.cells.lookup nm)
  {Q:Ao3->Env->Ao5->Prop}{Er:Ao3->Ao5->Prop}
  (h:∀(W':Wd) (s':Ao5) (D L:Apc),Ext σ W s ((σ.new<|.list none [] none).new<|.frame []) W' s'->Inv C W' ((σ.new<|.list none [] none).new<|.frame []) s'->W'.τ[σ.n]?=some (D,D)->W'.τ[σ.n+1]?=some (L,L)->s.heap.get? L=none->
   Q (.ref D) (compEnvC scope cl L env) s'):
  Aph (model C.prog C.w) A (PySem.newList []) (λacc s1=>Aph (model C.prog C.w) A (newFunctionEnv scope env.globals cl [] env.qual none .none<|some env) (λcenv s2=>Q acc {cenv with scope:=relabel scope env} s2) Er s1) Er s:=by
 obtain⟨I1,X1⟩:=I.list (l:=[]) .nil s.toks;refine wpAny_newList ?_ (by simp);refine wpAny_newFunctionEnv cs.cell (λx hx=>nomatch hx) (λh' Hv hsb=>?_) cs.kind;dsimp only at Hv hsb ⊢;generalize hH:s.heap.push {cls:=.type "list",data:=.seq ([]:List Ao3).toArray}=H at Hv hsb I1 X1 ⊢;obtain⟨o,es,nn,ho,r⟩:=id Hv;obtain⟨I2,X2⟩:=I1.make (o:=.frame []) (s':={s with heap:=h',toks:=s.toks+0}) (p:=(H.objs.size,H.objs.size)) (λb x q=>(hsb.2 b (AqU (Aqe q))).trans (Ao8 _ q)) (Ax _) (Ax _)
  (λS=>⟨rfl,_,Hv,λx v q=>(by cases q),λnm cv q=>(by cases q)⟩) ⟨o,ho,trivial⟩ ⟨o,ho,trivial⟩ rfl rfl
 refine h _ {s with heap:=h',toks:=s.toks+0} s.heap.objs.size H.objs.size (X1.trans X2) I2 (Ah X2.τ<|St.Bw I _) (St.Bw I1 _) ?_;cases q:s.heap.get? H.objs.size with
 |none=>rfl |some o=>obtain⟨o',q'⟩:=X1.alive _ _ q;rw[Ax] at q';cases q'
section
variable{X:CX}{n:Nat}
theorem My(he:SE C X n true sc elt CB)(f:CJ n true A){na:Nat}{pa:Apc×Apc}:
  ∀(σ:St) (W:Wd) (s:Ao5),Inv C W σ s->A8 C A W sc E env->W.τ[na]?=some pa->
   Sp C A σ W s (do let _ ←call (.builtin "list.append") [.ref pa.1,←eval CB env]) (λk ke=>elt X E σ (λv σ=>BR na v σ k) ke) RU:=λσ W s I e oO k ke h=>by
 refine Ao2 (Apa (he A σ W s E env f I e _ ke h) (λx s1 q=>?_) λ_ _ q=>q);obtain⟨v,σ1,W1,h1,X1,I1,r1⟩:=q;refine Ao2 (Apa (Sp.BR (A:=A) I1 (Ah X1.τ oO) r1 _ ke h1) (λx s2 q=>?_) λ_ _ q=>q.base X1);obtain⟨_,σ2,W2,h2,X2,I2,_⟩:=q;exact Ao4 ⟨(),σ2,W2,h2,X1.trans X2,I2,trivial⟩
theorem DI{own:Bool}{j m:Nat}{k:K Fl}(h:BZ own turn j (m+1) σ k ke=true):∃it,σ.obj j=some (.iter it):=OS (k:=λr σ=>OR (k .next σ) (λv=>turn v σ (λf σ=>turned f k (λσ=>BZ own turn j m σ k ke) σ) ke) r) h
theorem Gu(elt target iter:Expr)(ifs:List Expr)(scope:ApH)(pos:Pos)(it acc:Ao3)(env:Env):
  compTurn (.ListComp elt [⟨target,iter,ifs,0⟩] scope pos) 0 it acc env=Kd target ifs iter.pos (do let _ ←call (.builtin "list.append") [acc,←eval elt env]) (again (.compLoop (.ListComp elt [⟨target,iter,ifs,0⟩] scope pos) 0 it acc env)) it env:=rfl
theorem SE.comp{sc scope:ApH}{own:Bool}{elt ci:Cd}{t:Ct}{ifs:List Cb}{CB target iter:Expr}{eifs:List Expr}{pos:Pos}(hc:Cc scope sc=true)(ow:Kr own target)(hs:C4 iter=true)(hi:SE C X n true sc ci iter)
  (ht:ST C X n true (C5 scope sc) t target)(oJ:Zl C X n true (C5 scope sc) ifs eifs)(he:SE C X n true (C5 scope sc) elt CB):SE C X n true sc (iA own elt t ci ifs) (.ListComp CB [⟨target,iter,eifs,0⟩] scope pos):=λA σ W s0 E env f I e k ke h=>by
 have cs:=Es hc;obtain⟨cl,Jz,Oq⟩:=DZ e cs;rw[eval_ListComp];refine Hk (gs:=[]) rfl (Ck hs env) Jz cs.kind cs.l ?_;refine Apa (hi A σ W s0 E env f I e _ ke h) (λx s1 q=>?_) λ_ _ q=>q
 obtain⟨v,σ1,W1,h1,X1,I1,r1⟩:=q;refine Apa (Sp.Bv (A:=A) I1 r1 _ ke h1) (λcv s2 q=>?_) λ_ _ q=>q.base X1
 obtain⟨j,σ2,W2,h2,X2,I2,p,hj,rfl⟩:=q;have Hf:=X1.trans X2;refine Jg I2 (e.up Hf.up) cs Oq (Q:=λacc cenv s=>ApG (model C.prog C.w) A (.compStart (.ListComp CB [⟨target,iter,eifs,0⟩] scope pos) 0 (.ref p.1) acc cenv) (Ep (model C.prog C.w) A (AG C ke σ W s0) none (A7 C k σ W s0<|RV C) acc cenv) s) λW3 s3 D L X3 I3 hD hL hn=>?_
 have Fg:=Hf.trans X3;have e3:=F7 (e.up Fg.up) cs Oq hL;have iU:=Ah X3.τ hj;have aZ:s0.heap.get? L=none:=by
  cases q:s0.heap.get? L with
  |none=>rfl |some o=>obtain⟨o',q'⟩:=Hf.alive _ _ q;rw[hn] at q';cases q'
 have loop:=CM ow ht oJ f (j:=j) (na:=σ2.n) (pa:=(D,D)) (E:=⟨σ2.n+1,E.cells⟩) (My he f) (Gu CB target iter eifs scope pos (.ref p.1) (.ref D)<|compEnvC scope cl L env) Qq _ W3 s3
  (Ep (model C.prog C.w) A (AG C ke σ W s0) none (A7 C k σ W s0<|RV C) (.ref D)<|compEnvC scope cl L env) I3 e3 iU hD h2 (λr s' q=>by
   cases r with
   |ok fl=>obtain⟨a,σ4,W4,h4,X4,I4,_⟩:=q;obtain⟨m,Zp,hk⟩:=Gw h4;have uX:=Ah X4.τ hL;obtain⟨_,mm,Hv⟩:=I4.Fj uX Zp;refine⟨mm,Hv,λh' nb=>?_⟩;obtain⟨J,Y⟩:=I4.Cj uX Zp nb;exact⟨_,_,W4,hk,(Fg.trans X4).trans Y,J,.obj (Ah X4.τ hD)⟩
   |error x=>
    obtain⟨⟨mm,Hv⟩,g⟩:=BD.Cj q Fg hL aZ;exact⟨mm,Hv,λh' nb=>HG (g h' nb)⟩)
 refine Et (iter:=iter) (ifs:=eifs) (target:=target) rfl loop ?_;obtain⟨o3,oj⟩:=DI (m:=63) h2;exact pyIter_self I3 iU oj loop
end
end
section
variable{C:Cx}
section
variable{X:CX}{n:Nat}
def MR(e:Expr)(i2:Expr)(acc:Ao3)(env:Env):Sem Unit:=do
 let x ←eval i2 env
 standAt i2.pos
 let x ←foldedSetIterable i2 env x
 let _ ←runOwn (.compStart e 1 (←holding [x] (pyIter x)) acc env) env
theorem Jh(elt t1 i1 t2 i2:Expr)(scope:ApH)(pos:Pos)(it acc:Ao3)(env:Env):
  compTurn (.ListComp elt [⟨t1,i1,[],0⟩,⟨t2,i2,[],0⟩] scope pos) 0 it acc env=(do
   standAt i1.pos
   match←pyNext it with
   |none=>pure (.done .next)
   |some v=>
    ArK t1 it v
    assign t1 env v
    let ok ←Kz env [] true
    if ok then do
     let x ←eval i2 env
     standAt i2.pos
     let x ←foldedSetIterable i2 env x
     let y ←holding [x] (pyIter x)
     let _ ←runOwn (.compStart (.ListComp elt [⟨t1,i1,[],0⟩,⟨t2,i2,[],0⟩] scope pos) 1 y acc env) env
     again (.compLoop (.ListComp elt [⟨t1,i1,[],0⟩,⟨t2,i2,[],0⟩] scope pos) 0 it acc env)
    else again (.compLoop (.ListComp elt [⟨t1,i1,[],0⟩,⟨t2,i2,[],0⟩] scope pos) 0 it acc env)):=rfl
theorem Kt(elt t1 i1 t2 i2:Expr)(scope:ApH)(pos:Pos)(it acc:Ao3)(env:Env):
  compTurn (.ListComp elt [⟨t1,i1,[],0⟩,⟨t2,i2,[],0⟩] scope pos) 0 it acc env=Kd t1 [] i1.pos (MR (.ListComp elt [⟨t1,i1,[],0⟩,⟨t2,i2,[],0⟩] scope pos) i2 acc env) (again<|.compLoop (.ListComp elt [⟨t1,i1,[],0⟩,⟨t2,i2,[],0⟩] scope pos) 0 it acc env) it env:=by
 rw[Jh];unfold Kd MR Kz;refine bind_congr λ_=>bind_congr λr=>?_
 cases r with
 |none=>rfl
 |some v=>
  refine bind_congr λ_=>bind_congr λ_=>bind_congr λok=>?_
  cases ok with
  |false=>rfl |true=>simp only[if_true,bind_assoc,pure_bind]
theorem Ku(elt t1 i1 t2 i2:Expr)(scope:ApH)(pos:Pos)(it acc:Ao3)(env:Env):
  compTurn (.ListComp elt [⟨t1,i1,[],0⟩,⟨t2,i2,[],0⟩] scope pos) 1 it acc env=Kd t2 [] i2.pos (do let _ ←call (.builtin "list.append") [acc,←eval elt env]) (again (.compLoop (.ListComp elt [⟨t1,i1,[],0⟩,⟨t2,i2,[],0⟩] scope pos) 1 it acc env)) it env:=rfl
theorem WA{sc scope:ApH}{Q8:Bool}{elt c2:Cd}{t2:Ct}{CB Zw i1 UC i2:Expr}{pos:Pos}(ow:Kr Q8 UC)(hs:C4 i2=true)(hi:SE C X n true sc c2 i2)(ht:ST C X n true sc t2 UC)(he:SE C X n true sc elt CB)
  {A:Apg}{E:Bo}{env:Env}(f:CJ n true A){na:Nat}{pa:Apc×Apc}:∀(σ:St) (W:Wd) (s:Ao5),Inv C W σ s->A8 C A W sc E env->W.τ[na]?=some pa->
   Sp C A σ W s (MR (.ListComp CB [⟨Zw,i1,[],0⟩,⟨UC,i2,[],0⟩] scope pos) i2 (.ref pa.1) env) (λk ke=>c2 X E σ (λx σ'=>Bv x σ' λi σ'=>
    BZ Q8 (G8 X E t2 [] (λσ' k' Zt=>elt X E σ' (λv σ'=>BR na v σ' k') Zt)) i Qq σ' (λ_ σ'=>k () σ') ke) ke) RU:=λσ W s I e oO k ke h=>by
 unfold MR;refine Ao2 (Apa (hi A σ W s E env f I e _ ke h) (λx s1 q=>?_) λ_ _ q=>q);obtain⟨v,σ1,W1,h1,X1,I1,r1⟩:=q;refine Ao2<|ApT ?_;rw[Ck hs];refine Ao2<|Ao4<|Ao2<|ApA (Apa (Sp.Bv (A:=A) I1 r1 _ ke h1) (λcv s2 q=>?_) λ_ _ q=>q.base X1);obtain⟨j,σ2,W2,h2,X2,I2,p,hj,rfl⟩:=q;have Hf:=X1.trans X2;have e2:=e.up Hf.up;have loop:=CM ow ht (ifs:=[]) (eifs:=[]) .nil f (j:=j) (na:=na) (pa:=pa) (My he f) (Ku CB Zw i1 UC i2 scope pos (.ref p.1) (.ref pa.1) env) Qq σ2 W2 s2
  (λr s'=>match r with | .ok _=>A7 C k σ W s RU () s' | .error x=>cameBackBy (model C.prog C.w) A env (AG C ke σ W s) x s') I2 e2 hj (Ah Hf.τ oO) h2 (λr s' q=>by
   cases r with
   |ok fl=>obtain⟨a,σ4,W4,h4,X4,I4,_⟩:=q;exact⟨(),σ4,W4,h4,Hf.trans X4,I4,trivial⟩
   |error x=>exact EP (BD.base Hf q))
 obtain⟨o3,oj⟩:=DI (m:=63) h2;refine Ao2<|wpAny_runOwn (Q:=λ_ s'=>Aph (model C.prog C.w) A (Apx ()) (A7 C k σ W s RU) (AG C ke σ W s) s') ?_;refine Arn (R:=λr s'=>match r with | .ok _=>A7 C k σ W s RU () s' | .error x=>cameBackBy (model C.prog C.w) A env (AG C ke σ W s) x s') ?_ (λr s' q=>?_)
 ·exact Et (target:=UC) (iter:=i2) (ifs:=[]) rfl loop (pyIter_self I2 hj oj loop)
 ·cases r with
  |ok fl=>exact Ao4 q
  |error x=>exact q
theorem SE.NX{sc scope:ApH}{own Q8:Bool}{elt ci c2:Cd}{t t2:Ct}{CB Zw i1 UC i2:Expr}{pos:Pos}(hc:Cc scope sc=true)(ow:Kr own Zw)(hs:C4 i1=true)(hi:SE C X n true sc ci i1)(ht:ST C X n true (C5 scope sc) t Zw)
  (ow2:Kr Q8 UC)(hs2:C4 i2=true)(Qw:SE C X n true (C5 scope sc) c2 i2)(ht2:ST C X n true (C5 scope sc) t2 UC)(he:SE C X n true (C5 scope sc) elt CB):
  SE C X n true sc (Vx own Q8 elt t ci t2 c2) (.ListComp CB [⟨Zw,i1,[],0⟩,⟨UC,i2,[],0⟩] scope pos):=λA σ W s0 E env f I e k ke h=>by
 have cs:=Es hc;obtain⟨cl,Jz,Oq⟩:=DZ e cs;rw[eval_ListComp];refine Hk (g:=⟨Zw,i1,[],0⟩) (gs:=[⟨UC,i2,[],0⟩]) rfl (Ck hs env) Jz cs.kind cs.l ?_;refine Apa (hi A σ W s0 E env f I e _ ke h) (λx s1 q=>?_) λ_ _ q=>q
 obtain⟨v,σ1,W1,h1,X1,I1,r1⟩:=q;refine Apa (Sp.Bv (A:=A) I1 r1 _ ke h1) (λcv s2 q=>?_) λ_ _ q=>q.base X1
 obtain⟨j,σ2,W2,h2,X2,I2,p,hj,rfl⟩:=q;have Hf:=X1.trans X2;refine Jg I2 (e.up Hf.up) cs Oq (Q:=λacc cenv s=>ApG (model C.prog C.w) A (.compStart (.ListComp CB [⟨Zw,i1,[],0⟩,⟨UC,i2,[],0⟩] scope pos) 0 (.ref p.1) acc cenv) (Ep (model C.prog C.w) A (AG C ke σ W s0) none (A7 C k σ W s0<|RV C) acc cenv) s) λW3 s3 D L X3 I3 hD hL hn=>?_
 have Fg:=Hf.trans X3;have e3:=F7 (e.up Fg.up) cs Oq hL;have iU:=Ah X3.τ hj;have aZ:s0.heap.get? L=none:=by
  cases q:s0.heap.get? L with
  |none=>rfl |some o=>obtain⟨o',q'⟩:=Hf.alive _ _ q;rw[hn] at q';cases q'
 have loop:=CM ow ht (ifs:=[]) (eifs:=[]) .nil f (j:=j) (na:=σ2.n) (pa:=(D,D)) (E:=⟨σ2.n+1,E.cells⟩) (WA ow2 hs2 Qw ht2 he f) (Kt CB Zw i1 UC i2 scope pos (.ref p.1) (.ref D)<|compEnvC scope cl L env) Qq _ W3 s3
  (Ep (model C.prog C.w) A (AG C ke σ W s0) none (A7 C k σ W s0<|RV C) (.ref D)<|compEnvC scope cl L env) I3 e3 iU hD h2 (λr s' q=>by
   cases r with
   |ok fl=>obtain⟨a,σ4,W4,h4,X4,I4,_⟩:=q;obtain⟨m,Zp,hk⟩:=Gw h4;have uX:=Ah X4.τ hL;obtain⟨_,mm,Hv⟩:=I4.Fj uX Zp;refine⟨mm,Hv,λh' nb=>?_⟩;obtain⟨J,Y⟩:=I4.Cj uX Zp nb;exact⟨_,_,W4,hk,(Fg.trans X4).trans Y,J,.obj (Ah X4.τ hD)⟩
   |error x=>
    obtain⟨⟨mm,Hv⟩,g⟩:=BD.Cj q Fg hL aZ;exact⟨mm,Hv,λh' nb=>HG (g h' nb)⟩)
 refine Et (iter:=i1) (ifs:=[]) (target:=Zw) rfl loop ?_;obtain⟨o3,oj⟩:=DI (m:=63) h2;exact pyIter_self I3 iU oj loop
def UO(scope sc:ApH)(nm:Str)(tp vp sp:Pos):Bool:=
 (match sc.names.lookup nm with |some .local=>true |_=>false)&&(tp.line==vp.line&& !(scope.names.any λ(n,k)=>n==nm&&(k== .local||k== .cell)))
theorem Hr{env:Env}{elt:Expr}{gens:List Asa}{scope:ApH}{pos:Pos}{u:Ao3->Sem Unit}:evalThenUse (.ListComp elt gens scope pos) env u=(do
  let _ ←comprehension (.ListComp elt gens scope pos) scope env (firstIterPos gens pos) (PySem.newList []) (firstAsync gens) (firstIter gens env) (some u)):=rfl
theorem SS.asc{sc scope:ApH}{own:Bool}{elt ci:Cd}{t:Ct}{ifs:List Cb}{nm:Str}{tg:Ct}{CB target iter:Expr}{eifs:List Expr}{pos tp sp:Pos}(hw:UO scope sc nm tp pos sp=true)(htg:ST C X n true sc tg (.Name nm tp))(hc:Cc scope sc=true)(ow:Kr own target)(hs:C4 iter=true)(hi:SE C X n true sc ci iter)
  (ht:ST C X n true (C5 scope sc) t target)(oJ:Zl C X n true (C5 scope sc) ifs eifs)(he:SE C X n true (C5 scope sc) elt CB):SS C X n true sc (sS own tg elt t ci ifs) (.Assign [.Name nm tp] (.ListComp CB [⟨target,iter,eifs,0⟩] scope pos) sp):=λA σ W s0 E env f I e k ke h=>by
 have cs:=Es hc;obtain⟨cl,Jz,Oq⟩:=DZ e cs;unfold UO at hw;simp only[Ap8] at hw;obtain⟨w1,w2,w3⟩:=hw;rw[arm_exec_Assign];have hb:env.blockKind= .function:=by unfold Env.blockKind;rw[e.scope,e.kind];rfl
 have hk:env.kindOf nm=some .local:=by
  unfold AqJ;rw[e.scope];split at w1
  ·assumption
  ·cases w1
 have sw:swapsWithSole [.Name nm tp] (.ListComp CB [⟨target,iter,eifs,0⟩] scope pos) sp.line env=Apx true:=by show(Apx (env.blockKind== .function&&env.kindOf nm==some .local&&tp.line==pos.line&& !(scope.names.any λ(n,k)=>n==nm&&(k== .local||k== .cell))):Sem Bool)=_;rw[hb,hk,w2,w3];rfl
 rw[sw];refine Ao2<|ApT<|Ao2<|Ao4 ?_;rw[if_pos rfl,Hr];refine Ao2<|Ao2 ?_;refine Hk (gs:=[]) rfl (Ck hs env) Jz cs.kind cs.l ?_;refine Apa (hi A σ W s0 E env f I e _ ke h) (λx s1 q=>?_) λ_ _ q=>q
 obtain⟨v,σ1,W1,h1,X1,I1,r1⟩:=q;refine Apa (Sp.Bv (A:=A) I1 r1 _ ke h1) (λcv s2 q=>?_) λ_ _ q=>q.base X1
 obtain⟨j,σ2,W2,h2,X2,I2,p,hj,rfl⟩:=q;have Hf:=X1.trans X2;refine Jg I2 (e.up Hf.up) cs Oq (Q:=λacc cenv s=>ApG (model C.prog C.w) A (.compStart (.ListComp CB [⟨target,iter,eifs,0⟩] scope pos) 0 (.ref p.1) acc cenv) (Ep (model C.prog C.w) A (AG C ke σ W s0)
  (some λv=>assignAll v ((ArZ [.Name nm tp] env).map (·.2))) (λ_ s=>Aph (model C.prog C.w) A (Apx ():Sem Unit) (λ_ s=>Aph (model C.prog C.w) A (Apx Flow.next) (A7 C k σ W s0<|RF C) (AG C ke σ W s0) s) (AG C ke σ W s0) s) acc cenv) s) λW3 s3 D L X3 I3 hD hL hn=>?_
 have Fg:=Hf.trans X3;have e3:=F7 (e.up Fg.up) cs Oq hL;have iU:=Ah X3.τ hj;have aZ:s0.heap.get? L=none:=by
  cases q:s0.heap.get? L with
  |none=>rfl |some o=>obtain⟨o',q'⟩:=Hf.alive _ _ q;rw[hn] at q';cases q'
 have loop:=CM ow ht oJ f (j:=j) (na:=σ2.n) (pa:=(D,D)) (E:=⟨σ2.n+1,E.cells⟩) (My he f) (Gu CB target iter eifs scope pos (.ref p.1) (.ref D)<|compEnvC scope cl L env) Qq _ W3 s3
  (Ep (model C.prog C.w) A (AG C ke σ W s0) (some λv=>assignAll v ((ArZ [.Name nm tp] env).map (·.2)))
   (λ_ s=>Aph (model C.prog C.w) A (Apx ():Sem Unit) (λ_ s=>Aph (model C.prog C.w) A (Apx Flow.next) (A7 C k σ W s0<|RF C) (AG C ke σ W s0) s) (AG C ke σ W s0) s) (.ref D) (compEnvC scope cl L env)) I3 e3 iU hD h2 (λr s' q=>by
   cases r with
   |ok fl=>
    obtain⟨a,σ4,W4,h4,X4,I4,_⟩:=q;have rG:=Fg.trans X4;show Aph _ _ (assign (.Name nm tp) env<|.ref D) _ _ s';refine Apa (htg A σ4 W4 s' E env _ _ f I4 (e.up rG.up) (.obj<|Ah X4.τ hD) _ ke h4) (λ_ s5 q=>?_) λ_ _ q=>q.base rG
    obtain⟨_,σ5,W5,h5,X5,I5,_⟩:=q;obtain⟨m,Zp,hk⟩:=Gw h5;have hf5:=Ah X5.τ (Ah X4.τ hL);obtain⟨_,mm,Hv⟩:=I5.Fj hf5 Zp;refine⟨mm,Hv,λh' nb=>?_⟩;obtain⟨J,Y⟩:=I5.Cj hf5 Zp nb;exact Ao4 (Ao4 ⟨.next,_,W5,hk,(rG.trans X5).trans Y,J,.next⟩)
   |error x=>
    obtain⟨⟨mm,Hv⟩,g⟩:=BD.Cj q Fg hL aZ;exact⟨mm,Hv,λh' nb=>HG (g h' nb)⟩)
 refine Et (iter:=iter) (ifs:=eifs) (target:=target) rfl loop ?_;obtain⟨o3,oj⟩:=DI (m:=63) h2;exact pyIter_self I3 iU oj loop
end
end
section
variable{C:Cx}
inductive eS(C:Cx)(W:Wd)(h:Apn):List (AV×AV)->List (Ao3×Ao3)->Prop
 |nil:eS C W h [] []
 |cons {a b l ca cb cl}:VR C W h a ca->VR C W h b cb->eS C W h l cl->eS C W h ((a,b)::l) ((ca,cb)::cl)
section
variable{W:Wd}{σ:St}{s:Ao5}{A:Apg}
theorem eS.up(I:Inv C W σ s)(x:Ext σ W s σ' W' s'):∀{l cl},eS C W s.heap l cl->eS C W' s'.heap l cl
 |_,_,.nil=>.nil |_,_,.cons a b r=>.cons (I.vr x a) (I.vr x b) (r.up I x)
theorem Sp.dictPut(O:Ok C)(I:Inv C W σ s){j:Nat}{p:Apc×Apc}(hj:W.τ[j]?=some p)(hi:VR C W s.heap i ci)(hv:VR C W s.heap v cv):
  Sp C A σ W s (dictSet p.1 ci cv) (λk _=>putD j i v σ k) RU:=λk ke h=>by
 obtain⟨i',σ1,n1,Zq,_,h⟩:=AN I hi h;split at h
 ·rename_i l ol;obtain⟨pp,hp,ep,Ci,hd,hl⟩:=n1.1.obj _ _ ol;rw[hj] at hp;cases hp;split at h
  ·rename_i hb;obtain⟨ko,hz⟩:=Ac hb;have hz:=ble_iff.mp hz;obtain⟨K0,hk,hc⟩:=Fp Zq ko;have oQ:(([]++Ci:List (KK×Ao3)).map (·.1)).Nodup:=by obtain⟨o,es,en,_,_,_,_,_,hn⟩:=hd;exact hn
   obtain⟨l',σ3,n3,Nz,h⟩:=Mx O hk hv (d:=[]) n1.1 .nil hl (λp hp=>nomatch hp) oQ h;refine wpAny_dictSet_pairs (knd:=Bt C.prog C.w) hc hd (λh' Il Kx=>?_) (by rw[hl.length,ApF];omega);have nt:∃x,h'.get? p.1=some x∧Bk x:=let⟨o,es,n,a,b,c,_⟩:=Il;⟨o,a,.GZ c⟩;obtain⟨J,X⟩:=n3.1.put (s':={s with heap:=h',toks:=s.toks+1}) (o:=.dict l') hj (λb o h1 _ hb=>(Kx.2 b h1).trans hb)
    (λT=>⟨ep,_,Il,Nz.Bg ⟨Apb _,Apb _,λ_ _=>rfl,λ_ _=>rfl,T⟩⟩) nt (by rw[ep];exact nt)
    (λa ha o ho Kw=>by
     exfalso;obtain⟨o',VV,n',h1,hx,_⟩:=hd;rcases ha with rfl |rfl
     ·rw[h1] at ho;cases ho;exact BI hx.1 (by decide) Kw
     ·rw[ep,h1] at ho;cases ho;exact BI hx.1 (by decide) Kw) rfl rfl
   exact⟨(),_,W,h,(n1.trans n3).ext.trans X,J,trivial⟩
  ·cases h
 ·cases h
theorem Sp.Em(O:Ok C){j:Nat}{p:Apc×Apc}:∀{ps:List (AV×AV)} {cps:List (Ao3×Ao3)} {σ:St} {W:Wd} {s:Ao5},Inv C W σ s->W.τ[j]?=some p->eS C W s.heap ps cps->
  Sp C A σ W s (forIn cps ArF λ(x:Ao3×Ao3) (_:PUnit)=>(do dictSet p.1 x.1 x.2;Apx (ApS ArF):Sem (ForInStep PUnit))) (λk _=>Mine.Em j ps σ k) (λ_ _ (_:Unit) (_:PUnit)=>True)
 |_,_,σ,W,s,I,hj,.nil=>λk ke h=>by rw[AqZ];exact Ao4 ⟨(),σ,W,h,.refl _ _ _,I,trivial⟩
 |_,_,σ,W,s,I,hj,.cons a b r=>λk ke h=>by rw[AqB];refine Ao2 (Ao2 (Apa (Sp.dictPut (A:=A) O I hj a b _ ke h) (λ_ s1 q=>Ao4 ?_) λ_ _ q=>q));obtain⟨_,σ1,W1,h1,X1,I1,_⟩:=q;exact Apa (Sp.Em O I1 (Ah X1.τ hj) (r.up I X1) k ke h1) (λ_ _ q=>q.base X1) λ_ _ q=>q.base X1
theorem Inv.tR(I:Inv C W σ s):Inv C (W.more (s.heap.objs.size,s.heap.objs.size)) (σ.new (.dict [])) {s with heap:=s.heap.push {cls:=.type "dict",data:=.dict #[]}}∧
  Ext σ W s (σ.new (.dict [])) (W.more (s.heap.objs.size,s.heap.objs.size)) {s with heap:=s.heap.push {cls:=.type "dict",data:=.dict #[]}}:=by
 have g:(s.heap.push {cls:=.type "dict",data:=.dict #[]}).get? s.heap.objs.size=some {cls:=.type "dict",data:=.dict #[]}:=Apl _ rfl;exact I.make (s':={s with heap:=s.heap.push {cls:=.type "dict",data:=.dict #[]}}) (p:=(s.heap.objs.size,s.heap.objs.size)) (λ_ _ h=>Ao8 _ h) (Ax _) (Ax _)
  (λS=>⟨rfl,[],Heap.DictOf.new _,.nil⟩) ⟨_,g,trivial⟩ ⟨_,g,trivial⟩ rfl rfl
end
theorem Nh{prog:Ap3}{w:Ao7}{A:Apg}{E:Ao3->Ao5->Prop}{s:Ao5}{pairs:List (Sem Ao3×Sem Ao3)}{Q:Apc->Ao5->Prop}(hlen:pairs.length≤15)
  (h:Aph (model prog w) A (evalPairs pairs) (λvs s₁=>Aph (model prog w) A (forIn vs ArF λ(x:Ao3×Ao3) (_:PUnit)=>(do dictSet s.heap.objs.size x.1 x.2;Apx (ApS ArF):Sem (ForInStep PUnit))) (λ_ s₂=>Q s.heap.objs.size s₂) E s₁) E
   {s with heap:=s.heap.push {cls:=.type "dict",data:=.dict #[]}}):
  Aph (model prog w) A (subDict pairs) Q E s:=by
 unfold subDict;refine Ao2<|wpAny_alloc ?_;refine Ao2<|ApA ?_;rw[if_pos hlen];refine Ao2 (Apa h (λvs s₁ h₁=>?_) λ_ _ e=>e);refine ApA ?_;exact Ao2 (Apa h₁ (λ_ s₂ h₂=>Ao4 (Ao4 h₂)) λ_ _ e=>e)
section
variable{X:CX}{n:Nat}{b:Bool}{sc:ApH}
inductive ZA(C:Cx)(X:CX)(n:Nat)(b:Bool)(sc:ApH):List Cd->List Cd->List (Option Expr)->List Expr->Prop
 |nil:ZA C X n b sc [] [] [] []
 |cons {c d e v cs ds es vs}:SE C X n b sc c e->SE C X n b sc d v->ZA C X n b sc cs ds es vs->ZA C X n b sc (c::cs) (d::ds) (some e::es) (v::vs)
def HF(pos:Pos)(env:Env):List (Option Expr)->List Expr->List (Sem Ao3×Sem Ao3)
 |some e::es,v::vs=>(eval e env,do let x ←eval v env;standAt pos;Apx x)::HF pos env es vs |_,_=>[]
theorem ZA.shape(h:ZA C X n b sc cs ds es vs)(pos:Pos)(env:Env):
  (evalEachOpt es env).zip ((evalEach vs env).map λv=>do let x ←v;standAt pos;Apx x)=(HF pos env es vs).map (λp=>(some p.1,p.2))∧(HF pos env es vs).length=E4 ds:=by
 induction h with
 |nil=>exact⟨rfl,rfl⟩
 | @cons c d e v cs ds es vs _ _ _ ih=>refine⟨?_,congrArg ArI ih.2⟩;show(some (eval e env),_)::(evalEachOpt es env).zip ((evalEach vs env).map λv=>do let x ←v;standAt pos;Apx x)=_;rw[ih.1];rfl
theorem Sp.pairs(h:ZA C X n b sc cs ds es vs)(f:CJ n b A):∀{σ:St} {W:Wd} {s:Ao5},Inv C W σ s->A8 C A W sc E env->
  Sp C A σ W s (evalPairs<|HF pos env es vs) (λk ke=>MB X E cs ds σ k ke) (eS C):=by
 induction h with
 |nil=>intro σ W s I e k ke h;exact evalPairs_nil ⟨[],σ,W,h,.refl _ _ _,I,.nil⟩
 | @cons c d e1 v cs ds es vs h1 h2 _ ih=>
  intro σ W s I e k ke h;refine evalPairs_cons (Apa (h1 A σ W s E env f I e _ ke h) (λca s1 q=>?_) λ_ _ q=>q);obtain⟨a,σ1,W1,q1,X1,I1,r1⟩:=q;refine Ao2 (Apa (h2 A σ1 W1 s1 E env f I1 (e.up X1.up) _ ke q1) (λcb s2 q=>?_) λ_ _ q=>q.base X1);obtain⟨b,σ2,W2,q2,X2,I2,r2⟩:=q;refine Ao2<|ApT<|Ao4 ?_;have Hf:=X1.trans X2;refine Apa (ih I2 (e.up Hf.up) _ ke q2) (λcr s3 q=>?_) λ_ _ q=>q.base Hf
  obtain⟨r,σ3,W3,q3,X3,I3,r3⟩:=q;exact⟨_,σ3,W3,q3,Hf.trans X3,I3,.cons (I2.vr X3<|I1.vr X2 r1) (I2.vr X3 r2) r3⟩
theorem SE.dict(O:Ok C){pos:Pos}(h:ZA C X n b sc cs ds es vs):SE C X n b sc (iC cs ds) (.Dict es vs pos):=λA σ W s E env f I e k ke q=>by
 obtain⟨ql,q⟩:=Ac q;obtain⟨I0,X0⟩:=I.tR;have hj:(W.more (s.heap.objs.size,s.heap.objs.size)).τ[σ.n]?=some (s.heap.objs.size,s.heap.objs.size):=St.Bw I _;have body:Aph (model C.prog C.w) A (evalPairs<|HF pos env es vs) (λvs s₁=>Aph (model C.prog C.w) A (forIn vs ArF λ(x:Ao3×Ao3) (_:PUnit)=>(do dictSet s.heap.objs.size x.1 x.2;Apx (ApS ArF):Sem (ForInStep PUnit))) (λ_ s₂=>A7 C k σ W s (RV C) (.ref s.heap.objs.size) s₂) (AG C ke σ W s) s₁) (AG C ke σ W s)
   {s with heap:=s.heap.push {cls:=.type "dict",data:=.dict #[]}}:=by
  refine Apa (Sp.pairs h f I0 (e.up X0.up) _ ke q) (λcps s1 q=>?_) λ_ _ q=>q.base X0
  obtain⟨ps,σ1,W1,q1,X1,I1,r1⟩:=q;have X01:=X0.trans X1;refine Apa (Sp.Em (A:=A) O I1 (Ah X1.τ hj) r1 _ ke q1) (λ_ s2 q=>?_) λ_ _ q=>q.base X01
  obtain⟨_,σ2,W2,q2,X2,I2,_⟩:=q;exact⟨_,σ2,W2,q2,X01.trans X2,I2,.obj<|Ah (X1.trans X2).τ hj⟩
 cases h with
 |nil=>rw[eval_Dict_empty];refine Ao2 (ApT ?_);exact ApR ⟨_,_,_,q,X0,I0,.obj hj⟩
 |cons h1 h2 hr=>
  have hh:=ZA.cons h1 h2 hr;obtain⟨s1,s2⟩:=hh.shape pos env;rw[arm_eval_Dict,s1,dictDisplay_pairs _ (by simp[HF]) (by rw[s2];exact Nat.lt_of_le_of_lt (ble_iff.mp ql) (by decide))];exact Ao2 (ApT (Ao2 (Nh (Q:=λd s'=>Aph (model C.prog C.w) A (Apx<|Aqu d) (A7 C k σ W s<|RV C) (AG C ke σ W s) s') (by rw[s2];exact ble_iff.mp ql)
   (Apa body (λvs s₁ h₁=>Apa h₁ (λ_ _ q=>Ao4 q) λ_ _ q=>q) λ_ _ q=>q))))
inductive rE(C:Cx)(sc:ApH):List Ct->List Str->Prop
 |nil:rE C sc [] []
 |cons {x nm ts ns}:C.nm[x]?=some nm->sc.names.lookup nm=some .local->rE C sc ts ns->rE C sc (cI x::ts) (nm::ns)
theorem Sp.asN(O:Ok C)(h:rE C sc ts ns):∀{σ:St} {W:Wd} {s:Ao5} {vs:List AV} {cvs:List Ao3},Inv C W σ s->A8 C A W sc E env->AM C W s.heap vs cvs->
  Sp C A σ W s (assignInOrder (ns.map λn=>PySem.bindName env n) cvs) (λk ke=>Mine.UN X E ts vs σ k ke) RU:=by
 induction h with
 |nil=>
  intro σ W s vs cvs I e hv;cases hv with
  |nil=>exact .pure (m:=λk ke=>Mine.UN X E [] [] σ k ke) I (λ_ _ h=>h) trivial
  |cons _ _=>exact λk ke h=>by cases h
 | @cons x nm ts ns hx hk _ ih=>
  intro σ W s vs cvs I e hv;cases hv with
  |nil=>exact λk ke h=>by cases h
  | @cons v vs cv cvs a r=>
   show Sp C A σ W s (ArM cvs (PySem.bindName env nm cv)>>=λ_=>assignInOrder (ns.map λn=>PySem.bindName env n) cvs) _ _;refine Sp.bind (m:=λk ke=>cI x X E v σ k ke) (g:=λ_ σ k ke=>Mine.UN X E ts vs σ k ke) (Sp.holding<|DF<|Sp.Co O I e hx hk a) λ_ _ σ1 W1 s1 X1 I1 _=>?_
   exact ih I1 (e.up X1.up) (I.rA X1 r)
theorem SS.zW(O:Ok C){k1 k2 p1 p2}{pos:Pos}(hw:Mw sc ns rN rO=true)(hn:rE C sc ts ns.reverse)(hl:E4 ts=ns.length)(h:SE C X n true sc c (.Tuple rO k2 p2)):SS C X n true sc (zX (E4 ts) ts c) (.Assign [.Tuple rN k1 p1] (.Tuple rO k2 p2) pos):=λA σ W s E env f I e k ke q=>by
 obtain⟨w1,w2⟩:=TF e (k1:=k1) (k2:=k2) (p1:=p1) (p2:=p2) hw;rw[arm_exec_Assign];rw[show swapsWithSole [.Tuple rN k1 p1] (.Tuple rO k2 p2) pos.line env=Apx false from rfl,w1];refine Ao2<|ApT<|Ao2<|Ao4 ?_;rw[if_neg (by decide)];refine Ao2 (Apa (h A σ W s E env f I e _ ke q) (λv s1 q=>?_) λ_ _ q=>q);obtain⟨a,σ1,W1,h1,X1,I1,r1⟩:=q;refine Ao2<|Ao4 ?_;unfold assignStores;refine Ao2<|AqR ?_;obtain⟨vs,cvs,ad,σ2,n2,rfl,sq,vr,h2⟩:=Kf I1 r1 h1;split at h2
 ·rename_i hb;have hb:E4 ts=E4 vs:=Ao6 hb;rw[←hl,hb,EB,←vr.length];refine Ao2 (EM (f.hand rfl) sq λh' he=>?_);obtain⟨J,Y⟩:=n2.1.grow (s':={s1 with heap:=h'}) (ExtBut.grow he) rfl rfl;have Hf:=(X1.trans n2.ext).trans Y;refine Ao2 (Apa (Sp.asN (X:=X) (A:=A) O hn J (e.up Hf.up) (n2.1.rA Y vr).rev _ ke h2) (λ_ s3 q=>Ao4 ?_) λ_ _ q=>q.base Hf);obtain⟨_,σ3,W3,h3,X3,I3,_⟩:=q;exact⟨.next,σ3,W3,h3,Hf.trans X3,I3,.next⟩
 ·cases h2
end
end
section
variable{C:Cx}
section
variable{prog:Ap3}{w:Ao7}{A:Apg}{E:Ao3->Ao5->Prop}{s:Ao5}
theorem IH{l:List Ao3}{Q:Ao3->Ao5->Prop}(hs:RJ s.heap a l)(aT:(l.length:Int)<2^63)(h:Q (.int l.length<|s.toks+1) {s with toks:=s.toks+1+1}):
  Aph (model prog w) A (call (.builtin "len") [.ref a]) Q E s:=by
 rcases hs with ht |hl
 ·obtain⟨o,ho,hc,n,hd⟩:=id ht;refine call_function_entry PySem.kind_len PySem.plain_len PySem.entry_len (PySem.args_len1 _) ?_;unfold Builtin.«len»;refine Ao2 (m:=oneArg "len" _) (Ao4 ?_);refine Ao2 (m:=callSpecial? (.ref a) (Ao1 "__len__")) (ApZ (name:=Ao1 "__len__") ht.typeIs PySem.F.slot_tuple_len
   (Aqm PySem.F.slot_tuple_len ht.typeIs PySem.F.entry_tuple_len ?_<|PySem.F.args_tuple_len_1 _))
  show Aph _ _ (do retInt (←Builtin.Tuple.tupleItemsOf (.ref a)).size) _ _ s;unfold Builtin.Tuple.tupleItemsOf;refine Ao2<|Ao2<|Arc ho hd ?_;refine Ao4<|Ao2<|wpAny_mkInt<|Ao4 ⟨_,rfl,?_⟩;refine Ao2<|ApA<|Ao4 ?_;refine Ao2<|wpAny_letGo ?_;have e:l.toArray.size=l.length:=by simp
  show Aph _ _ (if((l.toArray.size:Nat):Int)<0 then _ else _) _ _ _;rw[if_neg (by omega)];show Aph _ _ (if((l.toArray.size:Nat):Int)≥2^63 then _ else _) _ _ _;rw[if_neg (by rw[e];omega),e];exact Ao2 (wpAny_mkInt<|Ao4 ⟨_,rfl,h⟩)
 ·refine call_len_list hl (by simpa using aT) ?_;simpa using h
end
section
variable{W:Wd}{σ:St}{s:Ao5}{A:Apg}
theorem GD{p:Nat}(I:Inv C W σ s)(h:BF σ (some p)=true){x:Int}(hx:W.ρ[p]?=some x):x≤1000000:=by
 unfold BF at h;split at h
 ·exact absurd ‹some p=none› (by simp)
 ·rename_i a e;cases e;have:=(I.Bi _ _ hx).2;split at h
  ·rename_i y hy;exact Int.le_trans (this y hy) ((BW _ _).mp h)
  ·cases h
theorem Sp.len(I:Inv C W σ s)(hv:VR C W s.heap v cv):Sp C A σ W s (call (.builtin "len") [cv]) (λk _=>xM v σ k) (RV C):=λk ke h=>by
 obtain⟨v',σ1,n1,Ko,_,h⟩:=AN I hv h;split at h
 ·cases Ko with
  |Ak ht vv=>obtain⟨f,h⟩:=Ac h;have f:=A5 f;refine IH (.inl ht.Ak) (by rw[vv.length];omega) (n1.By h (.int ?_));rw[vv.length];exact Ap.CY _
 ·cases Ko with
  |B4=>rename_i l _ _;obtain⟨f,h⟩:=Ac h;have f:=A5 f;refine PySem.W.len_bytes (by simp;omega) (n1.By h (.int ?_));rw[show l.toArray.size=l.length by simp];exact Ap.CY _
 ·cases Ko with
  |obj hj=>
   unfold xK at h;split at h
   ·rename_i l oj;obtain⟨f,h⟩:=Ac h;have f:=A5 f;obtain⟨p,hp,ep,vs,vv,hl,_⟩:=n1.1.obj _ _ oj;rw[hj] at hp;cases hp;simp only[Aq,ApC,Apj] at hl;refine IH (.inr hl) (by rw[vv.length];omega)<|n1.By h<|.int ?_;rw[vv.length];exact Ap.CY _
   ·rename_i p0 l oj;obtain⟨f,h⟩:=Ac h;obtain⟨f,fp⟩:=Ac f;have f:=A5 f;obtain⟨p,hp,ep,vs,vv,hl,lo,_⟩:=n1.1.obj _ _ oj;rw[hj] at hp;cases hp;simp only[Aq,Apj] at hl;have lo:W.ρ[p0]?=some (Api (W.ls p0).length):=lo;have b:=GD n1.1 fp lo;have b:((W.ls p0).length:Int)≤1000000:=b;have e:(Mine.part W (some p0)++vs).length=(W.ls p0).length+l.length:=by rw[Apd,vv.length];rfl
    refine IH (.inr hl) (by rw[e];omega)<|n1.By h<|.int ?_;rw[e];have:=Ap.MC (ρ:=W.ρ) (l:=Ap.at p0) (m:=.k l.length) (x:=Api (W.ls p0).length) (y:=(l.length:Int)) (by simp[Ap.ev,Ap.at,CN,lo]) (Ap.CY _);simpa using this
   ·rename_i l p0 m oj;obtain⟨f,h⟩:=Ac h;obtain⟨f,fp⟩:=Ac f;obtain⟨f1,f2⟩:=Ac f;have f1:=A5 f1;have f2:=A5 f2;obtain⟨p,hp,ep,vs,ws,vv,vw,hl,lo,_⟩:=n1.1.obj _ _ oj;rw[hj] at hp;cases hp;have lo:W.ρ[p0]?=some (Api (W.ls p0).length):=lo;have b:=GD n1.1 fp lo;have b:((W.ls p0).length:Int)≤1000000:=b;have e:(vs++W.ls p0++ws).length=(W.ls p0).length+(l.length+m.length):=by rw[Apd,Apd,vv.length,vw.length];omega
    refine IH (.inr hl) (by rw[e];omega)<|n1.By h<|.int ?_;rw[e];have:=Ap.MC (ρ:=W.ρ) (l:=Ap.at p0) (m:=.k (Api<|l.length+m.length)) (x:=Api (W.ls p0).length) (y:=(Api<|l.length+m.length)) (by simp[Ap.ev,Ap.at,CN,lo]) (Ap.CY _);simpa using this
   ·cases h
 ·cases h
def LW:Nat->String
 |0=>"NoneType" |1=>"bool" |2=>"int" |3=>"str" |4=>"bytes" |_=>"tuple"
structure KW(T:String)(L:List Nat):Prop where
 ty:typeOf (.type T)=Apx (.type "type")
 sub:∀t,t<6->isSubtype (.type<|LW t) (.type T)=Apx (isIn t L)
 ne:∀t,t<6->isIn t L=false->(Aq3 (LW t)==Aq3 T)=false
theorem kinds{T:String}(h0:typeOf (.type T)=Apx (.type "type"))(h1:∀t:Fin 6,isSubtype (.type (LW t)) (.type T)=Apx (isIn t L))(h2:∀t:Fin 6,isIn t L=false->(Aq3 (LW t)==Aq3 T)=false):KW T L:=
 ⟨h0,λt h=>h1 ⟨t,h⟩,λt h=>h2 ⟨t,h⟩⟩
theorem T2:KW "bool" [1]:=kinds (by kernel_rfl) (λt=>by rw[isSubtype_type];match t with |0=>kernel_rfl |1=>kernel_rfl |2=>kernel_rfl |3=>kernel_rfl |4=>kernel_rfl |5=>kernel_rfl) (by decide +kernel)
theorem WM:KW "int" [1,2]:=kinds (by kernel_rfl) (λt=>by rw[isSubtype_type];match t with |0=>kernel_rfl |1=>kernel_rfl |2=>kernel_rfl |3=>kernel_rfl |4=>kernel_rfl |5=>kernel_rfl) (by decide +kernel)
theorem QK:KW "bytes" [4]:=kinds (by kernel_rfl) (λt=>by rw[isSubtype_type];match t with |0=>kernel_rfl |1=>kernel_rfl |2=>kernel_rfl |3=>kernel_rfl |4=>kernel_rfl |5=>kernel_rfl) (by decide +kernel)
theorem QL:KW "tuple" [5]:=kinds (by kernel_rfl) (λt=>by rw[isSubtype_type];match t with |0=>kernel_rfl |1=>kernel_rfl |2=>kernel_rfl |3=>kernel_rfl |4=>kernel_rfl |5=>kernel_rfl) (by decide +kernel)
theorem Hw{prog:Ap3}{w:Ao7}{A:Apg}{E:Ao3->Ao5->Prop}{h:Apn}{g:Array GenState}{d:Drawn}{t:Nat}{os:Aqz}{x:Array UInt8}{u:Tok}{T:String}{dep:Int}{tk:Tok}{Q:Fin->Ao5->Prop}(Qx:(Aq3 "bytes"==Aq3 T)=false)(hty:typeOf (.type T)=Apx (.type "type"))
  (Im:isSubtype (.type "bytes") (.type T)=Apx false)(hq:Q (.done (.ret (.bool false))) ⟨h,g,d,t+1,os⟩):
  Aph (model prog w) A (Builtin.«isinstance.nested» ⟨[.bytes x u,.type T,.int dep tk],[]⟩) Q E ⟨h,g,d,t,os⟩:=by
 have hT:(⟨h,g,d,t,os⟩:Ao5).TypeIs (.bytes x u) "bytes":=rfl
 repeat (any_goals (first |assumption |with_reducible apply class_attr_bytes |wp_step))
theorem Io{x:Array UInt8}{u:Tok}{T:String}(Qx:(Aq3 "bytes"==Aq3 T)=false)(hty:typeOf (.type T)=Apx (.type "type"))(Im:isSubtype (.type "bytes") (.type T)=Apx false):
  Meets (Builtin.«isinstance» ⟨[.bytes x u,.type T],[]⟩) (λ_ R s=>R (.ok<|.ret<|.bool false) {s with toks:=s.toks+1}):=
 λ_ _ _ _ s hs=>by obtain⟨h,g,d,t,os⟩:=s;exact isinstance_outer (Hw Qx hty Im hs)
theorem QJ{t:Nat}{k:K AV}(ht:Ap0 6 t=false)(h:EZ t L σ k=true):k (.bool<|isIn t L) σ=true:=by
 unfold EZ at h;rw[ht] at h;dsimp only at h;split at h
 ·rename_i q;rw[q];exact h
 ·rename_i q;rw[q];exact h
theorem MS(n1:Bx C W s σ σ1)(hv:VR C W s.heap v cv){T:String}(H:KW T L){k:K AV}{Er:Ao3->Ao5->Prop}(h:EZ (G7 v) L σ1 k=true):
  Aph (model C.prog C.w) A (call (.builtin "isinstance") [cv,.type T]) (A7 C k σ W s (RV C)) Er s:=by
 have fin:∀t,Ap0 6 t=false->EZ t L σ1 k=true->s.TypeIs cv (LW t)->(isIn t L=false->A7 C k σ W s (RV C) (.bool false) {s with toks:=s.toks+1}->Aph (model C.prog C.w) A (call (.builtin "isinstance") [cv,.type T]) (A7 C k σ W s (RV C)) Er s)->
   Aph (model C.prog C.w) A (call (.builtin "isinstance") [cv,.type T]) (A7 C k σ W s (RV C)) Er s:=by
  intro t ht h hT no;have h1:=QJ ht h;have lt:t<6:=by
   rcases Nat.lt_or_ge t 6 with q |q
   ·exact q
   ·rw[ble_iff.mpr q] at ht;cases ht
  cases q:isIn t L with
  |true=>rw[q] at h1;exact Arj (isinstance_true H.ty (by have:=H.sub t lt;rwa [q] at this)) ⟨hT,n1.post h1 .bool⟩
  |false=>rw[q] at h1;exact no q (n1.By h1 .bool)
 have sf:∀t,t<6->isIn t L=false->isSubtype (.type<|LW t) (.type T)=Apx false:=λt lt q=>by have:=H.sub t lt;rwa [q] at this
 cases hv with
 |A4=>exact fin 0 rfl h rfl λq P=>Arj (isinstance_false_none (H.ne 0 (by decide) q) H.ty (sf 0 (by decide) q)) P
 |bool=>exact fin 1 rfl h rfl λq P=>Arj (isinstance_false_bool (H.ne 1 (by decide) q) H.ty (sf 1 (by decide) q)) P
 |int _=>exact fin 2 rfl h rfl λq P=>Arj (isinstance_false_int (H.ne 2 (by decide) q) H.ty (sf 2 (by decide) q)) P
 |str _=>exact fin 3 rfl h rfl λq P=>Arj (isinstance_false_str (H.ne 3 (by decide) q) H.ty (sf 3 (by decide) q)) P
 |B4=>exact fin 4 rfl h rfl λq P=>Arj (Io (H.ne 4 (by decide) q) H.ty (sf 4 (by decide) q)) P
 |Ak ht _=>exact fin 5 rfl h ht.Ak.typeIs λq P=>Arj (isinstance_false_tuple (H.ne 5 (by decide) q) H.ty (sf 5 (by decide) q)) ⟨let⟨o,a,b,_⟩:=ht.Ak;⟨o,a,b⟩,P⟩
 |obj _=>cases h
 |Au=>cases h
 |sel _ _ _=>cases h
 |ED _ _ _ _=>cases h
 |any=>cases h
theorem Sp.oZ(I:Inv C W σ s)(hv:VR C W s.heap v cv){t:String}:Sp C A σ W s (call (.builtin "isinstance") [cv,.type t]) (λk _=>isI v t σ k) (RV C):=λk ke h=>by
 obtain⟨v',σ1,n1,Ko,_,h⟩:=AN I hv h;split at h
 ·exact MS n1 Ko T2 h
 ·exact MS n1 Ko WM h
 ·exact MS n1 Ko QK h
 ·exact MS n1 Ko QL h
 ·cases h
theorem OA(I:Inv C W σ s)(hv:VR C W s.heap v cv){k:K (List AV)}(h:items v σ k=true):
  ∃a l vs σ',cv= .ref a∧Bx C W s σ σ'∧AM C W s.heap l vs∧k l σ'=true∧(IsT W s.heap a vs.toArray∨s.heap.IsList a vs.toArray):=by
 obtain⟨v',σ1,n1,Ko,_,h⟩:=AN I hv h;split at h
 ·cases Ko with
  |Ak ht vv=>exact⟨_,_,_,σ1,rfl,n1,vv,h,.inl ht⟩
 ·cases Ko with
  |obj hj=>
   split at h
   ·rename_i l oj;obtain⟨p,hp,ep,vs,vv,hl,_⟩:=n1.1.obj _ _ oj;rw[hj] at hp;cases hp;simp only[Aq,ApC,Apj] at hl;exact⟨_,_,_,σ1,rfl,n1,vv,h,.inr hl⟩
   ·cases h
 ·cases h
theorem Sp.tuple(I:Inv C W σ s)(hv:VR C W s.heap v cv):Sp C A σ W s (call (.type "tuple") [cv]) (λk _=>items v σ λl σ=>Mine.C3 l σ k) (RV C):=λk ke h=>by
 obtain⟨a,l,vs,σ1,rfl,n1,vv,h,hs⟩:=OA I hv h;rcases hs with ht |hl
 ·exact call_tuple_same ht.Ak (Nn n1 ht vv h)
 ·have f:=A5 (Ac h).1;refine call_tuple_list hl (λh' hk=>?_) (by simp[vv.length,ApF];omega);obtain⟨J,Y⟩:=n1.1.grow (s':={s with heap:=h'}) hk rfl rfl;obtain⟨_,z⟩:=IP (.refl J) (n1.1.rA Y vv) s.toks h;exact z.base (n1.ext.trans Y)
theorem Sp.list(I:Inv C W σ s)(hv:VR C W s.heap v cv):Sp C A σ W s (call (.type "list") [cv]) (λk _=>items v σ λl σ=>Mine.newList l σ k) (RV C):=λk ke h=>by
 obtain⟨a,l,vs,σ1,rfl,n1,vv,h,hs⟩:=OA I hv h;obtain⟨f,h⟩:=Ac h;have f:=A5 f;have fin:∀h' c',(∀b o',s.heap.get? b=some o'->h'.get? b=some o')->h'.get? s.heap.objs.size=some {cls:=.type "list",dict:=none,data:=.seq vs.toArray c',slots:= #[]}->A7 C k σ W s (RV C) (.ref s.heap.objs.size) {s with heap:=h'}:=by
  intro h' c' hk hn;obtain⟨J,Y⟩:=n1.1.make (o:=.list none l none) (s':={s with heap:=h'}) (p:=(s.heap.objs.size,s.heap.objs.size)) hk (Ax _) (Ax _)
   (λS=>⟨rfl,vs,vv.keep S.ρ S.τ S.q S.Ak,by simp only[Aq,ApC,Apj];exact⟨_,hn,rfl,_,rfl⟩,trivial,trivial,_,hn,rfl,rfl⟩) ⟨_,hn,trivial⟩ ⟨_,hn,trivial⟩ rfl rfl
  exact⟨_,_,_,h,n1.ext.trans Y,J,.obj<|St.Bw n1.1 _⟩
 rcases hs with ht |hl
 ·obtain⟨o,ho,hc,n,hd⟩:=ht.Ak;exact call_list_seq a (.inr rfl) ho hc hd fin (by simp[vv.length,ApF];omega)
 ·obtain⟨o,ho,hc,n,hd⟩:=hl;exact call_list_seq a (.inl rfl) ho hc hd fin (by simp[vv.length,ApF];omega)
theorem FD(I:Inv C W σ s)(hv:VR C W s.heap v cv){k:K Int}(h:rint v σ k=true):∃x t σ',cv= .int x t∧Bx C W s σ σ'∧k x σ'=true:=by
 obtain⟨v',σ1,n1,Ko,_,h⟩:=AN I hv h;split at h
 ·cases Ko with
  |int hx=>obtain⟨σ2,n2,h⟩:=CO n1.1 hx h;exact⟨_,_,σ2,rfl,n1.trans n2,h⟩
 ·cases h
theorem J0(n1:Bx C W s σ σ1){a b st:Int}{t u v:Tok}{k:K AV}(tk:Tok)(h:newObj (.G2 a b st) σ1 k=true):
  A7 C k σ W s (RV C) (.ref s.heap.objs.size) {s with heap:=s.heap.push {cls:=.type "range",data:=.fields #[.int a t,.int b u,.int st v]},toks:=tk}:=by
 have g:(s.heap.push {cls:=.type "range",data:=.fields #[.int a t,.int b u,.int st v]}).get? s.heap.objs.size=some {cls:=.type "range",data:=.fields #[.int a t,.int b u,.int st v]}:=Apl _ rfl;obtain⟨J,Y⟩:=n1.1.make (o:=.G2 a b st) (s':={s with heap:=s.heap.push {cls:=.type "range",data:=.fields #[.int a t,.int b u,.int st v]},toks:=tk}) (p:=(s.heap.objs.size,s.heap.objs.size)) (λ_ _ e=>Ao8 _ e) (Ax _) (Ax _)
  (λS=>⟨rfl,t,u,v,g⟩) ⟨_,g,trivial⟩ ⟨_,g,trivial⟩ rfl rfl
 exact⟨_,_,_,h,n1.ext.trans Y,J,.obj<|St.Bw n1.1 _⟩
theorem Sp.range(I:Inv C W σ s)(hv:AM C W s.heap vs cvs):Sp C A σ W s (call (.type "range") cvs) (λk _=>Rh vs σ k) (RV C):=λk ke h=>by
 unfold Rh at h;split at h
 ·cases hv with
  |cons a r=>cases r;obtain⟨x,t,σ1,rfl,n1,h⟩:=FD I a h;exact call_range_1 (J0 n1 _ h)
 ·cases hv with
  |cons a r=>cases r with
   |cons b r=>cases r;obtain⟨x,t,σ1,rfl,n1,h⟩:=FD I a h;obtain⟨y,u,σ2,rfl,n2,h⟩:=FD n1.1 b h;exact call_range_2 (J0 (n1.trans n2) _ h)
 ·cases hv with
  |cons a r=>cases r with
   |cons b r=>cases r with
    |cons c r=>cases r;obtain⟨x,t,σ1,rfl,n1,h⟩:=FD I a h;obtain⟨y,u,σ2,rfl,n2,h⟩:=FD n1.1 b h;obtain⟨z,v,σ3,rfl,n3,h⟩:=FD n2.1 c h;obtain⟨hr,h⟩:=Ac h;obtain⟨_,z0⟩:=O9 hr;obtain⟨r1,hr⟩:=Ac hr;obtain⟨r2,hr⟩:=Ac hr;have q1:=Ft r1;have q2:=Ft r2;have q3:=Ft (Ac hr).1;exact call_range_3 z0 (J0 ((n1.trans n2).trans n3) _ h) (.inl (PyProof.noPylong_small (by omega)))
 ·cases h
end
end
section
variable{C:Cx}
section
variable{W:Wd}{σ:St}{s:Ao5}{A:Apg}
theorem Lj{b:Bool}(h:Li v σ b=true):∃j l,v= .obj j∧σ.obj j=some (.list none l none)∧b=true:=by
 unfold Li at h;split at h
 ·split at h
  ·exact⟨_,_,rfl,by assumption,h⟩
  ·cases h
 ·cases h
theorem H3{j:Nat}{l:List AV}(hj:σ.obj j=some (.list none l none))(k:K Nat):Bv (.obj j) σ k=k σ.n (σ.new<|.iter<|.lst j 0):=by
 show(match σ.obj j with
  |some (.list none _ none)=>k σ.n (σ.new (.iter (.lst j 0))) |some (.G2 a b s)=>both (S3 a b s) (k σ.n (σ.new (.iter (.Bi a b s)))) |some (.iter (.VQ ..))=>k j σ |some (.iter (.zip ..))=>k j σ
  |_=>bad "iter obj")=_
 rw[hj]
theorem Sp.enum(I:Inv C W σ s)(hv:VR C W s.heap v cv):Sp C A σ W s (call (.type "enumerate") [cv]) (λk _=>Li v σ (Mine.Bv v σ λi σ=>newObj (.iter (.VQ i 0)) σ k)) (RV C):=λk ke h=>by
 obtain⟨j,l,rfl,oj,h⟩:=Lj h;rw[H3 oj] at h;obtain⟨p,hp,ep,vs,vv,hl,_⟩:=I.obj _ _ oj;cases hv with
 |obj hj=>
  rw[hj] at hp;cases hp;simp only[Aq,ApC,Apj] at hl;refine call_enumerate_list hl λh' he hi hz hk=>?_
  obtain⟨o,ho,hc,hd⟩:=id hi;have of:o.isFreed=false:=Arf hd;have g1:(s.heap.push o).get? s.heap.objs.size=some o:=Apl _ of;obtain⟨I1,X1⟩:=I.make (o:=.iter (.lst j 0)) (s':={s with heap:=s.heap.push o}) (p:=(s.heap.objs.size,s.heap.objs.size)) (λ_ _ e=>Ao8 _ e) (Ax _) (Ax _)
   (λS=>⟨.inl rfl,_,Ah S.τ hj,o,g1,hc,hd⟩) ⟨_,g1,trivial⟩ ⟨_,g1,trivial⟩ rfl rfl
  have Wt:(s.heap.push o).objs.size=s.heap.objs.size+1:=AqF ..;have k1:∀b x,(s.heap.push o).get? b=some x->h'.get? b=some x:=by
   intro b x e;by_cases q:b=s.heap.objs.size
   ·subst q;rw[g1] at e;cases e;exact ho
   ·rw[Heap.get?_push_ne _ _ _ q] at e;exact hk _ _ e
  obtain⟨I2,X2⟩:=I1.make (o:=.iter (.VQ σ.n 0)) (s':={s with heap:=h'}) (p:=(s.heap.objs.size+1,s.heap.objs.size+1)) k1 (by rw[←Wt];exact Ax _) (by rw[←Wt];exact Ax _)
   (λS=>⟨.inl rfl,_,_,Ah S.τ<|St.Bw I _,he⟩) ⟨_,he,trivial⟩ ⟨_,he,trivial⟩ rfl rfl
  exact⟨_,_,_,h,X1.trans X2,I2,.obj<|St.Bw I1 _⟩
abbrev UD(h:Apn)(a:Apc):Apn:=h.push {cls:=.type "tuple_iterator",data:=.fields #[.ref a,.int 0 0]}
abbrev Zh(h:Apn)(a b:Apc):Apn:=(UD h a).push {cls:=.type "list_iterator",data:=.fields #[.ref b,.int 0 0]}
abbrev mN(h:Apn)(a b:Apc):Apn:=(Zh h a b).push {cls:=.type "tuple",data:=.seq #[.ref h.objs.size,.ref (UD h a).objs.size]}
abbrev sM(h:Apn)(a b:Apc):Apn:=(mN h a b).push {cls:=.type "tuple",data:=.seq #[.none,.none]}
abbrev zh5(h:Apn)(a b:Apc):Apn:=(sM h a b).push {cls:=.type "zip",data:=.fields #[.none,.bool false,.bool false,.ref (Zh h a b).objs.size,.ref (mN h a b).objs.size]}
theorem T8(a b:Apc)(xs ys:Array Ao3):
  Meets (Builtin.«zip.__new__» ⟨[.type "zip",.ref a,.ref b],[]⟩) (λ_ R s=>s.heap.IsTuple a xs∧s.heap.IsList b ys∧
   R (.ok<|.ret<|.ref (sM s.heap a b).objs.size) {s with heap:=zh5 s.heap a b}):=
 .of_wp λprog w A R s h=>by
  obtain⟨hp,g,d,tk,os⟩:=s;obtain⟨hl1,rV,h⟩:=h;have Im:=sub_zip;have hL1:Heap.IsTuple (Shared.heap ⟨hp,g,d,tk,os⟩) a xs:=hl1;have hL2:Heap.IsList (Shared.heap ⟨hp.push {cls:=.type "tuple_iterator",data:=.fields #[.ref a,.int 0 0]},g,d,tk,os⟩) b ys:=Heap.IsList.push rV _
  wp_walk using wpAny_pyIter_tuple hL1,wpAny_pyIter_list hL2
  exact⟨_,rfl,h⟩
theorem Sp.zip(I:Inv C W σ s)(hu:VR C W s.heap u cu)(hv:VR C W s.heap v cv):Sp C A σ W s (call (.type "zip") [cu,cv])
  (λk _=>both (vR u)<|Li v σ (Mine.Bv u σ λi σ=>Mine.Bv v σ λj σ=>newObj (.iter<|.zip i j) σ k)) (RV C):=λk ke h=>by
 obtain⟨h0,h⟩:=Ac h;obtain⟨j,l,rfl,oj,h⟩:=Lj h;obtain⟨p,hp,ep,vs,vv,hl,_⟩:=I.obj _ _ oj;cases hv with
 |obj hj=>
  rw[hj] at hp;cases hp;simp only[Aq,ApC,Apj] at hl;cases hu with
  | @Ak lu vu a ht vvu=>
   replace h:Mine.Bv (.obj j) (σ.new<|.iter<|.seq lu) (λj' σ'=>newObj (.iter<|.zip σ.n j') σ' k)=true:=h
   have g1:(UD s.heap a).get? s.heap.objs.size=some _:=Apl _ rfl;obtain⟨I1,X1⟩:=I.make (o:=.iter (.seq lu)) (s':={s with heap:=UD s.heap a}) (p:=(s.heap.objs.size,s.heap.objs.size)) (λ_ _ e=>Ao8 _ e) (Ax _) (Ax _)
    (λS=>⟨.inl rfl,a,0,_,⟨_,g1,rfl,rfl⟩,S.Ak _ _ ht,vvu.keep S.ρ S.τ S.q S.Ak⟩) ⟨_,g1,trivial⟩ ⟨_,g1,trivial⟩ rfl rfl
   have oj1:(σ.new<|.iter<|.seq lu).obj j=some (.list none l none):=PA.Qv _ _ _ _ _ (λe=>by
    have:=(Ape.mp hj).1;rw[I.nτ] at this;omega) oj
   rw[H3 oj1] at h;have z1:(UD s.heap a).objs.size=s.heap.objs.size+1:=AqF ..;have z2:(Zh s.heap a p.1).objs.size=s.heap.objs.size+2:=by rw[AqF,z1]
   have z3:(mN s.heap a p.1).objs.size=s.heap.objs.size+3:=by rw[AqF,z2]
   have z4:(sM s.heap a p.1).objs.size=s.heap.objs.size+4:=by rw[AqF,z3]
   have g2:(Zh s.heap a p.1).get? (UD s.heap a).objs.size=some _:=Apl _ rfl;obtain⟨I2,X2⟩:=I1.make (o:=.iter (.lst j 0)) (s':={s with heap:=Zh s.heap a p.1}) (p:=((UD s.heap a).objs.size,(UD s.heap a).objs.size)) (λ_ _ e=>Ao8 _ e) (Ax _) (Ax _)
    (λS=>⟨.inl rfl,p,Ah S.τ<|Ah X1.τ hj,⟨_,g2,rfl,rfl⟩⟩) ⟨_,g2,trivial⟩ ⟨_,g2,trivial⟩ rfl rfl
   have AfC:¬own ((W.more (s.heap.objs.size,s.heap.objs.size)).more ((UD s.heap a).objs.size,(UD s.heap a).objs.size)).τ (Zh s.heap a p.1).objs.size:=I2.M5 (Ax _);have g3:(mN s.heap a p.1).get? (Zh s.heap a p.1).objs.size=some _:=Apl _ rfl;obtain⟨I3,X3⟩:=I2.grow (s':={s with heap:=mN s.heap a p.1}) (λ_ _ e=>Ao8 _ e) rfl rfl;have g4:(zh5 s.heap a p.1).get? (mN s.heap a p.1).objs.size=some _:=Ao8 _ (Apl _ rfl);have g5:(zh5 s.heap a p.1).get? (sM s.heap a p.1).objs.size=some _:=Apl _ rfl;have gT:(zh5 s.heap a p.1).get? (Zh s.heap a p.1).objs.size=some _:=Ao8 _ (Ao8 _ g3);obtain⟨I4,X4⟩:=I3.make (o:=.iter (.zip σ.n (σ.new<|.iter<|.seq lu).n)) (s':={s with heap:=zh5 s.heap a p.1}) (p:=((sM s.heap a p.1).objs.size,(mN s.heap a p.1).objs.size)) (λ_ _ e=>Ao8 _ (Ao8 _ e)) (Ar1 (by rw[z3,z4];omega)) (Ax _)
    (λS=>⟨.inr ⟨_,_,rfl⟩,(Zh s.heap a p.1).objs.size,(s.heap.objs.size,s.heap.objs.size),((UD s.heap a).objs.size,(UD s.heap a).objs.size),.none,.none,g5,
     ⟨IL (λq hq=>(ApM.mp hq).imp id λhq=>by rw[Apu.mp hq];exact⟨by show(sM s.heap a p.1).objs.size≠(Zh s.heap a p.1).objs.size;rw[z4,z2];omega,by show(mN s.heap a p.1).objs.size≠(Zh s.heap a p.1).objs.size;rw[z3,z2];omega⟩) AfC,I2.SM<|Ax _,⟨_,gT,rfl,_,rfl⟩,_,gT,rfl⟩,
     Ah S.τ (Ah X2.τ<|St.Bw I _),Ah S.τ<|St.Bw I1 _,g4⟩) ⟨_,g5,trivial⟩ ⟨_,g4,trivial⟩ rfl rfl
   refine callType_new PySem.F.called_zip (by decide) (PySem.F.typeCall_zip_2 _ _) (PySem.F.newCall_zip_2 _ _) (λobj=>PySem.F.args_object_init_3 obj _ _) PySem.F.entry_zip_new
    (T8 a p.1 _ _) ⟨ht.Ak,hl,⟨_,g5,rfl⟩,?_⟩
   exact⟨_,_,_,h,((X1.trans X2).trans X3).trans X4,I4,.obj<|St.Bw I3 _⟩
  |_=>cases h0
end
end
section
variable{C:Cx}
theorem Ob.kill:∀{o:AO},Ob C W h p o->Ob C W h p (Cv o)
 | .list ..,q=>q | .dict _,q=>q | .inst ..,q=>q | .exc ..,_=>trivial
 | .old ..,_=>trivial
 | .ed _,q=>q | .frame _,q=>q | .cell none,q=>q | .cell (some _),q=>q | .iter _,_=>trivial
 | .G2 ..,_=>trivial
 | .AE _,q=>q | .mid ..,q=>q | .dead,_=>trivial
section
variable{W:Wd}{σ:St}{s:Ao5}
theorem Inv.after(I:Inv C W σ s){j Cl:Nat}{d:Option Nat}(h:σ.obj j=some (.old Cl d)):Inv C W (σ.after j Cl d) s∧Ext σ W s (σ.after j Cl d) W s:=by
 refine⟨⟨I.nτ,I.kρ,I.rl,I.Bi,I.neg,I.Ca,λi y hy=>?_,I.apart,I.new,I.live,I.Kn,I.base,I.gens,I.os,I.fo⟩,?_⟩
 ·rcases St.HD hy with⟨rfl,rfl⟩|⟨n,o,ho,rfl⟩
  ·exact I.obj _ _ h
  ·obtain⟨p,hp,hb⟩:=I.obj _ _ ho;exact⟨p,hp,hb.kill⟩
 ·exact⟨Apb _,Apb _,λ_ _=>rfl,λ_ _=>rfl,rfl,Nat.le_succ _,λa o e _ _=>⟨o.slots,e,λ_=>rfl⟩,λ_ a o e _=>e,λp h=>.inl h,λa o e=>⟨o,e⟩,λa o e d=>⟨o,e,d⟩,Apb _,rfl⟩
theorem EU{M:ArJ}{h:Apn}{a:Apc}{o:Obj}(ho:h.get? a=some o):Aq6 M h (typeOf<|.ref a) o.cls:=by unfold typeOf;exact(Looks.ld ho).andThen .now
theorem Qp{M:ArJ}{h:Apn}{a:Apc}{c:Ao3}{dd:Option Apc}{fs:Array Ao3}{sl}(ho:h.get? a=some ⟨c,dd,.fields fs,sl⟩):Aq6 M h (PySem.isType<|.ref a) false:=by unfold PySem.isType loadHead;exact(Looks.ld ho).andThen .now
theorem VZ{M:ArJ}{Cl:Apc}(hx:HO C Cl){h:Apn}(B:∀a o,C.h1.get? a=some o->h.get? a=some o){a:Apc}{dd:Option Apc}{fs:Array Ao3}{sl}(ho:h.get? a=some ⟨.ref Cl,dd,.fields fs,sl⟩):
  Aq6 M h (ArY (.ref a) (.type "BaseException")) true:=by
 obtain⟨K,hK,_,hb,_⟩:=hx;unfold ArY;exact(EU ho).andThen (looks_subIn (hK.keeps B) hb)
theorem Rg{A:Apg}{env:Env}{x:Sem Ao3}{Q:Flow->Ao5->Prop}{Er:Ao3->Ao5->Prop}{M:ArJ}(hh:A.handled=none)
  (h:Aph M A x (λv s1=>∃a Cl dd fs sl,v= .ref a∧HO C Cl∧(∀b o,C.h1.get? b=some o->s1.heap.get? b=some o)∧s1.heap.get? a=some ⟨.ref Cl,dd,.fields fs,sl⟩∧fs[1]?=some .none∧Er (.ref a) s1) Er s):
  Aph M A (raiseStmt env (some x) none) Q Er s:=by
 unfold raiseStmt;refine Ao2 (Apa h (λv s1 q=>?_) λ_ _ q=>q);obtain⟨a,Cl,dd,fs,sl,rfl,hx,B,ho,hf,hE⟩:=q;have noT:=Qp (M:=M) ho;have isI:=VZ (M:=M) hx B ho;refine Ao2<|Ao4<|Ao2<|ApA ?_;refine Looks.here (r:=.ref a) ?_ ?_
 ·have LE:Aq6 M s1.heap (isExcClass<|.ref a) false:=by
   unfold isExcClass;refine noT.andThen ?_;rw[if_neg (by decide)];exact .now
  unfold excFromValue;refine LE.andThen ?_;rw[if_neg (by decide)];refine isI.andThen ?_;rw[if_pos rfl];exact .now
 refine Ao2<|noT.here ?_;rw[if_neg (by decide)];refine Ao2 (Looks.here (r:=.ref a) ?_ ?_)
 ·unfold raisedInstance;obtain⟨K,hK,_,_,oc,hoc,hcc,_⟩:=hx;refine(EU ho).andThen<|(EU<|B _ _ hoc).andThen ?_;rw[hcc,if_pos (by decide)];exact .now
 refine Ao2 ?_;unfold setFlight;refine Ao2<|ApJ ho rfl hf ?_;rw[if_neg (by decide)];exact Ao4 (wpAny_raiseNew_none hh hE)
end
section
variable{X:CX}{n:Nat}{sc:ApH}
theorem SS.zM{pos:Pos}(h:SE C X n true sc c e):SS C X n true sc (zN c) (.Raise (some e) none pos):=λA σ W s E env f I ev k ke q=>by
 rw[arm_exec_Raise];refine Ao2<|ApT<|Rg (C:=C) (f.hand rfl) ?_;refine Ao2 (Apa (h A σ W s E env f I ev _ ke q) (λv s1 q=>Ao2 (ApT<|Ao4 ?_)) λ_ _ q=>q);obtain⟨a,σ1,W1,h1,X1,I1,r1⟩:=q;dsimp only at h1;unfold zO at h1;split at h1
 ·rename_i j;split at h1
  ·rename_i Cl l oj;cases r1 with
   | @obj i p hj=>obtain⟨p',BK,ep,hx,dd,fs,sl,hd,ho,hf⟩:=I1.obj _ _ oj;rw[hj] at BK;cases BK;obtain⟨I2,X2⟩:=I1.put (i:=j) (o:=.old Cl l) (s':=s1) hj (λ_ _ _ _ e=>e) (λ_=>⟨ep,hx,dd,fs,sl,hd,ho⟩) ⟨_,ho,trivial⟩ ⟨_,by rw[ep];exact ho,trivial⟩ (λa ha o e f=>⟨o,e,f⟩) rfl rfl;have o2:(σ1.put j (.old Cl l)).obj j=some (.old Cl l):=St.O2 oj;obtain⟨I3,X3⟩:=I2.after o2;have pv:σ1.Bq≤(σ1.put j (.old Cl l)).Bq:=X2.Bq;exact⟨p.1,Cl,dd,fs,sl,rfl,hx,I1.base,ho,hf,j,Cl,l,_,W1,p,h1,AqT X1.Bq pv,o2,hj,rfl,.inl ⟨_,fs,ho,rfl,hf⟩,(X1.trans X2).trans X3,I3⟩
  ·cases h1
 ·cases h1
def UL(C:Cx)(T:Tab):Prop:=∀D G,T.J9 D G=true->HO C G∧∃K:AqI,K.In C.h1∧subIn K (.ref D) (.ref G)=some true
theorem Np:subIn [] (.type "type") (.type "tuple")=some false:=by decide +kernel
theorem QZ{M:ArJ}{A:Apg}{E:Ao3->Ao5->Prop}{s:Ao5}{Q:Bool->Ao5->Prop}{D G:Apc}(B:∀a o,C.h1.get? a=some o->s.heap.get? a=some o)(hG:HO C G){K:AqI}(hK:K.In C.h1)(hs:subIn K (.ref D) (.ref G)=some true){a:Apc}{o:Obj}(ho:s.heap.get? a=some o)(hc:o.cls= .ref D)
  (hq:Q true s):Aph M A (excMatches (.ref a)<|.ref G) Q E s:=by
 obtain⟨KG,hKG,_,hb,⟨gc,gd,gdt,gs⟩,hog,hgc,cd,uY⟩:=hG;cases(show gc= .type "type" from hgc);cases(show gdt= .cls cd from uY);have tG:Aq6 M s.heap (typeOf (.ref G)) (.type "type"):=EU (B _ _ hog);have noT:Aq6 M s.heap (ArY (.ref G) (.type "tuple")) false:=by unfold ArY;exact tG.andThen (looks_subIn (K:=[]) (λa o e=>nomatch e) Np)
 have isC:Aq6 M s.heap (isExcClass<|.ref G) true:=by
  unfold isExcClass;refine(?_:Aq6 M s.heap (PySem.isType<|.ref G) true).andThen ?_
  ·unfold PySem.isType loadHead;exact(Looks.ld<|B _ _ hog).andThen .now
  ·rw[if_pos rfl];exact looks_subIn (hKG.keeps B) hb
 have tE:Aq6 M s.heap (typeOf<|.ref a) (.ref D):=hc▸EU ho;have sub:Aq6 M s.heap (isSubtype (.ref D)<|.ref G) true:=looks_subIn (hK.keeps B) hs;unfold excMatches;refine Ao2<|noT.here ?_;rw[if_neg (by decide)];refine Ao2<|Ao4 ?_;simp only[AqB,AqZ];refine Ao2<|Ao2<|Ao2<|isC.here ?_;rw[if_neg (by decide)];refine Ao4<|Ao4<|Ao2<|tE.here<|Ao2<|Ao2<|Ao2<|sub.here ?_;rw[if_pos rfl];exact Ao4 (Ao4<|Ao4 hq)
theorem A8.mark{sc E env}(ev:A8 C A W sc E env)(h:Option Ao3):A8 C (A.mark h) W sc E env:=⟨ev.scope,ev.kind,ev.glob,ev.bi,ev.fr,ev.cells,ev.full,ev.around⟩
theorem CJ.mark(f:CJ n true A)(h:Option Ao3):CJ n false (A.mark h):=⟨f.depth,f.units,λe=>nomatch e⟩
theorem n7{nm:Str}{G:Apc}(hk:sc.names.lookup nm=some .globalImplicit)(hd:(nm==("__debug__":Str))=false)(hv:Tj C nm (.Au (.ref G))){E env}(I:Inv C W σ s)(e:A8 C A W sc E env){pos:Pos}{Q:Ao3->Ao5->Prop}{Er:Ao3->Ao5->Prop}(h:Q (.ref G) s):
  Aph (model C.prog C.w) A (eval (.Name nm pos) env) Q Er s:=by
 obtain⟨cv,hr,hg⟩:=hv;have q:=hr W s.heap I.based;cases q;refine Name_function_global (by rw[e.scope];exact e.kind) (by unfold AqJ;rw[e.scope];exact hk) ?_ hd;rcases hg with⟨mg,h1,h2⟩|⟨mg,mb,h1,h2,h3,h4⟩
 ·exact loadGlobal_global (by rw[e.glob];exact Ns.keep h1 I.base) h2 h
 ·exact loadGlobal_builtin (by rw[e.glob];exact Ns.keep h1 I.base) h2 (by rw[e.bi];exact Ns.keep h3 I.base) h4 h
theorem Jy{prog:Ap3}{w:Ao7}{A:Apg}{s:Ao5}{R:Aru->Ao5->Prop}{e:Ao3}{nm:Str}{body:List Arw}{pos:Pos}{env:Env}
  (h:Aph (model prog w) A (setFlight e none) (λ_ s1=>Aph (model prog w) A (bindName env nm e) (λ_ s2=>Aph (model prog w) A (execs body env) (λf s3=>R (.ok f) s3) (λ_ _=>False) s2) (λ_ _=>False) s1) (λ_ _=>False) s):
  ApG (model prog w) A (.handlers e [.ExceptHandler none (some nm) body pos] env) R s:=by
 refine ArL ?_;show Aph _ A (do return Fin.done (←(handleWith e env [.ExceptHandler none (some nm) body pos]).onRaise (λx=>do noteFrame x env;theTreesLotGoes x))) _ _ s;refine Ao2<|wpAny_noted ?_;unfold handleWith;refine Ao2<|ApT<|Ao2 (Apa h (λ_ s1 h1=>?_) λ_ _ x=>x.elim);refine Ao2 (Apa h1 (λ_ s2 h2=>?_) λ_ _ x=>x.elim);exact Ao2 (ArO (Apa h2 (λf s3 h3=>Ao4 (Ao4 h3)) λ_ _ x=>x.elim))
theorem VP{k:K Fl}(h:VO E f σ k=true):∃v m,f= .ret v∧σ.obj E.fr=some (.frame m)∧k (.ret v) (σ.put E.fr .dead)=true:=by
 unfold VO at h;split at h
 ·split at h
  ·exact⟨_,_,rfl,by assumption,h⟩
  ·cases h
 ·cases h
theorem Ut{A:Apg}{W:Wd}{σ:St}{s:Ao5}{E:Bo}{env:Env}{nm:Str}{pos:Pos}{m:List (Nm×AV)}{Q:Unit->Ao5->Prop}{Er:Ao3->Ao5->Prop}(I:Inv C W σ s)(e:A8 C A W sc E env)(hk:sc.names.lookup nm=some .local)(hf:σ.obj E.fr=some (.frame m))
  (h:∀s',Inv C W (σ.put E.fr .dead) s'->Ext σ W s (σ.put E.fr .dead) W s'->Q () s'):
  Aph (model C.prog C.w) A (do PySem.bindName env nm .none;unbindBehindTheSuite env nm pos) Q Er s:=by
 obtain⟨p,hp,hl⟩:=e.fr;obtain⟨ep,mm,Hv⟩:=I.Fj hp hf;have hkn:env.kindOf nm=some .local:=by unfold AqJ;rw[e.scope];exact hk
 have HY:env.scope.kind= .function:=by rw[e.scope];exact e.kind
 refine Ao2<|wpAny_bindName<|EI (m:=mm) hkn (by rw[hl];exact Hv) (λh1 hn hs hc=>?_) (by rw[HY];rfl);rw[hl] at hn hs hc;unfold unbindBehindTheSuite;refine wpAny_onRaise ?_;unfold unbindName deleteName;refine Ao2<|wpAny_point<|Ao2 ?_;simp only[hkn,HY];refine Ao2 (m:=nsDel env.locals nm) (OU (by rw[hl];exact hn) λh2 hb=>?_);rw[if_pos rfl];refine Ao4<|wpAny_point ?_;rw[hl] at hb;have nb:Dk p.1 s.heap h1:=⟨hs,⟨_,hn⟩,hc⟩;obtain⟨J,Y⟩:=I.Cj hp hf (nb.trans hb);obtain⟨J2,Y2⟩:=J.tok (s.toks+1);exact h _ J2 (Y.trans Y2)
theorem SS.Nl{b h:Cs}{x:Nm}{nm gn:Str}{G:Apc}{bx hx:List Arw}{Ael QB pos:Pos}(O:Ok C)(SO:UL C X.T)(hb:SL C X n true sc b bx)(hxn:C.nm[x]?=some nm)(hk:sc.names.lookup nm=some .local)
  (gk:sc.names.lookup gn=some .globalImplicit)(gd:(gn==("__debug__":Str))=false)(gv:Tj C gn (.Au (.ref G)))(hh:SL C X n false sc h hx):
  SS C X n true sc (qV b (Dz<|.Au<|.ref G) x h) (.Try bx [.ExceptHandler (some<|.Name gn Ael) (some nm) hx QB] [] [] pos):=λA σ W s E env f I e k ke q=>by
 refine wpAny_Try_except (Apa (hb A σ W s E env f I e _ _ q) (λfl s1 q=>?_) λev s1 q=>?_)
 ·obtain⟨a,σ1,W1,h1,X1,I1,r1⟩:=q;cases r1 with
  |next=>rw[arm_execs_nil];exact Ao4 ⟨.next,σ1,W1,h1,X1,I1,.next⟩
  |brk=>exact⟨.brk,σ1,W1,h1,X1,I1,.brk⟩
  |cont=>exact⟨.cont,σ1,W1,h1,X1,I1,.cont⟩
  |ret v=>exact⟨_,σ1,W1,h1,X1,I1,.ret v⟩
 ·refine Apa (Ek q e (Er:=AG C ke σ W s)) (λ_ s2 q=>?_) λ_ _ q=>q
  refine Apa (Fh (f:=none) (Er:=AG C ke σ W s) q) (λ_ s3 q=>?_) λ_ _ q=>q
  obtain⟨⟨j,D,l,σ',W',p,h1,h0,h2,h3,rfl,h5,h6,h7⟩,y,ey,tr⟩:=q;have ey:p.1=y:=by simpa using ey
  subst ey;have h1:oE X E (Dz (.Au (.ref G))) x h j D (σ'.after j D l) k ke=true:=by have h1:(match σ'.obj j with |some (.old D l)=>oE X E (Dz (.Au (.ref G))) x h j D (σ'.after j D l) k ke |_=>bad "caught")=true:=h1;rw[h2] at h1;exact h1
  have h1:bt (X.T.J9 D G) (Co E x (.obj j) (σ'.after j D l) λ_ σ=>h X E σ (λf σ=>VO E f σ k) (λ_ _=>bad "handler raises")) (bad "no clause")=true:=h1;cases hs:X.T.J9 D G with
  |false=>rw[hs] at h1;cases h1
  |true=>
   rw[hs] at h1;have h1:Co E x (.obj j) (σ'.after j D l) (λ_ σ=>h X E σ (λf σ=>VO E f σ k) (λ_ _=>bad "handler raises"))=true:=h1;obtain⟨hG,K,hK,Im⟩:=SO _ _ hs;have oj:(σ'.after j D l).obj j=some (.old D l):=St.F2 h2;obtain⟨p',BK,_,_,dd,fs,sl,_,ho⟩:=h7.obj _ _ oj;rw[h3] at BK;cases BK;have e':=(e.up h6.up).mark (some (.ref p.1));refine wpAny_handleBy_cons (codeAny_handlers_test (n7 gk gd gv h7 e' ?_)) (by intro q;cases q);refine QZ h7.base hG hK Im ho rfl ?_;dsimp only;rw[if_pos rfl];refine Jy (G4 (fsl:=W'.fs) tr λh' N tr'=>?_);have I8:=h7.note h3 N;have X8:=h6.note h0 h7 N;have noE:∀{σ1:St} {W1:Wd} {s1:Ao5} {e:Ao3} {s':Ao5},AG C (λ_ _=>false) σ1 W1 s1 e s'->False:=λ⟨_,_,_,_,_,_,q,_⟩=>by cases q
   have e8:=e.up X8.up;refine Apa (DF (Sp.Co (A:=A.mark (some<|.ref p.1)) O I8 (e8.mark _) hxn hk<|.obj h3) _ (λ_ _=>false) h1) (λ_ s4 q4=>?_) λ_ _ q=>noE q
   obtain⟨_,σ9,W9,h9,X9,I9,_⟩:=q4;have e9:=e8.up X9.up;refine Apa (hh (A.mark<|some<|.ref p.1) σ9 W9 s4 E env (f.mark _) I9 (e9.mark _) _ _ h9) (λfl s5 q5=>?_) λ_ _ q=>noE q
   obtain⟨a,σ10,W10,iO,mU,I10,sE⟩:=q5;obtain⟨v,m,rfl,Zp,aW⟩:=VP iO;cases sE with
   |ret hv=>have X0:=(X8.trans X9).trans mU;exact Ut (A:=A) I10 (e9.up mU.up) hk Zp λs' J Y=>⟨.ret v,_,W10,aW,X0.trans Y,J,.ret (I10.vr Y hv)⟩
end
end
section
variable{C:Cx}
def Wd.ext(W:Wd)(ex:List Int):Wd:={W with ρ:=W.ρ++ex}
theorem Wd.V3(W:Wd)(ex:List Int)(h:Apn):DU W (W.ext ex) h h:=
 ⟨Aps _ _,Apb _,λ_ _=>rfl,λ_ _=>rfl,λa items q=>⟨q.un,q.fo,q.Ak,q.nd⟩⟩
theorem Inv.atoms(I:Inv C W σ s){ex:List Int}{er:List DB}(hl:er.length=ex.length)(hr:∀i x,ex[i]?=some x->inR (BB er<|ex.length-1-i) x):
  Inv C (W.ext ex) (σ.atoms er) s∧Ext σ W s (σ.atoms er) (W.ext ex) s:=by
 have S:=W.V3 ex s.heap;refine⟨⟨I.nτ,?_,?_,λa x h=>?_,λp hp=>?_,λp hp=>?_,λi o h=>?_,I.apart,I.new,I.live,I.Kn,I.base,I.gens,I.os,I.fo⟩,?_⟩
 ·show(W.ρ++ex).length=σ.k+er.length;rw[Apd,I.kρ,hl]
 ·show(er++σ.Bi).length=σ.k+er.length;rw[Apd,I.rl,Nat.add_comm]
 ·have h:(W.ρ++ex)[a]?=some x:=h;show inR (BB (er++σ.Bi)<|σ.k+er.length-1-a) x;unfold BB;rw[AA];by_cases Nz:a<W.ρ.length
  ·rw[Apz Nz] at h;have:=I.Bi a x h;rw[I.kρ] at Nz;rw[Apo (by omega),show σ.k+er.length-1-a-er.length=σ.k-1-a from by omega];unfold St.rg BB at this
   rwa [AA] at this
  ·rw[Apo (AqQ Nz)] at h;have hx:=(Ape.mp h).1;have Nz:σ.k≤a:=by rw[←I.kρ];exact AqQ Nz
   have:=hr _ _ h;rw[I.kρ] at this hx;rw[Apz (by omega),show σ.k+er.length-1-a=ex.length-1-(a-σ.k) from by omega];unfold BB at this
   rwa [AA] at this
 ·obtain⟨x,h,r⟩:=I.neg p hp;exact⟨x,Ap.CZ (Aps _ _) h,r⟩
 ·obtain⟨x,h,r⟩:=I.Ca p hp;exact⟨x,Ap.CZ (Aps _ _) h,r⟩
 ·obtain⟨p,hp,hb⟩:=I.obj i o h;exact⟨p,hp,hb.Bg S rfl rfl⟩
 ·exact⟨S.τ,S.ρ,S.q,S.ls,rfl,Aqc _,λa o e _ _=>⟨o.slots,e,λ_=>rfl⟩,λ_ a o e _=>e,λp h=>.inl h,λa o e=>⟨o,e⟩,λa o e d=>⟨o,e,d⟩,Apb _,rfl⟩
end
section
variable{C:Cx}
section
variable{X:CX}{n:Nat}{b:Bool}{sc:ApH}
theorem Inv.lower(I:Inv C W σ s):Inv C W σ.lower s:=
 ⟨I.nτ,I.kρ,I.rl,I.Bi,I.neg,I.Ca,I.obj,I.apart,I.new,I.live,I.Kn,I.base,I.gens,I.os,I.fo⟩
theorem SE.mark{m:Nat}(h:SE C X n b sc c e):SE C X n b sc (Xh m c) e:=λA σ W s E env f I ev k ke q=>by
 have kept:∀{σ1:St} {W1:Wd} {s1:Ao5},σ1.Bq=σ.lower.Bq->Ext σ.lower W s σ1 W1 s1->Inv C W1 σ1 s1->Inv C W σ s1∧Ext σ W s σ W s1:=by
  intro σ1 W1 s1 hv X1 I1;refine I.grow (s':=s1) (λb x hb=>?_) (I1.gens.trans I.gens.symm)<|I1.os.trans I.os.symm;refine X1.exact hv b x hb ?_;by_cases o:own W.τ b
  ·refine .inr ?_;have:W.τ.take σ.lower.low=W.τ:=Ap5 (by rw[I.nτ];exact Aqc _);rw[this];exact o
  ·exact .inl o
 unfold Xh at q;dsimp only at q;split at q
 ·split at q
  ·obtain⟨q1,q2⟩:=Ac q;refine Apa (h A σ.lower W s E env f I.lower ev _ _ q1) (λcv s1 p=>?_) λ_ _ p=>?_
   ·obtain⟨a,σ1,W1,h1,X1,I1,r⟩:=p;cases r with
    | @bool v=>
     have hv:σ1.Bq=σ.lower.Bq:=Ao6 h1;obtain⟨J,Y⟩:=kept hv X1 I1;obtain⟨J2,Y2⟩:=J.atoms (ex:=[if v then 1 else 0]) (er:=[(some 0,some 1)]) rfl (λi x e=>by
      cases i with
      |zero=>cases e;exact⟨λa e=>by cases e;split<;>decide,λa e=>by cases e;split<;>decide⟩
      |succ i=>cases e)
     have ek:(W.ρ++ [if v then(1:Int) else 0])[σ.k]?=some (if v then 1 else 0):=by rw[←I.kρ];simp
     refine⟨_,_,_,q2,Y.trans Y2,J2,?_⟩;cases v with
     |false=>exact .sel (j:=0) ek rfl .bool
     |true=>exact .sel (j:=1) ek rfl .bool
    |_=>cases h1
   ·obtain⟨_,_,_,_,_,_,p,_⟩:=p;cases p
  ·obtain⟨q1,q2⟩:=Ac q;refine Apa (h A σ.lower W s E env f I.lower ev _ _ q1) (λcv s1 p=>?_) λ_ _ p=>?_
   ·obtain⟨a,σ1,W1,h1,X1,I1,_⟩:=p;obtain⟨J,Y⟩:=kept (Ao6 h1) X1 I1;exact⟨.any,σ,W,q2,Y,J,.any⟩
   ·obtain⟨_,_,_,_,_,_,p,_⟩:=p;cases p
 ·exact h A σ W s E env f I ev k ke q
end
end
section
variable{C:Cx}
structure P4(C:Cx)(W:Wd)(sc:ApH)(E:Bo)(env:Env):Prop where
 scope:env.scope=sc
 kind:sc.kind= .function
 fr:∃p,W.τ[E.fr]?=some p∧env.locals=p.1
 cells:∀x j nm,A2 E.cells x=some j->C.nm[x]?=some nm->(sc.names.lookup nm=some .cell∨sc.names.lookup nm=some .free)->∃p,W.τ[j]?=some p∧env.cells.lookup nm=some p.1
theorem P4.up{W':Wd}{sc E env}(h:P4 C W sc E env)(t:W.τ<+:W'.τ):P4 C W' sc E env:=
 ⟨h.scope,h.kind,let⟨p,a,b⟩:=h.fr;⟨p,Ah t a,b⟩,λx j nm q a k=>let⟨p,b,c⟩:=h.cells x j nm q a k;⟨p,Ah t b,c⟩⟩
section
variable{A:Apg}{σ:St}{W:Wd}{s:Ao5}{sc:ApH}{E:Bo}{env:Env}{x:Nm}{nm:Str}
theorem Sp.eC(O:Ok C)(I:Inv C W σ s)(e:P4 C W sc E env)(hx:C.nm[x]?=some nm)(hk:sc.names.lookup nm=some .local)(hv:VR C W s.heap v cv):
  Sp C A σ W s (storeName env nm cv) (λk _=>Mine.Co E x v σ k) RU:=by
 intro k ke q;unfold Mine.Co at q;split at q
 ·rename_i m hm;obtain⟨p,hp,ep,mm,Hv,hM⟩:=I.obj _ _ hm;obtain⟨p',BK,hl⟩:=e.fr;rw[hp] at BK;cases BK;refine EI (m:=mm) (by unfold AqJ;rw[e.scope];exact hk) (by rw[hl];exact Hv) (λh' hn hs hc=>?_) (by rw[e.scope,e.kind];rfl);rw[hl] at hn hs hc;have GV:∃o,h'.get? p.1=some o∧Bk o:=let⟨o,es,n,a,b⟩:=Ns.cls hn;⟨o,a,.GZ b⟩;obtain⟨J,X⟩:=I.put (s':={s with heap:=h',toks:=s.toks+1}) (o:=.frame (BM m x v)) hp (λb o h1 _ hb=>(hs.2 b h1).trans hb)
   (λT=>⟨ep,_,hn,(hM.Bg ⟨Apb _,Apb _,λ_ _=>rfl,λ_ _=>rfl,T⟩).set O hx<|hv.keep (Apb _) (Apb _) (λ_ _=>rfl) T⟩)
   GV (by rw[ep];exact GV)
   (λa ha o h1 h2=>by
    rcases ha with rfl |rfl
    ·exact hc o h1 h2
    ·rw[ep] at h1 ⊢;exact hc o h1 h2) rfl rfl
  exact⟨(),_,W,q,X,J,trivial⟩
 ·cases q
theorem Sp.eB(I:Inv C W σ s)(e:P4 C W sc E env)(hx:C.nm[x]?=some nm)(hk:sc.names.lookup nm=some .cell)(hv:VR C W s.heap v cv):
  Sp C A σ W s (storeName env nm cv) (λk _=>Mine.EH E x v σ k) RU:=by
 intro k ke q;unfold Mine.EH at q;split at q
 ·rename_i c hc;split at q
  ·rename_i v0 hv0;obtain⟨p,hp,hb⟩:=I.obj _ _ hv0;obtain⟨p',a2,a3⟩:=e.cells x c nm hc hx (.inl hk);rw[hp] at a2;cases a2;obtain⟨ep,w0,HV⟩:p.2=p.1∧∃w0,s.heap.IsCell p.1 w0:=by
    cases v0 with
    |none=>exact⟨hb.1,_,hb.2⟩
    |some u=>exact⟨hb.1,_,hb.2.choose_spec.1⟩
   refine wpAny_storeName_cell (by rw[e.scope];exact e.kind) (by unfold AqJ;rw[e.scope];exact hk) a3 HV (λh' hn hs=>?_);have nt:∃o,h'.get? p.1=some o∧Bk o:=let⟨o,a,b⟩:=hn;⟨o,a,trivial⟩;obtain⟨J,X⟩:=I.put (s':={s with heap:=h'}) (o:=.cell (some v)) hp (λb o h1 _ hb=>(hs.2 b h1).trans hb)
    (λT=>⟨ep,_,hn,hv.keep (Apb _) (Apb _) (λ_ _=>rfl) T⟩) nt (by rw[ep];exact nt)
    (λa ha o ho hd=>by
     exfalso;obtain⟨o',h1,h2⟩:=HV;obtain⟨_,es,n,hd⟩:=hd;rcases ha with rfl |rfl
     ·rw[h1] at ho;cases ho;rw[h2] at hd;cases hd
     ·rw[ep,h1] at ho;cases ho;rw[h2] at hd;cases hd) rfl rfl
   exact⟨(),_,W,q,X,J,trivial⟩
  ·cases q
 ·cases q
end
inductive FK(C:Cx)(W:Wd):List (Nm×Nat)->List (Str×Apc)->Prop
 |nil:FK C W [] []
 |cons {x j nm p c cs}:C.nm[x]?=some nm->W.τ[j]?=some p->FK C W c cs->FK C W ((x,j)::c) ((nm,p.1)::cs)
theorem FK.up{W W':Wd}(t:W.τ<+:W'.τ):∀{c cs},FK C W c cs->FK C W' c cs
 |_,_,.nil=>.nil |_,_,.cons a b r=>.cons a (Ah t b) (r.up t)
theorem FK.get(O:Ok C){x:Nm}{j:Nat}{nm:Str}(hx:C.nm[x]?=some nm):∀{c cs},FK C W c cs->A2 c x=some j->∃p,W.τ[j]?=some p∧cs.lookup nm=some p.1
 |_,_,.nil,h=>by cases h
 |_,_,.cons (x:=y) (j:=i) (nm:=ny) (p:=p) (c:=c) (cs:=cs) a b r,h=>by
  rw[Ce] at h;by_cases q:x=y
  ·subst q;rw[hx] at a;cases a;rw[Cy,Jd] at h;cases h;exact⟨p,b,by simp[Apy]⟩
  ·rw[EO q,Gr] at h;obtain⟨p',h1,h2⟩:=r.get O hx h;have ne:nm≠ny:=λe=>q (O.inj hx<|e▸a)
   have ne:(nm==ny)=false:=by simpa using ne
   exact⟨p',h1,by simp[Apy,ne,h2]⟩
inductive DT(C:Cx):List (Str×Aqw)->List Nm->Prop
 |nil:DT C [] []
 |skip {n k l r}:(k==ArP)=false->DT C l r->DT C ((n,k)::l) r
 |cell {n x l r}:C.nm[x]?=some n->DT C l r->DT C ((n,.cell)::l) (x::r)
theorem DT.has{l:List (Str×Aqw)}(h:DT C l r){nm:Str}(hm:l.lookup nm=some .cell):∃x∈r,C.nm[x]?=some nm:=by
 induction h with
 |nil=>cases hm
 | @skip n k l r hk _ ih=>
  by_cases e:nm=n
  ·subst e;simp only[Apy,beq_self_eq_true] at hm;cases hm;cases hk
  ·have ne:(nm==n)=false:=by simpa using e
   simp only[Apy,ne] at hm;exact ih hm
 | @cell n x l r hx _ ih=>
  by_cases e:nm=n
  ·subst e;exact⟨x,.head _,hx⟩
  ·have ne:(nm==n)=false:=by simpa using e
   simp only[Apy,ne] at hm;obtain⟨y,hy,q⟩:=ih hm;exact⟨y,.tail _ hy,q⟩
theorem OE{A:Apg}{M:ArJ}{Er:Ao3->Ao5->Prop}(hn:DT C names cn):∀{σ:St} {W:Wd} {s:Ao5} {c:List (Nm×Nat)} {cs:List (Str×Apc)} {f:St->List (Nm×Nat)->Bool} {Q:List (Str×Apc)->Ao5->Prop},
  Inv C W σ s->FK C W c cs->JK cn σ c f=true->
  (∀σ' W' s' c' tL,f σ' c'=true->Ext σ W s σ' W' s'->Inv C W' σ' s'->FK C W' c' tL->(∀nm,(∃a,cs.lookup nm=some a)∨(∃x∈cn,C.nm[x]?=some nm)->∃a,tL.lookup nm=some a)->Q tL s')->
  Aph M A (forIn names cs λ(x:Str×Aqw) (r:List (Str×Apc))=>match x with |(name,kind)=>if(kind==ArP)=true then(do let a ←alloc {cls:=.type "cell",data:=.cell none};Apx (ApS ((name,a)::r))) else Apx (ApS r)) Q Er s:=by
 induction hn with
 |nil=>intro σ W s c cs f Q I L h hQ;rw[AqZ];exact Ao4 (hQ σ W s c cs h (.refl _ _ _) I L λnm q=>q.elim id λ⟨x,hx,_⟩=>nomatch hx)
 | @skip n k l r hk _ ih=>intro σ W s c cs f Q I L h hQ;rw[AqB];simp only[hk,ApY,if_false];exact Ao2 (Ao4 (ih I L h hQ))
 | @cell n x l r hx _ ih=>
  intro σ W s c cs f Q I L h hQ;rw[AqB];simp only[beq_self_eq_true,if_true];refine Ao2 (Ao2 (wpAny_alloc (Ao4 ?_)));have g:(s.heap.push {cls:=.type "cell",data:=.cell none}).get? s.heap.objs.size=some {cls:=.type "cell",data:=.cell none}:=Apl _ rfl;obtain⟨J,Y⟩:=I.make (o:=.cell none) (s':={s with heap:=s.heap.push {cls:=.type "cell",data:=.cell none}}) (p:=(s.heap.objs.size,s.heap.objs.size)) (λ_ _ e=>Ao8 _ e) (Ax _) (Ax _)
   (λS=>⟨rfl,_,g,rfl⟩) ⟨_,g,trivial⟩ ⟨_,g,trivial⟩ rfl rfl
  refine ih (c:=(x,σ.n)::c) J (.cons hx (St.Bw I _)<|L.up Y.τ) h λσ' W' s' c' tL h1 X1 I1 L1 q1=>?_
  refine hQ σ' W' s' c' tL h1 (Y.trans X1) I1 L1 λnm q=>q1 nm ?_
  rcases q with⟨a,ha⟩|⟨y,hy,hn⟩
  ·by_cases e:nm=n
   ·subst e;exact .inl ⟨s.heap.objs.size,by simp⟩
   ·have ne:(nm==n)=false:=by simpa using e
    exact .inl ⟨a,by simp[Apy,ne,ha]⟩
  ·rcases Apf.mp hy with rfl |hy
   ·rw[hx] at hn;cases hn;exact .inl ⟨s.heap.objs.size,by simp⟩
   ·exact .inr ⟨y,hy,hn⟩
inductive Gk(C:Cx)(W:Wd)(h:Apn)(sc:ApH):List ((Nm×Bool)×AV)->List (Str×Ao3)->Prop
 |nil:Gk C W h sc [] []
 |cons {x b v nm cv l r}:C.nm[x]?=some nm->sc.names.lookup nm=some (if b then .cell else .local)->VR C W h v cv->Gk C W h sc l r->Gk C W h sc (((x,b),v)::l) ((nm,cv)::r)
theorem Gk.up(I:Inv C W σ s)(x:Ext σ W s σ' W' s'):∀{l r},Gk C W s.heap sc l r->Gk C W' s'.heap sc l r
 |_,_,.nil=>.nil |_,_,.cons a b v r=>.cons a b (I.vr x v) (r.up I x)
theorem Ic(O:Ok C):∀{l:List ((Nm×Bool)×AV)} {r:List (Str×Ao3)} {σ:St} {W:Wd} {s:Ao5},Inv C W σ s->P4 C W sc E env->Gk C W s.heap sc l r->
  Sp C A σ W s (forIn r ArF λ(x:Str×Ao3) (_:PUnit)=>match x with |(name,v)=>(do storeName env name v;Apx (ApS ArF):Sem (ForInStep PUnit))) (λk _=>storeAll E l σ k) (λ_ _ (_:Unit) (_:PUnit)=>True)
 |_,_,σ,W,s,I,e,.nil=>λk ke h=>by rw[AqZ];exact Ao4 ⟨(),σ,W,h,.refl _ _ _,I,trivial⟩
 |_,_,σ,W,s,I,e,.cons (x:=x) (b:=b) (v:=v) (l:=l) (r:=r) hx hk hv hr=>λk ke h=>by
  rw[AqB]
  replace h:bt b (EH E x v σ λ_ σ=>storeAll E l σ k) (Co E x v σ λ_ σ=>storeAll E l σ k)=true:=h
  have go:∀{s1:Ao5},A7 C (λ_ σ=>storeAll E l σ k) σ W s RU () s1->Aph (model C.prog C.w) A (forIn r ArF λ(x:Str×Ao3) (_:PUnit)=>match x with |(name,v)=>(do storeName env name v;Apx (ApS ArF):Sem (ForInStep PUnit))) (A7 C k σ W s (λ_ _ (_:Unit) (_:PUnit)=>True)) (AG C ke σ W s) s1:=by intro s1 q;obtain⟨_,σ1,W1,h1,X1,I1,_⟩:=q;exact Apa (Ic O I1 (e.up X1.τ) (hr.up I X1) k ke h1) (λ_ _ q=>q.base X1) λ_ _ q=>q.base X1
  cases b with
  |true=>exact Ao2 (Ao2 (Apa (Sp.eB (A:=A) I e hx hk hv (λ_ σ=>storeAll E l σ k) ke h) (λ_ s1 q=>Ao4 (go q)) λ_ _ q=>q))
  |false=>exact Ao2 (Ao2 (Apa (Sp.eC (A:=A) O I e hx hk hv (λ_ σ=>storeAll E l σ k) ke h) (λ_ s1 q=>Ao4 (go q)) λ_ _ q=>q))
end
section
variable{C:Cx}
theorem Ip{n:Str}:∀{ns:List Str} {vs:List Ao3},n∉ns->(ns.zip vs).lookup n=none
 | [],_,_=>rfl |_::_,[],_=>rfl
 |a::ns,v::vs,h=>by
  have e:(n==a)=false:=by simpa using λe:n=a=>h (e▸ .head _)
  rw[Aqf,Apy,e];exact Ip λq=>h (.tail _ q)
theorem Ej{n:Str}:∀{ns:List Str} {vs:List Ao3} (k:Nat),ns.Nodup->vs.length≤k->n∈ns.drop k->(ns.zip vs).lookup n=none
 | [],_,k,_,_,h=>by simp at h
 |a::ns,[],k,_,_,_=>rfl |a::ns,v::vs,0,_,hl,_=>by simp at hl
 |a::ns,v::vs,k+1,nd,hl,h=>by
  have h:n∈ns.drop k:=by simpa using h
  have e:(n==a)=false:=by have:=(Aqx.mp nd).1;simpa using λe:n=a=>this (e▸List.mem_of_mem_drop h)
  rw[Aqf,Apy,e];exact Ej k (Aqx.mp nd).2 (by simpa using hl) h
theorem C2{n:Str}:∀{ns:List Str} {vs:List Ao3} (k:Nat),k≤vs.length->n∈ns.take k->((ns.zip vs).lookup n).isSome=true
 | [],_,k,_,h=>by simp at h
 |a::ns,[],k,hl,h=>by have:k=0:=Nat.le_zero.mp hl;subst this;simp at h
 |a::ns,v::vs,0,_,h=>by simp at h
 |a::ns,v::vs,k+1,hl,h=>by
  rw[Aqf,Apy];cases e:n==a with
  |true=>rfl
  |false=>
   have h:n∈ns.take k:=by
    rw[List.take_succ_cons] at h;rcases Apf.mp h with rfl |h
    ·simp at e
    ·exact h
   exact C2 k (by simpa using hl) h
theorem FU:∀{ns:List Str} {xs:List Ao3} {pre:List (Str×Ao3)},ns.Nodup->ns.length≤xs.length->(∀n∈ns,pre.lookup n=none)->
  ns.filterMap (λn=>((pre++ns.zip xs).lookup n).map (λv=>(n,v)))=ns.zip xs
 | [],_,_,_,_,_=>rfl |a::ns,[],_,_,h,_=>by simp at h
 |a::ns,v::xs,pre,nd,hl,hp=>by
  have look:∀(l r:List (Str×Ao3)) (n:Str),l.lookup n=none->(l++r).lookup n=r.lookup n:=by
   intro l r n h
   induction l with
   |nil=>rfl
   |cons p l ih=>
    obtain⟨k,w⟩:=p;rw[Apy] at h;cases e:n==k with
    |true=>rw[e] at h;cases h
    |false=>rw[e] at h;rw[Ary,Apy,e];exact ih h
  have ha:((pre++(a::ns).zip (v::xs)).lookup a)=some v:=by rw[look _ _ _ (hp a<|.head _),Aqf,Apy];simp
  rw[List.filterMap_cons,ha];dsimp only[AqN];rw[Aqf];congr 1;have ih:=FU (ns:=ns) (xs:=xs) (pre:=pre++ [(a,v)]) (Aqx.mp nd).2 (by simpa using hl) (λn hn=>by
   have ne:(n==a)=false:=by simpa using λe:n=a=>(Aqx.mp nd).1 (e▸hn)
   rw[look _ _ _ (hp n<|.tail _ hn)];simp[Apy,ne])
  rw[ApQ] at ih;exact ih
def L9(h:Apn)(d:Ao3)(ds:List Ao3):Prop:=(d= .none∧ds= [])∨∃T,d= .ref T∧h.IsTuple T ds.toArray
structure Me(p:Arguments)(ns:List Str):Prop where
 po:p.posonlyargs= []
 ar:p.args.map (·.arg)=ns
 va:p.vararg=none
 ko:p.kwonlyargs= []
 kw:p.kwarg=none
 nd:ns.Nodup
theorem ZP{M:ArJ}{A:Apg}{E:Ao3->Ao5->Prop}{s:Ao5}{Q:Option (Array Ao3)->Ao5->Prop}(hd:L9 s.heap d ds)(h:∀r:Option (Array Ao3),(r.getD #[]).toList=ds->Q r s):Aph M A (seqItems? d) Q E s:=by
 rcases hd with⟨rfl,rfl⟩|⟨T,rfl,o,ho,hc,n,hdt⟩
 ·exact Ao4 (h none rfl)
 ·exact Arc ho hdt (h _ (by simp))
theorem Ht:∀(L:List (Str×Ao3)) (acc:List (Str×Ao3)),(forIn L acc λ(x:Str×Ao3) (r:List (Str×Ao3))=>if(Aq8 x.fst r).isNone=true then Apx (ApS<|r++ [(x.fst,x.snd)]) else Apx (ApS r):Sem (List<|Str×Ao3)) =
  Apx (L.foldl (λr x=>if(Aq8 x.fst r).isNone=true then r++ [x] else r) acc)
 | [],acc=>by rw[AqZ];rfl
 |x::L,acc=>by
  rw[AqB,List.foldl_cons];by_cases q:(Aq8 x.fst acc).isNone=true
  ·rw[if_pos q,if_pos q,pure_bind];exact Ht L _
  ·rw[if_neg q,if_neg q,pure_bind];exact Ht L _
theorem W7(l r:List (Str×Ao3))(n:Str)(h:l.lookup n=none):(l++r).lookup n=r.lookup n:=by
 induction l with
 |nil=>rfl
 |cons p l ih=>
  obtain⟨k,w⟩:=p;rw[Apy] at h;cases e:n==k with
  |true=>rw[e] at h;cases h
  |false=>rw[e] at h;rw[Ary,Apy,e];exact ih h
theorem K8:∀(L:List (Str×Ao3)) (acc:List (Str×Ao3)),(∀x∈L,(acc.lookup x.1).isSome=true)->L.foldl (λr x=>if(Aq8 x.fst r).isNone=true then r++ [x] else r) acc=acc
 | [],acc,_=>rfl |x::L,acc,h=>by rw[List.foldl_cons,if_neg (by have:=h x (.head _);cases q:acc.lookup x.1<;>simp_all)];exact K8 L acc λy hy=>h y (.tail _ hy)
theorem Oe:∀(L:List (Str×Ao3)) (acc:List (Str×Ao3)),(L.map (·.1)).Nodup->(∀x∈L,acc.lookup x.1=none)->L.foldl (λr x=>if(Aq8 x.fst r).isNone=true then r++ [x] else r) acc=acc++L
 | [],acc,_,_=>by simp
 |x::L,acc,nd,h=>by
  rw[List.foldl_cons,if_pos (by rw[h x (.head _)];rfl),Oe L (acc++ [x]) (Aqx.mp nd).2 (λy hy=>?_),ApQ]
  ·rfl
  ·rw[W7 _ _ _ (h y<|.tail _ hy)];have hn:=(Aqx.mp nd).1;have ne:¬y.1=x.1:=λe=>hn (by show x.1∈_;rw[←e];exact List.mem_map_of_mem (f:=λx:Str×Ao3=>x.1) hy)
   simp[ne]
theorem mM{α β:Type}:∀(k:Nat) (l:List α) (m:List β),(l.zip m).drop k=(l.drop k).zip (m.drop k)
 |0,_,_=>rfl |k+1,[],m=>by simp
 |k+1,a::l,[]=>by simp
 |k+1,a::l,b::m=>by rw[Aqf,List.drop_succ_cons,List.drop_succ_cons,List.drop_succ_cons];exact mM k l m
theorem Zi{α β:Type}:∀(k:Nat) (l:List α) (m:List β),(l.zip m).take k=(l.take k).zip (m.take k)
 |0,_,_=>rfl |k+1,[],m=>by simp
 |k+1,a::l,[]=>by simp
 |k+1,a::l,b::m=>by rw[Aqf,List.take_succ_cons,List.take_succ_cons,List.take_succ_cons,Aqf,Zi k l m]
theorem NQ{M:ArJ}{A:Apg}{E:Ao3->Ao5->Prop}{s:Ao5}{fd:FuncData}{ns:List Str}{vs ds:List Ao3}{Q:List (Str×Ao3)->Ao5->Prop}(P:Me fd.params ns)(hd:L9 s.heap fd.defaults ds)
  (h1:vs.length≤ns.length)(h2:ns.length-vs.length≤ds.length)(h3:ds.length≤ns.length)(h:Q (ns.zip<|vs++ds.drop (ds.length-(ns.length-vs.length))) s):Aph M A (bindArgs fd ⟨vs,[]⟩) Q E s:=by
 unfold bindArgs;simp only[P.po,P.ar,P.va,P.ko,P.kw,List.map_nil,ApC,AqZ,pure_bind,Option.isNone_none,Bool.and_true,Apj];refine Ao2 (ZP hd λr hr=>?_);simp only[hr];rw[if_neg (by simpa using h1)];have d0:ds.length-ns.length=0:=by omega
 simp only[d0,List.drop_zero];have miss:(List.filter (λn=>(Aq8 n<|ns.zip vs).isNone)<|List.take (ns.length-ds.length) ns)= []:=by rw[List.filter_eq_nil_iff];intro n hn;have:=C2 (n:=n) (ns:=ns) (vs:=vs) (ns.length-ds.length) (by omega) hn;cases q:Aq8 n (ns.zip vs)<;>simp_all
 rw[miss];rw[if_neg (by decide)];rw[Ht,pure_bind,if_neg (by decide)];refine Ao4 ?_;have fin:List.filterMap (λn=>Option.map (λx=>(n,x)) (Aq8 n<|List.foldl (λr x=>if(Aq8 x.fst r).isNone=true then r++ [x] else r) (ns.zip vs)<|(Asd (ns.length-ds.length) ns).zip ds)) ns=ns.zip (vs++ds.drop (ds.length-(ns.length-vs.length))):=by
  have e1:(Asd (ns.length-ds.length) ns).zip ds=((Asd (ns.length-ds.length) ns).zip ds).take (vs.length-(ns.length-ds.length))++(Asd vs.length ns).zip (ds.drop<|ds.length-(ns.length-vs.length)):=by
   conv=>lhs;rw[←Aqh (vs.length-(ns.length-ds.length)) ((Asd (ns.length-ds.length) ns).zip ds)]
   congr 1;rw[mM,List.drop_drop];congr 2<;>omega
  have f1:List.foldl (λr x=>if(Aq8 x.fst r).isNone=true then r++ [x] else r) (ns.zip vs) (((Asd (ns.length-ds.length) ns).zip ds).take<|vs.length-(ns.length-ds.length))=ns.zip vs:=by
   refine K8 _ _ λx hx=>?_
   rw[Zi] at hx;have hx:=(List.of_mem_zip hx).1;refine C2 vs.length (Aqc _) ?_;rw[List.take_drop] at hx;have:ns.length-ds.length+(vs.length-(ns.length-ds.length))=vs.length:=by omega
   rw[this] at hx;exact List.mem_of_mem_drop hx
  have f2:List.foldl (λr x=>if(Aq8 x.fst r).isNone=true then r++ [x] else r) (ns.zip vs) ((Asd vs.length ns).zip<|ds.drop<|ds.length-(ns.length-vs.length))=ns.zip vs++(Asd vs.length ns).zip (ds.drop<|ds.length-(ns.length-vs.length)):=by
   refine Oe _ _ ?_ λx hx=>?_
   ·rw[List.map_fst_zip (by simp;omega)];exact P.nd.sublist (List.drop_sublist _ _)
   ·exact Ej _ P.nd (Aqc _) (List.of_mem_zip hx).1
  rw[e1,List.foldl_append,f1,f2];have e2:ns.zip vs++(Asd vs.length ns).zip (ds.drop<|ds.length-(ns.length-vs.length))=ns.zip (vs++ds.drop (ds.length-(ns.length-vs.length))):=by
   have e3:ns.zip vs=(ns.take vs.length).zip vs:=by have:=Zi vs.length ns vs;rw[List.take_length] at this;rw[←this,Ap5 (by simp;omega)]
   rw[e3,←List.zip_append (by simp;omega),Aqh]
  rw[e2];have:=FU (ns:=ns) (xs:=vs++ds.drop (ds.length-(ns.length-vs.length))) (pre:=[]) P.nd (by simp;omega) (λ_ _=>rfl);simpa using this
 rw[fin];exact h
end
section
variable{C:Cx}
inductive Md(C:Cx)(sc:ApH):List (Nm×Bool)->List Str->Prop
 |nil:Md C sc [] []
 |cons {x b nm l r}:C.nm[x]?=some nm->sc.names.lookup nm=some (if b then .cell else .local)->Md C sc l r->Md C sc ((x,b)::l) (nm::r)
theorem Md.length:∀{l r},Md C sc l r->l.length=r.length
 |_,_,.nil=>rfl |_,_,.cons _ _ r=>congrArg ArI r.length
theorem Md.bind:∀{l r vs cvs},Md C sc l r->AM C W h vs cvs->Gk C W h sc (l.zip vs) (r.zip cvs)
 |_,_,_,_,.nil,_=>.nil |_,_,_,_,.cons _ _ _,.nil=>.nil |_,_,_,_,.cons a b r,.cons v q=>.cons a b v (r.bind q)
structure FnAt(C:Cx)(T:Tab)(n:Nat)(cf:CF)(fd:FuncData)(body:List Arw)(ns:List Str)(ds:List Ao3):Prop where
 bd:fd.body= .stmts body
 clo:fd.closure= []
 co:fd.scope.isCoroutine=false
 gen:fd.scope.isGenerator=false
 kind:fd.scope.kind= .function
 glob:fd.globals=Ar5
 bi:fd.builtins=AqG
 code:C.h1.CodeRec fd.code fd.qualname
 ps:Me fd.params ns
 par:Md C fd.scope cf.params ns
 dfl:L9 C.h1 fd.defaults ds
 dvr:∀(W:Wd) (h:Apn),Based C W h->AM C W h cf.defs ds
 dle:ds.length≤ns.length
 Mp:DT C fd.scope.names cf.cells
 fre:∀nm,fd.scope.names.lookup nm≠some .free
 run:∀cl,Cp C n cl->SL C ⟨T,cl⟩ n true fd.scope cf.body body
def Mb(C:Cx)(T:Tab)(n:Nat)(cf:CF)(a:Apc):Prop:=∃o fd body ns ds,C.h1.get? a=some o∧o.data= .func fd∧FnAt C T n cf fd body ns ds
theorem Tw{bs:List ((Nm×Bool)×AV)}(h:RX ps ds vs=some bs):vs.length≤ps.length∧ps.length-vs.length≤ds.length∧bs=ps.zip (vs++ds.drop (ds.length-(ps.length-vs.length))):=by
 unfold RX at h;split at h
 ·rename_i q;obtain⟨a,b⟩:=Ac q;cases h;exact⟨ble_iff.mp a,ble_iff.mp b,rfl⟩
 ·cases h
theorem CJ.deeper{n:Nat}(f:CJ (n+1) true A)(env:Env):CJ n true (A.deeper env):=by
 refine⟨?_,?_,λe=>f.hand e⟩
 ·have:=f.depth;show A.depth+1+2*n≤980;omega
 ·have:=f.units;show A.units+3+14*n≤9800;omega
theorem Cq.sp{A:Apg}{cvs:List Ao3}{k:K AV}(h:ApG (model C.prog C.w) A (.call cf ⟨cvs,[]⟩) (Cq C k ke σ W s) s):Aph (model C.prog C.w) A (call cf cvs) (A7 C k σ W s<|RV C) (AG C ke σ W s) s:=
 wpAny_call (Arn h λr s' q=>by
  cases r with
  |error e=>exact q
  |ok f=>cases f<;>first |exact q |exact q.elim)
theorem K3(O:Ok C)(NL:C.h1.NoLimit){T:Tab}{n:Nat}{cf:CF}{a:Apc}{cl:CL}(FO:Mb C T n cf a)(ok:Cp C n cl){A:Apg}{W:Wd}{σ:St}{s:Ao5}(f:CJ (n+1) true A)(I:Inv C W σ s)(ar:AW A W)
  {vs:List AV}{cvs:List Ao3}(hv:AM C W s.heap vs cvs){bs:List ((Nm×Bool)×AV)}(hb:RX cf.params cf.defs vs=some bs){k ke:K AV}(h:qF T cl cf bs σ k ke=true):ApG (model C.prog C.w) A (.call (.ref a) ⟨cvs,[]⟩) (Cq C k ke σ W s) s:=by
 obtain⟨o,fd,body,ns,ds,ho,hd,F⟩:=FO;obtain⟨b1,b2,rfl⟩:=Tw hb;have dv:=F.dvr W s.heap I.based;have l1:=hv.length;have l2:=dv.length;have l3:=F.par.length;have vH:A.depth<recursionLimit:=by have:=f.depth;show A.depth<1000;omega
 refine codeAny_call_function vH (I.base _ _ ho) hd F.co F.gen F.bd (F.code.keeps I.base) (NQ (ds:=ds) F.ps ?_ (by omega) (by omega) F.dle ?_)
 ·rcases F.dfl with⟨e1,e2⟩|⟨Td,e1,od,e2,e3⟩
  ·exact .inl ⟨e1,e2⟩
  ·exact .inr ⟨Td,e1,od,I.base _ _ e2,e3⟩
 have bind:Gk C W s.heap fd.scope (cf.params.zip<|vs++cf.defs.drop (cf.defs.length-(cf.params.length-vs.length))) (ns.zip<|cvs++ds.drop (ds.length-(ns.length-cvs.length))):=by rw[←l3,l1,l2];exact F.par.bind (hv.app<|dv.drop _)
 generalize hbs:cf.params.zip (vs++cf.defs.drop (cf.defs.length-(cf.params.length-vs.length)))=bs at h bind;generalize hbd:ns.zip (cvs++ds.drop (ds.length-(ns.length-cvs.length)))=bd at bind ⊢;rw[F.clo];unfold newFunctionEnv;simp only[Option.isSome_none,ApY,if_false];refine Ao2 (wpAny_alloc ?_);have g:(s.heap.push {cls:=.type "frame",data:=.dict #[]}).get? s.heap.objs.size=some {cls:=.type "frame",data:=.dict #[]}:=Apl _ rfl;have hC:C.h1.get? s.heap.objs.size=none:=by
  cases q:C.h1.get? s.heap.objs.size with
  |none=>rfl |some o=>have:=I.base _ _ q;rw[Ax] at this;cases this
 obtain⟨I1,X1⟩:=I.i9 (o:=.frame []) (s':={s with heap:=s.heap.push {cls:=.type "frame",data:=.dict #[]}}) (p:=(s.heap.objs.size,s.heap.objs.size)) (fl:=[s.heap.objs.size]) (λ_ _ e=>Ao8 _ e) (Ax _) (Ax _)
  (λS=>⟨rfl,_,Heap.Ns.new s.heap (.type "frame"),λx v q=>(by cases q),λnm cv q=>(by cases q)⟩) ⟨_,g,trivial⟩ ⟨_,g,trivial⟩ rfl rfl (λb hb=>by rw[Apu.mp hb];exact⟨hC,_,g,rfl,_,_,rfl⟩)
 have hL:(W.more (s.heap.objs.size,s.heap.objs.size) [s.heap.objs.size]).τ[σ.n]?=some (s.heap.objs.size,s.heap.objs.size):=by show(W.τ++ [_])[σ.n]?=_;rw[←I.nτ];simp
 have hLf:s.heap.objs.size∈(W.more (s.heap.objs.size,s.heap.objs.size) [s.heap.objs.size]).fs:=AqO _ (.head _);refine Ao2 (OE F.Mp I1 .nil h λσ2 W2 s2 c2 cs2 h2 X2 I2 L2 uK=>?_);have e2:P4 C W2 fd.scope ⟨σ.n,c2⟩ {scope:=fd.scope,locals:=s.heap.objs.size,globals:=fd.globals,cells:=cs2,qual:=fd.qualname++".<locals>.",func:=some a,code:=fd.code,frame:=some s.heap.objs.size,builtins:=fd.builtins}:=
  ⟨rfl,F.kind,⟨_,Ah X2.τ hL,rfl⟩,λx j nm hx hn _=>L2.get O hn hx⟩
 refine Ao2 (Apa (Ic (A:=A.in1) O I2 e2 (bind.up I (X1.trans X2)) _ ke h2) (λ_ s3 q=>Ao4 ?_) λ_ _ q=>q.base (X1.trans X2));obtain⟨_,σ3,W3,h3,X3,I3,_⟩:=q;refine⟨NL.keeps I3.base,codeAny_func ?_⟩;have Fg:=(X1.trans X2).trans X3;have ev:A8 C (A.deeper {scope:=fd.scope,locals:=s.heap.objs.size,globals:=fd.globals,cells:=cs2,qual:=fd.qualname++".<locals>.",func:=some a,code:=fd.code,frame:=some s.heap.objs.size,builtins:=fd.builtins}) W3 fd.scope ⟨σ.n,c2⟩
   {scope:=fd.scope,locals:=s.heap.objs.size,globals:=fd.globals,cells:=cs2,qual:=fd.qualname++".<locals>.",func:=some a,code:=fd.code,frame:=some s.heap.objs.size,builtins:=fd.builtins}:=by
  refine⟨rfl,F.kind,F.glob,F.bi,(e2.up X3.τ).fr,(e2.up X3.τ).cells,λnm hk=>?_,?_⟩
  ·rcases hk with hk |hk
   ·exact uK nm (.inr<|F.Mp.has hk)
   ·exact absurd hk (F.fre nm)
  ·obtain⟨l,hl,ha⟩:=ar.up ⟨Fg.τ,Fg.fs⟩;refine⟨_::l,by show A.frames.map _=_;rw[hl];rfl,λe he=>?_,_,.head _,rfl⟩;rcases Apf.mp he with rfl |he
   ·exact⟨by show fd.scope.kind≠ .module;rw[F.kind];decide,_,(X2.trans X3).fs.subset hLf,rfl⟩
   ·exact ha e he
 refine Apa (F.run cl ok _ σ3 W3 s3 ⟨σ.n,c2⟩ _ (f.deeper _) I3 ev _ ke h3) (λfl s4 q=>?_) λx s4 q=>?_
 ·obtain⟨fa,σ4,W4,h4,X4,I4,r4⟩:=q;have rG:=Fg.trans X4;cases r4 with
  |next=>exact⟨.A4,σ4,W4,h4,rG,I4,.A4⟩
  |brk=>cases h4
  |cont=>cases h4
  |ret hv=>exact⟨_,σ4,W4,h4,rG,I4,hv⟩
 ·exact Apa (QN (Er:=AG C ke σ3 W3 s3) q ev) (λ_ _ q=>q.base Fg) λ_ _ q=>q.base Fg
end
section
variable{C:Cx}
structure ClsAt(C:Cx)(Cl i:Apc):Prop where
 kin:∃K:AqI,K.In C.h1∧makesIn K Cl=true∧Ar8 K (.ref Cl) "__init__"=some (some (.ref i))∧typeIn K (.ref i)=some (.type "function")
 fn:KV C i
theorem Lk{b:Bool}(h:Oy r b=true):r= .A4∧b=true:=by
 unfold Oy at h;split at h
 ·exact⟨rfl,h⟩
 ·cases h
abbrev zZ(A:Apg)(Cl:Apc)(cvs:List Ao3):Apg:=A.under (.builtin "type.__call__" ⟨.ref Cl::cvs,[]⟩)
theorem CJ.tc{n:Nat}(f:CJ (n+1) true A)(Cl:Apc)(cvs:List Ao3):CJ n true (zZ A Cl cvs):=by
 refine⟨?_,?_,λe=>f.hand e⟩
 ·have:=f.depth;show A.depth+1+2*n≤980;omega
 ·have:=f.units;show A.units+1+14*n≤9800;omega
theorem AW.tc(h:AW A W)(Cl:Apc)(cvs:List Ao3):AW (zZ A Cl cvs) W:=by obtain⟨l,a,b⟩:=h;refine⟨l,?_,b⟩;show pushEnvs [] A.frames=some l;rw[a];rfl
theorem Xf{n:Nat}{cl:CL}{Cl i:Apc}(K0:ClsAt C Cl i)(ok:Cp C n cl){A:Apg}{W:Wd}{σ:St}{s:Ao5}(f:CJ (n+1) true A)(I:Inv C W σ s)(ar:AW A W)
  {vs:List AV}{cvs:List Ao3}(hv:AM C W s.heap vs cvs){k ke:K AV}(h:cl (.Au<|.ref i) (.obj σ.n::vs) (σ.new<|.inst Cl []) (λr σ'=>Oy r (k (.obj σ.n) σ')) ke=true):
  ApG (model C.prog C.w) A (.call (.ref Cl) ⟨cvs,[]⟩) (Cq C k ke σ W s) s:=by
 obtain⟨⟨K,hK,hm,hi,hf⟩,fo⟩:=K0;obtain⟨hp,g,d,t,os⟩:=s;have X:K.In hp:=hK.keeps I.base;refine make_core (makes_of X hm) (looks_findIn X hi) (λself=>bind_fn X self hf) (.inl rfl) ?_;have gd:((hp.push emptyDict).push<|instObj Cl hp.objs.size).get? hp.objs.size=some emptyDict:=Ao8 _ (Apl _ rfl);have gx:((hp.push emptyDict).push<|instObj Cl hp.objs.size).get? (hp.objs.size+1)=some (instObj Cl hp.objs.size):=by
  have:=Apl (hp.push emptyDict) (o:=instObj Cl hp.objs.size) rfl
  rwa [AqF] at this
 obtain⟨I1,X1⟩:=I.make (o:=.inst Cl []) (s':=⟨(hp.push emptyDict).push<|instObj Cl hp.objs.size,g,d,t,os⟩) (p:=(hp.objs.size+1,hp.objs.size)) (λ_ _ e=>Ao8 _ (Ao8 _ e)) (Ar1<|Nat.le_succ _) (Ax _)
  (λS=>⟨⟨_,gx⟩,#[],0,#[],gd,λe he=>by simp at he,Aqc _,λx v q=>(by cases q),λnm cv q=>(by simp[Aro,findBy] at q)⟩) ⟨_,gx,trivial⟩ ⟨_,gd,trivial⟩ rfl rfl
 refine Arn (ok.code (zZ A Cl cvs) _ _ _ i _ (.ref (hp.objs.size+1)::cvs) _ ke (f.tc Cl cvs) I1 ((ar.up ⟨X1.τ,X1.fs⟩).tc Cl cvs) fo (.cons (.obj (p:=(hp.objs.size+1,hp.objs.size))<|St.Bw I _)<|I.rA X1 hv) h) λr s' q=>?_
 cases r with
 |error e=>exact AG.base X1 q
 |ok fl=>
  cases fl with
  |ret v=>obtain⟨a,σ2,W2,h2,X2,I2,r2⟩:=q;obtain⟨rfl,h2⟩:=Lk h2;cases r2;exact⟨rfl,_,σ2,W2,h2,X1.trans X2,I2,.obj (p:=(hp.objs.size+1,hp.objs.size)) (Ah X2.τ (St.Bw I _))⟩
  |next=>exact q.elim
  |brk=>exact q.elim
  |cont=>exact q.elim
end
section
variable{C:Cx}
structure IY(B:String)(bm:List Ao3):Prop where
 hasB:bm.contains (.type B)=true
 noAttr:bm.contains (.type "AttributeError")=false
 noName:bm.contains (.type "NameError")=false
section
variable{prog:Ap3}{w:Ao7}{A:Apg}{E:Ao3->Ao5->Prop}{R:Aru->Ao5->Prop}{h:Apn}{g:Array GenState}{d:Drawn}{t:Nat}{os:Aqz}
variable{nm q:Str}{Cl N:Apc}{bs bm bmB:List Ao3}{Ot:Bool}{sn:List Str}{sub:List Ao3}{ab:Bool}{col:Option Bool}{dd:Option Apc}{k0 k1 k2 k3 k5:Option Ao3}{B newId QF:String}
theorem Qe(F:ExcBaseFacts B newId QF bmB)(T:IY B bm){M:ArJ}{rest:List Ao3}{Q:Unit->Ao5->Prop}(hC:h.get? Cl=some (excClassObj nm q Cl N bs bm Ot sn sub ab col dd k0 k1 k2 k3 k5 newId))
  (hq:Q () ⟨h,g,d,t,os⟩):Aph M A (checkBuiltinCall newId ⟨.ref Cl::rest,[]⟩) Q E ⟨h,g,d,t,os⟩:=by
 have uW:(Aqu Cl::bm).contains (.type B)=true:=by rw[Ara,T.hasB,Bool.or_true]
 have Ag7:=F.noStar;simp only[checkBuiltinCall,F.newKind,F.newSplit,F.newRow]
 repeat (first |refine ArU hC ?_ |(refine wpAny_isSubtype_exc hC ?_;rw[uW])|refine wpAny_staticBase_exc hC ?_ |refine wpAny_madeBy_exc hC ?_ |simp only[bne_self_eq_false,ApY,if_false] |wp_step)
 exact hq
theorem Afz(F:ExcBaseFacts B newId QF bmB)(T:IY B bm){rest:List Ao3}(hC:h.get? Cl=some (excClassObj nm q Cl N bs bm Ot sn sub ab col dd k0 k1 k2 k3 k5 newId))
  (hq:R (.ok (.ret (.ref (h.objs.size+1)))) ⟨(h.push {cls:=.type "tuple",data:=.seq rest.toArray}).push
   {cls:=.ref Cl,data:=.fields #[.ref h.objs.size,.none,.none,.none,.bool false,.none]},g,d,t,os⟩)(iV:rest.length≤Aq9:=by size_fits):
  ApG (model prog w) A (.builtin newId ⟨.ref Cl::rest,[]⟩) R ⟨h,g,d,t,os⟩:=by
 have AgS:=F.ends;have hcB:(Aqu Cl::bm).contains (.type B)=true:=by rw[Ara,T.hasB,Bool.or_true]
 have hcA:(Aqu Cl::bm).contains (.type "AttributeError")=false:=by rw[Ara,T.noAttr];rfl
 have hcN:(Aqu Cl::bm).contains (.type "NameError")=false:=by rw[Ara,T.noName];rfl
 refine codeAny_builtinAt F.entry ?_;unfold Builtin.«BaseException.__new__»;refine PySem.wpAt_bind ?_;show PySem.wpAt _ _ _ (stack>>=_) _ _ _;refine PySem.wpAt_bind (PySem.wpAt_stack λp below=>PySem.wpAt_of_wpAny ?_)
 wp_walk
 refine PySem.wpAt_of_wpAny ?_;rw[F.owner]
 repeat (first |with_reducible refine wpAny_madeHere_exc F.canon hC ?_ |with_reducible refine ArU hC ?_ |(with_reducible refine wpAny_isSubtype_exc hC ?_;first |rw[hcB] |rw[hcA] |rw[hcN])|wp_step)
 show R _ _;rw[AqF];exact hq
theorem QY(F:ExcBaseFacts B newId QF bmB)(T:IY B bm){rest:List Ao3}{init:Ao3}(hC:h.get? Cl=some (excClassObj nm q Cl N bs bm Ot sn sub ab col dd k0 k1 k2 k3 k5 newId))
  (hi:Aq6 (model prog w) h (typeLookup (.ref Cl) "__init__") (some init))(hb:∀self,Aq6 (model prog w) h (bindSpecial init self) (init,[self]))(iV:rest.length≤Aq9)
  (hq:ApG (model prog w) (zZ A Cl rest) (.call init ⟨.ref (h.objs.size+1)::rest,[]⟩) (InitBack (h.objs.size+1) R) ⟨(h.push {cls:=.type "tuple",data:=.seq rest.toArray}).push
   {cls:=.ref Cl,data:=.fields #[.ref h.objs.size,.none,.none,.none,.bool false,.none]},g,d,t,os⟩):
  ApG (model prog w) A (.call (.ref Cl) ⟨rest,[]⟩) R ⟨h,g,d,t,os⟩:=by
 have f1:=PySem.tc_lookup;have f2:=PySem.tc_bind (.ref Cl);have hT:(⟨h,g,d,t,os⟩:Ao5).TypeIs (.ref Cl) "type":=⟨_,hC,rfl⟩;refine ArL ?_;show Aph _ _ (callAny (.ref Cl) _) _ _ _
 repeat (any_goals (first |assumption |with_reducible refine ArU hC ?_ |wp_step))
 refine⟨rfl,?_⟩;refine codeAny_call_builtin_at (Code.quiet_builtin _ (by decide +kernel)) entry_typeCall (wpAny_check_type_call_sub hC ?_)
 repeat (first |with_reducible refine ArU hC ?_ |with_reducible refine wpAny_madeBy_exc hC ?_ |wp_step)
 refine codeAny_call_builtin_code (Code.quiet_builtin _ F.quiet) (Qe F T hC ?_);refine Afz F T hC ?_ iV;show Aph _ _ _ _ _ _;have up:∀b o,h.get? b=some o->((h.push {cls:=.type "tuple",data:=.seq rest.toArray}).push {cls:=.ref Cl,data:=.fields #[.ref h.objs.size,.none,.none,.none,.bool false,.none]}).get? b=some o:=λb o e=>Ao8 _ (Ao8 _ e)
 have hC₁:=up _ _ hC;have uZ:((h.push {cls:=.type "tuple",data:=.seq rest.toArray}).push
   {cls:=.ref Cl,data:=.fields #[.ref h.objs.size,.none,.none,.none,.bool false,.none]}).get? (h.objs.size+1)=some
   {cls:=.ref Cl,data:=.fields #[.ref h.objs.size,.none,.none,.none,.bool false,.none]}:=by heap_get
 have hcC:(Aqu Cl::bm).contains (.ref Cl)=true:=by simp
 unfold ArY
 repeat (first |with_reducible refine ArU uZ ?_ |(with_reducible refine wpAny_isSubtype_exc hC₁ ?_;rw[hcC])|wp_step)
 refine PySem.wpAny_isSubtype_exc hC₁ ?_;rw[hcC];rw[if_neg (by decide)];unfold callSpecial? specialOf;have t1:Aq6 (model prog w) ((h.push {cls:=.type "tuple",data:=.seq rest.toArray}).push {cls:=.ref Cl,data:=.fields #[.ref h.objs.size,.none,.none,.none,.bool false,.none]}) (typeOf (.ref (h.objs.size+1))) (.ref Cl):=(Looks.ld uZ).andThen .now;have i1:=hi.keeps up;have b1:=(hb (.ref (h.objs.size+1))).keeps up;refine Ao2 (ApA (Ao2 (Ao2 (t1.at (i1.at ?_)))));refine ApA (Ao2 (b1.at ?_));refine Ao2 (wpAny_call (Arn hq λr s' z=>?_));rcases r with e |(v |_ |_ |_)<;>first |exact z |exact z.elim |skip
 obtain⟨rfl,z⟩:=z;exact Ao4 (Ao4 z)
end
structure ExcAt(C:Cx)(Cl i:Apc):Prop where
 cls:HO C Cl
 obj:∃nm q N bs bm Ot sn sub ab col dd k0 k1 k2 k3 k5,C.h1.get? Cl=some (excClassObj nm q Cl N bs bm Ot sn sub ab col dd k0 k1 k2 k3 k5 "Exception.__new__")∧IY "Exception" bm
 kin:∃K:AqI,K.In C.h1∧Ar8 K (.ref Cl) "__init__"=some (some (.ref i))∧typeIn K (.ref i)=some (.type "function")
 fn:KV C i
theorem Xg{n:Nat}{cl:CL}{Cl i:Apc}(K0:ExcAt C Cl i)(ok:Cp C n cl){A:Apg}{W:Wd}{σ:St}{s:Ao5}(f:CJ (n+1) true A)(I:Inv C W σ s)(ar:AW A W)
  {vs:List AV}{cvs:List Ao3}(hl:cvs.length≤4000)(hv:AM C W s.heap vs cvs){k ke:K AV}(h:cl (.Au<|.ref i) (.obj σ.n::vs) (σ.new<|.exc Cl none) (λr σ'=>Oy r (k (.obj σ.n) σ')) ke=true):
  ApG (model C.prog C.w) A (.call (.ref Cl) ⟨cvs,[]⟩) (Cq C k ke σ W s) s:=by
 obtain⟨hx,⟨nm,q,N,bs,bm,Ot,sn,sub,ab,col,dd,k0,k1,k2,k3,k5,ho,T⟩,⟨K,hK,hi,hf⟩,fo⟩:=K0;obtain⟨hp,g,d,t,os⟩:=s;have X:K.In hp:=hK.keeps I.base;refine QY PySem.F.excBase_Exception T (I.base _ _ ho) (looks_findIn X hi) (λself=>bind_fn X self hf) (by rw[ApF];omega) ?_;have gt:((hp.push {cls:=.type "tuple",data:=.seq cvs.toArray}).push {cls:=.ref Cl,data:=.fields #[.ref hp.objs.size,.none,.none,.none,.bool false,.none]}).get? (hp.objs.size+1)=some {cls:=.ref Cl,data:=.fields #[.ref hp.objs.size,.none,.none,.none,.bool false,.none]}:=by
  have:=Apl (hp.push {cls:=.type "tuple",data:=.seq cvs.toArray}) (o:={cls:=.ref Cl,data:=.fields #[.ref hp.objs.size,.none,.none,.none,.bool false,.none]}) rfl
  rwa [AqF] at this
 obtain⟨I1,X1⟩:=I.make (o:=.exc Cl none) (s':=⟨(hp.push {cls:=.type "tuple",data:=.seq cvs.toArray}).push {cls:=.ref Cl,data:=.fields #[.ref hp.objs.size,.none,.none,.none,.bool false,.none]},g,d,t,os⟩) (p:=(hp.objs.size+1,hp.objs.size+1)) (λ_ _ e=>Ao8 _ (Ao8 _ e)) (Ar1 (Nat.le_succ _)) (Ar1 (Nat.le_succ _))
  (λS=>⟨rfl,hx,none,_,_,rfl,gt,rfl⟩) ⟨_,gt,trivial⟩ ⟨_,gt,trivial⟩ rfl rfl
 refine Arn (ok.code (zZ A Cl cvs) _ _ _ i _ (.ref (hp.objs.size+1)::cvs) _ ke (f.tc Cl cvs) I1 ((ar.up ⟨X1.τ,X1.fs⟩).tc Cl cvs) fo (.cons (.obj (p:=(hp.objs.size+1,hp.objs.size+1))<|St.Bw I _)<|I.rA X1 hv) h) λr s' q=>?_
 cases r with
 |error e=>exact AG.base X1 q
 |ok fl=>
  cases fl with
  |ret v=>obtain⟨a,σ2,W2,h2,X2,I2,r2⟩:=q;obtain⟨rfl,h2⟩:=Lk h2;cases r2;exact⟨rfl,_,σ2,W2,h2,X1.trans X2,I2,.obj (p:=(hp.objs.size+1,hp.objs.size+1)) (Ah X2.τ (St.Bw I _))⟩
  |next=>exact q.elim
  |brk=>exact q.elim
  |cont=>exact q.elim
end
section
variable{C:Cx}
def NF(C:Cx):Prop:=∀(A:Apg) (σ:St) (W:Wd) (s:Ao5) (v:AV) (cv:Ao3),A.handled=none->Inv C W σ s->VR C W s.heap v cv->Sp C A σ W s (call (.builtin "sorted") [cv]) (λk _=>YN v σ k) (RV C)
def FN(C:Cx)(T:Tab)(n:Nat):Prop:=∀(A:Apg) (σ:St) (W:Wd) (s:Ao5) (a:Apc) (vs:List AV) (cvs:List Ao3) (k ke:K AV),CJ n true A->Inv C W σ s->AW A W->AM C W s.heap vs cvs->T.sum a vs σ k=some true->
 ApG (model C.prog C.w) A (.call (.ref a) ⟨cvs,[]⟩) (Cq C k ke σ W s) s
def Kept(C:Cx)(a:Apc):Prop:=∃K:AqI,K.In C.h1∧keepIn K (.ref a)=true
theorem Kept.nC(h:Kept C a):Gm C (.ref a):=λM hp B=>by obtain⟨K,hK,e⟩:=h;obtain⟨k,hk,l⟩:=looks_keep (M:=M) e (hK.keeps B);exact⟨k,hk.elim .inl (λq=>.inr (.inl q)),l⟩
structure Gl(C:Cx)(T:Tab)(fn:Nat->Option CF)(lo:Nat):Prop where
 fns:∀a cf,fn a=some cf->∀n,lo≤n->Mb C T n cf a
 cls:∀a i,T.init a=some i->T.isExc a=false->ClsAt C a i
 exc:∀a i,T.init a=some i->T.isExc a=true->ExcAt C a i
 kf:∀a cf,fn a=some cf->Kept C a
 ki:∀a i,T.init a=some i->Kept C a
 ks:∀a vs σ k r,T.sum a vs σ k=some r->Kept C a
 lim:C.h1.NoLimit
section
variable{A:Apg}{σ:St}{W:Wd}{s:Ao5}{T:Tab}{n:Nat}{cl:CL}{fn:Nat->Option CF}{lo:Nat}
theorem NW(O:Ok C)(CT:Gl C T fn lo)(Sm:lo≤n)(SU:FN C T (n+1))(ok:Cp C n cl)(f:CJ (n+1) true A)(I:Inv C W σ s)(ar:AW A W)(hv:AM C W s.heap vs cvs){k:K AV}(h:R1 T fn cl a vs σ k ke=true):
  ApG (model C.prog C.w) A (.call (.ref a) ⟨cvs,[]⟩) (Cq C k ke σ W s) s:=by
 unfold R1 at h;split at h
 ·rename_i r q;subst h;exact SU A σ W s a vs cvs k ke f I ar hv q
 ·split at h
  ·rename_i cf q;split at h
   ·rename_i bs qb;exact K3 O CT.lim (CT.fns a cf q n Sm) ok f I ar hv qb h
   ·cases h
  ·unfold Xe at h;split at h
   ·rename_i i q;obtain⟨hf,h⟩:=Ac h;have hl:cvs.length≤4000:=by rw[hv.length];exact A5 hf
    cases e:T.isExc a with
    |true=>rw[e] at h;exact Xg (CT.exc a i q e) ok f I ar hl hv h
    |false=>rw[e] at h;exact Xf (CT.cls a i q e) ok f I ar hv h
   ·cases h
theorem Tx(SH:NF C)(hh:A.handled=none)(I:Inv C W σ s){f:String}(hv:AM C W s.heap vs cvs):Sp C A σ W s (call (.builtin f) cvs) (λk _=>Qb f vs σ k) (RV C):=λk ke h=>by
 unfold Qb at h;split at h
 ·cases hv with
  |cons a r=>cases r;exact Sp.len I a k ke h
 ·cases hv with
  |cons a r=>cases r with
   |cons b r=>cases r;cases b;exact Sp.oZ I a k ke h
 ·cases hv with
  |cons a r=>cases r;exact SH A σ W s _ _ hh I a k ke h
 ·cases hv with
  |cons a r=>cases r with
   |cons b r=>
    cases r;obtain⟨x,y,i,j,t,u,σ1,n1,rfl,rfl,hx,hy,h⟩:=Ke I a b h;obtain⟨σ2,n2,h⟩:=EX n1.1 (Ap.Ea hx hy) h;refine max_two_ints hh λh' tk hk=>?_
    have N:=n1.trans n2;obtain⟨J,Y⟩:=N.1.grow (s':={s with heap:=h',toks:=tk}) hk rfl rfl;by_cases q:j>i
    ·rw[if_pos q];rw[show decide (i-j<0)=true from decide_eq_true (by omega)] at h;exact⟨_,σ2,W,h,N.ext.trans Y,J,.int hy⟩
    ·rw[if_neg q];rw[show decide (i-j<0)=false from decide_eq_false (by omega)] at h;exact⟨_,σ2,W,h,N.ext.trans Y,J,.int hx⟩
 ·cases h
theorem Tz(I:Inv C W σ s){f:String}(hv:AM C W s.heap vs cvs):Sp C A σ W s (call (.type f) cvs) (λk _=>Qc f vs σ k) (RV C):=λk ke h=>by
 unfold Qc at h;split at h
 ·cases hv with
  |cons a r=>cases r;exact Sp.tuple I a k ke h
 ·cases hv with
  |cons a r=>cases r;exact Sp.list I a k ke h
 ·exact Sp.range I hv k ke h
 ·cases hv with
  |cons a r=>cases r;exact Sp.enum I a k ke h
 ·cases hv with
  |cons a r=>cases r with
   |cons b r=>cases r;exact Sp.zip I a b k ke h
 ·cases h
theorem NV(O:Ok C)(CT:Gl C T fn lo)(Sm:lo≤n)(SH:NF C)(SU:FN C T (n+1))(ok:Cp C n cl):Cp C (n+1) (RZ T fn cl):=by
 refine⟨λf vs σ k ke h=>?_,λA σ W s f vs cf cvs ft I ar hf hv k ke h=>?_,λA σ W s a vs cvs k ke ft I ar _ hv h=>NW O CT Sm SU ok ft I ar hv h⟩
 ·unfold RZ at h;split at h
  ·rename_i v;refine⟨v,rfl,?_⟩;split at h
   ·rename_i a;unfold R1 at h;split at h
    ·exact(CT.ks _ _ _ _ _ (by assumption)).nC
    ·split at h
     ·exact(CT.kf _ _ (by assumption)).nC
     ·unfold Xe at h;split at h
      ·exact(CT.ki _ _ (by assumption)).nC
      ·cases h
   ·exact BP _
   ·exact UZ _
   ·cases h
  ·cases h
 ·unfold RZ at h;split at h
  ·cases hf;split at h
   ·exact Cq.sp (NW O CT Sm SU ok ft I ar hv h)
   ·exact Tx SH (ft.hand rfl) I hv k ke h
   ·exact Tz I hv k ke h
   ·cases h
  ·cases h
theorem nG(O:Ok C)(CT:Gl C T fn 0)(SH:NF C)(SU:∀n,FN C T n):∀n,Cp C n (Qf T fn n)
 |0=>⟨λf vs σ k ke h=>(by cases h),λA σ W s f vs cf cvs ft I ar hf hv k ke h=>(by cases h),λA σ W s a vs cvs k ke ft I ar _ hv h=>(by cases h)⟩ |n+1=>NV O CT (ArB _) SH (SU (n+1)) (nG O CT SH SU n)
end
end
section
variable{prog:Ap3}{w:Ao7}{K:Type}[DecidableEq K]{knd:KeyKind prog w K}{A:Apg}{E:Ao3->Ao5->Prop}{s:Ao5}
def UI(knd:KeyKind prog w K)(Ci:List (K×Ao3))(i:Nat)(v:Ao3):Prop:=∃k x,Ci[i]?=some (k,x)∧knd.is k v=true
theorem Ms{d:Apc}{Ci:List (K×Ao3)}{ep:Nat}{Q:List Ao3->Ao5->Prop}(hh:A.handled=none)(hd:(d==ArX)=false)(hm:s.heap.DictAt knd d Ci ep)(hn:Ci.length≤15)
  (hQ:∀s' acc,(∀b o,s.heap.get? b=some o->s'.heap.get? b=some o)->s'.gens=s.gens->s'.os=s.os->ItemsOf (UI knd Ci) acc Ci.length->Q acc.toList s'):Aph (model prog w) A (collect<|.ref d) Q E s:=by
 unfold collect;refine Ao2 (wpAny_runValue (Aq2 PySem.F.entry_proto_collect ?_));rw[Aqi PySem.F.plain_proto_collect _];show Aph _ A.in1 (PySem.newList []>>=λl=>again (.builtin "list.__iadd__" ⟨[l,.ref d],[]⟩)) _ _ s;refine Ao2 (ApR ?_);refine Ao4 ⟨Arq PySem.F.plain_list_iadd _,Aq2 PySem.F.entry_list_iadd ?_⟩;rw[Aqi PySem.F.plain_list_iadd _];have hm₁:(s.heap.push {cls:=.type "list",data:=.seq ([]:List Ao3).toArray}).DictAt knd d Ci ep:=hm.at' λo e=>Ao8 _ e
 have P0:d<s.heap.objs.size:=by obtain⟨o,es,ho,_⟩:=hm;exact Aqe ho
 show Aph _ A.in1 (Builtin.List.listExtendWith (.ref s.heap.objs.size) (.ref d) (.ref s.heap.objs.size)) _ _ _;unfold Builtin.List.listExtendWith;have hT:=hm₁.dictOf.typeIs (s:={s with heap:=s.heap.push {cls:=.type "list",data:=.seq ([]:List Ao3).toArray}});refine Ao2 (wpAny_typeOf hT ?_);have h1:Builtin.List.listSameRef (.ref s.heap.objs.size) (.ref d)=false:=by simp[Builtin.List.listSameRef,AqV P0]
 rw[if_neg (by rw[h1];decide)];refine Ao2 (wpAny_pyIter_dict hd hm₁ ?_);refine Ao2 (ApA ?_);unfold Builtin.List.listLengthHint;have hT2:Shared.TypeIs {s with heap:=(s.heap.push {cls:=.type "list",data:=.seq ([]:List Ao3).toArray}).push {cls:=.type "dict_keyiterator",data:=.fields #[.ref d,.int 0 0,.int Ci.length 0,.int ep 0]}} (.ref d) "dict":=by obtain⟨o,ho,hc⟩:=hT;exact⟨o,Ao8 _ ho,hc⟩
 refine Ao2 (wpAny_specialOf hT2 PySem.F.slot_dict_len.lookup ?_);dsimp only;rw[show splitId "dict.__len__"=some ("dict","__len__") from by decide +kernel];dsimp only;refine Ao2 (wpAny_isInstance (b:=true) hT2 (by rw[isSubtype_type];kernel_rfl) ?_);rw[if_neg (by decide)];rw[if_pos (by decide +kernel)];refine Ao2 (wpAny_typeOf hT2 ?_);refine Ao4 ?_;rw[if_pos (by decide +kernel)];have hz:(s.heap.push {cls:=.type "list",data:=.seq ([]:List Ao3).toArray}).objs.size=s.heap.objs.size+1:=AqF ..;rw[hz];refine Ao2 (AqR (Ao2 ?_));generalize hH:(s.heap.push {cls:=.type "list",data:=.seq ([]:List Ao3).toArray}).push {cls:=.type "dict_keyiterator",data:=.fields #[.ref d,.int 0 0,.int Ci.length 0,.int ep 0]}=H;have hS:H.get? s.heap.objs.size=some {cls:=.type "list",data:=.seq ([]:List Ao3).toArray}:=by rw[←hH];exact Ao8 _ (Apl _ rfl)
 have hI:H.get? (s.heap.objs.size+1)=some {cls:=.type "dict_keyiterator",data:=.fields #[.ref d,.int 0 0,.int Ci.length 0,.int ep 0]}:=by rw[←hH,←hz];exact Apl _ rfl
 have hD:H.DictAt knd d Ci ep:=by rw[←hH];exact hm₁.at' λo e=>Ao8 _ e
 have old:∀b o,s.heap.get? b=some o->H.get? b=some o:=λb o e=>by rw[←hH];exact Ao8 _ (Ao8 _ e)
 show Aph _ A.in1 (updateSeq s.heap.objs.size (·.push .none)>>=λ_=>updateSeq s.heap.objs.size (·.pop)) _ _ {s with heap:=H};refine Ao2<|wpAny_updateSeq hS rfl ?_;have hS₂:=Apm (Aqq (·.push Aqp)) hS rfl;refine wpAny_updateSeq hS₂ rfl ?_;have hS₃:=Apm (Aqq (·.pop)) hS₂ rfl;have oth:∀b o,b≠s.heap.objs.size->H.get? b=some o->((H.update s.heap.objs.size (Aqq (·.push Aqp))).update s.heap.objs.size (Aqq (·.pop))).get? b=some o:=
  λb o hb e=>(Apw _ _<|ArQ hb).trans ((Apw _ _<|ArQ hb).trans e)
 have W:=(Walks.dictKeys (prog:=prog) (w:=w) (knd:=knd) (A:=A.in1) hh (s.heap.objs.size+1) d (AqU<|ArT P0) Ci ep).toS;refine Ao4 ⟨Arq PySem.F.plain_extend_loop _,codeAny_extend_loopS W (by rw[ApF];omega) s.heap.objs.size (by simp;exact AqV P0) _ Ci.length 0 _ _ _ rfl (ArB _) ⟨⟨_,oth _ _ (Nat.succ_ne_self _) hI,rfl,rfl⟩,hD.at' λo e=>oth _ _ (AqU P0) e⟩ hS₃ (ItemsOf.nil _) λs' AdB c' hm hS' Aep=>?_⟩;show Aph _ A (load s.heap.objs.size>>=_) _ _ s';refine Ao2<|wpAny_load hS' ?_;refine Ao4<|hQ s' AdB (λb o e=>?_) hm.gens hm.os Aep;have lt:=Aqe e;exact hm.heap b o (by simp;exact⟨AqU lt,AqU<|ArT lt⟩) (oth _ _ (AqU lt)<|old _ _ e)
theorem Rz{a:Apc}{vs:List Ao3}{n:Nat}{P:Fin->Ao5->Prop}(ho:s.heap.get? a=some (seqObj "list" vs.toArray n))(h2:vs.length<2)
  (h:P (.done<|.ret .none) {s with heap:=sortedHeap s.heap a vs vs.toArray}):Aph (model prog w) A (Builtin.«list.sort» ⟨[.ref a],[]⟩) P E s:=by
 rw[list_sort_plain];have ha:a<s.heap.objs.size:=Aqe ho;refine Ao2 (listItems_at ho rfl ?_);refine Ao2 (listUpdate_at ho rfl ?_ (by simp[ApF];omega));obtain⟨e1,ho1⟩:∃e1,(s.heap.update a (Aqq λ_=> #[])).get? a=some (seqObj "list" #[] e1):=⟨_,get?_update_seq ho (λ_=> #[])⟩;refine Ao2 (seqEpoch_at ho1 rfl ?_);refine Ao2 (wpAny_newTuple ?_ (by simp[ApF];omega));refine Ao2 (wpAny_newList ?_);refine ApA ?_;have ho6:(((s.heap.update a (Aqq λ_=> #[])).push (seqObj "tuple" vs.toArray 0)).push (seqObj "list" #[] 0)).get? a=some (seqObj "list" #[] e1):=by rw[Heap.get?_push_ne _ _ _ (by rw[size_push',Heap.size_update];exact AqU (ArT ha)),Heap.get?_push_ne _ _ _ (by rw[Heap.size_update];exact AqU ha)];exact ho1
 show Aph (model prog w) A _ P E {s with heap:=((s.heap.update a (Aqq λ_=> #[])).push (seqObj "tuple" vs.toArray 0)).push (seqObj "list" #[] 0)};dsimp only;have Gb:vs.toArray.size=vs.length:=by simp
 rw[if_pos (by omega),if_pos (by omega)];refine Ao2<|Ao4 ?_;rw[StateT.run_pure];refine Ao2<|Ao4 ?_;dsimp only;refine Ao2<|seqEpoch_at ho6 rfl ?_;have out:(arrOf<|SortSt.mk' general' (vs.toArray.zip vs.toArray) #[] 7 none).map (·.2)=vs.toArray:=by show(vs.toArray.zip vs.toArray).map (·.2)=vs.toArray;simp;exact List.map_snd_zip (Aqc _)
 refine Ao2<|listUpdate_at ho6 rfl ?_ (hsz2:=by rw[out,Gb,ApF];omega);simp only[bne_self_eq_false,ApY,if_false];refine Ao4 ?_;rw[out];exact h
theorem Nd{d:Apc}{Ci:List (K×Ao3)}{ep:Nat}{Q:Ao3->Ao5->Prop}(hh:A.handled=none)(hd:(d==ArX)=false)(hm:s.heap.DictAt knd d Ci ep)(hn:Ci.length<2)
  (hQ:∀s' vs L,s.heap.get? L=none->(∀b o,s.heap.get? b=some o->s'.heap.get? b=some o)->s'.gens=s.gens->s'.os=s.os->ItemsOf (UI knd Ci) (List.toArray vs) Ci.length->(∃n,s'.heap.get? L=some (seqObj "list" vs.toArray n))->Q (.ref L) s'):
  Aph (model prog w) A (call (.builtin "sorted") [.ref d]) Q E s:=by
 refine Calls.call_function_entry kind_sorted plain_sorted entry_sorted (args_sorted1 _) ?_;unfold Builtin.«sorted»;refine Ao2 (m:=checkCount "sorted" 1 1 _) (Ao4 ?_);refine Ao2 (Ms hh hd hm (by omega) λs1 acc hk hg Hb hit=>?_);have hl:acc.toList.length<2:=by have:=hit.1;simp;omega
 refine Ao2 (wpAny_newList ?_ (by rw[ApF];omega));have hoL:(s1.heap.push (seqObj "list" acc.toList.toArray 0)).get? s1.heap.objs.size=some (seqObj "list" acc.toList.toArray 0):=Apl _ rfl;refine Ao2 (ApA (Aqm slot_list_sort ⟨_,hoL,rfl⟩ entry_list_sort (Rz hoL hl ⟨_,rfl,?_⟩) (args_list_sort _)));refine Ao4 ⟨_,rfl,hQ _ acc.toList s1.heap.objs.size ?_ (λb o e=>?_) hg Hb (by simpa using hit) ?_⟩
 ·cases q:s.heap.get? s1.heap.objs.size with
  |none=>rfl |some o=>have:=Aqe (hk _ _ q);exact absurd this (Nat.lt_irrefl _)
 ·have lt:=Aqe (hk _ _ e);unfold sortedHeap;rw[Apw _ _ (AqV lt)];refine Ao8 _<|Ao8 _ ?_;rw[Apw _ _ (AqV lt)];exact Ao8 _ (hk _ _ e)
 ·unfold sortedHeap;have g1:=get?_update_seq hoL (λ_=>(#[]:Array Ao3));have g2:=Ao8 (seqObj "list" #[] 0) (Ao8 (seqObj "tuple" acc.toList.toArray 0) g1);exact⟨_,get?_update_seq g2 λ_=>acc.toList.toArray⟩
end
section
variable{C:Cx}
theorem S6(hs:∃o,C.h1.get? ArX=some o):NF C:=λA σ W s v cv hh I hv k ke h=>by
 unfold YN at h;split at h
 ·split at h
  ·rename_i j l oj;split at h
   ·rename_i m hm;obtain⟨f,h⟩:=Ac h;cases hv with
    | @obj i p hj=>
     obtain⟨p',BK,ep,Ci,⟨o,es,Z0,ho,hc,hd,hk,hp,hn⟩,hkv⟩:=I.obj _ _ oj;rw[hj] at BK;cases BK;have lk:=hkv.length;have short:l.length<2∧∀(W':Wd) (h':Apn) (vs:List Ao3),ItemsOf (UI (Bt C.prog C.w) Ci) (List.toArray vs) Ci.length->AM C W' h' m vs:=by
      unfold PJ at hm;split at hm
      ·rename_i e;cases hm;cases l with
       |nil=>
        refine⟨by simp,λW' h' vs hi=>?_⟩;have:vs.length=0:=by have:=hi.1;simp at this;rw[this,lk];rfl
        rw[ArC this];exact .nil
       |cons a r=>obtain⟨a,b⟩:=a;cases e
      ·rename_i a e;cases hm;cases l with
       |nil=>cases e
       |cons q r=>
        obtain⟨qa,qb⟩:=q;cases r with
        |cons q2 r2=>obtain⟨q2a,q2b⟩:=q2;cases e
        |nil=>
         refine⟨by simp,λW' h' vs hi=>?_⟩;have e:qa= .str a:=by simpa [keysOf] using e
         subst e;cases hkv with
         |cons hK hV hr=>
          cases hr;cases hK with
          |str hx=>
           have:vs.length=1:=by have:=hi.1;simpa using this
           match vs,this with
           | [v],_=>
            obtain⟨k0,x0,e0,e1⟩:=hi.2 0 v (by simp);have e0:=Apr e0;cases e0;dsimp only[Bt] at e1;rcases BQ e1 with⟨y,t,e,rfl⟩|⟨i,t,e,rfl⟩
            ·cases e;exact .cons (.str hx) .nil
            ·cases e
      ·cases hm
     obtain⟨lt,mk⟩:=short;refine Nd (knd:=Bt C.prog C.w) hh (I.RP hj hs) ⟨o,es,ho,hc,hd,hk,hp,hn⟩ (by rw[lk];exact lt) λs' vs L hL hkp hg Hb hi ⟨n,hn⟩=>?_
     obtain⟨J,Y⟩:=I.make (o:=.list none m none) (s':=s') (p:=(L,L)) hkp hL hL
      (λS=>⟨rfl,vs,mk _ _ vs hi,by simp only[Aq,ApC,Apj];exact⟨_,hn,rfl,_,rfl⟩,trivial,trivial,_,hn,rfl,rfl⟩) ⟨_,hn,trivial⟩ ⟨_,hn,trivial⟩ hg Hb
     exact⟨_,_,_,h,Y,J,.obj<|St.Bw I _⟩
   ·cases h
  ·cases h
 ·cases h
end
def nR(l:List Nat):List Nat->Bool:=LR (λm=>LC true (λ_ _=>false) m) (λa _ ih m=>LC false (λb r=>bt (Ao9 a b) (ih r) false) m) l
theorem N9:∀{l m:List Nat},nR l m=true↔l=m
 | [],[]=>⟨λ_=>rfl,λ_=>rfl⟩ | [],_::_=>⟨λh=>(nomatch h),λh=>(nomatch h)⟩ |_::_,[]=>⟨λh=>(nomatch h),λh=>(nomatch h)⟩
 |a::l,b::m=>by
  show bt (Ao9 a b) (nR l m) false=true↔_;cases q:Ao9 a b with
  |true=>rw[Ao6 q];exact N9.trans ⟨λh=>by rw[h],λh=>(List.cons.inj h).2⟩
  |false=>exact⟨λh=>(nomatch h),λh=>absurd (List.cons.inj h).1 (Nat.ne_of_beq_eq_false q)⟩
def F9(a b:Str):Bool:=nR a.cps.toList b.cps.toList
theorem Gy:F9 a b=true↔a=b:=N9.trans ⟨λh=>by cases a;cases b;exact congrArg Str.mk<|Array.ext' h,λh=>by rw[h]⟩
theorem Jq(a b:Str):(a==b)=F9 a b:=AqA.mpr (beq_iff_eq.trans Gy.symm)
def lkS{α:Type}(l:List (Str×α))(s:Str):Option α:=LR none (λp _ ih=>bt (F9 s p.1) (some p.2) ih) l
theorem QO{α:Type}:∀{l:List (Str×α)},lkS l s=l.lookup s
 | []=>rfl |p::l=>by show bt (F9 s p.1) (some p.2) (lkS l s)=_;rw[Apy,←Jq,QO];cases s==p.1<;>rfl
structure KS where
 nm:List Str
 gl:List (Str×AV)
def JM(A:KS)(x:Nm)(s:Str):Bool:=match Bs A.nm x with |some t=>F9 t s |none=>false
def VS(f:AV->AV->Bool):List AV->List AV->Bool
 | [],[]=>true |a::l,b::m=>f a b&&VS f l m |_,_=>false
def Z3:Nat->AV->AV->Bool
 |0,_,_=>false
 |n+1,a,b=>match a,b with
  | .A4,.A4=>true | .bool x,.bool y=>x==y | .int ⟨x,[]⟩,.int ⟨y,[]⟩=>x==y | .str x,.str y=>x==y | .B4 x,.B4 y=>x==y | .Ak x,.Ak y=>VS (Z3 n) x y | .Au (.ref x),.Au (.ref y)=>x==y | .Au (.builtin x),.Au (.builtin y)=>x==y | .Au (.type x),.Au (.type y)=>x==y |_,_=>false
theorem N7{f:AV->AV->Bool}(h:∀a b,f a b=true->a=b):∀{l m:List AV},VS f l m=true->l=m
 | [],[],_=>rfl |a::l,b::m,q=>by obtain⟨q1,q2⟩:=ApI.mp q;rw[h a b q1,N7 h q2]
 | [],_::_,q=>by cases q
 |_::_,[],q=>by cases q
theorem R6:∀{n:Nat} {a b:AV},Z3 n a b=true->a=b
 |0,_,_,h=>by cases h
 |n+1,a,b,h=>by
  unfold Z3 at h;split at h
  ·rfl
  ·rw[beq_iff_eq.mp h]
  ·rw[beq_iff_eq.mp h]
  ·rw[beq_iff_eq.mp h]
  ·rw[beq_iff_eq.mp h]
  ·rw[N7 (λa b q=>R6 q) h]
  ·rw[beq_iff_eq.mp h]
  ·rw[beq_iff_eq.mp h]
  ·rw[beq_iff_eq.mp h]
  ·cases h
def Ez(sc:ApH)(s:Str)(k:Aqw):Bool:=match lkS sc.names s with |some j=>j==k |none=>false
def JO(s:Str):Bool:= !(F9 s ("__debug__":Str))
def Sj(A:KS)(s:Str)(v:AV):Bool:=match lkS A.gl s with |some w=>Z3 20 w v |none=>false
def HP{α β:Type}(f:α->β->Bool):List α->List β->Bool
 | [],[]=>true |a::l,b::m=>f a b&&HP f l m |_,_=>false
def Nc{α β:Type}(f:α->β->Bool):List α->List (Option β)->Bool
 | [],[]=>true |a::l,some b::m=>f a b&&Nc f l m |_,_=>false
def bO:CE->Bool
 | .not _=>true | .DY .. =>true | .Oz .. =>true | .K4 .. =>true |_=>false
def NM(f:CE->Expr->Bool)(e:CE)(ex:Expr):Bool:= !isStar ex&&f e ex
def sQ(f:CE->Expr->Bool)(e:CE)(o:Option Expr):Bool:=match o with
 |none=>(match e with | .A4=>true |_=>false) |some ex=>f e ex
def mW:CT->Expr->Bool
 | .Ak _,.Tuple .. =>true | .l _,.Name .. =>true | .Mp _,.Name .. =>true | .attr ..,.Attribute .. =>true | .sub ..,.Subscript .. =>true |_,_=>false
mutual
def CD(A:KS):Nat->Bool->ApH->CE->Expr->Bool
 |0,_,_,_,_=>false
 |n+1,b,sc,e,ex=>match e,ex with
  | .A4,.Constant .none _ _=>true | .tru c,.Constant (.bool d) _ _=>c==d | .int i,.Constant (.int j) _ _=>i==j | .str x,.Constant (.str s) _ _=>JM A x s | .B4 l,.Constant (.bytes m) _ _=>l==m | .l x,.Name s _=>JM A x s&&(Ez sc s .local&&JO s) | .Mp x,.Name s _=>JM A x s&&((Ez sc s .cell||Ez sc s .free)&&(!(s==("__classdict__":Str))&&JO s)) | .iL _ v,.Name s _=>Ez sc s .globalImplicit&&(JO s&&Sj A s v) | .DY op l,.BoolOp yL es _=>op==yL&&HP (NM (CD A n b sc)) l es | .bin op x y,.BinOp ex yL ey _=>op==yL&&(CD A n b sc x ex&&CD A n b sc y ey) | .not x,.UnaryOp .Not ex _=>CD A n b sc x ex | .neg x,.UnaryOp .USub ex _=>CD A n b sc x ex | .Oz t x y,.IfExp et ex ey _=>P8 A n b sc t et&&(CD A n b sc x ex&&CD A n b sc y ey) | .dict ks vs,.Dict es ws _=>Nc (CD A n b sc) ks es&&HP (CD A n b sc) vs ws&&ks.length==vs.length | .list l,.List es _=>HP (NM (CD A n b sc)) l es | .Ak l,.Tuple es _ _=>HP (NM (CD A n b sc)) l es | .comp elt t it ifs,.ListComp CB [⟨et,ei,eifs,0⟩] scope _=>b&&(Cc scope sc&&(mW t et&&(C4 ei&&(CD A n true sc it ei&&(Uw A n true (C5 scope sc) t et&&(HP (P8 A n true (C5 scope sc)) ifs eifs&&CD A n true (C5 scope sc) elt CB))))))
  | .NX elt t it t2 o4,.ListComp CB [⟨et,ei,[],0⟩,⟨et2,ei2,[],0⟩] scope _=>b&&(Cc scope sc&&(mW t et&&(C4 ei&&(CD A n true sc it ei&&(Uw A n true (C5 scope sc) t et&&
    (mW t2 et2&&(C4 ei2&&(CD A n true (C5 scope sc) o4 ei2&&(Uw A n true (C5 scope sc) t2 et2&&CD A n true (C5 scope sc) elt CB)))))))))
  | .K4 x ops bs,.Compare ex pP es _=>ops==pP&&(CD A n b sc x ex&&(HP (NM (CD A n b sc)) bs es&&(Di ops es&&ops.length==bs.length))) | .call f args,.Call ef es [] _=>b&&(notAttr ef&&(CD A n b sc f ef&&HP (NM (CD A n b sc)) args es)) | .FI o x args,.Call (.Attribute eo s apos) es [] pos=>b&&(JM A x s&&(GS eo&&(CD A n b sc o eo&&(HP (NM (CD A n b sc)) args es&&(Aq0 es.length 30&&apos.endLine==pos.line))))) | .attr o x,.Attribute eo s _=>JM A x s&&(GS eo&&CD A n b sc o eo) | .sub o i,.Subscript eo ei _=>G1 ei&&(CD A n b sc o eo&&CD A n b sc i ei) | .zQ o x y z,.Subscript eo (.Slice lo hi st _) _=>CD A n b sc o eo&&(sQ (CD A n b sc) x lo&&(sQ (CD A n b sc) y hi&&sQ (CD A n b sc) z st)) | .mark _ x,ex=>CD A n b sc x ex | .VE ..,_=>true |_,_=>false
def P8(A:KS):Nat->Bool->ApH->CE->Expr->Bool
 |0,_,_,_,_=>false
 |n+1,b,sc,e,ex=>match e,ex with
  | .not x,.UnaryOp .Not ex _=>P8 A n b sc x ex | .DY op l,.BoolOp yL es _=>op==yL&&HP (P8 A n b sc) l es | .Oz t x y,.IfExp et ex ey _=>P8 A n b sc t et&&(P8 A n b sc x ex&&P8 A n b sc y ey) | .K4 x ops bs,.Compare ex pP es _=>ops==pP&&(CD A n b sc x ex&&(HP (NM (CD A n b sc)) bs es&&(Di ops es&&ops.length==bs.length))) |e,ex=> !bO e&&(HH ex&&CD A n b sc e ex)
def Uw(A:KS):Nat->Bool->ApH->CT->Expr->Bool
 |0,_,_,_,_=>false
 |n+1,b,sc,t,ex=>match t,ex with
  | .l x,.Name s _=>JM A x s&&Ez sc s .local | .Mp x,.Name s _=>JM A x s&&Ez sc s .cell | .attr o x,.Attribute eo s _=>JM A x s&&CD A n b sc o eo | .sub o i,.Subscript eo ei _=>CD A n b sc o eo&&CD A n b sc i ei | .Ak l,.Tuple es _ _=>b&&HP (λt e=> !isStar e&&Uw A n b sc t e) l es |_,_=>false
end
section
variable{C:Cx}
structure Ih(C:Cx)(A:KS):Prop where
 nm:A.nm=C.nm
 gl:∀s w,A.gl.lookup s=some w->Tj C s w
section
variable{A:KS}{X:CX}{m:Nat}
theorem Dg(K:Ih C A)(h:JM A x s=true):C.nm[x]?=some s:=by
 unfold JM at h;rw[AA,K.nm] at h;split at h
 ·rename_i t q;rw[q,Gy.mp h]
 ·cases h
theorem CC{k:Aqw}(h:Ez sc s k=true):sc.names.lookup s=some k:=by
 unfold Ez at h;rw[QO] at h;split at h
 ·rename_i j q;rw[q,beq_iff_eq.mp h]
 ·cases h
theorem HC(h:JO s=true):(s==("__debug__":Str))=false:=by unfold JO at h;rw[Jq];simpa using h
theorem Oj(K:Ih C A)(h:Sj A s v=true):Tj C s v:=by
 unfold Sj at h;rw[QO] at h;split at h
 ·rename_i w q;rw[←R6 h];exact K.gl _ _ q
 ·cases h
theorem DC{n:Nat}{b:Bool}(ih:∀e ex,CD A n b sc e ex=true->SE C X m b sc (cE n e) ex):∀{l:List CE} {es:List Expr},HP (NM<|CD A n b sc) l es=true->Nw C X m b sc (Ba (cE n) l) es
 | [],[],_=>.nil |e::l,ex::es,h=>by obtain⟨h1,h2⟩:=ApI.mp h;obtain⟨s1,s2⟩:=ApI.mp h1;exact .cons (ih e ex s2) (by simpa using s1) (DC ih h2)
 | [],_::_,h=>by cases h
 |_::_,[],h=>by cases h
theorem Iw{n:Nat}{b:Bool}(ih:∀e ex,P8 A n b sc e ex=true->SB C X m b sc (cB n e) ex):∀{l:List CE} {es:List Expr},HP (P8 A n b sc) l es=true->Zl C X m b sc (Ba (cB n) l) es
 | [],[],_=>.nil |e::l,ex::es,h=>by obtain⟨h1,h2⟩:=ApI.mp h;exact .cons (ih e ex h1) (Iw ih h2)
 | [],_::_,h=>by cases h
 |_::_,[],h=>by cases h
theorem RL{n:Nat}{b:Bool}(ih:∀e ex,Uw A n b sc e ex=true->ST C X m b sc (cT n e) ex):∀{l:List CT} {es:List Expr},HP (λt e=> !isStar e&&Uw A n b sc t e) l es=true->UK C X m b sc (Ba (cT n) l) es
 | [],[],_=>.nil |e::l,ex::es,h=>by obtain⟨h1,h2⟩:=ApI.mp h;obtain⟨s1,s2⟩:=ApI.mp h1;exact .cons (ih e ex s2) (by simpa using s1) (RL ih h2)
 | [],_::_,h=>by cases h
 |_::_,[],h=>by cases h
theorem P9{n:Nat}{b:Bool}(ih:∀e ex,CD A n b sc e ex=true->SE C X m b sc (cE n e) ex)(hn:n≠0)(h:sQ (CD A n b sc) e o=true):F1 C X m b sc (cE n e) o:=by
 cases n with
 |zero=>exact absurd rfl hn
 |succ n=>
  unfold sQ at h;split at h
  ·split at h
   ·exact .A4
   ·cases h
  ·exact .some (ih _ _ h)
theorem Ia{n:Nat}{b:Bool}(ih:∀e ex,CD A n b sc e ex=true->SE C X m b sc (cE n e) ex):∀{ks vs:List CE} {es:List (Option Expr)} {ws:List Expr},Nc (CD A n b sc) ks es=true->HP (CD A n b sc) vs ws=true->ks.length=vs.length->ZA C X m b sc (Ba (cE n) ks) (Ba (cE n) vs) es ws
 | [],[],[],[],_,_,_=>.nil |k::ks,v::vs,some e::es,w::ws,h1,h2,hl=>by obtain⟨a1,a2⟩:=ApI.mp h1;obtain⟨b1,b2⟩:=ApI.mp h2;exact .cons (ih _ _ a1) (ih _ _ b1) (Ia ih a2 b2 (by simpa using hl))
 | [],_::_,_,_,_,_,hl=>by simp at hl
 |_::_,[],_,_,_,_,hl=>by simp at hl
 | [],[],_::_,_,h,_,_=>by cases h
 | [],[],[],_::_,_,h,_=>by cases h
 |_::_,_::_,[],_,h,_,_=>by cases h
 |_::_,_::_,none::_,_,h,_,_=>by cases h
 |_::_,_::_,some _::_,[],_,h,_=>by cases h
theorem I6(h:mW t ex=true):Kr (isTup t) ex:=by
 unfold mW at h;split at h
 ·exact⟨_,_,_,rfl⟩
 ·exact λ_ _=>rfl
 ·exact λ_ _=>rfl
 ·exact λ_ _=>rfl
 ·exact λ_ _=>rfl
 ·cases h
theorem DJ{α β:Type}(f:α->β):∀l:List α,(Ba f l).length=l.length
 | []=>rfl |_::l=>congrArg ArI (DJ f l)
end
end
section
variable{C:Cx}
section
variable{A:KS}{X:CX}{m:Nat}
structure IU(C:Cx)(X:CX)(m:Nat):Prop where
 O:Ok C
 TK:FP C X.T
 AK:Eo C X.T
 MO:IV C X.T
 SO:UL C X.T
 cl:Cp C m X.cl
theorem Aj{a b:Bool}(h:(a&&b)=true):a=true∧b=true:=ApI.mp h
example (A:KS) (b sc e ex):CD A 0 b sc e ex=false:=rfl
theorem RM(K:Ih C A)(G:IU C X m):∀n:Nat,(∀b sc e ex,CD A n b sc e ex=true->SE C X m b sc (cE n e) ex)∧(∀b sc e ex,P8 A n b sc e ex=true->SB C X m b sc (cB n e) ex)∧(∀b sc t ex,Uw A n b sc t ex=true->ST C X m b sc (cT n t) ex)
 |0=>⟨λ_ _ _ _ h=>(by cases h),λ_ _ _ _ h=>(by cases h),λ_ _ _ _ h=>(by cases h)⟩
 |n+1=>by
  obtain⟨Dy,TS,Zs⟩:=RM K G n;refine⟨λb sc e ex h=>?_,λb sc e ex h=>?_,λb sc t ex h=>?_⟩
  ·unfold CD at h;split at h
   ·exact SE.A4
   ·cases beq_iff_eq.mp h;exact SE.bool
   ·cases beq_iff_eq.mp h;exact SE.int
   ·exact SE.str (Dg K h)
   ·cases beq_iff_eq.mp h;exact SE.B4
   ·obtain⟨h1,h⟩:=Aj h;obtain⟨h2,h3⟩:=Aj h;exact SE.l (Dg K h1) (CC h2) (HC h3)
   ·obtain⟨h1,h⟩:=Aj h;obtain⟨h2,h⟩:=Aj h;obtain⟨h3,h4⟩:=Aj h;exact SE.Mp (Dg K h1) ((Bool.or_eq_true_iff.mp h2).imp CC CC) (by simpa using h3) (HC h4)
   ·obtain⟨h1,h⟩:=Aj h;obtain⟨h2,h3⟩:=Aj h;exact SE.iL (CC h1) (HC h2) (Oj K h3)
   ·obtain⟨h1,h2⟩:=Aj h;cases beq_iff_eq.mp h1;exact SE.DY (DC (Dy b sc) h2)
   ·obtain⟨h1,h⟩:=Aj h;obtain⟨h2,h3⟩:=Aj h;cases beq_iff_eq.mp h1;exact SE.bin (Dy _ _ _ _ h2) (Dy _ _ _ _ h3)
   ·exact SE.not (Dy _ _ _ _ h)
   ·exact SE.neg (Dy _ _ _ _ h)
   ·obtain⟨h1,h⟩:=Aj h;obtain⟨h2,h3⟩:=Aj h;exact SE.Oz (TS _ _ _ _ h1) (Dy _ _ _ _ h2) (Dy _ _ _ _ h3)
   ·obtain⟨h,h3⟩:=Aj h;obtain⟨h1,h2⟩:=Aj h;exact SE.dict G.O (Ia (Dy b sc) h1 h2<|beq_iff_eq.mp h3)
   ·exact SE.list (DC (Dy b sc) h)
   ·exact SE.Ak (DC (Dy b sc) h)
   ·obtain⟨hb,h⟩:=Aj h;obtain⟨h1,h⟩:=Aj h;obtain⟨h2,h⟩:=Aj h;obtain⟨h3,h⟩:=Aj h;obtain⟨h4,h⟩:=Aj h;obtain⟨h5,h⟩:=Aj h;obtain⟨h6,h7⟩:=Aj h;cases hb;exact SE.comp h1 (I6 h2) h3 (Dy _ _ _ _ h4) (Zs _ _ _ _ h5) (Iw (TS _ _) h6) (Dy _ _ _ _ h7)
   ·obtain⟨hb,h⟩:=Aj h;obtain⟨h1,h⟩:=Aj h;obtain⟨h2,h⟩:=Aj h;obtain⟨h3,h⟩:=Aj h;obtain⟨h4,h⟩:=Aj h;obtain⟨h5,h⟩:=Aj h;obtain⟨h6,h⟩:=Aj h;obtain⟨h7,h⟩:=Aj h;obtain⟨h8,h⟩:=Aj h;obtain⟨h9,iO⟩:=Aj h;cases hb;exact SE.NX h1 (I6 h2) h3 (Dy _ _ _ _ h4) (Zs _ _ _ _ h5) (I6 h6) h7 (Dy _ _ _ _ h8) (Zs _ _ _ _ h9) (Dy _ _ _ _ iO)
   ·obtain⟨h1,h⟩:=Aj h;obtain⟨h2,h⟩:=Aj h;obtain⟨h3,h⟩:=Aj h;obtain⟨h4,h5⟩:=Aj h;cases beq_iff_eq.mp h1;exact SE.K4 G.O G.TK (Dy _ _ _ _ h2) (DC (Dy b sc) h3) h4 (by rw[DJ];exact beq_iff_eq.mp h5)
   ·obtain⟨hb,h⟩:=Aj h;obtain⟨h1,h⟩:=Aj h;obtain⟨h2,h3⟩:=Aj h;cases hb;exact SE.call G.cl h1 (Dy _ _ _ _ h2) (DC (Dy _ sc) h3)
   ·obtain⟨hb,h⟩:=Aj h;obtain⟨h1,h⟩:=Aj h;obtain⟨h2,h⟩:=Aj h;obtain⟨h3,h⟩:=Aj h;obtain⟨h4,h⟩:=Aj h;obtain⟨h5,h6⟩:=Aj h;cases hb;exact SE.FI G.O G.AK G.MO G.cl (Dg K h1) h2 (Dy _ _ _ _ h3) (DC (Dy _ sc) h4) (ApB h5) h6
   ·obtain⟨h1,h⟩:=Aj h;obtain⟨h2,h3⟩:=Aj h;exact SE.attr G.O G.AK (Dg K h1) h2 (Dy _ _ _ _ h3)
   ·obtain⟨h1,h⟩:=Aj h;obtain⟨h2,h3⟩:=Aj h;exact SE.sub G.O G.TK h1 (Dy _ _ _ _ h2) (Dy _ _ _ _ h3)
   ·obtain⟨h1,h⟩:=Aj h;obtain⟨h2,h⟩:=Aj h;obtain⟨h3,h4⟩:=Aj h;have n0:n≠0:=λe=>by subst e;cases h1
    exact SE.zQ (Dy _ _ _ _ h1) (P9 (Dy b sc) n0 h2) (P9 (Dy b sc) n0 h3) (P9 (Dy b sc) n0 h4)
   ·exact SE.mark (Dy _ _ _ _ h)
   ·exact λA σ W s E env f I e k ke q=>(by cases q)
   ·cases h
  ·unfold P8 at h;split at h
   ·exact SB.not (TS _ _ _ _ h)
   ·obtain⟨h1,h2⟩:=Aj h;cases beq_iff_eq.mp h1;exact SB.DY (Iw (TS b sc) h2)
   ·obtain⟨h1,h⟩:=Aj h;obtain⟨h2,h3⟩:=Aj h;exact SB.Oz (TS _ _ _ _ h1) (TS _ _ _ _ h2) (TS _ _ _ _ h3)
   ·obtain⟨h1,h⟩:=Aj h;obtain⟨h2,h⟩:=Aj h;obtain⟨h3,h⟩:=Aj h;obtain⟨h4,h5⟩:=Aj h;cases beq_iff_eq.mp h1;exact SB.K4 G.O G.TK (Dy _ _ _ _ h2) (DC (Dy b sc) h3) h4 (by rw[DJ];exact beq_iff_eq.mp h5)
   ·obtain⟨h1,h⟩:=Aj h;obtain⟨h2,h3⟩:=Aj h;have q:=SB.val (Dy _ _ _ _ h3) h2;cases e<;>first |exact q |cases h1
  ·unfold Uw at h;split at h
   ·obtain⟨h1,h2⟩:=Aj h;exact ST.l G.O (Dg K h1) (CC h2)
   ·obtain⟨h1,h2⟩:=Aj h;exact ST.Mp (Dg K h1) (CC h2)
   ·obtain⟨h1,h2⟩:=Aj h;exact ST.attr G.O G.AK (Dg K h1) (Dy _ _ _ _ h2)
   ·obtain⟨h1,h2⟩:=Aj h;exact ST.sub G.O (Dy _ _ _ _ h1) (Dy _ _ _ _ h2)
   ·obtain⟨hb,h⟩:=Aj h;cases hb;exact ST.Ak (RL (Zs _ sc) h)
   ·cases h
end
end
section
variable{C:Cx}
def Vy:Expr->Bool
 | .Constant .none _ _=>true | .Constant (.bool _) _ _=>true | .Constant (.str _) _ _=>true |_=>false
def qK(A:KS)(sc:ApH):List CT->List Str->Bool
 | [],[]=>true | .l x::ts,s::ns=>JM A x s&&(Ez sc s .local&&qK A sc ts ns) |_,_=>false
def namesOf:List Expr->List Str
 | .Name s _::r=>s::namesOf r |_=>[]
def PZ(A:KS)(tg:Nat->Bool):Nat->Bool->ApH->CS->Arw->Bool
 |0,_,_,_,_=>false
 |n+1,b,sc,s,st=>match s,st with
  | .pass,.Expr ex _=>Vy ex | .pass,.Pass _=>true | .expr e,.Expr ex _=>GU ex&&CD A n b sc e ex | .brk,.Break _=>true | .cont,.Continue _=>true | .ret e,.Return (some ex) _=>CD A n b sc e ex | .ret .A4,.Return none _=>Aq0 0 n | .rH t e,.Assign [et] ex _=>GU ex&&(M4 et ex&&(!isStar et&&(CD A n b sc e ex&&Uw A n b sc t et))) | .zW ts e,.Assign [.Tuple rN _ _] (.Tuple rO k p) _=>b&&(Mw sc (namesOf rN) rN rO&&(qK A sc ts (namesOf rN).reverse&&CD A n true sc e (.Tuple rO k p)))
  | .asc tg' elt t it ifs,.Assign [.Name s tp] (.ListComp CB [⟨et,ei,eifs,0⟩] scope pos) sp=>b&&(UO scope sc s tp pos sp&&(Uw A n true sc tg' (.Name s tp)&&(Cc scope sc&&(mW t et&&(C4 ei&&(CD A n true sc it ei&&
    (Uw A n true (C5 scope sc) t et&&(HP (P8 A n true<|C5 scope sc) ifs eifs&&CD A n true (C5 scope sc) elt CB))))))))
  | .Oz t x y,.If et bx by_ _=>P8 A n b sc t et&&(HP (PZ A tg n b sc) x bx&&HP (PZ A tg n b sc) y by_) | .Zx tag t x,.While et bx [] _=>tg tag&&(P8 A n b sc t et&&HP (PZ A tg n b sc) x bx) | .V6 t it x,.For et ei bx [] _=>b&&(mW t et&&(C4 ei&&(CD A n true sc it ei&&(Uw A n true sc t et&&HP (PZ A tg n true sc) x bx)))) | .zM e,.Raise (some ex) none _=>b&&CD A n true sc e ex |_,_=>false
section
variable{A:KS}{X:CX}{m:Nat}
theorem DV{n:Nat}{b:Bool}(ih:∀s st,PZ A tg n b sc s st=true->SS C X m b sc (cS n s) st):∀{l:List CS} {jK:List Arw},HP (PZ A tg n b sc) l jK=true->SL C X m b sc (B9<|Ba (cS n) l) jK
 | [],[],_=>SL.nil |s::l,st::jK,h=>by obtain⟨h1,h2⟩:=Aj h;exact SL.cons (ih s st h1) (DV ih h2)
 | [],_::_,h=>by cases h
 |_::_,[],h=>by cases h
theorem Tb(K:Ih C A){n:Nat}(hn:n≠0):∀{ts:List CT} {ns:List Str},qK A sc ts ns=true->rE C sc (Ba (cT n) ts) ns∧E4 ts=ns.length
 | [],[],_=>⟨.nil,rfl⟩
 | .l x::ts,s::ns,h=>by
  obtain⟨h1,h⟩:=Aj h;obtain⟨h2,h3⟩:=Aj h;obtain⟨q1,q2⟩:=Tb K hn h3;cases n with
  |zero=>exact absurd rfl hn
  |succ n=>exact⟨.cons (Dg K h1) (CC h2) q1,congrArg ArI q2⟩
 | [],_::_,h=>by cases h
 | .l _::_,[],h=>by cases h
 | .Mp _::_,_,h=>by cases h
 | .attr .. ::_,_,h=>by cases h
 | .sub .. ::_,_,h=>by cases h
 | .Ak _::_,_,h=>by cases h
theorem DW(K:Ih C A)(G:IU C X m){tg:Nat->Bool}(HK:∀tag,tg tag=true->∀b sc et bx,Hook C X m b sc tag et bx):∀n:Nat,∀b sc s st,PZ A tg n b sc s st=true->SS C X m b sc (cS n s) st
 |0,_,_,_,_,h=>by cases h
 |n+1,b,sc,s,st,h=>by
  have ih:=DW K G HK n;obtain⟨Dy,TS,Zs⟩:=RM K G n;unfold PZ at h;split at h
  ·unfold Vy at h;split at h
   ·exact SS.const rfl
   ·exact SS.const rfl
   ·exact SS.const rfl
   ·cases h
  ·exact SS.pass
  ·obtain⟨h1,h2⟩:=Aj h;exact SS.expr h1 (Dy _ _ _ _ h2)
  ·exact SS.brk
  ·exact SS.cont
  ·exact SS.ret (Dy _ _ _ _ h)
  ·cases n with
   |zero=>cases h
   |succ n=>exact SS.AfK
  ·obtain⟨h1,h⟩:=Aj h;obtain⟨h2,h⟩:=Aj h;obtain⟨h3,h⟩:=Aj h;obtain⟨h4,h5⟩:=Aj h;exact SS.rH h1 h2 (by simpa using h3) (Dy _ _ _ _ h4) (Zs _ _ _ _ h5)
  ·obtain⟨hb,h⟩:=Aj h;obtain⟨h1,h⟩:=Aj h;obtain⟨h2,h3⟩:=Aj h;cases hb;have n0:n≠0:=λe=>by subst e;cases h3
   obtain⟨q1,q2⟩:=Tb K n0 h2;have e0:=λts:List CT=>show E4 (Ba (cT n) ts)=E4 ts by rw[EB,DJ,EB]
   have q:=λ(k1:Nat) (p1 pos:Pos)=>SS.zW (X:=X) (k1:=k1) (p1:=p1) (pos:=pos) G.O h1 q1 (by rw[e0,q2,List.length_reverse]) (Dy _ _ _ _ h3)
   simp only[e0] at q;exact q _ _ _
  ·obtain⟨hb,h⟩:=Aj h;obtain⟨h1,h⟩:=Aj h;obtain⟨h2,h⟩:=Aj h;obtain⟨h3,h⟩:=Aj h;obtain⟨h4,h⟩:=Aj h;obtain⟨h5,h⟩:=Aj h;obtain⟨h6,h⟩:=Aj h;obtain⟨h7,h⟩:=Aj h;obtain⟨h8,h9⟩:=Aj h;cases hb;exact SS.asc h1 (Zs _ _ _ _ h2) h3 (I6 h4) h5 (Dy _ _ _ _ h6) (Zs _ _ _ _ h7) (Iw (TS _ _) h8) (Dy _ _ _ _ h9)
  ·obtain⟨h1,h⟩:=Aj h;obtain⟨h2,h3⟩:=Aj h;exact SS.Oz (TS _ _ _ _ h1) (DV (ih b sc) h2) (DV (ih b sc) h3)
  ·obtain⟨h1,h⟩:=Aj h;obtain⟨h2,h3⟩:=Aj h;exact SS.Zx (HK _ h1 _ _ _ _) (TS _ _ _ _ h2) (DV (ih b sc) h3)
  ·obtain⟨hb,h⟩:=Aj h;obtain⟨h1,h⟩:=Aj h;obtain⟨h2,h⟩:=Aj h;obtain⟨h3,h⟩:=Aj h;obtain⟨h4,h5⟩:=Aj h;cases hb;exact SS.V6 (I6 h1) h2 (Dy _ _ _ _ h3) (Zs _ _ _ _ h4) (DV (ih _ sc) h5)
  ·obtain⟨hb,h⟩:=Aj h;cases hb;exact SS.zM (Dy _ _ _ _ h)
  ·cases h
end
end
section
variable{C:Cx}
def GR(nm:List Str)(x:Nm)(s:Str):Bool:=match Bs nm x with |some t=>F9 t s |none=>false
theorem B6(h:GR nm x s=true):nm[x]?=some s:=by
 unfold GR at h;rw[AA] at h;split at h
 ·rename_i t q;rw[q,Gy.mp h]
 ·cases h
def Mi(f:AV->Ao3->Bool):List AV->List Ao3->Bool
 | [],[]=>true |a::l,v::m=>f a v&&Mi f l m |_,_=>false
def Gq(K:AqI)(nm:List Str):Nat->AV->Ao3->Bool
 |0,_,_=>false
 |n+1,a,v=>match a,v with
  | .A4,.none=>true | .bool x,.bool y=>x==y | .int ⟨c,[]⟩,.int i _=>c==i | .str x,.str s _=>GR nm x s
  | .Ak l,.ref a=>(match K.lookup a with
   |some ⟨.type "tuple",none,.seq items _,_⟩=>Mi (Gq K nm n) l items.toList
   |_=>false)
  | .Au (.ref x),.ref y=>x==y | .Au (.builtin x),.builtin y=>x==y | .Au (.type x),.type y=>x==y |_,_=>false
theorem Hg{f:AV->Ao3->Bool}(ih:∀a v,f a v=true->VR C W h a v):∀{l:List AV} {m:List Ao3},Mi f l m=true->AM C W h l m
 | [],[],_=>.nil |a::l,v::m,q=>let⟨q1,q2⟩:=Aj q; .cons (ih a v q1) (Hg ih q2)
 | [],_::_,q=>by cases q
 |_::_,[],q=>by cases q
theorem Ed{K:AqI}(hK:K.In C.h1)(B:Based C W h):∀{n:Nat} {a:AV} {v:Ao3},Gq K C.nm n a v=true->VR C W h a v
 |0,_,_,q=>by cases q
 |n+1,a,v,q=>by
  unfold Gq at q;split at q
  ·exact .A4
  ·rw[beq_iff_eq.mp q];exact .bool
  ·rw[beq_iff_eq.mp q];exact .int (Ap.CY _)
  ·exact .str (B6 q)
  ·split at q
   ·rename_i items _ _ e;have hT:C.h1.IsTuple _ items:=⟨_,hK _ _ e,rfl,_,rfl⟩;have:=Hg (λa v q=>Ed hK B q) q;exact .Ak (vs:=items.toList) (by simpa using B.Ak hT ⟨_,hK _ _ e,rfl⟩) this
   ·cases q
  ·rw[beq_iff_eq.mp q];exact .Au
  ·rw[beq_iff_eq.mp q];exact .Au
  ·rw[beq_iff_eq.mp q];exact .Au
  ·cases q
def Rb(nm:List Str)(sc:ApH):List (Nm×Bool)->List Str->Bool
 | [],[]=>true |(x,b)::l,n::r=>GR nm x n&&((match sc.names.lookup n with |some k=>k==(if b then ArP else NameKind.local)|none=>false)&&Rb nm sc l r) |_,_=>false
theorem Lz:∀{l:List (Nm×Bool)} {r:List Str},Rb C.nm sc l r=true->Md C sc l r
 | [],[],_=>.nil
 |(x,b)::l,n::r,h=>by
  obtain⟨h1,h⟩:=Aj h;obtain⟨h2,h3⟩:=Aj h;refine .cons (B6 h1) ?_<|Lz h3;split at h2
  ·rename_i k q;rw[q,beq_iff_eq.mp h2]
  ·cases h2
 | [],_::_,h=>by cases h
 |_::_,[],h=>by cases h
def Je(nm:List Str):List (Str×Aqw)->List Nm->Bool
 | [],xs=>xs.isEmpty
 |p::l,xs=>match p.2==ArP with
  |false=>Je nm l xs
  |true=>(match xs with
   |x::r=>GR nm x p.1&&Je nm l r
   | []=>false)
theorem Hj:∀{l:List (Str×Aqw)} {r:List Nm},Je C.nm l r=true->DT C l r
 | [],r,h=>by cases Ar3.mp h;exact .nil
 |(n,k)::l,xs,h=>by
  unfold Je at h;split at h
  ·rename_i q;exact .skip q (Hj h)
  ·rename_i q;cases(beq_iff_eq.mp q);split at h
   ·obtain⟨h1,h2⟩:=Aj h;exact .cell (B6 h1) (Hj h2)
   ·cases h
def GO(l:List Str):Bool:=LR true (λa l ih=>bt (LR false (λb _ jh=>bt (F9 a b) true jh) l) false ih) l
theorem Wz{a:Str}:∀{l:List Str},a∈l->LR false (λb _ jh=>bt (F9 a b) true jh) l=true
 |b::l,h=>by
  show bt (F9 a b) true (LR false (λb _ jh=>bt (F9 a b) true jh) l)=true;cases q:F9 a b with
  |true=>rfl
  |false=>
   rcases Apf.mp h with e |h
   ·rw[Gy.mpr e] at q;cases q
   ·exact Wz h
theorem GP:∀{l:List Str},GO l=true->l.Nodup
 | [],_=>.nil
 |a::l,h=>by
  have h:bt (LR false (λb _ jh=>bt (F9 a b) true jh) l) false (GO l)=true:=h;cases q:LR false (λb _ jh=>bt (F9 a b) true jh) l with
  |true=>rw[q] at h;cases h
  |false=>rw[q] at h;exact Aqx.mpr ⟨λhm=>(by rw[Wz hm] at q;cases q),GP h⟩
def jF(p:Arguments):Bool:=p.posonlyargs.isEmpty&&(p.vararg.isNone&&(p.kwonlyargs.isEmpty&&(p.kwarg.isNone&&GO (p.args.map (·.arg)))))
theorem XI(h:jF p=true):Me p (p.args.map (·.arg)):=by obtain⟨h1,h⟩:=Aj h;obtain⟨h2,h⟩:=Aj h;obtain⟨h3,h⟩:=Aj h;obtain⟨h4,h5⟩:=Aj h;exact⟨Ar3.mp h1,rfl,Option.isNone_iff_eq_none.mp h2,Ar3.mp h3,Option.isNone_iff_eq_none.mp h4,GP h5⟩
def VF(K:AqI):Ao3->Option (List Ao3)
 | .none=>some []
 | .ref T=>(match K.lookup T with
  |some ⟨.type "tuple",none,.seq items _,_⟩=>some items.toList
  |_=>none)
 |_=>none
theorem VG{K:AqI}(hK:K.In C.h1){ds:List Ao3}(h:VF K d=some ds):L9 C.h1 d ds:=by
 unfold VF at h;split at h
 ·cases h;exact .inl ⟨rfl,rfl⟩
 ·split at h
  ·rename_i e;cases h;exact .inr ⟨_,rfl,_,hK _ _ e,rfl,_,by simp;rfl⟩
  ·cases h
 ·cases h
def Mr(K:AqI)(cd:Ao3)(q:Str):Bool:=match cd with
 | .ref c=>(match K.lookup c with
  |some ⟨_,_,.fields vs,_⟩=>(match vs.toList[1]? with |some (Value.str s _)=>s==q |_=>false)
  |_=>false)
 |_=>false
theorem Qh{K:AqI}(hK:K.In C.h1)(h:Mr K cd q=true):C.h1.CodeRec cd q:=by
 unfold Mr at h;split at h
 ·split at h
  ·rename_i vs _ e;split at h
   ·rename_i s t e2;rw[←beq_iff_eq.mp h];exact⟨_,_,vs,_,rfl,hK _ _ e,rfl,by simpa using e2⟩
   ·cases h
  ·cases h
 ·cases h
def Q4:List (Str×Aqw)->Bool
 | []=>true |(_,k)::l=> !(k==Aqk)&&Q4 l
theorem Lw:∀{l:List (Str×Aqw)},Q4 l=true->∀nm,l.lookup nm≠some .free
 | [],_,nm=>by simp
 |(n,k)::l,h,nm=>by
  obtain⟨h1,h2⟩:=Aj h;rw[Apy];split
  ·intro e;cases e;cases h1
  ·exact Lw h2 nm
def iI(A:KS)(K:AqI)(cf:CF)(fd:FuncData):Bool:=
 fd.closure.isEmpty&&(!fd.scope.isCoroutine&&(!fd.scope.isGenerator&&(fd.scope.kind== .function&&(fd.globals==Ar5&&(fd.builtins==AqG&&(Mr K fd.code fd.qualname&&(jF fd.params&&
  (Rb A.nm fd.scope cf.params (fd.params.args.map (·.arg))&&((match VF K fd.defaults with |some ds=>Mi (Gq K A.nm 20) cf.defs ds&&Ap0 ds.length (fd.params.args.map (·.arg)).length |none=>false)&&
   (Je A.nm fd.scope.names cf.cells&&Q4 fd.scope.names))))))))))
def Ga(A:KS)(K:AqI)(a:Apc)(cf:CF):Bool:=match K.lookup a with
 |some ⟨_,_,.func fd,_⟩=>(match fd.body with | .stmts _=>iI A K cf fd |_=>false) |_=>false
def bodyOf(K:AqI)(a:Apc):Option (ApH×List Arw):=match K.lookup a with
 |some ⟨_,_,.func fd,_⟩=>(match fd.body with | .stmts b=>some (fd.scope,b)|_=>none) |_=>none
theorem Jt{K:AqI}{A:KS}{T:Tab}{n:Nat}{cf:CF}{a:Apc}(KA:Ih C A)(hK:K.In C.h1)(h:Ga A K a cf=true)
  (run:∀sc b,bodyOf K a=some (sc,b)->∀cl,Cp C n cl->SL C ⟨T,cl⟩ n true sc cf.body b):Mb C T n cf a:=by
 unfold Ga at h;split at h
 ·rename_i fd _ e;split at h
  ·rename_i b eb;have hr:=run fd.scope b (by unfold bodyOf;rw[e];dsimp only;rw[eb]);unfold iI at h;obtain⟨h1,h⟩:=Aj h;obtain⟨h2,h⟩:=Aj h;obtain⟨h3,h⟩:=Aj h;obtain⟨h4,h⟩:=Aj h;obtain⟨h5,h⟩:=Aj h;obtain⟨h6,h⟩:=Aj h;obtain⟨h7,h⟩:=Aj h;obtain⟨h8,h⟩:=Aj h;obtain⟨h9,h⟩:=Aj h;obtain⟨iO,h⟩:=Aj h;obtain⟨h11,h12⟩:=Aj h;split at iO
   ·rename_i ds ed;obtain⟨d1,d2⟩:=Aj iO;rw[KA.nm] at h9 h11 d1;exact⟨_,fd,b,_,ds,hK _ _ e,rfl,⟨eb,Ar3.mp h1,by simpa using h2,by simpa using h3,by simpa using h4,by simpa using h5,by simpa using h6,Qh hK h7,XI h8,Lz h9,
     VG hK ed,λW h B=>Hg (λa v q=>Ed hK B q) d1,ApB d2,Hj h11,Lw h12,hr⟩⟩
   ·cases iO
  ·cases h
 ·cases h
def iJ(A:KS)(K:AqI)(tg:Nat->Bool)(p:Apc×CF×List CS):Bool:=Ga A K p.1 p.2.1&&(match bodyOf K p.1 with |some (sc,b)=>HP (PZ A tg 40 true sc) p.2.2 b |none=>false)
theorem Z8{K:AqI}{A:KS}{T:Tab}{n:Nat}{p:Apc×CF×List CS}(KA:Ih C A)(hK:K.In C.h1){tg:Nat->Bool}(G:∀cl,Cp C n cl->IU C ⟨T,cl⟩ n)
  (HK:∀cl,Cp C n cl->∀tag,tg tag=true->∀b sc et bx,Hook C ⟨T,cl⟩ n b sc tag et bx)(h:iJ A K tg p=true)(e:p.2.1.body=B9 (Ba (cS 40) p.2.2)):Mb C T n p.2.1 p.1:=by
 obtain⟨h1,h2⟩:=Aj h;refine Jt KA hK h1 λsc b hb cl ok=>?_
 rw[hb] at h2;rw[e];exact DV (λs st q=>DW KA (G cl ok) (HK cl ok) 40 true sc s st q) h2
end
inductive Tr(α:Type) where
 |Af
 |Ae(k:Nat)(v:α)(l r:Tr α)
def Tr.fold{α β:Type}(n:β)(f:Nat->α->Tr α->Tr α->β->β->β)(t:Tr α):β:= @Tr.rec α (λ_=>β) n f t
def Tr.get{α:Type}(t:Tr α)(x:Nat):Option α:=Tr.fold none (λk v _ _ l r=>bt (Ao9 x k) (some v) (bt (Aq0 x k) l r)) t
def Tr.LX{α:Type}(t:Tr α):List (Nat×α):=Tr.fold [] (λk v _ _ l r=>(k,v)::(l++r)) t
structure TT where
 cl:Tr (Option Nat×Bool)
 at_:Tr (Tr<|Option Nat)
 bd:Tr (List<|AV×AV)
 fn:Tr CF
 ch:List (Nat×Nat)
 enc:List (Nat×List UInt8)
 whole:AV
 CI:Nm
 OQ:Nm
 DL:Nm
 E8:Nm
 DK:Nm
 E9:Nm
 E7:Nm
 cC:Nat
 cF:Nat
 xG:Nat
def TT.tab(t:TT)(sum:Nat->List AV->St->K AV->Option Bool)(loop:Nat->Bo->St->Option (M Unit))(dc:Nat->Bool):Tab where
 init:=λC=>OR none (λp=>p.1) (t.cl.get C)
 isExc:=λC=>OR false (λp=>p.2) (t.cl.get C)
 attr:=λC x=>OR none (λu=>OR none (λo=>some (OR (bt (OR false (λp=>p.2)<|t.cl.get C) .FR .data) .FI o)) (u.get x)) (t.at_.get C)
 U0:=λC x=>bt (Ao9 C t.cC) (bt (Ao9 x t.E9) (some t.cF) none) none
 Jc:=t.bd.get
 sum:=sum
 J9:=λD G=>bt (Ao9 D t.xG) (Ao9 G t.xG) false
 loop:=loop
 dc:=dc
 enc:=A2 t.enc
 ch:=λs n=>NC (OR none some<|A2 t.ch s) (λ_=>none) n
 whole:=t.whole
 CI:=t.CI
 OQ:=t.OQ
 DL:=t.DL
 E8:=t.E8
 DK:=t.DK
 E9:=t.E9
 E7:=t.E7
section
variable{C:Cx}
theorem Tr.get_mem{α:Type}:∀{t:Tr α} {x:Nat} {v:α},t.get x=some v->(x,v)∈t.LX
 | .Af,x,v,h=>by cases h
 | .Ae k u l r,x,v,h=>by
  have h:bt (Ao9 x k) (some u) (bt (Aq0 x k) (l.get x)<|r.get x)=some v:=h;show(x,v)∈(k,u)::(l.LX++r.LX);cases q:Ao9 x k with
  |true=>rw[q] at h;cases h;rw[Ao6 q];exact .head _
  |false=>
   rw[q] at h
   replace h:bt (Aq0 x k) (l.get x) (r.get x)=some v:=h
   cases q2:Aq0 x k with
   |true=>rw[q2] at h;exact .tail _ (AqX _ (Tr.get_mem h))
   |false=>rw[q2] at h;exact .tail _ (AqO _ (Tr.get_mem h))
def DD{α:Type}(f:α->Bool):List α->Bool
 | []=>true |a::l=>f a&&DD f l
theorem DE{α:Type}{f:α->Bool}:∀{l:List α},DD f l=true->∀a∈l,f a=true
 | [],_,a,h=>by cases h
 |b::l,h,a,m=>by
  obtain⟨h1,h2⟩:=Aj h;rcases Apf.mp m with rfl |m
  ·exact h1
  ·exact DE h2 a m
def Gz(K:AqI)(Cl:Apc):Bool:=subIn K (.ref Cl) (.type "Exception")==some true&&(subIn K (.ref Cl) (.type "BaseException")==some true&&(match K.lookup Cl with |some ⟨.type "type",_,.cls _,_⟩=>true |_=>false))
theorem HU{K:AqI}(hK:K.In C.h1){Cl:Apc}(h:Gz K Cl=true):HO C Cl:=by
 obtain⟨h1,h⟩:=Aj h;obtain⟨h2,h3⟩:=Aj h;split at h3
 ·rename_i e;exact⟨K,hK,beq_iff_eq.mp h1,beq_iff_eq.mp h2,_,hK _ _ e,rfl,_,rfl⟩
 ·cases h3
theorem ME{K:AqI}(hK:K.In C.h1){f:Apc}(h:fnIn K f=true):KV C f:=by
 unfold fnIn at h;split at h
 ·rename_i e;exact⟨_,_,hK _ _ e,rfl⟩
 ·cases h
def Sq(K:AqI)(Cl i:Apc):Bool:=Ar8 K (.ref Cl) "__init__"==some (some (.ref i))&&(typeIn K (.ref i)==some (.type "function")&&fnIn K i)
def Hs(K:AqI)(Cl:Apc):Bool:=match K.lookup Cl with
 |some ⟨.type "type",_,.cls cd,sl⟩=>(match cd.mro,sl.toList with
  | .ref c::bm,[_,_,_,_,some (.builtin n),_]=>c==Cl&&(!cd.hasDel&&(n=="Exception.__new__"&&(bm.contains (.type "Exception")&&(!bm.contains (.type "AttributeError")&& !bm.contains (.type "NameError")))))
  |_,_=>false)
 |_=>false
theorem MD{K:AqI}(hK:K.In C.h1){Cl:Apc}(h:Hs K Cl=true):∃nm q N bs bm Ot sn sub ab col dd k0 k1 k2 k3 k5,C.h1.get? Cl=some (excClassObj nm q Cl N bs bm Ot sn sub ab col dd k0 k1 k2 k3 k5 "Exception.__new__")∧IY "Exception" bm:=by
 unfold Hs at h;split at h
 ·rename_i dd cd sl e;split at h
  ·rename_i c bm k0 k1 k2 k3 n k5 e1 e2;obtain⟨h1,h⟩:=Aj h;obtain⟨h2,h⟩:=Aj h;obtain⟨h3,h⟩:=Aj h;obtain⟨h4,h⟩:=Aj h;obtain⟨h5,h6⟩:=Aj h;cases beq_iff_eq.mp h1;cases beq_iff_eq.mp h3;obtain⟨nm,bs,mro,ns,qn,hd,sn,sub,ab,col,del⟩:=cd;cases(show mro=_ from e1);cases(show del=false by simpa using h2);obtain⟨sl⟩:=sl;cases(show sl=_ from e2);exact⟨nm,qn,ns,bs,bm,hd,sn,sub,ab,col,dd,k0,k1,k2,k3,k5,hK _ _ e,⟨h4,by simpa using h5,by simpa using h6⟩⟩
  ·cases h
 ·cases h
def Qg(K:AqI)(p:Nat×(Option Nat×Bool)):Bool:=match p with
 |(Cl,some i,false)=>makesIn K Cl&&(Sq K Cl i&&keepIn K (.ref Cl)) |(Cl,some i,true)=>Gz K Cl&&(Hs K Cl&&(Sq K Cl i&&keepIn K (.ref Cl))) |_=>true
def R3(K:AqI)(Cl:Apc)(nm:Str):Bool:=plainGet K Cl nm&&(hasDictIn K Cl&&(Ar8 K (.ref Cl) nm==some none&&(Ar8 K (.ref Cl) "__setattr__"==some (some (.builtin "object.__setattr__"))&&(plainOver K Cl&&takerIn K Cl nm==some none))))
theorem Qj{K:AqI}{Cl:Apc}(h:R3 K Cl nm=true):Hc K Cl nm:=by obtain⟨h1,h⟩:=Aj h;obtain⟨h2,h⟩:=Aj h;obtain⟨h3,h⟩:=Aj h;obtain⟨h4,h⟩:=Aj h;obtain⟨h5,h6⟩:=Aj h;exact⟨h1,h2,beq_iff_eq.mp h3,beq_iff_eq.mp h4,h5,beq_iff_eq.mp h6⟩
def N5(K:AqI)(Cl:Apc)(nm:Str):Bool:=hasDictIn K Cl&&(Ar8 K (.ref Cl) nm==some none&&(Ar8 K (.ref Cl) "__getattribute__"==some (some (.builtin "BaseException.__getattribute__"))&&(Ar8 K (.ref Cl) "__getattr__"==some none&&
 (Ar8 K (.ref Cl) "__setattr__"==some (some (.builtin "object.__setattr__"))&&((clsIn K Cl).any (λcd=>ET cd.mro)&&takerIn K Cl nm==some none)))))
theorem N6{K:AqI}{Cl:Apc}(h:N5 K Cl nm=true):DA K Cl nm:=by obtain⟨h1,h⟩:=Aj h;obtain⟨h2,h⟩:=Aj h;obtain⟨h3,h⟩:=Aj h;obtain⟨h4,h⟩:=Aj h;obtain⟨h5,h⟩:=Aj h;obtain⟨h6,h7⟩:=Aj h;exact⟨h1,beq_iff_eq.mp h2,beq_iff_eq.mp h3,beq_iff_eq.mp h4,beq_iff_eq.mp h5,h6,beq_iff_eq.mp h7⟩
def SJ(K:AqI)(Cl f:Apc)(nm:Str):Bool:=plainGet K Cl nm&&(hasDictIn K Cl&&(Ar8 K (.ref Cl) nm==some (some (.ref f))&&(typeIn K (.ref f)==some (.type "function")&&(specialIn K (.ref f) "__get__"==some (some (.builtin "function.__get__"))&&
 (takesIn K (.ref f)==some false&& !copiedNames.contains nm)))))
theorem Q2{K:AqI}{Cl:Apc}(h:SJ K Cl f nm=true):MethAt K Cl f nm:=by obtain⟨h1,h⟩:=Aj h;obtain⟨h2,h⟩:=Aj h;obtain⟨h3,h⟩:=Aj h;obtain⟨h4,h⟩:=Aj h;obtain⟨h5,h⟩:=Aj h;obtain⟨h6,h7⟩:=Aj h;exact⟨h1,h2,beq_iff_eq.mp h3,beq_iff_eq.mp h4,beq_iff_eq.mp h5,beq_iff_eq.mp h6,by simpa using h7⟩
def UP(K:AqI)(nm:List Str)(x:Bool)(Cl:Nat)(p:Nat×Option Nat):Bool:=match Bs nm p.1 with
 |some s=>(match p.2 with |some f=>(match x with |true=>false |false=>SJ K Cl f s)|none=>(match x with |true=>N5 K Cl s |false=>R3 K Cl s)) |none=>false
def oY(t:TT)(Cl:Nat):Bool:=OR false (λp=>p.2) (t.cl.get Cl)
def UQ(K:AqI)(nm:List Str)(t:TT)(p:Nat×Tr (Option Nat)):Bool:=DD (UP K nm (oY t p.1) p.1) p.2.LX
def OC(K:AqI)(nm:List Str):List (AV×AV)->List (Str×Nat×Ao3)->Bool
 | [],[]=>true |(.str x,v)::l,(s,_,u)::m=>GR nm x s&&(Gq K nm 20 v u&&OC K nm l m) |_,_=>false
def rK(w:Ao7)(l:List (Str×Nat×Ao3)):List ApE:=l.map λp=>⟨Apv w.params p.1,.str p.1 p.2.1,p.2.2⟩
def strOf:Ao3->Str
 | .str s _=>s |_=>Str.empty
def tokOf:Ao3->Nat
 | .str _ t=>t |_=>0
def q8:List ApE->List (Str×Nat×Ao3)
 | []=>[] |e::l=>(strOf e.key,tokOf e.key,e.val)::q8 l
def UE(C:Cx)(d:Apc)(l:List (Str×Nat×Ao3)):Prop:=∃n,C.h1.get? d=some {cls:=.type "dict",data:=.dict ⟨rK C.w l⟩ n}
theorem OD{K:AqI}(hK:K.In C.h1)(B:Based C W h):∀{l:List (AV×AV)} {m:List (Str×Nat×Ao3)},OC K C.nm l m=true->Gp C W h l (m.map λp=>((.inl p.1:KK),p.2.2))
 | [],[],_=>.nil |(.str x,v)::l,(s,t,u)::m,q=>by obtain⟨q1,q⟩:=Aj q;obtain⟨q2,q3⟩:=Aj q;exact .cons (.str (B6 q1)) (Ed hK B q2) (OD hK B q3)
 | [],_::_,q=>by cases q
 |(.str _,_)::_,[],q=>by cases q
 |(.A4,_)::_,[],q=>by cases q
 |(.bool _,_)::_,[],q=>by cases q
 |(.int _,_)::_,[],q=>by cases q
 |(.B4 _,_)::_,[],q=>by cases q
 |(.Ak _,_)::_,[],q=>by cases q
 |(.obj _,_)::_,[],q=>by cases q
 |(.Au _,_)::_,[],q=>by cases q
 |(.sel ..,_)::_,[],q=>by cases q
 |(.ED _,_)::_,[],q=>by cases q
 |(.any,_)::_,[],q=>by cases q
 |(.A4,_)::_,_::_,q=>by cases q
 |(.bool _,_)::_,_::_,q=>by cases q
 |(.int _,_)::_,_::_,q=>by cases q
 |(.B4 _,_)::_,_::_,q=>by cases q
 |(.Ak _,_)::_,_::_,q=>by cases q
 |(.obj _,_)::_,_::_,q=>by cases q
 |(.Au _,_)::_,_::_,q=>by cases q
 |(.sel ..,_)::_,_::_,q=>by cases q
 |(.ED _,_)::_,_::_,q=>by cases q
 |(.any,_)::_,_::_,q=>by cases q
theorem K5(w:Ao7)(knd:KeyKind C.prog C.w KK)(hs:∀x t,knd.is (.inl x) (.str x t)=true):∀l:List (Str×Nat×Ao3),Pairs knd (rK w l) (l.map λp=>((.inl p.1:KK),p.2.2))
 | []=>.nil |p::l=>by have:=K5 w knd hs l;unfold rK at this ⊢;simp only[Aqb];exact .cons (hs p.1 p.2.1) rfl this
theorem UE.dictOf{l:List (Str×Nat×Ao3)}(h:UE C d l)(nd:GO (l.map (·.1))=true):C.h1.DictOf (Bt C.prog C.w) d (l.map λp=>((.inl p.1:KK),p.2.2)):=by
 obtain⟨n,ho⟩:=h;refine⟨_,_,n,ho,⟨rfl,rfl,rfl⟩,rfl,λe he=>?_,K5 _ _ (λx t=>JF x t) l,?_⟩
 ·have he:e∈rK C.w l:=by simpa using he
  obtain⟨p,_,rfl⟩:=Ark.mp he;exact⟨.inl p.1,JF p.1 p.2.1,rfl⟩
 ·have:=GP nd;rw[List.map_map];have e:((λkv:KK×Ao3=>kv.1) ∘ λp:Str×Nat×Ao3=>((.inl p.1:KK),p.2.2))=(Sum.inl ∘ λp:Str×Nat×Ao3=>p.1):=rfl;show(l.map ((λkv:KK×Ao3=>kv.1) ∘ λp:Str×Nat×Ao3=>((.inl p.1:KK),p.2.2))).Nodup;rw[e,←List.map_map];exact List.Pairwise.map _ (λa b h q=>h (Sum.inl.inj q)) this
end
section
variable{C:Cx}
def Ng:List ApE->Bool
 | []=>true |e::l=>(match e.key with | .str _ _=>true |_=>false)&&Ng l
theorem J8:∀{l:List ApE},Ng l=true->∀e∈l,∃n t,e.key= .str n t
 | [],_,e,h=>by cases h
 |a::l,h,e,m=>by
  obtain⟨h1,h2⟩:=Aj h;rcases Apf.mp m with rfl |m
  ·split at h1
   ·rename_i s t q;exact⟨s,t,q⟩
   ·cases h1
  ·exact J8 h2 e m
def GW(K:AqI)(a:Apc):Bool:=match K.lookup a with
 |some ⟨_,_,.dict es _,_⟩=>Ng es.toList |_=>false
def isK(s:Str)(v:Ao3):Bool:=match v with | .str x _=>F9 x s |_=>false
theorem oW(s:Str)(v:Ao3):v.isStr s=isK s v:=by cases v<;>first |rfl |exact Jq _ _
def V4(s:Str)(l:List ApE):Option ApE:=LR none (λe _ ih=>bt (isK s e.key) (some e) ih) l
theorem Of(s:Str):∀l:List ApE,V4 s l=l.find? (·.key.isStr s)
 | []=>rfl |e::l=>by show bt (isK s e.key) (some e) (V4 s l)=_;rw[List.find?_cons,oW,Of s l];cases isK s e.key<;>rfl
def Uc(K:AqI)(a:Apc)(s:Str):Option (Option Ao3):=match K.lookup a with
 |some ⟨_,_,.dict es _,_⟩=>some ((V4 s es.toList).map (·.val)) |_=>none
theorem JQ{K:AqI}(hK:K.In C.h1)(h:GW K a=true):∃m,C.h1.Ns a m∧∀s r,Uc K a s=some r->m s=r:=by
 unfold GW at h;split at h
 ·rename_i es n _ e;refine⟨Aro es,⟨_,es,n,hK _ _ e,rfl,λen he=>J8 h en (by simpa using he),λ_=>rfl⟩,λs r q=>?_⟩;unfold Uc at q;rw[e] at q;cases q;rw[Of];unfold Aro findBy;rw[←Array.find?_toList]
 ·cases h
def Si(K:AqI)(nm:List Str)(p:Str×AV):Bool:=match Uc K Ar5 p.1 with
 |some (some v)=>Gq K nm 20 p.2 v
 |some none=>(match Uc K AqG p.1 with
  |some (some v)=>Gq K nm 20 p.2 v
  |_=>false)
 |none=>false
theorem Wi{K:AqI}(hK:K.In C.h1)(hm:GW K Ar5=true)(hb:GW K AqG=true)(h:Si K C.nm p=true):Tj C p.1 p.2:=by
 obtain⟨mg,g1,g2⟩:=JQ hK hm;obtain⟨mb,b1,b2⟩:=JQ hK hb;unfold Si at h;split at h
 ·rename_i v e;exact⟨v,λW hp B=>Ed hK B h,.inl ⟨mg,g1,g2 _ _ e⟩⟩
 ·rename_i e;split at h
  ·rename_i v e2;exact⟨v,λW hp B=>Ed hK B h,.inr ⟨mg,mb,g1,g2 _ _ e,b1,b2 _ _ e2⟩⟩
  ·cases h
 ·cases h
theorem ON{α:Type}:∀{l:List (Str×α)} {s:Str} {w:α},l.lookup s=some w->(s,w)∈l
 | [],_,_,h=>by cases h
 |(a,b)::l,s,w,h=>by
  rw[Apy] at h;split at h
  ·rename_i q;cases h;rw[beq_iff_eq.mp q];exact .head _
  ·exact .tail _ (ON h)
def JJ(t:TT)(nm:List Str):Bool:=GR nm t.CI (Ao1 "append")&&(GR nm t.OQ (Ao1 "pop")&&(GR nm t.DL (Ao1 "extend")&&(GR nm t.E8 (Ao1 "index")&&(GR nm t.DK (Ao1 "encode")&&(GR nm t.E9 (Ao1 "__init__")&&GR nm t.E7 (Ao1 "ascii"))))))
def Vv(nm:List Str)(p:Nat×Nat):Bool:=match Bs nm p.1,Bs nm p.2 with
 |some ⟨⟨c::_⟩⟩,some ⟨⟨[d]⟩⟩=>c==d |_,_=>false
def Jf(K:AqI)(t:TT)(nm:List Str):Bool:=specialIn K (.ref t.cC) "__getattribute__"==some (some (.builtin "type.__getattribute__"))&&(readsIn K t.cC (.type "type")&&(match Bs nm t.E9 with
 |some s=>(match findCls K (.ref t.cC) (.type "type") s with |some (.val (.ref g))=>g==t.cF |_=>false)
 |none=>false))
structure AP(C:Cx)(K:AqI)(t:TT)(gl:List (Str×AV)):Prop where
 hK:K.In C.h1
 sys:∃o,C.h1.get? ArX=some o
 nodup:GO C.nm=true
 at_:DD (UQ K C.nm t) t.at_.LX=true
 cl:DD (Qg K) t.cl.LX=true
 kp:DD (λp=>keepIn K (.ref p.1)) t.fn.LX=true
 bd:∀p∈t.bd.LX,(p.1==ArX)=false∧∃m,UE C p.1 m∧GO (m.map (·.1))=true∧OC K C.nm p.2 m=true
 xc:Gz K t.xG=true
 xs:subIn K (.ref t.xG) (.ref t.xG)=some true
 cm:Jf K t C.nm=true
 nms:JJ t C.nm=true
 ch:DD (Vv C.nm) t.ch=true
 enc:∀p∈t.enc,∃X,C.nm[p.1]?=some X∧p.2.length≤1000∧∀s u,Gives (Builtin.«str.encode» ⟨[.str X s,.str (Ao1 "ascii") u],[]⟩) (.bytes p.2.toArray)
 mn:GW K Ar5=true
 bn:GW K AqG=true
 gl:DD (Si K C.nm) gl=true
 lim:C.h1.NoLimit
 whole:∃v,Gq K C.nm 20 t.whole v=true
 Ki:t.whole=C.whole
theorem Jv{α:Type}:∀{l:List (Nm×α)} {x:Nm} {v:α},A2 l x=some v->(x,v)∈l
 | [],_,_,h=>by cases h
 |(a,b)::l,x,v,h=>by
  have h:bt (Ao9 x a) (some b) (A2 l x)=some v:=h;cases q:Ao9 x a with
  |true=>rw[q] at h;cases h;rw[Ao6 q];exact .head _
  |false=>rw[q] at h;exact .tail _ (Jv h)
section
variable{F:AqI}{t:TT}{gl:List (Str×AV)}{sum:Nat->List AV->St->K AV->Option Bool}{loop:Nat->Bo->St->Option (M Unit)}{dc:Nat->Bool}
theorem AP.ok(R:AP C F t gl):Ok C:=⟨GP R.nodup⟩
theorem AP.ag(R:AP C F t gl):Ih C ⟨C.nm,gl⟩:=⟨rfl,λs w h=>Wi R.hK R.mn R.bn (p:=(s,w)) (DE R.gl _<|ON h)⟩
theorem AP.tab(R:AP C F t gl):FP C (t.tab sum loop dc):=by
 refine⟨λd l h=>?_,λW h B=>?_,R.sys,R.Ki,λx n y h=>?_⟩
 ·obtain⟨a,m,b,c,e⟩:=R.bd _ (Tr.get_mem h);exact⟨a,_,b.dictOf c,λW h B=>OD R.hK B e⟩
 ·obtain⟨v,q⟩:=R.whole;exact⟨v,R.Ki▸Ed R.hK B q⟩
 ·have h:NC (OR none some<|A2 t.ch x) (λ_=>none) n=some y:=h;cases n with
  |succ n=>cases h
  |zero=>
   have h:OR none some (A2 t.ch x)=some y:=h;cases q:A2 t.ch x with
   |none=>rw[q] at h;cases h
   |some z=>
    rw[q] at h;cases(show some z=some y from h);have:=DE R.ch _ (Jv q);unfold Vv at this;split at this
    ·rename_i c _ d e1 e2;rw[AA] at e1 e2;cases beq_iff_eq.mp this;exact⟨_,c,e1,by omega,rfl,e2⟩
    ·cases this
theorem Mc{α β:Type}{o:Option α}{n:Option β}{f:α->Option β}{b:β}(h:OR n f o=some b)(hn:n=none):∃a,o=some a∧f a=some b:=by
 cases o with
 |none=>rw[show OR n f none=n from rfl,hn] at h;cases h
 |some a=>exact⟨a,rfl,h⟩
theorem AP.attr(R:AP C F t gl){Cl:Nat}{k:NB}(h:(t.tab sum loop dc).attr Cl x=some k):∃o,UP F C.nm (oY t Cl) Cl (x,o)=true∧k=OR (bt (oY t Cl) NB.FR NB.data) NB.FI o:=by obtain⟨u,h1,h⟩:=Mc h rfl;obtain⟨o,h2,h⟩:=Mc h rfl;have:=DE (DE R.at_ _<|Tr.get_mem h1) _ (Tr.get_mem h2);exact⟨o,this,(Apr h).symm⟩
theorem AP.m5(R:AP C F t gl):Eo C (t.tab sum loop dc):=by
 refine⟨λCl x nm h hn=>?_,λCl x nm f h hn=>?_,λCl x nm h hn=>?_⟩<;>obtain⟨o,h1,h2⟩:=R.attr h<;>unfold UP at h1<;>rw[AA,hn] at h1<;>dsimp only at h1
 ·cases o with
  |some f=>cases h2
  |none=>
   cases q:oY t Cl with
   |true=>rw[q] at h1;exact⟨F,R.hK,N6 h1⟩
   |false=>rw[q] at h2;cases h2
 ·cases o with
  |none=>cases q:oY t Cl<;>rw[q] at h2<;>cases h2
  |some g=>
   cases h2;cases q:oY t Cl with
   |true=>rw[q] at h1;cases h1
   |false=>rw[q] at h1;exact⟨F,R.hK,Q2 h1⟩
 ·cases o with
  |some f=>cases h2
  |none=>
   cases q:oY t Cl with
   |true=>rw[q] at h2;cases h2
   |false=>rw[q] at h1;exact⟨F,R.hK,Qj h1⟩
theorem Mn{α:Type}{b:Bool}{o:Option α}{v:α}(h:bt b o none=some v):b=true∧o=some v:=by cases b with |true=>exact⟨rfl,h⟩|false=>cases h
theorem AP.FI(R:AP C F t gl):IV C (t.tab sum loop dc):=by
 have h:=R.nms;unfold JJ at h;obtain⟨h1,h⟩:=Aj h;obtain⟨h2,h⟩:=Aj h;obtain⟨h3,h⟩:=Aj h;obtain⟨h4,h⟩:=Aj h;obtain⟨h5,h⟩:=Aj h;obtain⟨h6,h7⟩:=Aj h;refine⟨B6 h2,B6 h1,B6 h3,B6 h4,B6 h5,B6 h6,B6 h7,λCl x nm g h hn=>?_,λs b h=>R.enc _ (Jv h)⟩;have z:bt (Ao9 Cl t.cC) (bt (Ao9 x t.E9) (some t.cF) none) none=some g:=h;obtain⟨e1,z1⟩:=Mn z;obtain⟨e2,z2⟩:=Mn z1;have e1:=Ao6 e1;have e2:=Ao6 e2;have e3:=Apr z2;subst e1 e2 e3;have q:=R.cm;unfold Jf at q;obtain⟨q1,q⟩:=Aj q;obtain⟨q2,q3⟩:=Aj q;rw[AA,hn] at q3;dsimp only at q3;split at q3
 ·rename_i g e;refine⟨F,R.hK,beq_iff_eq.mp q1,_,q2,?_⟩;rw[e,beq_iff_eq.mp q3]
 ·cases q3
theorem AP.zU(R:AP C F t gl):UL C (t.tab sum loop dc):=λD G h=>by
 have h:bt (Ao9 D t.xG) (Ao9 G t.xG) false=true:=h;rcases CV h with⟨h1,h2⟩|⟨_,h⟩
 ·cases Ao6 h1;cases Ao6 h2;exact⟨HU R.hK R.xc,F,R.hK,R.xs⟩
 ·cases h
theorem AP.rL(R:AP C F t gl){n:Nat}{cl:CL}(ok:Cp C n cl):IU C ⟨t.tab sum loop dc,cl⟩ n:=⟨R.ok,R.tab,R.m5,R.FI,R.zU,ok⟩
theorem AP.call(R:AP C F t gl){lo:Nat}(fns:∀p∈t.fn.LX,∀n,lo≤n->Mb C (t.tab sum loop dc) n p.2 p.1)(ks:∀a vs σ k r,sum a vs σ k=some r->keepIn F (.ref a)=true):Gl C (t.tab sum loop dc) t.fn.get lo:=by
 have kept:∀a,keepIn F (.ref a)=true->Kept C a:=λa h=>⟨F,R.hK,h⟩
 have cl:∀a i,(t.tab sum loop dc).init a=some i->∃b,(t.tab sum loop dc).isExc a=b∧Qg F (a,some i,b)=true:=λa i h=>by obtain⟨p,h1,h2⟩:=Mc h rfl;refine⟨p.2,by show OR false _ (t.cl.get a)=_;rw[h1];rfl,?_⟩;have:=DE R.cl _ (Tr.get_mem h1);obtain⟨p1,p2⟩:=p;cases(show p1=some i from h2);exact this
 refine⟨λa cf h n hn=>fns _ (Tr.get_mem h) n hn,λa i h e=>?_,λa i h e=>?_,λa cf h=>kept a (DE R.kp _<|Tr.get_mem h),λa i h=>?_,λa vs σ k r h=>kept a (ks a vs σ k r h),R.lim⟩
 ·obtain⟨b,e1,h⟩:=cl a i h;rw[e] at e1;subst e1;obtain⟨h1,h⟩:=Aj h;obtain⟨h2,h3⟩:=Aj h;obtain⟨i1,h2⟩:=Aj h2;obtain⟨i2,i3⟩:=Aj h2;exact⟨⟨F,R.hK,h1,beq_iff_eq.mp i1,beq_iff_eq.mp i2⟩,ME R.hK i3⟩
 ·obtain⟨b,e1,h⟩:=cl a i h;rw[e] at e1;subst e1;obtain⟨h1,h⟩:=Aj h;obtain⟨h2,h⟩:=Aj h;obtain⟨h3,h4⟩:=Aj h;obtain⟨i1,h3⟩:=Aj h3;obtain⟨i2,i3⟩:=Aj h3;exact⟨HU R.hK h1,MD R.hK h2,⟨F,R.hK,beq_iff_eq.mp i1,beq_iff_eq.mp i2⟩,ME R.hK i3⟩
 ·obtain⟨b,e1,h⟩:=cl a i h;cases b with
  |true=>exact kept a (Aj (Aj (Aj h).2).2).2
  |false=>exact kept a (Aj (Aj h).2).2
end
end
abbrev Ho(a:CE)(b:Nat):CE:=.attr a b
abbrev AB(a:Operator)(b:CE)(c:CE):CE:=.bin a b c
abbrev AJ(a:BoolOp)(b:List CE):CE:=.DY a b
abbrev Eg(a:List UInt8):CE:=.B4 a
abbrev Az(a:CE)(b:List CE):CE:=.call a b
abbrev AY(a:Nat):CE:=.Mp a
abbrev HS(a:CE)(b:List CmpOp)(c:List CE):CE:=.K4 a b c
abbrev Dn(a:CE)(b:CT)(c:CE)(d:List CE):CE:=.comp a b c d
abbrev ZV(a:CE)(b:CT)(c:CE)(d:CT)(e:CE):CE:=.NX a b c d e
abbrev ZW(a:CE)(b:CE)(c:CT)(d:CE):CE:=.VE a b c d
abbrev Bu(a:List CE)(b:List CE):CE:=.dict a b
abbrev Am(a:Nat)(b:AV):CE:=.iL a b
abbrev Dp(a:Int):CE:=.int a
abbrev AD(a:CE)(b:CE)(c:CE):CE:=.Oz a b c
abbrev An(a:List CE):CE:=.list a
abbrev Aa(a:Nat):CE:=.l a
abbrev AQ(a:Nat)(b:CE):CE:=.mark a b
abbrev Al(a:CE)(b:Nat)(c:List CE):CE:=.FI a b c
abbrev Jo(a:CE):CE:=.neg a
abbrev Ao:CE:=.A4
abbrev ES(a:CE):CE:=.not a
abbrev Cu(a:CE)(b:CE)(c:CE)(d:CE):CE:=.zQ a b c d
abbrev Ab(a:Nat):CE:=.str a
abbrev Bh(a:CE)(b:CE):CE:=.sub a b
abbrev Bf(a:Bool):CE:=.tru a
abbrev Ad(a:List CE):CE:=.Ak a
abbrev jJ(a:CT)(b:CE)(c:CT)(d:CE)(e:List CE):CS:=.asc a b c d e
abbrev Ar(a:CT)(b:CE):CS:=.rH a b
abbrev qG:CS:=.cont
abbrev AU(a:CE):CS:=.expr a
abbrev Fc(a:CT)(b:CE)(c:List CS):CS:=.V6 a b c
abbrev G3(a:CE)(b:List CS)(c:List CS):CS:=.Oz a b c
abbrev Ag(a:CE):CS:=.ret a
abbrev Dd(a:CE):CS:=.zM a
abbrev Cw(a:List CT)(b:CE):CS:=.zW a b
abbrev qH(a:List CS)(b:CE)(c:Nat)(d:List CS):CS:=.Nl a b c d
abbrev S5(a:Nat)(b:CE)(c:List CS):CS:=.Zx a b c
abbrev Av(a:CE)(b:Nat):CT:=.attr a b
abbrev zY(a:Nat):CT:=.Mp a
abbrev Ai(a:Nat):CT:=.l a
abbrev FZ(a:CE)(b:CE):CT:=.sub a b
abbrev BJ(a:List CT):CT:=.Ak a
abbrev A3(a b:CE):CE:=.K4 a [.Eq] [b]
abbrev sD(a b:CE):CE:=.K4 a [.Gt] [b]
abbrev yP(a b:CE):CE:=.K4 a [.GtE] [b]
abbrev Ui(a b:CE):CE:=.K4 a [.In] [b]
abbrev Gg(a b:CE):CE:=.K4 a [.Is] [b]
abbrev Fb(a b:CE):CE:=.K4 a [.IsNot] [b]
abbrev qLt(a b:CE):CE:=.K4 a [.Lt] [b]
abbrev AfI(a b:CE):CE:=.K4 a [.LtE] [b]
abbrev B8(a b:CE):CE:=.K4 a [.NotEq] [b]
abbrev XJ(a b:CE):CE:=.K4 a [.NotIn] [b]
abbrev CA:CE:=.int 0
abbrev Be:CE:=.int 1
abbrev VM:CE:=.int 2
abbrev Zo:CE:=.int 3
abbrev Nx:CE:=.int 4
abbrev nO:CE:=.int 5
abbrev eI6:CE:=.int 6
abbrev eI7:CE:=.int 7
abbrev eI8:CE:=.int 8
abbrev eI9:CE:=.int 9
abbrev eG(n a:Nat):CE:=.iL n (.Au (.ref a))
abbrev AI(n a:Nat)(l:List CE):CE:=.call (eG n a) l
abbrev Cf(a:CE)(n:Int):CE:=.sub a (.int n)
abbrev Ay(a:Nat)(n:Int):CE:=.sub (.l a) (.int n)
abbrev Bn(a n:Nat):CE:=.attr (.l a) n
abbrev sF(c:CE)(l:List CS):CS:=.Oz c l []
abbrev BA(a:Nat)(e:CE):CS:=.rH (.l a) e
def OT:List Str:=[(Ao1 "/claim/cut.py"),(Ao1 "<<"),(Ao1 ">>"),(Ao1 "slice"),(Ao1 "map"),(Ao1 "func"),(Ao1 "=="),(Ao1 "!="),(Ao1 "<"),(Ao1 "<="),(Ao1 ">"),(Ao1 ">="),(Ao1 "send on closed channel"),(Ao1 "close of closed channel"),(Ao1 "close of nil channel"),(Ao1 "int"),(Ao1 "string"),(Ao1 "array"),(Ao1 "struct"),(Ao1 "p"),(Ao1 "q"),(Ao1 "self"),(Ao1 "message"),(Ao1 "spot"),(Ao1 "Exception"),(Ao1 "__init__"),(Ao1 "value"),(Ao1 "ChanError"),(Ao1 "panic"),(Ao1 "text"),(Ao1 "GoPanic"),(Ao1 "face"),(Ao1 "RUNTIME_ERROR"),(Ao1 "encode"),(Ao1 "ascii"),(Ao1 "world"),(Ao1 "T"),(Ao1 "wanted"),(Ao1 "base_of"),(Ao1 "interface"),(Ao1 "implements"),(Ao1 "kind"),(Ao1 "i"),(Ao1 "has_sign"),(Ao1 "KIND_BITS"),(Ao1 "number"),(Ao1 "least_int"),(Ao1 "low"),(Ao1 "op"),(Ao1 "a"),(Ao1 "b"),(Ao1 "/"),(Ao1 "%"),(Ao1 "runtime_panic"),(Ao1 "integer divide by zero"),(Ao1 "cut_quotient"),(Ao1 "whole"),(Ao1 "+"),(Ao1 "-"),(Ao1 "*"),(Ao1 "&"),(Ao1 "|"),(Ao1 "^"),(Ao1 "SHIFTING_OPS"),(Ao1 "shifted_int"),(Ao1 "wrapped_int"),(Ao1 "exact_result"),(Ao1 "function"),(Ao1 "cells"),(Ao1 "work"),(Ao1 "values"),(Ao1 "defers"),(Ao1 "serves"),(Ao1 "is_deferred"),(Ao1 "tasks"),(Ao1 "extend"),(Ao1 "many"),(Ao1 "len"),(Ao1 "MachineFault"),(Ao1 "reader"),(Ao1 "a value is missing"),(Ao1 "begin"),(Ao1 "found"),(Ao1 "choices"),(Ao1 "all"),(Ao1 "here"),(Ao1 "most"),(Ao1 "MOST_PARTS"),(Ao1 "FuelFault"),(Ao1 "a value of too many parts"),(Ao1 "nil"),(Ao1 "isinstance"),(Ao1 "bool"),(Ao1 "bytes"),(Ao1 "may_compare"),(Ao1 "left"),(Ao1 "pop"),(Ao1 "need_few"),(Ao1 "value_tag"),(Ao1 "tag"),(Ao1 "LOOSE_TAGS"),(Ao1 "hash of unhashable type"),(Ao1 "append"),(Ao1 "list"),(Ao1 "tuple"),(Ao1 "steps"),(Ao1 "step"),(Ao1 "part"),(Ao1 "with_part_along"),(Ao1 "inner"),(Ao1 "nil dereference"),(Ao1 "place"),(Ao1 "ptr"),(Ao1 "entries"),(Ao1 "coming"),(Ao1 "mark"),(Ao1 "entry"),(Ao1 "key"),(Ao1 "entry_of"),(Ao1 "rows"),(Ao1 "maps"),(Ao1 "cell"),(Ao1 "part_along"),(Ao1 "row"),(Ao1 "new_row"),(Ao1 "index"),(Ao1 "index out of range"),(Ao1 "inner_place"),(Ao1 "range"),(Ao1 "load"),(Ao1 "element_place"),(Ao1 "high"),(Ao1 "length"),(Ao1 "room"),(Ao1 "end"),(Ao1 "last"),(Ao1 "slice bounds out of range"),(Ao1 "PlainMap"),(Ao1 "value_key"),(Ao1 "map_of"),(Ao1 "table"),(Ao1 "told"),(Ao1 "assignment to entry in nil map"),(Ao1 "put"),(Ao1 "underlying_of"),(Ao1 "zero_value"),(Ao1 "e"),(Ao1 "local"),(Ao1 "global"),(Ao1 "deref"),(Ao1 "field"),(Ao1 "is_place_at"),(Ao1 "elem"),(Ao1 "way_of_place"),(Ao1 "parts"),(Ao1 "base"),(Ao1 "run"),(Ao1 "call"),(Ao1 "globals"),(Ao1 "place_of_pointer"),(Ao1 "store"),(Ao1 "way"),(Ao1 "begin_of_way"),(Ao1 "octets"),(Ao1 "es"),(Ao1 "routine"),(Ao1 "task"),(Ao1 "const"),(Ao1 "zero"),(Ao1 "fn"),(Ao1 "literal"),(Ao1 "told_value"),(Ao1 "do_later"),(Ao1 "asked_values"),(Ao1 "address"),(Ao1 "fresh"),(Ao1 "pointer"),(Ao1 "lazy"),(Ao1 "second"),(Ao1 "parts_asked"),(Ao1 "typed"),(Ao1 "captured"),(Ao1 "outer"),(Ao1 "own"),(Ao1 "callee"),(Ao1 "builtin"),(Ao1 "POINTED_NAMES"),(Ao1 "point"),(Ao1 "receive"),(Ao1 "cut"),(Ao1 "bounds"),(Ao1 "one"),(Ao1 "made"),(Ao1 "parts_of_value"),(Ao1 "unary"),(Ao1 "binary"),(Ao1 "convert"),(Ao1 "assert"),(Ao1 "method"),(Ao1 "no such expression: "),(Ao1 "take"),(Ao1 "place_on_way"),(Ao1 "pointer_to"),(Ao1 "&&"),(Ao1 "count_of_parts"),(Ao1 "made_of"),(Ao1 "!"),(Ao1 "int_unary"),(Ao1 "plain_binary"),(Ao1 "plain_converted"),(Ao1 "is_face"),(Ao1 "plain_asserted"),(Ao1 "plain_looked_up"),(Ao1 "plain_cut"),(Ao1 "part_of_value"),(Ao1 "new_thing"),(Ao1 "COMPARING_SIGNS"),(Ao1 "joined_texts"),(Ao1 "int_arithmetic"),(Ao1 "is_ordered_so"),(Ao1 "values_equal"),(Ao1 "old"),(Ao1 "new"),(Ao1 "octets_of_rune"),(Ao1 "slice_listed"),(Ao1 "OCTET_KIND"),(Ao1 "octets_of"),(Ao1 "is_octets"),(Ao1 "whole_slice"),(Ao1 "runes_of"),(Ao1 "is_pair"),(Ao1 "face_fits"),(Ao1 "is_good"),(Ao1 "interface conversion"),(Ao1 "looked_up"),(Ao1 "is_there"),(Ao1 "cut_text"),(Ao1 "part_of_slice"),(Ao1 "new_cell"),(Ao1 "bound_method"),(Ao1 "new_map"),(Ao1 "at"),(Ao1 "put_key"),(Ao1 "zip"),(Ao1 "receiver"),(Ao1 "given"),(Ao1 "params"),(Ao1 "results"),(Ao1 "body"),(Ao1 "literals"),(Ao1 "locals"),(Ao1 "taken"),(Ao1 "channels"),(Ao1 "waiting"),(Ao1 "held"),(Ao1 "counts"),(Ao1 "sorted"),(Ao1 "fuel"),(Ao1 "all_functions"),(Ao1 "PlainStore"),(Ao1 "PlainChannels"),(Ao1 "PlainGates"),(Ao1 "gates"),(Ao1 "PlainRoutines"),(Ao1 "routines"),(Ao1 "prints"),(Ao1 "outcome"),(Ao1 "path"),(Ao1 "package"),(Ao1 "underlying"),(Ao1 "methods"),(Ao1 "adding"),(Ao1 "sync.#state"),(Ao1 "gate"),(Ao1 "sync.#count"),(Ao1 "group"),(Ao1 "Error"),(Ao1 "runtime.Error.Error"),(Ao1 "Lock"),(Ao1 "Unlock"),(Ao1 "PLAIN"),(Ao1 "sync.Mutex.Lock"),(Ao1 "sync.Mutex.Unlock"),(Ao1 "locks"),(Ao1 "Add"),(Ao1 "Done"),(Ao1 "Wait"),(Ao1 "sync.WaitGroup.Add"),(Ao1 "sync.WaitGroup.Done"),(Ao1 "sync.WaitGroup.Wait"),(Ao1 "waits"),(Ao1 "error"),(Ao1 "runtime.Error"),(Ao1 "sync.Mutex"),(Ao1 "sync.WaitGroup"),(Ao1 "NamedRow"),(Ao1 ""),(Ao1 "runtime"),(Ao1 "sync"),(Ao1 "packages"),(Ao1 "known_rows"),(Ao1 "named"),(Ao1 "consts"),(Ao1 "funcs"),(Ao1 "bodies"),(Ao1 "files"),(Ao1 "scopes"),(Ao1 "order"),(Ao1 "starts"),(Ao1 "settle"),(Ao1 "want"),(Ao1 "mentions"),(Ao1 "measured"),(Ao1 "inits"),(Ao1 "late_keys"),(Ao1 "late_parts"),(Ao1 "late_sizes"),(Ao1 "is_whole"),(Ao1 "NameFault"),(Ao1 "there is no type "),(Ao1 "TypeFault"),(Ao1 "the type "),(Ao1 " is told by itself"),(Ao1 "script"),(Ao1 "max"),(Ao1 "size"),(Ao1 "spool"),(Ao1 "some"),(Ao1 "_law_drawn"),(Ao1 "led"),(Ao1 "World"),(Ao1 "TypedFn"),(Ao1 "m.f#1"),(Ao1 "x"),(Ao1 "_law_whole"),(Ao1 "m.v"),(Ao1 "PlainRun"),(Ao1 "Choices"),(Ao1 "PlainCall"),(Ao1 "other"),(Ao1 "has_row"),(Ao1 "there"),(Ao1 "enumerate"),(Ao1 "TASK_DEEDS"),(Ao1 "word"),(Ao1 "_law_run"),(Ao1 "two"),(Ao1 "_law_read"),(Ao1 "_law_pair"),(Ao1 "_law_row"),(Ao1 "_law_map"),(Ao1 "_law_func"),(Ao1 "m.g"),(Ao1 "n"),(Ao1 "_law_one"),(Ao1 "v"),(Ao1 "_law_leaf"),(Ao1 "W"),(Ao1 "_law_three"),(Ao1 "uint8"),(Ao1 "_law_text"),(Ao1 "octet"),(Ao1 "none"),(Ao1 "_law_at"),(Ao1 "_law_any"),(Ao1 "y"),(Ao1 "tx"),(Ao1 "ty"),(Ao1 "_law_cut"),(Ao1 "||"),(Ao1 "j"),(Ao1 "w"),(Ao1 "_law_bool"),(Ao1 "first"),(Ao1 "is_open"),(Ao1 "asked"),(Ao1 "Do"),(Ao1 "late"),(Ao1 "m.S.Do"),(Ao1 "_law_held"),(Ao1 "_law_number"),(Ao1 "_law_made_form"),(Ao1 "tree"),(Ao1 "due"),(Ao1 "_law_told_form"),(Ao1 "bad"),(Ao1 "_law_shown"),(Ao1 "_law_told_right"),(Ao1 "_law_spool"),(Ao1 "_law_form_right"),(Ao1 "state"),(Ao1 "answer"),(Ao1 "is_closed"),(Ao1 "int8"),(Ao1 "int16"),(Ao1 "int32"),(Ao1 "int64"),(Ao1 "uint"),(Ao1 "uint16"),(Ao1 "uint32"),(Ao1 "uint64"),(Ao1 "send"),(Ao1 "sent"),(Ao1 "got"),(Ao1 "drop"),(Ao1 "either"),(Ao1 "behind"),(Ao1 "assign"),(Ao1 "before"),(Ao1 "update"),(Ao1 "let"),(Ao1 "give"),(Ao1 "return"),(Ao1 "go"),(Ao1 "defer"),(Ao1 "turn"),(Ao1 "turned"),(Ao1 "again"),(Ao1 "walk"),(Ao1 "item"),(Ao1 "ask"),(Ao1 "select"),(Ao1 "selected"),(Ao1 "u")]
def tD:List CS:=[AU (Al (Am 24 (.Au (.type "Exception"))) 25 [Aa 21,Aa 22]),Ar (Av (Aa 21) 22) (Aa 22),Ar (Av (Aa 21) 23) (Aa 23)]
def eX:List CS:=[AU (Al (eG 27 39) 25 [Aa 21,Ab 28]),Ar (Av (Aa 21) 26) (Aa 26)]
def eY:List CS:=[Ag (AI 30 114 [Ad [Ab 31,eG 32 117,Al (Aa 29) 33 [Ab 34]]])]
def eZ:List CS:=[sF (A3 (Cf (Al (Aa 35) 38 [Aa 37]) 0) (Ab 39)) [Ag (Gg (AI 40 254 [Aa 35,Aa 36,Aa 37]) Ao)],Ag (A3 (Aa 36) (Aa 37))]
def fA:List CS:=[Ag (A3 (Ay 41 0) (Ab 42))]
def fB:List CS:=[Ag (AD (AI 43 270 [Aa 41]) (AB .Sub CA (AB .Pow VM (AB .Sub (Bh (eG 44 262) (Aa 41)) Be))) CA)]
def fC:List CS:=[BA 47 (AI 46 277 [Aa 41]),Ag (AB .Add (AB .Mod (AB .Sub (Aa 45) (Aa 47)) (AB .Pow VM (Bh (eG 44 262) (Aa 41)))) (Aa 47))]
def fD:List CS:=[sF (Ui (Aa 48) (Ad [Ab 51,Ab 52])) [sF (A3 (Aa 50) CA) [Dd (AI 53 124 [Ab 54])],BA 56 (AI 55 291 [Aa 49,Aa 50]),Ag (AD (A3 (Aa 48) (Ab 51)) (Aa 56) (AB .Sub (Aa 49) (AB .Mult (Aa 50) (Aa 56))))],sF (A3 (Aa 48) (Ab 57)) [Ag (AB .Add (Aa 49) (Aa 50))],sF (A3 (Aa 48) (Ab 58)) [Ag (AB .Sub (Aa 49) (Aa 50))],sF (A3 (Aa 48) (Ab 59)) [Ag (AB .Mult (Aa 49) (Aa 50))],sF (A3 (Aa 48) (Ab 60)) [Ag (AB .BitAnd (Aa 49) (Aa 50))],sF (A3 (Aa 48) (Ab 61)) [Ag (AB .BitOr (Aa 49) (Aa 50))],Ag (AD (A3 (Aa 48) (Ab 62)) (AB .BitXor (Aa 49) (Aa 50)) (AB .BitAnd (Aa 49) (ZW Ao Ao (Ai 0) Ao)))]
def fE:List CS:=[sF (Ui (Aa 48) (Am 63 (.Ak [(.str 1),(.str 2)]))) [Ag (AI 64 298 [Aa 41,Aa 48,Aa 49,Aa 50])],Ag (AI 65 284 [Aa 41,AI 66 305 [Aa 48,Aa 49,Aa 50]])]
def fG:List CS:=[sF (A3 (Aa 48) (Ab 58)) [Ag (AI 65 284 [Aa 41,AB .Sub CA (Aa 49)])],Ag (AD (A3 (Aa 48) (Ab 62)) (AI 65 284 [Aa 41,AB .Sub (Jo Be) (Aa 49)]) (Aa 49))]
def fH:List CS:=[sF (A3 (Aa 48) (Ab 6)) [Ag (A3 (Aa 49) (Aa 50))],sF (A3 (Aa 48) (Ab 7)) [Ag (B8 (Aa 49) (Aa 50))],sF (A3 (Aa 48) (Ab 8)) [Ag (qLt (Aa 49) (Aa 50))],sF (A3 (Aa 48) (Ab 9)) [Ag (AfI (Aa 49) (Aa 50))],Ag (AD (A3 (Aa 48) (Ab 10)) (sD (Aa 49) (Aa 50)) (yP (Aa 49) (Aa 50)))]
def fJ:List CS:=[Ar (Av (Aa 21) 67) (Aa 67),Ar (Av (Aa 21) 68) (Bu [] []),Ar (Av (Aa 21) 69) (An []),Ar (Av (Aa 21) 70) (An []),Ar (Av (Aa 21) 71) (An []),Ar (Av (Aa 21) 72) Ao,Ar (Av (Aa 21) 73) (Bf false)]
def fK:List CS:=[AU (Al (Bn 21 69) 75 [Cu (Aa 74) Ao Ao (Jo Be)])]
def fL:List CS:=[sF (sD (Aa 76) (Az (Am 77 (.Au (.builtin "len"))) [Bn 21 70])) [Dd (AI 78 83 [Ab 79,Ab 80])],BA 81 (AB .Sub (Az (Am 77 (.Au (.builtin "len"))) [Bn 21 70]) (Aa 76)),BA 82 (Cu (Bn 21 70) (Aa 81) Ao Ao),Ar (Av (Aa 21) 70) (Cu (Bn 21 70) Ao (Aa 81) Ao),Ag (Aa 82)]
def fN:List CS:=[Ar (Av (Aa 21) 83) (Aa 83),Ar (Av (Aa 21) 84) (An []),Ar (Av (Aa 21) 85) Ao]
def fO:List CS:=[sF (sD (Aa 76) (AD (Gg (Aa 86) Ao) (Am 87 (.int ⟨1048576,[]⟩)) (Aa 86))) [Dd (AI 88 95 [Ab 89])]]
def fP:List CS:=[sF (Gg (Aa 26) Ao) [Ag (Ab 90)],sF (Az (Am 91 (.Au (.builtin "isinstance"))) [Aa 26,Am 92 (.Au (.type "bool"))]) [Ag (Ab 92)],sF (Az (Am 91 (.Au (.builtin "isinstance"))) [Aa 26,Am 15 (.Au (.type "int"))]) [Ag (Ab 15)],Ag (AD (Az (Am 91 (.Au (.builtin "isinstance"))) [Aa 26,Am 93 (.Au (.type "bytes"))]) (Ab 29) (Ay 26 0))]
def fQ:List CS:=[Cw [Ai 95,Ai 82] (Ad [An [],An [Aa 26]]),S5 0 (B8 (Aa 95) (An [])) [BA 85 (Al (Aa 95) 96 []),AU (AI 97 458 [AB .Add (Az (Am 77 (.Au (.builtin "len"))) [Aa 82]) Be,Aa 86]),BA 99 (AI 98 465 [Aa 85]),sF (AJ .Or [Ui (Aa 99) (Am 100 (.Ak [(.str 3),(.str 4),(.str 5)])),AJ .And [A3 (Aa 99) (Ab 31),ES (Az (Aa 94) [Ay 85 1])]]) [Dd (AI 53 124 [Ab 101])],G3 (A3 (Aa 99) (Ab 31)) [AU (Al (Aa 82) 102 [Ad [Aa 99,Ay 85 1]]),AU (Al (Aa 95) 102 [Ay 85 2])] [G3 (Ui (Aa 99) (Ad [Ab 18,Ab 17])) [AU (Al (Aa 82) 102 [Ad [Aa 99,Az (Am 77 (.Au (.builtin "len"))) [Ay 85 1]]]),AU (Al (Aa 95) 75 [Cu (Az (Am 103 (.Au (.type "list"))) [Ay 85 1]) Ao Ao (Jo Be)])] [AU (Al (Aa 82) 102 [Ad [Aa 99,Aa 85]])]]],Ag (Az (Am 104 (.Au (.type "tuple"))) [Aa 82])]
def fR:List CS:=[Fc (Ai 106) (Aa 105) [BA 26 (Bh (Ay 26 1) (Aa 106))],Ag (Aa 26)]
def fS:List CS:=[sF (A3 (Aa 105) (Ad [])) [Ag (Aa 107)],BA 109 (AI 108 510 [Bh (Ay 26 1) (Ay 105 0),Cu (Aa 105) Be Ao Ao,Aa 107]),Ag (Ad [Ay 26 0,AB .Add (AB .Add (Cu (Ay 26 1) Ao (Ay 105 0) Ao) (Ad [Aa 109])) (Cu (Ay 26 1) (AB .Add (Ay 105 0) Be) Ao Ao)])]
def fU:List CS:=[sF (Gg (Aa 26) Ao) [Dd (AI 53 124 [Ab 110])],Ag (Ad [Cf (Ay 26 1) 0,Cf (Ay 26 1) 1,Ay 26 2])]
def fV:List CS:=[Ag (Ad [Ab 112,Ad [Ay 111 0,Ay 111 1],Ay 111 2])]
def fW:List CS:=[Ag (Ad [Ay 111 0,Ay 111 1,AB .Add (Ay 111 2) (Ad [Aa 106])])]
def fX:List CS:=[Ar (Av (Aa 21) 113) (An []),Ar (Av (Aa 21) 114) CA]
def fY:List CS:=[Fc (Ai 116) (Bn 21 113) [sF (A3 (Ay 116 1) (Aa 115)) [Ag (Aa 116)]],Ag Ao]
def fZ:List CS:=[BA 82 (Al (Aa 21) 118 [Aa 115]),sF (Fb (Aa 82) Ao) [Ar (FZ (Aa 82) Zo) (Aa 26),Ag Ao],AU (Al (Bn 21 113) 102 [An [Bn 21 114,Aa 115,Aa 117,Aa 26]]),Ar (Av (Aa 21) 114) (AB .Add (Bn 21 114) Be)]
def f6:List CS:=[Ar (Av (Aa 21) 94) (Aa 94),Ar (Av (Aa 21) 68) (An []),Ar (Av (Aa 21) 119) (An []),Ar (Av (Aa 21) 120) (An [])]
def f7:List CS:=[AU (Al (Bn 21 68) 102 [Aa 26]),Ag (AB .Sub (Az (Am 77 (.Au (.builtin "len"))) [Bn 21 68]) Be)]
def f9:List CS:=[AU (Al (Bn 21 119) 102 [Az (Am 103 (.Au (.type "list"))) [Aa 70]]),Ag (AB .Sub (Az (Am 77 (.Au (.builtin "len"))) [Bn 21 119]) Be)]
def gA:List CS:=[Ar (BJ [Ai 41,Ai 45,Ai 105]) (Aa 111),sF (A3 (Aa 41) (Ab 121)) [Ag (AI 122 503 [Bh (Bn 21 68) (Aa 45),Aa 105])],Ag (AI 122 503 [Bh (Bh (Bn 21 119) (Aa 45)) (Ay 105 0),Cu (Aa 105) Be Ao Ao])]
def gB:List CS:=[Ar (BJ [Ai 41,Ai 45,Ai 105]) (Aa 111),G3 (A3 (Aa 41) (Ab 121)) [Ar (FZ (Bn 21 68) (Aa 45)) (AI 108 510 [Bh (Bn 21 68) (Aa 45),Aa 105,Aa 26])] [BA 123 (Bh (Bn 21 119) (Aa 45)),Ar (FZ (Aa 123) (Ay 105 0)) (AI 108 510 [Bh (Aa 123) (Ay 105 0),Cu (Aa 105) Be Ao Ao,Aa 26])]]
def gC:List CS:=[Ag (Ad [Ab 3,Ad [Ab 123,Al (Aa 21) 124 [Aa 70],Ad []],CA,Az (Am 77 (.Au (.builtin "len"))) [Aa 70],Az (Am 77 (.Au (.builtin "len"))) [Aa 70]])]
def gD:List CS:=[sF (AJ .Or [Gg (Aa 26) Ao,ES (HS CA [.LtE,.Lt] [Aa 125,Ay 26 3])]) [Dd (AI 53 124 [Ab 126])],Ag (AI 127 531 [Ay 26 1,AB .Add (Ay 26 2) (Aa 125)])]
def gE:List CS:=[Ag (AD (Gg (AY 26) Ao) (An []) (Dn (Al (AY 21) 129 [Al (AY 21) 130 [AY 26,Aa 125]]) (Ai 125) (Az (Am 128 (.Au (.type "range"))) [Cf (AY 26) 3]) []))]
def gF:List CS:=[Ar (BJ [Ai 132,Ai 133]) (AD (Gg (Aa 26) Ao) (Ad [CA,CA]) (Ad [Ay 26 3,Ay 26 4])),BA 81 (AD (Gg (Aa 47) Ao) CA (Aa 47)),BA 134 (AD (Gg (Aa 131) Ao) (Aa 132) (Aa 131)),BA 135 (AD (Gg (Aa 86) Ao) (Aa 133) (Aa 86)),sF (ES (HS CA [.LtE,.LtE,.LtE,.LtE] [Aa 81,Aa 134,Aa 135,Aa 133])) [Dd (AI 53 124 [Ab 136])],Ag (AD (Gg (Aa 26) Ao) Ao (Ad [Ab 3,Ay 26 1,AB .Add (Ay 26 2) (Aa 81),AB .Sub (Aa 134) (Aa 81),AB .Sub (Aa 135) (Aa 81)]))]
def gG:List CS:=[AU (Al (Bn 21 120) 102 [AI 137 567 []]),Ag (Ad [Ab 4,AB .Sub (Az (Am 77 (.Au (.builtin "len"))) [Bn 21 120]) Be])]
def gH:List CS:=[Ag (AD (Gg (Aa 26) Ao) Ao (Bh (Bn 21 120) (Ay 26 1)))]
def gI:List CS:=[Cw [Ai 140,Ai 115] (Ad [AI 138 481 [Aa 117,Bn 21 94],Al (Aa 21) 139 [Aa 26]]),BA 82 (AD (Gg (Aa 140) Ao) Ao (Al (Aa 140) 118 [Aa 115])),Ag (AD (Gg (Aa 82) Ao) (Ad [Ao,Bf false]) (Ad [Ay 82 3,Bf true]))]
def gJ:List CS:=[sF (Gg (Aa 26) Ao) [Dd (AI 53 124 [Ab 142])],AU (Al (Al (Aa 21) 139 [Aa 26]) 143 [AI 138 481 [Aa 117,Bn 21 94],Aa 117,Aa 141])]
def gK:List CS:=[Ag (Al (Aa 35) 38 [Aa 36])]
def gL:List CS:=[BA 109 (AI 144 728 [AY 35,Aa 36]),sF (A3 (Ay 109 0) (Ab 92)) [Ag (Bf false)],sF (A3 (Ay 109 0) (Ab 15)) [Ag CA],sF (A3 (Ay 109 0) (Ab 16)) [Ag (Eg [])],sF (A3 (Ay 109 0) (Ab 17)) [Ag (Ad [Ab 17,AB .Mult (Ad [AI 145 738 [AY 35,Ay 109 2]]) (Ay 109 1)])],sF (A3 (Ay 109 0) (Ab 18)) [Ag (Ad [Ab 18,Az (Am 104 (.Au (.type "tuple"))) [Dn (AI 145 738 [AY 35,Ay 123 1]) (Ai 123) (Ay 109 1) []]])],Ag Ao]
def gM:List CS:=[sF (Ui (Ay 146 0) (Ad [Ab 147,Ab 148,Ab 149])) [Ag (Bf true)],sF (A3 (Ay 146 0) (Ab 150)) [Ag (AI 151 819 [Aa 35,Ay 146 3])],sF (B8 (Ay 146 0) (Ab 125)) [Ag (Bf false)],BA 41 (Cf (Al (Aa 35) 38 [Cf (Ay 146 3) 1]) 0),Ag (AJ .Or [A3 (Aa 41) (Ab 3),AJ .And [A3 (Aa 41) (Ab 17),AI 151 819 [Aa 35,Ay 146 3]]])]
def gN:List CS:=[sF (Ui (Ay 146 0) (Ad [Ab 147,Ab 148])) [Ag (Ad [Ad [],Ad [Ay 146 0,Ay 146 3],Ad []])],sF (A3 (Ay 146 0) (Ab 149)) [Ag (Ad [Ad [Ay 146 3],Ad [Ab 149],Ad []])],sF (AJ .And [A3 (Ay 146 0) (Ab 125),A3 (Cf (Al (Aa 35) 38 [Cf (Ay 146 3) 1]) 0) (Ab 3)]) [Ag (Ad [Ad [Ay 146 3,Ay 146 4],Ad [Ab 3],Ad [Ad [Ab 152]]])],Ar (BJ [Ai 154,Ai 155,Ai 105]) (AI 153 826 [Aa 35,Ay 146 3]),sF (A3 (Ay 146 0) (Ab 150)) [Ag (Ad [Aa 154,Aa 155,AB .Add (Aa 105) (Ad [Ad [Ab 150,Ay 146 4]])])],Ag (Ad [AB .Add (Aa 154) (Ad [Ay 146 4]),Aa 155,AB .Add (Aa 105) (Ad [Ad [Ab 152]])])]
def gO:List CS:=[sF (A3 (Ay 155 0) (Ab 147)) [Ag (Ad [Ad [Ab 121,Bh (Bn 157 68) (Ay 155 1),Ad []],Aa 70])],sF (A3 (Ay 155 0) (Ab 148)) [Ag (Ad [Ad [Ab 121,Bh (Bn 156 158) (Ay 155 1),Ad []],Aa 70])],sF (A3 (Ay 155 0) (Ab 149)) [Ag (Ad [AI 159 517 [Ay 70 0],Cu (Aa 70) Be Ao Ao])],Ag (Ad [Al (Bn 156 160) 130 [Ay 70 0,Ay 70 1],Cu (Aa 70) VM Ao Ao])]
def gP:List CS:=[Ar (BJ [Ai 154,Ai 155,Ai 105]) (Aa 161),Ar (BJ [Ai 111,Ai 95]) (AI 162 833 [Aa 156,Aa 157,Aa 155,Aa 70]),Fc (Ai 106) (AD (A3 (Ay 155 0) (Ab 3)) (Cu (Aa 105) Be Ao Ao) (Aa 105)) [sF (A3 (Ay 106 0) (Ab 150)) [BA 111 (AI 127 531 [Aa 111,Ay 106 1]),qG],sF (ES (HS CA [.LtE,.Lt] [Ay 95 0,Az (Am 77 (.Au (.builtin "len"))) [Cf (Al (Bn 156 160) 129 [Aa 111]) 1]])) [Dd (AI 53 124 [Ab 126])],Cw [Ai 95,Ai 111] (Ad [AI 127 531 [Aa 111,Ay 95 0],Cu (Aa 95) Be Ao Ao])],Ag (Aa 111)]
def gQ:List CS:=[sF (ES (HS CA [.LtE,.LtE,.LtE] [Aa 47,Aa 131,Az (Am 77 (.Au (.builtin "len"))) [Aa 163]])) [Ag Ao],Ag (Cu (Aa 163) (Aa 47) (Aa 131) Ao)]
def gR:List CS:=[Ag (Dn (Ad [Ab 26,Aa 146]) (Ai 146) (Aa 164) [])]
def gS:List CS:=[BA 146 (Ay 166 1),G3 (Ui (Ay 146 0) (Ad [Ab 167,Ab 90,Ab 168,Ab 169,Ab 170])) [AU (Al (Bn 157 70) 102 [AI 171 915 [Aa 156,Aa 157,Aa 146]])] [G3 (AJ .And [Ui (Ay 146 0) (Ad [Ab 147,Ab 148,Ab 150,Ab 149,Ab 125]),AI 151 819 [Bn 156 35,Aa 146]]) [BA 161 (AI 153 826 [Bn 156 35,Aa 146]),AU (Al (Aa 157) 172 [AB .Add (AI 173 903 [Ay 161 0]) (An [Ad [Ab 129,Aa 161]])])] [G3 (AJ .And [A3 (Ay 146 0) (Ab 174),B8 (Cf (Ay 146 3) 0) (Ab 175)]) [BA 161 (AI 153 826 [Bn 156 35,Ay 146 3]),AU (Al (Aa 157) 172 [AB .Add (AI 173 903 [Ay 161 0]) (An [Ad [Ab 176,Aa 161]])])] [G3 (A3 (Ay 146 0) (Ab 174)) [AU (Al (Aa 157) 172 [An [Ad [Ab 26,Ay 146 3]]])] [G3 (A3 (Ay 146 0) (Ab 177)) [AU (Al (Aa 157) 172 [An [Ad [Ab 26,Ay 146 4],Ad [Ab 178,Aa 146]]])] [AU (Al (Aa 157) 172 [AI 179 920 [Aa 156,Aa 146]])]]]]]]
def gU:List CS:=[sF (A3 (Ay 146 0) (Ab 167)) [Ag (Ay 146 3)],sF (A3 (Ay 146 0) (Ab 90)) [Ag Ao],sF (A3 (Ay 146 0) (Ab 168)) [Ag (AI 145 738 [Bn 156 35,Ay 146 1])],sF (A3 (Ay 146 0) (Ab 169)) [Ag (Ad [Ab 5,Ay 146 3,Ad []])],BA 109 (Bh (Bn 156 180) (Ay 146 3)),Ag (Ad [Ab 5,Ay 146 3,Az (Am 104 (.Au (.type "tuple"))) [Dn (Ad [Ab 121,Bh (Ho (AY 157) 68) (Aa 182)]) (BJ [Ai 183,Ai 182]) (Bn 109 181) []]])]
def gV:List CS:=[BA 41 (Ay 146 0),sF (A3 (Aa 41) (Ab 157)) [BA 184 (AD (A3 (Cf (Ay 146 3) 0) (Ab 169)) (Ad []) (Ad [Cf (Ay 146 3) 1])),Ag (AB .Add (AI 173 903 [AB .Add (Aa 184) (Az (Am 104 (.Au (.type "tuple"))) [Ay 146 4])]) (An [Ad [Ab 157,Aa 146]]))],sF (A3 (Aa 41) (Ab 185)) [BA 187 (AD (Ui (Ay 146 3) (eG 186 739)) (An [Ad [Ab 187]]) (An [])),Ag (AB .Add (AB .Add (AI 173 903 [Ay 146 4]) (Aa 187)) (An [Ad [Ab 185,Aa 146]]))],sF (A3 (Aa 41) (Ab 188)) [Ag (An [Ad [Ab 26,Ay 146 3],Ad [Ab 187],Ad [Ab 188,Aa 146]])],sF (A3 (Aa 41) (Ab 189)) [jJ (Ai 190) (Aa 191) (Ai 191) (Ad [Ay 146 4,Ay 146 5,Ay 146 6]) [Fb (Aa 191) Ao],BA 56 (An [Ad [Ab 26,Ay 146 3]]),sF (A3 (Cf (Al (Bn 156 35) 38 [Cf (Ay 146 3) 1]) 0) (Ab 17)) [BA 56 (An [Ad [Ab 26,Ad [Ab 174,Ad [Ab 112,Cf (Ay 146 3) 1],Ay 146 2,Ay 146 3]]])],Ag (AB .Add (AB .Add (Aa 56) (AI 173 903 [Aa 190])) (An [Ad [Ab 192,Aa 146]]))],Ag (AB .Add (AI 173 903 [AI 193 925 [Aa 146]]) (An [Ad [Ab 192,Aa 146]]))]
def gW:List CS:=[BA 41 (Cf (AY 146) 0),sF (A3 (Aa 41) (Ab 194)) [Ag (Ad [Cf (AY 146) 4])],sF (A3 (Aa 41) (Ab 195)) [Ag (Ad [Cf (AY 146) 4,Cf (AY 146) 5])],sF (Ui (Aa 41) (Ad [Ab 196,Ab 31,Ab 197,Ab 150,Ab 175,Ab 198])) [Ag (Ad [Cf (AY 146) 3])],sF (Ui (Aa 41) (Ad [Ab 125,Ab 117])) [Ag (Ad [Cf (AY 146) 3,Cf (AY 146) 4])],sF (A3 (Aa 41) (Ab 18)) [Ag (AD (A3 (Az (Am 77 (.Au (.builtin "len"))) [AY 146]) Nx) (Az (Am 104 (.Au (.type "tuple"))) [Cf (AY 146) 3]) (Az (Am 104 (.Au (.type "tuple"))) [Dn (Bh (Cf (AY 146) 3) (Aa 111)) (Ai 111) (Cf (AY 146) 4) []]))],sF (A3 (Aa 41) (Ab 123)) [Ag (Az (Am 104 (.Au (.type "tuple"))) [Dn (Aa 191) (BJ [Ai 111,Ai 191]) (Cf (AY 146) 4) []])],sF (A3 (Aa 41) (Ab 140)) [Ag (Az (Am 104 (.Au (.type "tuple"))) [ZV (Aa 191) (Ai 123) (Cf (AY 146) 3) (Ai 191) (Aa 123)])],Dd (AI 78 83 [Ab 79,AB .Add (Ab 199) (Aa 41)])]
def gX:List CS:=[BA 70 (Al (Aa 157) 200 [Az (Am 77 (.Au (.builtin "len"))) [Cf (Ay 166 1) 0]]),AU (Al (Bn 157 70) 102 [Al (Bn 156 160) 129 [AI 201 840 [Aa 156,Aa 157,Ay 166 1,Aa 70]]])]
def gY:List CS:=[BA 70 (Al (Aa 157) 200 [Az (Am 77 (.Au (.builtin "len"))) [Cf (Ay 166 1) 0]]),AU (Al (Bn 157 70) 102 [AI 202 524 [AI 201 840 [Aa 156,Aa 157,Ay 166 1,Aa 70]]])]
def gZ:List CS:=[BA 146 (Ay 166 1),sF (A3 (Bh (Bn 157 70) (Jo Be)) (A3 (Ay 146 3) (Ab 203))) [AU (Al (Aa 157) 200 [Be]),AU (Al (Aa 157) 172 [An [Ad [Ab 26,Ay 146 5]]])]]
def hF:List CS:=[BA 146 (Ay 166 1),BA 70 (Al (Aa 157) 200 [AI 204 958 [Aa 146]]),AU (Al (Bn 157 70) 102 [AI 205 965 [Aa 156,Aa 146,Aa 70]])]
def hJ:List CS:=[sF (A3 (Ay 146 0) (Ab 189)) [Ag (AB .Add Be (Az (Am 77 (.Au (.builtin "len"))) [Dn (Aa 191) (Ai 191) (Ad [Ay 146 4,Ay 146 5,Ay 146 6]) [Fb (Aa 191) Ao]]))],Ag (Az (Am 77 (.Au (.builtin "len"))) [AI 193 925 [Aa 146]])]
def hO:List CS:=[BA 41 (Ay 146 0),sF (A3 (Aa 41) (Ab 194)) [BA 36 (Al (Bn 156 35) 38 [Ay 146 1]),Ag (AD (A3 (Ay 146 3) (Ab 206)) (ES (Ay 70 0)) (AI 207 319 [Ay 36 1,Ay 146 3,Ay 70 0]))],sF (A3 (Aa 41) (Ab 195)) [Ag (AI 208 986 [Aa 156,Ay 146 3,Ay 70 0,Ay 70 1,Al (Bn 156 35) 38 [Cf (Ay 146 4) 1]])],sF (A3 (Aa 41) (Ab 196)) [Ag (AI 209 993 [Aa 156,Ay 70 0,Al (Bn 156 35) 38 [Cf (Ay 146 3) 1],Al (Bn 156 35) 38 [Ay 146 1]])],sF (A3 (Aa 41) (Ab 31)) [BA 210 (A3 (Cf (Al (Bn 156 35) 38 [Cf (Ay 146 3) 1]) 0) (Ab 39)),Ag (AD (Aa 210) (Ay 70 0) (Ad [Ab 31,Cf (Ay 146 3) 1,Ay 70 0]))],sF (A3 (Aa 41) (Ab 197)) [Ag (AI 211 1000 [Aa 156,Ay 70 0,Ay 146 4,Ay 146 5])],sF (A3 (Aa 41) (Ab 117)) [Ag (AI 212 1007 [Aa 156,Aa 146,Aa 70])],sF (A3 (Aa 41) (Ab 189)) [Ag (AI 213 1014 [Aa 156,Aa 146,Aa 70])],sF (Ui (Aa 41) (Ad [Ab 150,Ab 125])) [Ag (AI 214 972 [Aa 146,Aa 70])],Ag (AI 215 1019 [Aa 156,Aa 146,Aa 70])]
def hW:List CS:=[sF (A3 (Ay 146 0) (Ab 150)) [Ag (Bh (Cf (Ay 70 0) 1) (Ay 146 4))],BA 68 (AD (Az (Am 91 (.Au (.builtin "isinstance"))) [Ay 70 0,Am 93 (.Au (.type "bytes"))]) (Ay 70 0) (Cf (Ay 70 0) 1)),sF (ES (HS CA [.LtE,.Lt] [Ay 70 1,Az (Am 77 (.Au (.builtin "len"))) [Aa 68]])) [Dd (AI 53 124 [Ab 126])],Ag (Bh (Aa 68) (Ay 70 1))]
def hY:List CS:=[sF (XJ (Aa 48) (Am 216 (.Ak [(.str 6),(.str 7),(.str 8),(.str 9),(.str 10),(.str 11)]))) [Ag (AD (A3 (Ay 36 0) (Ab 16)) (AI 217 979 [Aa 49,Aa 50]) (AI 218 312 [Ay 36 1,Aa 48,Aa 49,Aa 50]))],sF (Ui (Ay 36 0) (Ad [Ab 15,Ab 16])) [Ag (AI 219 326 [Aa 48,Aa 49,Aa 50])],sF (AJ .Or [Gg (Aa 49) Ao,Gg (Aa 50) Ao]) [Ag (A3 (AJ .And [Gg (Aa 49) Ao,Gg (Aa 50) Ao]) (A3 (Aa 48) (Ab 6)))],Ag (A3 (AI 220 473 [Aa 49,Aa 50,Ho (Bn 156 160) 94]) (A3 (Aa 48) (Ab 6)))]
def hZ:List CS:=[sF (AJ .And [A3 (Ay 222 0) (Ab 15),A3 (Ay 221 0) (Ab 15)]) [Ag (AI 65 284 [Ay 222 1,Aa 26])],sF (AJ .And [A3 (Ay 222 0) (Ab 16),A3 (Ay 221 0) (Ab 15)]) [Ag (AI 223 884 [Aa 26])],sF (AJ .And [A3 (Ay 222 0) (Ab 16),A3 (Ay 221 0) (Ab 3)]) [BA 68 (Al (Bn 156 160) 224 [Aa 26]),Ag (AD (A3 (Al (Bn 156 35) 38 [Ay 221 1]) (eG 225 898)) (Az (Am 93 (.Au (.type "bytes"))) [Aa 68]) (AI 226 889 [Aa 68]))],sF (AJ .And [A3 (Ay 222 0) (Ab 3),A3 (Ay 221 0) (Ab 16)]) [BA 227 (A3 (Al (Bn 156 35) 38 [Ay 222 1]) (eG 225 898)),Ag (Al (Bn 156 160) 228 [AD (Aa 227) (Az (Am 103 (.Au (.type "list"))) [Aa 26]) (AI 229 872 [Aa 26])])],Ag (Aa 26)]
def U1:List CS:=[BA 232 (AJ .And [Fb (Aa 26) Ao,AI 231 261 [Bn 156 35,Ay 26 1,Aa 37]]),sF (AJ .And [ES (Aa 232),ES (Aa 230)]) [Dd (AI 53 124 [Ab 233])],BA 82 (AI 145 738 [Bn 156 35,Aa 37]),sF (Aa 232) [BA 82 (AD (A3 (Cf (Al (Bn 156 35) 38 [Aa 37]) 0) (Ab 39)) (Aa 26) (Ay 26 2))],Ag (AD (Aa 230) (Ad [Ab 104,Ad [Aa 82,Aa 232]]) (Aa 82))]
def U2:List CS:=[Ar (BJ [Ai 82,Ai 235]) (Al (Bn 156 160) 234 [Ay 70 0,Ay 70 1]),BA 141 (AD (Bh (Aa 146) (Jo Be)) (Cf (Cf (Ay 146 1) 1) 0) (Ay 146 1)),BA 82 (AD (Aa 235) (Aa 82) (AI 145 738 [Bn 156 35,Aa 141])),Ag (AD (Bh (Aa 146) (Jo Be)) (Ad [Ab 104,Ad [Aa 82,Aa 235]]) (Aa 82))]
def U3:List CS:=[Cw [Ai 95,Ai 190] (Ad [An [],Cu (Aa 70) Be Ao Ao]),Fc (Ai 191) (Ad [Ay 146 4,Ay 146 5,Ay 146 6]) [AU (Al (Aa 190) 102 [AD (Gg (Aa 191) Ao) Ao (Ay 95 0)]),BA 95 (AD (Gg (Aa 191) Ao) (Aa 95) (Cu (Aa 95) Be Ao Ao))],Ar (BJ [Ai 47,Ai 131,Ai 86]) (Aa 190),Cw [Ai 56,Ai 36] (Ad [Al (Bn 156 35) 38 [Cf (Ay 146 3) 1],Ay 70 0]),sF (A3 (Ay 36 0) (Ab 16)) [BA 82 (AI 236 896 [Aa 56,AD (Gg (Aa 47) Ao) CA (Aa 47),AD (Gg (Aa 131) Ao) (Az (Am 77 (.Au (.builtin "len"))) [Aa 56]) (Aa 131)]),sF (Gg (Aa 82) Ao) [Dd (AI 53 124 [Ab 136])],Ag (Aa 82)],sF (A3 (Ay 36 0) (Ab 17)) [BA 56 (Ad [Ab 3,Ad [Cf (Ay 56 1) 0,Cf (Ay 56 1) 1,Ay 56 2],CA,Ay 36 1,Ay 36 1])],Ag (Al (Bn 156 160) 237 [Aa 56,Aa 47,Aa 131,Aa 86])]
def U4:List CS:=[BA 41 (Cf (AY 146) 0),sF (AJ .And [A3 (Aa 41) (Ab 18),A3 (Az (Am 77 (.Au (.builtin "len"))) [AY 146]) Nx]) [Ag (Ad [Ab 18,Az (Am 104 (.Au (.type "tuple"))) [AY 70]])],sF (A3 (Aa 41) (Ab 18)) [Ag (Ad [Ab 18,Az (Am 104 (.Au (.type "tuple"))) [Dn (Bh (AY 70) (Al (Cf (AY 146) 4) 125 [Aa 111])) (Ai 111) (Az (Am 128 (.Au (.type "range"))) [Az (Am 77 (.Au (.builtin "len"))) [AY 70]]) []]])],sF (A3 (Aa 41) (Ab 175)) [Ag (AI 202 524 [Ad [Ab 121,Al (Bn 156 160) 238 [Cf (AY 70) 0],Ad []]])],sF (A3 (Aa 41) (Ab 198)) [Ag (AI 239 1026 [Aa 156,Cf (AY 146) 4,Cf (AY 70) 0])],sF (A3 (Aa 41) (Ab 140)) [BA 82 (Al (Bn 156 160) 240 []),Fc (Ai 241) (Az (Am 128 (.Au (.type "range"))) [CA,Az (Am 77 (.Au (.builtin "len"))) [AY 70],VM]) [AU (Al (Bn 156 160) 242 [Aa 82,Bh (AY 70) (Aa 241),Bh (AY 70) (AB .Add (Aa 241) Be)])],Ag (Aa 82)],BA 36 (Al (Bn 156 35) 38 [Cf (AY 146) 1]),BA 68 (AB .Mult (An [AI 145 738 [Bn 156 35,AD (A3 (Ay 36 0) (Ab 3)) (Ay 36 1) (Ay 36 2)]]) (Cf (AY 146) 3)),Fc (BJ [Ai 123,Ai 26]) (Az (Am 243 (.Au (.type "zip"))) [Cf (AY 146) 4,AY 70]) [Ar (FZ (Aa 68) (Ay 123 0)) (Aa 26)],Ag (AD (A3 (Ay 36 0) (Ab 3)) (Al (Bn 156 160) 228 [Aa 68]) (Ad [Ab 17,Az (Am 104 (.Au (.type "tuple"))) [Aa 68]]))]
def U5:List CS:=[sF (A3 (Ay 141 0) (Ab 31)) [sF (Gg (Aa 244) Ao) [Dd (AI 53 124 [Ab 110])],Ag (Ad [Ab 5,Ay 141 1,Ad [Ad [Ab 31,Aa 244,Ay 141 1]]])],Ag (Ad [Ab 5,Ay 141 1,Ad [Ad [Ab 245,Aa 244]]])]
def U6:List CS:=[Ar (Av (Aa 21) 117) (Aa 117),Ar (Av (Aa 21) 250) (Aa 119),Ar (Av (Aa 21) 246) (Aa 246),Ar (Av (Aa 21) 247) (Aa 247),Ar (Av (Aa 21) 181) (Aa 181),Ar (Av (Aa 21) 248) (Aa 248),Ar (Av (Aa 21) 249) (Aa 249)]
def U7:List CS:=[Ar (Av (Aa 21) 123) (Aa 123),Ar (Av (Aa 21) 251) CA]
def U8:List CS:=[Ar (Av (Aa 21) 252) (An []),Ar (Av (Aa 21) 253) (An [])]
def U9:List CS:=[Ar (Av (Aa 21) 254) (An []),Ar (Av (Aa 21) 255) (Bu [] []),Ar (Av (Aa 21) 253) (An [])]
def Va:List CS:=[Cw [Ai 95,Ai 82] (Ad [Bu [] [],Dn (Bh (AY 180) (Aa 117)) (Ai 117) (Az (Am 256 (.Au (.builtin "sorted"))) [AY 180]) []]),S5 0 (B8 (Aa 95) (An [])) [Ar (zY 85) (Al (Aa 95) 96 []),Ar (FZ (Aa 82) (Ho (AY 85) 117)) (AY 85),AU (Al (Aa 95) 75 [Dn (Bh (Ho (AY 85) 249) (Aa 117)) (Ai 117) (Az (Am 256 (.Au (.builtin "sorted"))) [Ho (AY 85) 249]) []])],Ag (Aa 82)]
def Vb:List CS:=[Ar (Av (Aa 21) 35) (Aa 35),Ar (Av (Aa 21) 180) (AI 258 1760 [Aa 180]),Ar (Av (Aa 21) 83) (Aa 83),Ar (Av (Aa 21) 257) (Aa 257),Ar (Av (Aa 21) 160) (AI 259 691 [Bn 21 94]),Ar (Av (Aa 21) 252) (AI 260 1216 []),Ar (Av (Aa 21) 262) (AI 261 1263 []),Ar (Av (Aa 21) 264) (AI 263 446 [Aa 83]),Ar (Av (Aa 21) 265) (An []),Ar (Av (Aa 21) 266) Ao,Ar (Av (Aa 21) 158) (Bu [] []),Fc (Ai 267) (Az (Am 256 (.Au (.builtin "sorted"))) [Bn 35 158]) [Ar (FZ (Bn 21 158) (Aa 267)) (Al (Bn 21 160) 238 [AI 145 738 [Aa 35,Bh (Bn 35 158) (Aa 267)]])]]
def Vc:List CS:=[Ar (Av (Aa 21) 267) (Aa 267),Ar (Av (Aa 21) 268) (Aa 268),Ar (Av (Aa 21) 269) (Aa 269),Ar (Av (Aa 21) 270) (Aa 270)]
def Vd:List CS:=[BA 29 (Ad [Ab 5,Ad [],Ad [Ad [Ab 16]],Bf false]),BA 271 (Ad [Ab 5,Ad [Ad [Ab 15,Ab 15]],Ad [],Bf false]),BA 273 (Ad [Ab 18,Ad [Ad [Ab 272,Ad [Ab 15,Ab 15],Bf false]]]),BA 275 (Ad [Ab 18,Ad [Ad [Ab 274,Ad [Ab 15,Ab 15],Bf false]]]),BA 141 (Bu [Ab 276] [Ad [Bf false,Aa 29,Ab 277]]),BA 283 (Bu [Ab 278,Ab 279] [Ad [Bf true,eG 280 1868,Ab 281],Ad [Bf true,eG 280 1868,Ab 282]]),BA 290 (Bu [Ab 284,Ab 285,Ab 286] [Ad [Bf true,Aa 271,Ab 287],Ad [Bf true,eG 280 1868,Ab 288],Ad [Bf true,eG 280 1868,Ab 289]]),Ag (Bu [Ab 291,Ab 292,Ab 293,Ab 294] [AI 295 1885 [Ab 291,Ab 296,Ad [Ab 39,Ad [Ad [Ab 276,Aa 29]]],Bu [] []],AI 295 1885 [Ab 292,Ab 297,Ad [Ab 16],Aa 141],AI 295 1885 [Ab 293,Ab 298,Aa 273,Aa 283],AI 295 1885 [Ab 294,Ab 298,Aa 275,Aa 290]])]
def Ve:List CS:=[Ar (Av (Aa 21) 299) (Aa 299),Ar (Av (Aa 21) 301) (AI 300 1896 []),Ar (Av (Aa 21) 158) (Bu [] []),Ar (Av (Aa 21) 302) (Bu [] []),Ar (Av (Aa 21) 303) (Bu [] []),Ar (Av (Aa 21) 304) (Bu [] []),Ar (Av (Aa 21) 305) (Bu [] []),Ar (Av (Aa 21) 306) (Bu [] []),Ar (Av (Aa 21) 307) (An []),Ar (Av (Aa 21) 308) (An []),Ar (Av (Aa 21) 309) Ao,Ar (Av (Aa 21) 310) Ao,Ar (Av (Aa 21) 311) (Bu [] []),Ar (Av (Aa 21) 312) (Bu [] []),Ar (Av (Aa 21) 70) (Bu [] []),Ar (Av (Aa 21) 313) (Bu [] []),Ar (Av (Aa 21) 314) (An []),Ar (Av (Aa 21) 315) (An []),Ar (Av (Aa 21) 316) (An []),Ar (Av (Aa 21) 317) (Bf true)]
def Vf:List CS:=[S5 0 (A3 (Ay 141 0) (Ab 301)) [sF (XJ (Ay 141 1) (Bn 21 301)) [Dd (AI 318 52 [AB .Add (Ab 319) (Ay 141 1)])],BA 123 (Bh (Bn 21 301) (Ay 141 1)),sF (Gg (Bn 123 269) Ao) [sF (Gg (Bn 21 309) Ao) [Dd (AI 320 64 [AB .Add (AB .Add (Ab 321) (Ay 141 1)) (Ab 322)])],AU (Al (Aa 21) 309 [Ay 141 1])],BA 141 (Bn 123 269)],Ag (Aa 141)]
def Vg:List CS:=[BA 141 (AD (sD (Az (Am 77 (.Au (.builtin "len"))) [Aa 323]) CA) (Ay 323 0) CA),BA 325 (Az (Am 324 (.Au (.builtin "max"))) [Aa 141,AB .Sub (Jo Be) (Aa 141)]),Ag (An [AD (yP (Aa 325) (AB .Pow (Dp 10) (Dp 18))) (Aa 325) CA,AB .Mod (AB .Mult (AB .Add (AB .Mod (Aa 325) (Dp 2147483629)) (Dp 17)) (Dp 48271)) (Dp 2147483647)])]
def Vh:List CS:=[sF (sD (Ay 326 0) CA) [BA 82 (AB .Mod (Ay 326 0) (Aa 76)),Ar (FZ (Aa 326) CA) (AB .FloorDiv (Ay 326 0) (Aa 76)),Ag (Aa 82)],Ar (FZ (Aa 326) Be) (AB .Mod (AB .Add (AB .Mult (Ay 326 1) (Dp 39373)) eI7) (Dp 2147483647)),Ag (AB .Mod (AB .FloorDiv (AB .Mod (AB .Mult (Ay 326 1) (Ay 326 1)) (Dp 2147483629)) (Dp 32)) (Aa 76))]
def Vi:List CS:=[Ag (Bh (Aa 327) (AI 328 1967 [Aa 326,Az (Am 77 (.Au (.builtin "len"))) [Aa 327]]))]
def Vj:List CS:=[BA 68 (Ad [AI 328 1967 [Aa 326,Nx],AB .Add Zo (AI 328 1967 [Aa 326,Dp 60]),AI 328 1967 [Aa 326,nO]]),BA 329 (AD (A3 (AI 328 1967 [Aa 326,Nx]) CA) Ao (AI 328 1967 [Aa 326,eI7])),BA 116 (AD (A3 (AI 328 1967 [Aa 326,Nx]) CA) Ao (Ad [AI 328 1967 [Aa 326,Zo],AB .Add Be (AI 328 1967 [Aa 326,Zo])])),Ag (Ad [AI 328 1967 [Aa 326,Nx],AI 328 1967 [Aa 326,Zo],Aa 68,Aa 329,sD (AI 328 1967 [Aa 326,Nx]) CA,Aa 116])]
def Vk:List CS:=[Cw [Ai 170,Ai 35] (Ad [AI 330 1928 [],AI 331 1050 [Ab 332,An [Ad [Ab 333,Am 334 (.Ak [(.str 15),(.str 15)])]],Ad [],Ad [],Ad [Ad [CA,CA]],Ad [],Bu [] []]]),Ar (FZ (Bn 35 158) (Ab 335)) (Am 334 (.Ak [(.str 15),(.str 15)])),Cw [Ai 157,Ai 156] (Ad [AI 336 1861 [Aa 35,Bu [Ab 332] [Aa 170],AI 337 1078 [An []],eI9],AI 338 385 [Ao]]),Ar (BJ [Ai 45,Ai 339,Ai 68,Ai 329,Ai 340,Ai 116]) (Aa 254),AU (Al (Bn 156 160) 160 [Ad [Ab 121,Bh (Bn 156 158) (Ab 335),Ad []],Aa 339]),BA 341 (Al (Bn 156 160) 238 [AD (Gg (Aa 329) Ao) nO (Aa 329)]),BA 123 (Ad [Ab 3,Ad [Ab 123,Al (Bn 156 160) 124 [AB .Add (Az (Am 103 (.Au (.type "list"))) [Aa 68]) (An [eI9])],Ad []],CA,Zo,Nx]),BA 140 (Al (Bn 156 160) 240 []),sF (Fb (Aa 116) Ao) [AU (Al (Bn 156 160) 242 [Aa 140,Ay 116 0,Ay 116 1])],BA 70 (An [Aa 45,Ad [Ab 17,Aa 68],Ao,AD (Gg (Aa 329) Ao) Ao (Ad [Ab 112,Ad [Ab 121,Aa 341],Ad []])]),Fc (BJ [Ai 147,Ai 26]) (Az (Am 342 (.Au (.type "enumerate"))) [AB .Add (Aa 70) (An [AD (Aa 340) (Aa 123) Ao,AD (Gg (Aa 116) Ao) Ao (Aa 140)])]) [Ar (FZ (Bn 157 68) (Aa 147)) (Al (Bn 156 160) 238 [Aa 26])],Ag (An [Aa 156,Aa 157])]
def F5:List CS:=[AU (Al (Bn 157 69) 102 [Ad [Ab 26,Aa 146]]),qH [S5 1 (B8 (Bn 157 69) (An [])) [BA 166 (Al (Bn 157 69) 96 []),AU (Az (Bh (eG 343 1753) (Ay 166 0)) [Aa 156,Ao,Aa 157,Aa 166])]] (eG 30 114) 28 [Ag (Ad [Ab 28,Cf (Bn 28 26) 2])],Ag (AD (A3 (Az (Am 77 (.Au (.builtin "len"))) [Bn 157 70]) Be) (Ad [Ab 26,Cf (Bn 157 70) 0]) (Ad [Ab 70,Az (Am 77 (.Au (.builtin "len"))) [Bn 157 70]]))]
def Vl:List CS:=[Ar (BJ [Ai 344,Ai 26]) (Aa 192),sF (AJ .And [A3 (Aa 344) (Ab 26),Az (Am 91 (.Au (.builtin "isinstance"))) [Aa 26,Am 104 (.Au (.type "tuple"))],A3 (Ay 26 0) (Ab 3)]) [Ag (Ad [Aa 344,Ad [Ab 3,Al (Bn 156 160) 224 [Aa 26],Ay 26 3,Ay 26 4]])],sF (AJ .And [A3 (Aa 344) (Ab 26),Az (Am 91 (.Au (.builtin "isinstance"))) [Aa 26,Am 104 (.Au (.type "tuple"))],A3 (Ay 26 0) (Ab 4)]) [Ag (Ad [Aa 344,Ad [Ab 4,Dn (Ad [Ay 116 2,Ay 116 3]) (Ai 116) (Ho (Al (Bn 156 160) 139 [Aa 26]) 113) []]])],Ag (Aa 192)]
def Vm:List CS:=[Ar (BJ [Ai 156,Ai 157]) (AI 345 1988 [Ad [Nx,nO,Ad [eI6,eI7,eI8],eI9,Bf true,Ad [Be,VM]]]),Cw [Ai 346,Ai 191] (Ad [Ad [Ab 167,Am 334 (.Ak [(.str 15),(.str 15)]),Be,Be],Ad [Ab 167,Am 334 (.Ak [(.str 15),(.str 15)]),Be,VM]]),sF (B8 (AI 347 1995 [Aa 156,Aa 157,Ad [Ab 18,Am 348 (.Ak [(.str 18),(.Ak [(.Ak [(.str 19),(.Ak [(.str 15),(.str 15)]),(.bool false)]),(.Ak [(.str 20),(.Ak [(.str 15),(.str 15)]),(.bool false)])])]),Be,Ad [Aa 191,Aa 346],Ad [Be,CA]]]) (Ad [Ab 26,Ad [Ab 18,Ad [Be,VM]]])) [Ag (Bf false)],sF (AJ .Or [B8 (AI 173 903 [Ad [Aa 191,Aa 346]]) (An [Ad [Ab 26,Aa 191],Ad [Ab 26,Aa 346]]),B8 (AI 173 903 [Ad []]) (An [])]) [Ag (Bf false)],BA 189 (Ad [Ab 189,Am 349 (.Ak [(.str 3),(.Ak [(.str 15),(.str 15)])]),Be,Ad [Ab 147,Am 349 (.Ak [(.str 3),(.Ak [(.str 15),(.str 15)])]),Be,Nx],Aa 191,Ao,Aa 346]),sF (AJ .Or [B8 (AI 204 958 [Aa 189]) Zo,B8 (AI 204 958 [Ad [Ab 140,eG 350 1944,Be,Ad [Ad [Aa 191,Aa 346],Ad [Aa 346,Aa 191]]]]) Nx]) [Ag (Bf false)],sF (B8 (AI 204 958 [Ad [Ab 194,Am 334 (.Ak [(.str 15),(.str 15)]),Be,Ab 58,Aa 191]]) Be) [Ag (Bf false)],sF (Fb (AI 171 915 [Aa 156,Aa 157,Ad [Ab 90,eG 350 1944,Be]]) Ao) [Ag (Bf false)],sF (B8 (AI 171 915 [Aa 156,Aa 157,Ad [Ab 168,Am 348 (.Ak [(.str 18),(.Ak [(.Ak [(.str 19),(.Ak [(.str 15),(.str 15)]),(.bool false)]),(.Ak [(.str 20),(.Ak [(.str 15),(.str 15)]),(.bool false)])])]),Be]]) (Ad [Ab 18,Ad [CA,CA]])) [Ag (Bf false)],sF (B8 (AI 171 915 [Aa 156,Aa 157,Ad [Ab 169,eG 351 1953,Be,Ab 352]]) (Ad [Ab 5,Ab 352,Ad []])) [Ag (Bf false)],Ag (A3 (AI 171 915 [Aa 156,Aa 157,Ad [Ab 170,eG 351 1953,Be,Ab 332]]) (Ad [Ab 5,Ab 332,Ad [Ad [Ab 121,Cf (Bn 157 68) 0]]]))]
def Vn:List CS:=[BA 353 (AI 328 1967 [Aa 326,nO]),BA 327 (An [Ad [Ad [Ab 167,Am 334 (.Ak [(.str 15),(.str 15)]),Be,Aa 353],Aa 353],Ad [Ad [Ab 147,Am 334 (.Ak [(.str 15),(.str 15)]),Be,CA],Ay 254 0]]),Ag (AI 354 1974 [Aa 326,AB .Add (Aa 327) (An [Ad [Ad [Ab 148,Am 334 (.Ak [(.str 15),(.str 15)]),Be,Ab 335],Ay 254 1]])])]
def Vo:List CS:=[Ag (AD (HS CA [.LtE,.Lt] [Aa 355,Az (Am 77 (.Au (.builtin "len"))) [Aa 68]]) (Ad [Ab 26,Bh (Aa 68) (Aa 355)]) (Ad [Ab 28,Eg [105,110,100,101,120,32,111,117,116,32,111,102,32,114,97,110,103,101]]))]
def Vp:List CS:=[Ar (BJ [Ai 42,Ai 355]) (AI 356 2014 [Aa 326,Aa 254]),Cw [Ai 116,Ai 68,Ai 357] (Ad [Am 334 (.Ak [(.str 15),(.str 15)]),Ay 254 2,Ay 254 5]),Cw [Ai 123,Ai 17] (Ad [Ad [Ab 147,Am 358 (.Ak [(.str 17),(.int ⟨3,[]⟩),(.Ak [(.str 15),(.str 15)])]),Be,Be],Ad [Ab 147,Am 349 (.Ak [(.str 3),(.Ak [(.str 15),(.str 15)])]),Be,Nx]]),BA 361 (Ad [Ab 125,Ad [Ab 15,Ab 359],Be,Ad [Ab 167,Am 360 (.Ak [(.str 16)]),Be,Eg [97,98]],Aa 42]),Cw [Ai 362,Ai 329] (Ad [Ad [Ab 26,Ay 254 3],Ad [Ab 28,Eg [105,110,116,101,114,102,97,99,101,32,99,111,110,118,101,114,115,105,111,110]]]),sF (Gg (Ay 254 3) Ao) [BA 329 (Ad [Ab 28,Eg [110,105,108,32,100,101,114,101,102,101,114,101,110,99,101]])],BA 341 (AQ 1003 (AD (AJ .And [Fb (Aa 116) Ao,A3 (Ay 116 0) (Aa 355)]) (Ay 116 1) CA)),Ag (AI 354 1974 [Aa 326,An [AQ 1000 (Ad [Ad [Ab 125,Aa 357,Be,Aa 17,Aa 42],AI 363 2021 [Aa 68,Aa 355]]),AQ 1001 (Ad [Ad [Ab 125,Aa 357,Be,Aa 123,Aa 42],AI 363 2021 [AD (Ay 254 4) (Aa 68) (Ad []),Aa 355]]),AQ 1002 (Ad [Ad [Ab 149,Aa 357,Be,Ad [Ab 147,Ad [Ab 112,Aa 357],Be,Zo]],Aa 329]),AQ 1003 (Ad [Ad [Ab 117,Aa 357,Be,Ad [Ab 147,eG 350 1944,Be,nO],Aa 42,Bf false],Ad [Ab 26,Aa 341]]),AQ 1004 (Ad [Ad [Ab 196,Aa 357,Be,Aa 361],AI 363 2021 [Ad [Dp 97,Dp 98],Aa 355]]),AQ 1005 (Ad [Ad [Ab 125,Aa 357,Be,Ad [Ab 123,Ad [Ab 17,VM,Aa 357],Be,VM,Ad [Ad [Be,Aa 42]]],Ad [Ab 147,Aa 357,Be,CA]],AI 363 2021 [Ad [CA,Aa 355],Ay 254 0]]),AQ 1006 (Ad [Ad [Ab 197,Aa 357,Be,Ad [Ab 31,eG 364 1937,Be,Aa 42],Aa 357,Bf false],Ad [Ab 26,Aa 355]]),AQ 1007 (Ad [Ad [Ab 197,Aa 357,Be,Ad [Ab 90,eG 364 1937,Be],Aa 357,Bf false],Aa 362]),AQ 1008 (Ad [Ad [Ab 197,Aa 357,Be,Ad [Ab 31,eG 364 1937,Be,Ad [Ab 167,Am 360 (.Ak [(.str 16)]),Be,Eg [116]]],Aa 357,Bf false],Aa 362]),AQ 1009 (Ad [Ad [Ab 194,Aa 357,Be,Ab 58,Aa 42],Ad [Ab 26,AB .Sub CA (Aa 355)]]),AQ 1010 (Ad [Ad [Ab 149,Aa 357,Be,Ad [Ab 175,Ad [Ab 112,Aa 357],Be,Aa 42]],Ad [Ab 26,Aa 355]]),AQ 1011 (Ad [Ad [Ab 149,Aa 357,Be,Ad [Ab 174,Ad [Ab 112,Aa 357],Be,Ad [Ab 125,Aa 357,Be,Aa 17,Aa 42]]],AI 363 2021 [Aa 68,Aa 355]])]])]
def Vq:List CS:=[sF (ES (HS CA [.LtE,.LtE,.LtE,.LtE] [Aa 47,Aa 131,Aa 86,Aa 133])) [Ag (Ad [Ab 28,Eg [115,108,105,99,101,32,98,111,117,110,100,115,32,111,117,116,32,111,102,32,114,97,110,103,101]])],Ag (Ad [Ab 26,Ad [Ab 3,Cu (Az (Am 103 (.Au (.type "list"))) [Aa 68]) (Aa 47) (Aa 131) Ao,AB .Sub (Aa 131) (Aa 47),AB .Sub (Aa 86) (Aa 47)]])]
def Vr:List CS:=[Ar (BJ [Ai 366,Ai 367,Ai 49,Ai 50]) (Ad [Ay 333 0,Ay 365 0,AD (A3 (Cf (Ay 333 1) 0) (Ab 26)) (Cf (Ay 333 1) 1) CA,AD (A3 (Cf (Ay 365 1) 0) (Ab 26)) (Cf (Ay 365 1) 1) CA]),Cw [Ai 123,Ai 357] (Ad [Am 334 (.Ak [(.str 15),(.str 15)]),Ad [Ab 147,Am 349 (.Ak [(.str 3),(.Ak [(.str 15),(.str 15)])]),Be,Nx]]),BA 140 (Ad [Ab 140,eG 350 1944,Be,Ad [Ad [Aa 366,Aa 367],Ad [Ad [Ab 167,Aa 357,Be,Dp 1000],Aa 366]]]),BA 107 (AQ 1003 (AD (AJ .And [A3 (Aa 49) CA,A3 (Aa 50) CA]) (Ad [Ab 26,Ao]) (Ad [Ab 28,Eg [115,108,105,99,101,32,98,111,117,110,100,115,32,111,117,116,32,111,102,32,114,97,110,103,101]]))),BA 29 (AQ 1008 (AD (HS CA [.LtE,.LtE,.LtE] [Aa 49,Aa 50,eI6]) (Ad [Ab 26,Cu (Eg [103,111,112,104,101,114]) (Aa 49) (Aa 50) Ao]) (Ad [Ab 28,Eg [115,108,105,99,101,32,98,111,117,110,100,115,32,111,117,116,32,111,102,32,114,97,110,103,101]]))),Ag (AI 354 1974 [Aa 326,An [AQ 1000 (Ad [Ad [Ab 195,Aa 357,Be,Ab 58,Aa 366,Aa 367],An [Aa 333,Aa 365],Ad [Ab 26,AB .Sub (Aa 49) (Aa 50)]]),AQ 1001 (Ad [Ad [Ab 18,Am 348 (.Ak [(.str 18),(.Ak [(.Ak [(.str 19),(.Ak [(.str 15),(.str 15)]),(.bool false)]),(.Ak [(.str 20),(.Ak [(.str 15),(.str 15)]),(.bool false)])])]),Be,Ad [Aa 366,Aa 367]],An [Aa 333,Aa 365],Ad [Ab 26,Ad [Ab 18,Ad [Aa 49,Aa 50]]]]),AQ 1002 (Ad [Ad [Ab 18,Am 348 (.Ak [(.str 18),(.Ak [(.Ak [(.str 19),(.Ak [(.str 15),(.str 15)]),(.bool false)]),(.Ak [(.str 20),(.Ak [(.str 15),(.str 15)]),(.bool false)])])]),Be,Ad [Aa 366,Aa 367],Ad [Be,CA]],An [Aa 365,Aa 333],Ad [Ab 26,Ad [Ab 18,Ad [Aa 49,Aa 50]]]]),AQ 1003 (Ad [Ad [Ab 189,Am 349 (.Ak [(.str 3),(.Ak [(.str 15),(.str 15)])]),Be,Aa 123,Aa 366,Aa 367,Ao],An [Aa 333,Aa 365],AD (Ay 254 4) (AI 368 2035 [AB .Add (Ay 254 2) (Ad [eI9]),Aa 49,Aa 50,Nx,Nx]) (Aa 107)]),AQ 1004 (Ad [Ad [Ab 123,Am 358 (.Ak [(.str 17),(.int ⟨3,[]⟩),(.Ak [(.str 15),(.str 15)])]),Be,Zo,Ad [Ad [VM,Aa 366],Ad [CA,Aa 367]]],An [Aa 333,Aa 365],Ad [Ab 26,Ad [Ab 17,Ad [Aa 50,CA,Aa 49]]]]),AQ 1005 (Ad [Aa 140,An [Aa 333,Aa 365],Ad [Ab 26,Ad [Ab 4,An [Ad [Aa 49,Aa 50],Ad [Dp 1000,Aa 49]]]]]),AQ 1006 (Ad [Ad [Ab 123,Am 349 (.Ak [(.str 3),(.Ak [(.str 15),(.str 15)])]),Be,Nx,Ad [Ad [VM,Aa 366],Ad [CA,Aa 367]]],An [Aa 333,Aa 365],Ad [Ab 26,Ad [Ab 3,An [Aa 50,CA,Aa 49,CA],Nx,Nx]]]),AQ 1007 (Ad [Ad [Ab 189,Am 349 (.Ak [(.str 3),(.Ak [(.str 15),(.str 15)])]),Be,Ad [Ab 147,Am 358 (.Ak [(.str 17),(.int ⟨3,[]⟩),(.Ak [(.str 15),(.str 15)])]),Be,Be],Ao,Aa 366,Aa 367],An [Aa 333,Aa 365],AI 368 2035 [Ay 254 2,CA,Aa 49,Aa 50,Zo]]),AQ 1008 (Ad [Ad [Ab 189,Am 360 (.Ak [(.str 16)]),Be,Ad [Ab 167,Am 360 (.Ak [(.str 16)]),Be,Eg [103,111,112,104,101,114]],Aa 366,Aa 367,Ao],An [Aa 333,Aa 365],Aa 29]),AQ 1009 (Ad [Ad [Ab 150,Aa 357,Be,Ad [Ab 18,Am 348 (.Ak [(.str 18),(.Ak [(.Ak [(.str 19),(.Ak [(.str 15),(.str 15)]),(.bool false)]),(.Ak [(.str 20),(.Ak [(.str 15),(.str 15)]),(.bool false)])])]),Be,Ad [Aa 366,Aa 367]],Be],An [Aa 333,Aa 365],Ad [Ab 26,Aa 50]])]])]
def Vs:List CS:=[Ar (BJ [Ai 366,Ai 367,Ai 49,Ai 50]) (Ad [Ay 333 0,Ay 365 0,AD (A3 (Cf (Ay 333 1) 0) (Ab 26)) (Cf (Ay 333 1) 1) CA,AD (A3 (Cf (Ay 365 1) 0) (Ab 26)) (Cf (Ay 365 1) 1) CA]),Ar (BJ [BJ [Ai 42,Ai 355],BJ [Ai 370,Ai 371],Ai 48]) (Ad [AI 356 2014 [Aa 326,Aa 254],AI 356 2014 [Aa 326,Aa 254],AI 354 1974 [Aa 326,An [Ab 203,Ab 369]]]),Cw [Ai 178,Ai 373] (Ad [Ad [Ab 195,eG 372 1935,Be,Ab 8,Aa 42,Aa 370],Ad [Ab 195,eG 372 1935,Be,Ab 6,Aa 366,Aa 367]]),Cw [Ai 31,Ai 374] (Ad [AQ 2003 (A3 (qLt (Aa 355) (Aa 371)) (A3 (Aa 48) (Ab 203))),Ad [Ab 31,eG 364 1937,Be,Aa 366]]),Cw [Ai 116,Ai 375,Ai 37] (Ad [AI 354 1974 [Aa 326,An [Am 334 (.Ak [(.str 15),(.str 15)]),Am 360 (.Ak [(.str 16)])]],Ad [Ab 104,Ad [Am 334 (.Ak [(.str 15),(.str 15)]),eG 372 1935]],Ay 254 5]),Cw [Ai 235,Ai 82] (Ad [AQ 1004 (AD (A3 (Aa 37) (Am 334 (.Ak [(.str 15),(.str 15)]))) (Ad [Aa 49,Bf true]) (Ad [Eg [],Bf false])),AQ 2005 (AJ .And [Fb (Aa 116) Ao,A3 (Ay 116 0) (Aa 49)])]),BA 377 (Ad [Ab 5,Ab 376,Ad [Ad [Ab 31,Ad [Ab 31,Am 334 (.Ak [(.str 15),(.str 15)]),Aa 49],Ab 376]]]),BA 117 (Ad [Ab 117,Aa 375,Be,Ad [Ab 147,eG 350 1944,Be,nO],Aa 366,Bf true]),Ag (AI 354 1974 [Aa 326,An [AQ 1000 (Ad [Ad [Ab 198,eG 351 1953,Be,Ad [Ab 90,eG 364 1937,Be],Ad [Ab 31,Ab 376]],An [],Ad [Ab 28,Eg [110,105,108,32,100,101,114,101,102,101,114,101,110,99,101]]]),AQ 1001 (Ad [Ad [Ab 198,eG 351 1953,Be,Aa 366,Ad [Ab 169,Ab 378]],An [Aa 333],Ad [Ab 26,Ad [Ab 5,Ab 378,Ad [Ad [Ab 245,Aa 49]]]]]),AQ 1002 (Ad [Ad [Ab 198,eG 351 1953,Be,Aa 31,Ad [Ab 31,Ab 376]],An [Aa 333],Ad [Ab 26,Aa 377]]),AQ 1003 (Ad [Ad [Ab 177,eG 372 1935,Be,Aa 48,Aa 373,Aa 178],AD (Aa 374) (An [Aa 333,Aa 365]) (An []),Ad [Ab 26,AD (Aa 374) (A3 (Aa 49) (Aa 50)) (qLt (Aa 355) (Aa 371))]]),AQ 1004 (Ad [Ad [Ab 197,Ad [Ab 104,Ad [Aa 37,eG 372 1935]],Be,Aa 31,Aa 37,Bf true],An [Aa 333],Ad [Ab 26,Ad [Ab 104,Aa 82]]]),AQ 1005 (Ad [Aa 117,An [Aa 333],Ad [Ab 26,Ad [Ab 104,Ad [AD (Aa 235) (Ay 116 1) CA,Aa 235]]]])]])]
def Hi:List CS:=[BA 254 (AI 379 1981 [Aa 326]),Ar (BJ [Ai 156,Ai 157]) (AI 345 1988 [Aa 254]),Cw [Ai 365,Ai 333] (Ad [AI 380 2028 [Aa 326,Aa 254],AI 380 2028 [Aa 326,Aa 254]]),G3 (qLt (AI 328 1967 [Aa 326,eI8]) nO) [Ar (BJ [Ai 382,Ai 307,Ai 383]) (AI 381 2042 [Aa 326,Aa 254,Aa 333,Aa 365])] [Ar (BJ [Ai 382,Ai 307,Ai 383]) (AI 384 2049 [Aa 326,Aa 254,Aa 333,Aa 365])],jJ (Ai 385) (Aa 141) (BJ [Ai 107,Ai 141]) (Aa 307) [A3 (Ay 141 0) (Ab 28)],Ag (A3 (AI 386 2000 [Aa 156,AI 347 1995 [Aa 156,Aa 157,Aa 382]]) (AD (B8 (Aa 385) (An [])) (Ay 385 0) (Aa 383)))]
def Vt:List CS:=[sF (ES (AI 387 2007 [])) [Ag (Bf false)],BA 326 (AI 388 1960 [Aa 323]),Ag (AJ .And [AI 389 2054 [Aa 326],AI 389 2054 [Aa 326]])]
def fF(ps:List Nm)(c:List CS):CF:=⟨ps.map λp=>(p,false),[],[],B9 (Ba (cS 40) c)⟩
def Ex:Tr CF:=(.Ae 896 (fF [163,47,131] gQ) (.Ae 531 (fF [111,106] fW) (.Ae 361 (fF [21,67] fJ) (.Ae 277 (fF [41] fB) (.Ae 124 (fF [29] eY) (.Ae 111 (fF [21,26] eX) (.Ae 36 ⟨[(21,false),(22,false),(23,false)],[(.int ⟨0,[]⟩)],[],B9 (Ba (cS 40) tD)⟩ .Af .Af) .Af) (.Ae 270 (fF [41] fA) (.Ae 261 (fF [35,36,37] eZ) .Af .Af) .Af)) (.Ae 312 (fF [41,48,49,50] fE) (.Ae 305 (fF [48,49,50] fD) (.Ae 284 (fF [41,45] fC) .Af .Af) .Af) (.Ae 326 (fF [48,49,50] fH) (.Ae 319 (fF [41,48,49] fG) .Af .Af) .Af))) (.Ae 481 ⟨[(26,false),(94,false),(86,false)],[.A4],[],B9 (Ba (cS 40) fQ)⟩ (.Ae 424 (fF [21,83] fN) (.Ae 375 (fF [21,76] fL) (.Ae 368 (fF [21,74] fK) .Af .Af) .Af) (.Ae 465 (fF [26] fP) (.Ae 458 (fF [76,86] fO) .Af .Af) .Af)) (.Ae 517 (fF [26] fU) (.Ae 510 (fF [26,105,107] fS) (.Ae 503 (fF [26,105] fR) .Af .Af) .Af) (.Ae 524 (fF [111] fV) .Af .Af)))) (.Ae 646 (fF [21,26,47,131,86] gF) (.Ae 599 (fF [21,70] f9) (.Ae 559 (fF [21,115,117,26] fZ) (.Ae 552 (fF [21,115] fY) (.Ae 545 (fF [21] fX) .Af .Af) .Af) (.Ae 592 (fF [21,26] f7) (.Ae 585 (fF [21,94] f6) .Af .Af) .Af)) (.Ae 620 (fF [21,70] gC) (.Ae 613 (fF [21,111,26] gB) (.Ae 606 (fF [21,111] gA) .Af .Af) .Af) (.Ae 632 ⟨[(21,true),(26,true)],[],[21,26],B9 (Ba (cS 40) gE)⟩ (.Ae 627 (fF [21,26,125] gD) .Af .Af) .Af))) (.Ae 738 ⟨[(35,true),(36,false)],[],[35],B9 (Ba (cS 40) gL)⟩ (.Ae 674 (fF [21,26,117] gI) (.Ae 667 (fF [21,26] gH) (.Ae 660 (fF [21] gG) .Af .Af) .Af) (.Ae 728 (fF [35,36] gK) (.Ae 681 (fF [21,26,117,141] gJ) .Af .Af) .Af)) (.Ae 833 (fF [156,157,155,70] gO) (.Ae 826 (fF [35,146] gN) (.Ae 819 (fF [35,146] gM) .Af .Af) .Af) (.Ae 840 (fF [156,157,161,70] gP) .Af .Af))))) (.Ae 1234 (fF [21] U9) (.Ae 972 (fF [146,70] hW) (.Ae 932 (fF [156,165,157,166] gX) (.Ae 915 ⟨[(156,false),(157,true),(146,false)],[],[157],B9 (Ba (cS 40) gU)⟩ (.Ae 910 (fF [156,165,157,166] gS) (.Ae 903 (fF [164] gR) .Af .Af) .Af) (.Ae 925 ⟨[(146,true)],[],[146],B9 (Ba (cS 40) gW)⟩ (.Ae 920 (fF [156,146] gV) .Af .Af) .Af)) (.Ae 953 (fF [156,165,157,166] hF) (.Ae 946 (fF [156,165,157,166] gZ) (.Ae 939 (fF [156,165,157,166] gY) .Af .Af) .Af) (.Ae 965 (fF [156,146,70] hO) (.Ae 958 (fF [146] hJ) .Af .Af) .Af))) (.Ae 1019 ⟨[(156,false),(146,true),(70,true)],[],[146,70],B9 (Ba (cS 40) U4)⟩ (.Ae 1000 (fF [156,26,37,230] U1) (.Ae 993 (fF [156,26,221,222] hZ) (.Ae 986 (fF [156,48,49,50,36] hY) .Af .Af) .Af) (.Ae 1014 (fF [156,146,70] U3) (.Ae 1007 (fF [156,146,70] U2) .Af .Af) .Af)) (.Ae 1068 (fF [21,123] U7) (.Ae 1047 (fF [21,117,119,246,247,181,248,249] U6) (.Ae 1026 (fF [156,141,244] U5) .Af .Af) .Af) (.Ae 1117 (fF [21] U8) .Af .Af)))) (.Ae 1995 (fF [156,157,146] F5) (.Ae 1918 (fF [21,141] Vf) (.Ae 1882 (fF [21,267,268,269,270] Vc) (.Ae 1774 (fF [21,35,180,83,257] Vb) (.Ae 1760 ⟨[(180,true)],[],[180,85],B9 (Ba (cS 40) Va)⟩ .Af .Af) .Af) (.Ae 1911 ⟨[(21,false),(299,false)],[.A4],[],B9 (Ba (cS 40) Ve)⟩ (.Ae 1896 (fF [] Vd) .Af .Af) .Af)) (.Ae 1974 (fF [326,327] Vi) (.Ae 1967 (fF [326,76] Vh) (.Ae 1960 (fF [323] Vg) .Af .Af) .Af) (.Ae 1988 (fF [254] Vk) (.Ae 1981 (fF [326] Vj) .Af .Af) .Af))) (.Ae 2035 (fF [68,47,131,86,133] Vq) (.Ae 2014 (fF [326,254] Vn) (.Ae 2007 (fF [] Vm) (.Ae 2000 (fF [156,192] Vl) .Af .Af) .Af) (.Ae 2028 (fF [326,254] Vp) (.Ae 2021 (fF [68,355] Vo) .Af .Af) .Af)) (.Ae 2054 (fF [326] Hi) (.Ae 2049 (fF [326,254,333,365] Vs) (.Ae 2042 (fF [326,254,333,365] Vr) .Af .Af) .Af) (.Ae 2061 (fF [323] Vt) .Af .Af))))))
def Ad3:Tr (Option Nat×Bool):=(.Ae 1050 (some 1047,false) (.Ae 446 (some 424,false) (.Ae 114 (some 111,true) (.Ae 39 (some 36,true) .Af .Af) (.Ae 385 (some 361,false) .Af .Af)) (.Ae 691 (some 585,false) (.Ae 567 (some 545,false) .Af .Af) .Af)) (.Ae 1861 (some 1774,false) (.Ae 1216 (some 1117,false) (.Ae 1078 (some 1068,false) .Af .Af) (.Ae 1263 (some 1234,false) .Af .Af)) (.Ae 1928 (some 1911,false) (.Ae 1885 (some 1882,false) .Af .Af) .Af)))
def AdE:Tr (Tr (Option Nat)):=(.Ae 1050 (.Ae 247 none (.Ae 181 none (.Ae 117 none (.Ae 25 (some 1047) .Af .Af) .Af) (.Ae 246 none .Af .Af)) (.Ae 249 none (.Ae 248 none .Af .Af) (.Ae 250 none .Af .Af))) (.Ae 446 (.Ae 85 none (.Ae 83 none (.Ae 25 (some 424) .Af .Af) (.Ae 84 none .Af .Af)) (.Ae 391 none (.Ae 390 none .Af .Af) .Af)) (.Ae 114 (.Ae 23 none (.Ae 22 none .Af .Af) (.Ae 26 none .Af .Af)) (.Ae 39 (.Ae 23 none (.Ae 22 none .Af .Af) .Af) .Af .Af) (.Ae 385 (.Ae 71 none (.Ae 68 none (.Ae 67 none (.Ae 25 (some 361) .Af .Af) .Af) (.Ae 70 none (.Ae 69 none .Af .Af) .Af)) (.Ae 172 (some 368) (.Ae 73 none (.Ae 72 none .Af .Af) .Af) (.Ae 200 (some 375) .Af .Af))) .Af .Af)) (.Ae 691 (.Ae 139 (some 667) (.Ae 120 none (.Ae 94 none (.Ae 68 none (.Ae 25 (some 585) .Af .Af) .Af) (.Ae 119 none .Af .Af)) (.Ae 129 (some 606) (.Ae 124 (some 599) .Af .Af) (.Ae 130 (some 627) .Af .Af))) (.Ae 237 (some 646) (.Ae 228 (some 620) (.Ae 224 (some 632) (.Ae 160 (some 613) .Af .Af) .Af) (.Ae 234 (some 674) .Af .Af)) (.Ae 240 (some 660) (.Ae 238 (some 592) .Af .Af) (.Ae 242 (some 681) .Af .Af)))) (.Ae 567 (.Ae 114 none (.Ae 113 none (.Ae 25 (some 545) .Af .Af) .Af) (.Ae 143 (some 559) (.Ae 118 (some 552) .Af .Af) .Af)) .Af .Af) .Af)) (.Ae 1861 (.Ae 252 none (.Ae 94 (some 1781) (.Ae 35 none (.Ae 25 (some 1774) .Af .Af) (.Ae 83 none .Af .Af)) (.Ae 160 none (.Ae 158 none .Af .Af) (.Ae 180 none .Af .Af))) (.Ae 265 none (.Ae 262 none (.Ae 257 none .Af .Af) (.Ae 264 none .Af .Af)) (.Ae 390 none (.Ae 266 none .Af .Af) .Af))) (.Ae 1216 (.Ae 253 none (.Ae 252 none (.Ae 25 (some 1117) .Af .Af) .Af) (.Ae 392 none .Af .Af)) (.Ae 1078 (.Ae 123 none (.Ae 25 (some 1068) .Af .Af) (.Ae 251 none .Af .Af)) .Af .Af) (.Ae 1263 (.Ae 254 none (.Ae 253 none (.Ae 25 (some 1234) .Af .Af) .Af) (.Ae 255 none .Af .Af)) .Af .Af)) (.Ae 1928 (.Ae 307 none (.Ae 301 none (.Ae 70 none (.Ae 38 (some 1918) (.Ae 25 (some 1911) .Af .Af) .Af) (.Ae 299 none (.Ae 158 none .Af .Af) .Af)) (.Ae 304 none (.Ae 303 none (.Ae 302 none .Af .Af) .Af) (.Ae 306 none (.Ae 305 none .Af .Af) .Af))) (.Ae 313 none (.Ae 310 none (.Ae 309 none (.Ae 308 none .Af .Af) .Af) (.Ae 312 none (.Ae 311 none .Af .Af) .Af)) (.Ae 316 none (.Ae 315 none (.Ae 314 none .Af .Af) .Af) (.Ae 317 none .Af .Af)))) (.Ae 1885 (.Ae 268 none (.Ae 267 none (.Ae 25 (some 1882) .Af .Af) .Af) (.Ae 270 none (.Ae 269 none .Af .Af) .Af)) .Af .Af) .Af)))
def Tp:Tr (List (AV×AV)):=(.Ae 1753 [((.str 26),(.Au (.ref 910))),((.str 129),(.Au (.ref 932))),((.str 176),(.Au (.ref 939))),((.str 178),(.Au (.ref 946))),((.str 192),(.Au (.ref 953))),((.str 157),(.Au (.ref 1033))),((.str 185),(.Au (.ref 1354))),((.str 401),(.Au (.ref 1415))),((.str 402),(.Au (.ref 1436))),((.str 188),(.Au (.ref 1422))),((.str 403),(.Au (.ref 1443))),((.str 119),(.Au (.ref 1464))),((.str 156),(.Au (.ref 1471))),((.str 404),(.Au (.ref 1499))),((.str 405),(.Au (.ref 1506))),((.str 406),(.Au (.ref 1513))),((.str 407),(.Au (.ref 1551))),((.str 408),(.Au (.ref 1558))),((.str 409),(.Au (.ref 1565))),((.str 410),(.Au (.ref 1572))),((.str 411),(.Au (.ref 1579))),((.str 245),(.Au (.ref 1586))),((.str 412),(.Au (.ref 1593))),((.str 413),(.Au (.ref 1607))),((.str 414),(.Au (.ref 1614))),((.str 415),(.Au (.ref 1621))),((.str 416),(.Au (.ref 1628))),((.str 417),(.Au (.ref 1642))),((.str 418),(.Au (.ref 1649))),((.str 419),(.Au (.ref 1670))),((.str 200),(.Au (.ref 1677))),((.str 251),(.Au (.ref 1684))),((.str 420),(.Au (.ref 1691))),((.str 375),(.Au (.ref 1698))),((.str 180),(.Au (.ref 1712))),((.str 421),(.Au (.ref 1731))),((.str 422),(.Au (.ref 1738))),((.str 187),(.Au (.ref 1745))),((.str 71),(.Au (.ref 1752)))] (.Ae 262 [((.str 15),(.int ⟨64,[]⟩)),((.str 393),(.int ⟨8,[]⟩)),((.str 394),(.int ⟨16,[]⟩)),((.str 395),(.int ⟨32,[]⟩)),((.str 396),(.int ⟨64,[]⟩)),((.str 397),(.int ⟨64,[]⟩)),((.str 359),(.int ⟨8,[]⟩)),((.str 398),(.int ⟨16,[]⟩)),((.str 399),(.int ⟨32,[]⟩)),((.str 400),(.int ⟨64,[]⟩))] .Af .Af) .Af)
def chL:List (Nat×Nat):=[(15,42),(359,423)]
def encL:List (Nat×List UInt8):=[(110,[110,105,108,32,100,101,114,101,102,101,114,101,110,99,101]),(126,[105,110,100,101,120,32,111,117,116,32,111,102,32,114,97,110,103,101]),(233,[105,110,116,101,114,102,97,99,101,32,99,111,110,118,101,114,115,105,111,110]),(136,[115,108,105,99,101,32,98,111,117,110,100,115,32,111,117,116,32,111,102,32,114,97,110,103,101]),(142,[97,115,115,105,103,110,109,101,110,116,32,116,111,32,101,110,116,114,121,32,105,110,32,110,105,108,32,109,97,112])]
def C8:AV:=(.Ak [(.str 15),(.str 15)])
def Xq:Nm:=102
def yI:Nm:=96
def Xs:Nm:=75
def cO:Nm:=125
def Xr:Nm:=33
def pL:Nm:=25
def cN:Nm:=34
def tt:TT:=⟨Ad3,AdE,Tp,Ex,chL,encL,C8,Xq,yI,Xs,cO,Xr,pL,cN,39,36,114⟩
def KF(w:Ao7):AqI:=[(3,rP w),(0,AqH w.params),(2,EK w),(39,x39),(114,Aao),(385,AaP),(446,AaT),(567,Abk),(691,AbM),(1050,jZ),(1078,j5),(1216,j9),(1263,kD),(1861,kK),(1885,kO),(1928,kY),(38,x38 w),(113,Aan w),(262,Uv w),(384,AaO w),(445,AaS w),(566,Abj w),(690,AbL w),(1049,jY w),(1077,j4 w),(1215,j8 w),(1262,kC w),(1753,LY w),(1860,kJ w),(1884,kN w),(1927,kX w),(36,x36),(111,Aam),(124,Aaq),(261,Aas),(270,Aav),(277,Aax),(284,Aaz),(305,AaB),(312,AaD),(319,AaF),(326,AaH),(361,AaJ),(368,AaL),(375,AaN),(424,AaR),(458,AaW),(465,AaY),(481,Aa1),(503,Aa3),(510,Aa5),(517,Aa7),(524,Aa9),(531,Abb),(545,Abe),(552,Abg),(559,Abi),(585,Abm),(592,Abo),(599,Abq),(606,Abs),(613,Abu),(620,Abw),(627,Aby),(632,AbA),(646,AbC),(660,AbE),(667,AbG),(674,AbI),(681,AbK),(728,AbO),(738,AbQ),(819,AbS),(826,AbU),(833,AbW),(840,AbY),(896,Ab0),(903,Ab3),(910,Ab5),(915,Ab7),(920,Ab9),(925,Acb),(932,Ace),(939,Acg),(946,Aci),(953,Ack),(958,Acm),(965,Aco),(972,Acq),(986,Acs),(993,Acv),(1000,jN),(1007,jP),(1014,jR),(1019,jT),(1026,jV),(1047,jX),(1068,j3),(1117,j7),(1234,kB),(1760,kF),(1774,kH),(1781,kI),(1882,kM),(1896,kQ),(1911,kT),(1918,kW),(1960,lI),(1967,lK),(1974,lM),(1981,lO),(1988,lQ),(1995,lS),(2000,lU),(2007,lW),(2014,lY),(2021,mA),(2028,mC),(2035,mE),(2042,mG),(2049,mI),(2054,mK),(2061,Zg),(29,x29),(35,x35),(110,Aal),(123,Aap),(260,Aar),(263,Aat),(269,Aau),(276,Aaw),(283,Aay),(304,AaA),(311,AaC),(318,AaE),(325,AaG),(360,AaI),(367,AaK),(374,AaM),(423,AaQ),(451,AaU),(457,AaV),(464,AaX),(474,AaZ),(480,Aa0),(502,Aa2),(509,Aa4),(516,Aa6),(523,Aa8),(530,Aba),(544,Abd),(551,Abf),(558,Abh),(584,Abl),(591,Abn),(598,Abp),(605,Abr),(612,Abt),(619,Abv),(626,Abx),(631,Abz),(645,AbB),(659,AbD),(666,AbF),(673,AbH),(680,AbJ),(727,AbN),(737,AbP),(818,AbR),(825,AbT),(832,AbV),(839,AbX),(895,AbZ),(897,Ab1),(902,Ab2),(909,Ab4),(914,Ab6),(919,Ab8),(924,Aca),(931,Acd),(938,Acf),(945,Ach),(952,Acj),(957,Acl),(964,Acn),(971,Acp),(985,Acr),(992,Acu),(999,Acw),(1006,jO),(1013,jQ),(1018,jS),(1025,jU),(1046,jW),(1067,j0),(1116,j6),(1233,kA),(1759,kE),(1773,kG),(1881,kL),(1895,kP),(1904,kR),(1910,kS),(1917,kV),(1933,kZ),(1934,k4),(1938,k6),(1939,k7),(1940,k8),(1941,k9),(1945,lA),(1946,lB),(1947,lC),(1948,lD),(1949,lE),(1950,lG),(1959,lH),(1966,lJ),(1973,lL),(1980,lN),(1987,lP),(1994,lR),(1999,lT),(2006,lV),(2013,lX),(2020,lZ),(2027,mB),(2034,mD),(2041,mF),(2048,mH),(2053,mJ),(2060,mL)]
theorem kf_at(w:Ao7):(KF w).map (λp=>AL (K1 w) p.1)=(KF w).map (λp=>some p.2):=by kernel_rfl
theorem Sf{K:KM}:∀{F:AqI},F.map (λp=>AL K p.1)=F.map (λp=>some p.2)->∀a o,F.lookup a=some o->AL K a=some o
 | [],_,a,o,h=>by cases h
 |(b,x)::F,e,a,o,h=>by
  rw[Aqb,Aqb,List.cons.injEq] at e;rw[Apy] at h;split at h
  ·rename_i q;cases h;rw[beq_iff_eq.mp q];exact e.1
  ·exact Sf e.2 a o h
def Gj:List (Str×AV):=[(Ao1 "int",(.Au (.type "int"))),(Ao1 "Exception",(.Au (.type "Exception"))),(Ao1 "ChanError",(.Au (.ref 39))),(Ao1 "GoPanic",(.Au (.ref 114))),(Ao1 "RUNTIME_ERROR",(.Au (.ref 117))),(Ao1 "implements",(.Au (.ref 254))),(Ao1 "has_sign",(.Au (.ref 270))),(Ao1 "KIND_BITS",(.Au (.ref 262))),(Ao1 "least_int",(.Au (.ref 277))),(Ao1 "runtime_panic",(.Au (.ref 124))),(Ao1 "cut_quotient",(.Au (.ref 291))),(Ao1 "SHIFTING_OPS",(.Ak [(.str 1),(.str 2)])),(Ao1 "shifted_int",(.Au (.ref 298))),(Ao1 "wrapped_int",(.Au (.ref 284))),(Ao1 "exact_result",(.Au (.ref 305))),(Ao1 "len",(.Au (.builtin "len"))),(Ao1 "MachineFault",(.Au (.ref 83))),(Ao1 "MOST_PARTS",(.int ⟨1048576,[]⟩)),(Ao1 "FuelFault",(.Au (.ref 95))),(Ao1 "isinstance",(.Au (.builtin "isinstance"))),(Ao1 "bool",(.Au (.type "bool"))),(Ao1 "bytes",(.Au (.type "bytes"))),(Ao1 "need_few",(.Au (.ref 458))),(Ao1 "value_tag",(.Au (.ref 465))),(Ao1 "LOOSE_TAGS",(.Ak [(.str 3),(.str 4),(.str 5)])),(Ao1 "list",(.Au (.type "list"))),(Ao1 "tuple",(.Au (.type "tuple"))),(Ao1 "with_part_along",(.Au (.ref 510))),(Ao1 "part_along",(.Au (.ref 503))),(Ao1 "inner_place",(.Au (.ref 531))),(Ao1 "range",(.Au (.type "range"))),(Ao1 "PlainMap",(.Au (.ref 567))),(Ao1 "value_key",(.Au (.ref 481))),(Ao1 "underlying_of",(.Au (.ref 728))),(Ao1 "zero_value",(.Au (.ref 738))),(Ao1 "is_place_at",(.Au (.ref 819))),(Ao1 "way_of_place",(.Au (.ref 826))),(Ao1 "place_of_pointer",(.Au (.ref 517))),(Ao1 "begin_of_way",(.Au (.ref 833))),(Ao1 "told_value",(.Au (.ref 915))),(Ao1 "asked_values",(.Au (.ref 903))),(Ao1 "parts_asked",(.Au (.ref 920))),(Ao1 "POINTED_NAMES",(.Au (.ref 739))),(Ao1 "parts_of_value",(.Au (.ref 925))),(Ao1 "place_on_way",(.Au (.ref 840))),(Ao1 "pointer_to",(.Au (.ref 524))),(Ao1 "count_of_parts",(.Au (.ref 958))),(Ao1 "made_of",(.Au (.ref 965))),(Ao1 "int_unary",(.Au (.ref 319))),(Ao1 "plain_binary",(.Au (.ref 986))),(Ao1 "plain_converted",(.Au (.ref 993))),(Ao1 "plain_asserted",(.Au (.ref 1000))),(Ao1 "plain_looked_up",(.Au (.ref 1007))),(Ao1 "plain_cut",(.Au (.ref 1014))),(Ao1 "part_of_value",(.Au (.ref 972))),(Ao1 "new_thing",(.Au (.ref 1019))),(Ao1 "COMPARING_SIGNS",(.Ak [(.str 6),(.str 7),(.str 8),(.str 9),(.str 10),(.str 11)])),(Ao1 "joined_texts",(.Au (.ref 979))),(Ao1 "int_arithmetic",(.Au (.ref 312))),(Ao1 "is_ordered_so",(.Au (.ref 326))),(Ao1 "values_equal",(.Au (.ref 473))),(Ao1 "octets_of_rune",(.Au (.ref 884))),(Ao1 "OCTET_KIND",(.Au (.ref 898))),(Ao1 "octets_of",(.Au (.ref 889))),(Ao1 "runes_of",(.Au (.ref 872))),(Ao1 "face_fits",(.Au (.ref 261))),(Ao1 "cut_text",(.Au (.ref 896))),(Ao1 "bound_method",(.Au (.ref 1026))),(Ao1 "zip",(.Au (.type "zip"))),(Ao1 "sorted",(.Au (.builtin "sorted"))),(Ao1 "all_functions",(.Au (.ref 1760))),(Ao1 "PlainStore",(.Au (.ref 691))),(Ao1 "PlainChannels",(.Au (.ref 1216))),(Ao1 "PlainGates",(.Au (.ref 1263))),(Ao1 "PlainRoutines",(.Au (.ref 446))),(Ao1 "PLAIN",(.Au (.ref 1868))),(Ao1 "NamedRow",(.Au (.ref 1885))),(Ao1 "known_rows",(.Au (.ref 1896))),(Ao1 "NameFault",(.Au (.ref 52))),(Ao1 "TypeFault",(.Au (.ref 64))),(Ao1 "max",(.Au (.builtin "max"))),(Ao1 "_law_drawn",(.Au (.ref 1967))),(Ao1 "World",(.Au (.ref 1928))),(Ao1 "TypedFn",(.Au (.ref 1050))),(Ao1 "_law_whole",(.Ak [(.str 15),(.str 15)])),(Ao1 "PlainRun",(.Au (.ref 1861))),(Ao1 "Choices",(.Au (.ref 1078))),(Ao1 "PlainCall",(.Au (.ref 385))),(Ao1 "enumerate",(.Au (.type "enumerate"))),(Ao1 "TASK_DEEDS",(.Au (.ref 1753))),(Ao1 "_law_run",(.Au (.ref 1988))),(Ao1 "_law_read",(.Au (.ref 1995))),(Ao1 "_law_pair",(.Ak [(.str 18),(.Ak [(.Ak [(.str 19),(.Ak [(.str 15),(.str 15)]),(.bool false)]),(.Ak [(.str 20),(.Ak [(.str 15),(.str 15)]),(.bool false)])])])),(Ao1 "_law_row",(.Ak [(.str 3),(.Ak [(.str 15),(.str 15)])])),(Ao1 "_law_map",(.Au (.ref 1944))),(Ao1 "_law_func",(.Au (.ref 1953))),(Ao1 "_law_one",(.Au (.ref 1974))),(Ao1 "_law_leaf",(.Au (.ref 2014))),(Ao1 "_law_three",(.Ak [(.str 17),(.int ⟨3,[]⟩),(.Ak [(.str 15),(.str 15)])])),(Ao1 "_law_text",(.Ak [(.str 16)])),(Ao1 "_law_at",(.Au (.ref 2021))),(Ao1 "_law_any",(.Au (.ref 1937))),(Ao1 "_law_cut",(.Au (.ref 2035))),(Ao1 "_law_bool",(.Au (.ref 1935))),(Ao1 "_law_held",(.Au (.ref 1981))),(Ao1 "_law_number",(.Au (.ref 2028))),(Ao1 "_law_made_form",(.Au (.ref 2042))),(Ao1 "_law_told_form",(.Au (.ref 2049))),(Ao1 "_law_shown",(.Au (.ref 2000))),(Ao1 "_law_told_right",(.Au (.ref 2007))),(Ao1 "_law_spool",(.Au (.ref 1960))),(Ao1 "_law_form_right",(.Au (.ref 2054)))]
def AX:KS:=⟨OT,Gj⟩
def ZJ:List (List CS):=[gQ,fW,fJ,fB,eY,eX,tD,fA,eZ,fE,fD,fC,fH,fG,fQ,fN,fL,fK,fP,fO,fU,fS,fR,fV,gF,f9,fZ,fY,fX,f7,f6,gC,gB,gA,gE,gD,gL,gI,gH,gG,gK,gJ,gO,gN,gM,gP,U9,hW,gX,gU,gS,gR,gW,gV,hF,gZ,gY,hO,hJ,U4,U1,hZ,hY,U3,U2,U7,U6,U5,U8,F5,Vf,Vc,Vb,Va,Ve,Vd,Vi,Vh,Vg,Vk,Vj,Vq,Vn,Vm,Vl,Vp,Vo,Hi,Vs,Vr,Vt]
theorem AdN(w:Ao7):DD (UQ (KF w) OT tt) tt.at_.LX=true:=by kernel_rfl
theorem AdQ(w:Ao7):DD (Qg<|KF w) tt.cl.LX=true:=by kernel_rfl
theorem AdV(w:Ao7):DD (λp=>keepIn (KF w) (.ref p.1)) tt.fn.LX=true:=by kernel_rfl
theorem Ad1(w:Ao7):Gz (KF w) tt.xG=true:=by kernel_rfl
theorem Ad2(w:Ao7):subIn (KF w) (.ref tt.xG) (.ref tt.xG)=some true:=by kernel_rfl
theorem AdR(w:Ao7):Jf (KF w) tt OT=true:=by kernel_rfl
theorem tC:JJ tt OT=true:=by kernel_rfl
theorem AdP:DD (Vv OT) tt.ch=true:=by kernel_rfl
theorem AdY(w:Ao7):GW (KF w) Ar5=true:=by kernel_rfl
theorem AdO(w:Ao7):GW (KF w) AqG=true:=by kernel_rfl
theorem AdU(w:Ao7):DD (Si (KF w) OT) Gj=true:=by kernel_rfl
theorem AdZ:GO OT=true:=by kernel_rfl
theorem AdS:Ex.LX.map (λp=>p.2.body)=ZJ.map (λce=>B9 (Ba (cS 40) ce)):=by kernel_rfl
def R5(w:Ao7):List (Str×Nat×Ao3):=match(Uv w).data with | .dict es _=>q8 es.toList |_=>[]
def iD(w:Ao7):Nat:=match(Uv w).data with | .dict _ n=>n |_=>0
theorem ZL(w:Ao7):Uv w= {cls:=.type "dict",data:=.dict ⟨rK w (R5 w)⟩ (iD w)}:=by kernel_rfl
theorem ZN(w:Ao7):GO ((R5 w).map (·.1))=true:=by kernel_rfl
theorem ZM(w:Ao7):OC (KF w) OT ((Tp.get 262).getD []) (R5 w)=true:=by kernel_rfl
def Mv(w:Ao7):List (Str×Nat×Ao3):=match(LY w).data with | .dict es _=>q8 es.toList |_=>[]
def VI(w:Ao7):Nat:=match(LY w).data with | .dict _ n=>n |_=>0
theorem VB(w:Ao7):LY w= {cls:=.type "dict",data:=.dict ⟨rK w (Mv w)⟩ (VI w)}:=by kernel_rfl
theorem VD(w:Ao7):GO ((Mv w).map (·.1))=true:=by kernel_rfl
theorem VC(w:Ao7):OC (KF w) OT ((Tp.get 1753).getD []) (Mv w)=true:=by kernel_rfl
theorem ZQ:∀t u,Gives (Builtin.«str.encode» ⟨[.str (Ao1 "nil dereference") t,.str (Ao1 "ascii") u],[]⟩) (.bytes ((A2 encL 110).getD []).toArray):=λt u=>.of_eq (by kernel_rfl)
theorem ZR:∀t u,Gives (Builtin.«str.encode» ⟨[.str (Ao1 "index out of range") t,.str (Ao1 "ascii") u],[]⟩) (.bytes ((A2 encL 126).getD []).toArray):=λt u=>.of_eq (by kernel_rfl)
theorem ZU:∀t u,Gives (Builtin.«str.encode» ⟨[.str (Ao1 "interface conversion") t,.str (Ao1 "ascii") u],[]⟩) (.bytes ((A2 encL 233).getD []).toArray):=λt u=>.of_eq (by kernel_rfl)
theorem ZS:∀t u,Gives (Builtin.«str.encode» ⟨[.str (Ao1 "slice bounds out of range") t,.str (Ao1 "ascii") u],[]⟩) (.bytes ((A2 encL 136).getD []).toArray):=λt u=>.of_eq (by kernel_rfl)
theorem ZT:∀t u,Gives (Builtin.«str.encode» ⟨[.str (Ao1 "assignment to entry in nil map") t,.str (Ao1 "ascii") u],[]⟩) (.bytes ((A2 encL 142).getD []).toArray):=λt u=>.of_eq (by kernel_rfl)
def fn2(A:KS)(F:AqI)(tg:Nat->Bool):Nat->List (Nat×CF)->List (List CS)->Bool
 |_,[],[]=>true |n,p::l,ce::m=>(match n with |0=>Ga A F p.1 p.2 |_+1=>iJ A F tg (p.1,p.2,ce))&&fn2 A F tg (match n with |0=>100000 |n+1=>n) l m |_,_,_=>false
def XM:Nat:=69
theorem AdT(w:Ao7):fn2 AX (KF w) (λt=>Ao9 t 0) XM Ex.LX ZJ=true:=by kernel_rfl
def C1(w:Ao7)(h1:Apn)(os:Aqz)(way:List Int->AV->AV->Prop)(up:∀{ρ ρ' t o},ρ<+:ρ'->way ρ t o->way ρ' t o):Cx:=⟨OT,OL.prog,w,h1,os,C8,way,up⟩
theorem kf_in{h:Apn}(D:∀a o,AL (K1 w) a=some o->h.get? a=some o):(KF w).In h:=λa o e=>D a o (Sf (kf_at w) a o e)
theorem m6:Tp.LX= [(1753,(Tp.get 1753).getD []),(262,(Tp.get 262).getD [])]:=by kernel_rfl
theorem tS:encL= [(110,(A2 encL 110).getD []),(126,(A2 encL 126).getD []),(233,(A2 encL 233).getD []),(136,(A2 encL 136).getD []),(142,(A2 encL 142).getD [])]:=by kernel_rfl
def whV(w:Ao7):Ao3:=match Uc (KF w) Ar5 (Ao1 "_law_whole") with |some (some v)=>v |_=>.none
theorem Ad0(w:Ao7):Gq (KF w) OT 20 C8 (whV w)=true:=by kernel_rfl
theorem AdX(w:Ao7):GW (KF w) ArH=true:=by kernel_rfl
theorem AdW(w:Ao7):Uc (KF w) ArH "sys.recursionlimit"=some none:=by kernel_rfl
theorem v7(w:Ao7):AL (K1 w) ArX=some (Aq4 w.params):=by kernel_rfl
theorem v5(w:Ao7):(KF w).lookup 262=some (Uv w):=by kernel_rfl
theorem o5(w:Ao7):(KF w).lookup 1753=some (LY w):=by kernel_rfl
theorem yA:OT[110]?=some (Ao1 "nil dereference"):=by kernel_rfl
theorem wK:Ap0 ((A2 encL 110).getD []).length 1000=true:=by kernel_rfl
theorem yB:OT[126]?=some (Ao1 "index out of range"):=by kernel_rfl
theorem wL:Ap0 ((A2 encL 126).getD []).length 1000=true:=by kernel_rfl
theorem yE:OT[233]?=some (Ao1 "interface conversion"):=by kernel_rfl
theorem wO:Ap0 ((A2 encL 233).getD []).length 1000=true:=by kernel_rfl
theorem yC:OT[136]?=some (Ao1 "slice bounds out of range"):=by kernel_rfl
theorem wM:Ap0 ((A2 encL 136).getD []).length 1000=true:=by kernel_rfl
theorem yD:OT[142]?=some (Ao1 "assignment to entry in nil map"):=by kernel_rfl
theorem wN:Ap0 ((A2 encL 142).getD []).length 1000=true:=by kernel_rfl
theorem XS{h:Apn}{os:Aqz}{way:List Int->AV->AV->Prop}{up:∀{ρ ρ' t o},ρ<+:ρ'->way ρ t o->way ρ' t o}(D:∀a o,AL (K1 w) a=some o->h.get? a=some o):AP (C1 w h os way up) (KF w) tt Gj where
 hK:=kf_in D
 sys:=⟨_,D _ _<|v7 w⟩
 nodup:=AdZ
 at_:=AdN w
 cl:=AdQ w
 kp:=AdV w
 bd:=λp hp=>by
  rw[show tt.bd.LX=_ from m6] at hp;simp only[Apf,List.not_mem_nil,or_false] at hp;rcases hp with rfl |rfl
  ·exact⟨by decide,Mv w,⟨VI w,(kf_in D _ _<|o5 w).trans<|congrArg some<|VB w⟩,VD w,VC w⟩
  ·exact⟨by decide,R5 w,⟨iD w,(kf_in D _ _<|v5 w).trans<|congrArg some<|ZL w⟩,ZN w,ZM w⟩
 xc:=Ad1 w
 xs:=Ad2 w
 cm:=AdR w
 nms:=tC
 ch:=AdP
 enc:=λp hp=>by
  rw[show tt.enc=_ from tS] at hp;simp only[Apf,List.not_mem_nil,or_false] at hp;rcases hp with rfl |rfl |rfl |rfl |rfl
  ·exact⟨_,yA,ApB wK,ZQ⟩
  ·exact⟨_,yB,ApB wL,ZR⟩
  ·exact⟨_,yE,ApB wO,ZU⟩
  ·exact⟨_,yC,ApB wM,ZS⟩
  ·exact⟨_,yD,ApB wN,ZT⟩
 mn:=AdY w
 bn:=AdO w
 gl:=AdU w
 lim:=by obtain⟨m,a,b⟩:=JQ (C:=C1 w h os way up) (kf_in D) (AdX w);exact⟨m,a,b _ _<|AdW w⟩
 whole:=⟨whV w,Ad0 w⟩
 Ki:=rfl
def KQ:IS:=dT 229
def RA(i:Nat):Arw:=match Bs KQ.body i with |some s=>s |none=>.Pass ⟨0,0,0,0⟩
def AfT:Arw->List Arw | .Try b _ _ _ _=>b |_=>[]
def AfU:Arw->List ExceptHandler | .Try _ h _ _ _=>h |_=>[]
def AfV:Arw->Pos | .Try _ _ _ _ p=>p |_=>⟨0,0,0,0⟩
def hdS:List Arw->Arw |s::_=>s | []=>.Pass ⟨0,0,0,0⟩
def whT:Arw->Expr | .While t _ _ _=>t |_=>.Constant .none 0 ⟨0,0,0,0⟩
def whX:Arw->List Arw | .While _ b _ _=>b |_=>[]
def whP:Arw->Pos | .While _ _ _ p=>p |_=>⟨0,0,0,0⟩
def hnG:List ExceptHandler->Str | .ExceptHandler (some (.Name g _)) _ _ _::_=>g |_=>Str.empty
def hnP:List ExceptHandler->Pos | .ExceptHandler (some (.Name _ p)) _ _ _::_=>p |_=>⟨0,0,0,0⟩
def hnN:List ExceptHandler->Str | .ExceptHandler _ (some x) _ _::_=>x |_=>Str.empty
def hnX:List ExceptHandler->List Arw | .ExceptHandler _ _ b _::_=>b |_=>[]
def hnQ:List ExceptHandler->Pos | .ExceptHandler _ _ _ p::_=>p |_=>⟨0,0,0,0⟩
def rdW:Arw:=hdS (AfT (RA 1))
def Zu:Expr:=whT rdW
def Zv:List Arw:=whX rdW
def UB:List ExceptHandler:=AfU (RA 1)
theorem yW:KQ.body= [RA 0,.Try [.While Zu Zv [] (whP rdW)] [.ExceptHandler (some<|.Name (hnG UB)<|hnP UB) (some<|hnN UB) (hnX UB) (hnQ UB)] [] []<|AfV<|RA 1,RA 2]:=by kernel_rfl
def Kv(i:Nat):CS:=match Bs F5 i with |some s=>s |none=>.pass
def ctB:CS->List CS | .Nl b _ _ _=>b |_=>[]
def ctX:CS->Nm | .Nl _ _ x _=>x |_=>0
def ctH:CS->List CS | .Nl _ _ _ h=>h |_=>[]
def chd:List CS->CS |s::_=>s | []=>.pass
def cwT:CS->CE | .Zx _ t _=>t |_=>.A4
def cwB:CS->List CS | .Zx _ _ b=>b |_=>[]
def pU:CE:=cwT (chd (ctB (Kv 1)))
def pT:List CS:=cwB (chd (ctB (Kv 1)))
theorem yV:F5= [Kv 0,.Nl [.Zx 1 pU pT] (.iL 30<|.Au<|.ref 114) (ctX<|Kv 1)<|ctH<|Kv 1,Kv 2]:=by kernel_rfl
def yS:Cb:=cB 38 pU
def yR:Cs:=B9 (Ba (cS 38) pT)
theorem yX:PZ AX (λt=>Ao9 t 0) 40 true KQ.scope (Kv 0) (RA 0)=true:=by kernel_rfl
theorem yY:PZ AX (λt=>Ao9 t 0) 40 true KQ.scope (Kv 2) (RA 2)=true:=by kernel_rfl
theorem jG:P8 AX 38 true KQ.scope pU Zu=true:=by kernel_rfl
theorem jH:HP (PZ AX (λt=>Ao9 t 0) 38 true KQ.scope) pT Zv=true:=by kernel_rfl
theorem y6:HP (PZ AX (λt=>Ao9 t 0) 39 false KQ.scope) (ctH<|Kv 1) (hnX UB)=true:=by kernel_rfl
theorem y8:GR OT (ctX<|Kv 1) (hnN UB)=true:=by kernel_rfl
theorem y7:KQ.scope.names.lookup (hnN UB)=some .local:=by kernel_rfl
theorem y5:KQ.scope.names.lookup (hnG UB)=some .globalImplicit:=by kernel_rfl
theorem yZ:(hnG UB==("__debug__":Str))=false:=by kernel_rfl
theorem y9:Sj AX (hnG UB) (.Au<|.ref 114)=true:=by kernel_rfl
theorem dK(w:Ao7):bodyOf (KF w) 1995=some (KQ.scope,KQ.body):=by kernel_rfl
section
variable{w:Ao7}{h1:Apn}{os:Aqz}{way:List Int->AV->AV->Prop}{up:∀{ρ ρ' t o},ρ<+:ρ'->way ρ t o->way ρ' t o}
variable{sum:Nat->List AV->St->K AV->Option Bool}{loop:Nat->Bo->St->Option (M Unit)}{dc:Nat->Bool}
theorem rU{C:Cx}{X:CX}{n:Nat}(h0:∀E σ,X.T.loop 0 E σ=none):∀tag,(λt=>Ao9 t 0) tag=true->∀b sc et bx,Hook C X n b sc tag et bx:=λtag e b sc et bx=>by cases Ao6 e;exact Hook.none h0
theorem AfL{n:Nat}(a b c:CS):B9 (Ba (cS n) [a,b,c])=Ir (cS n a) (Ir (cS n b)<|Ir (cS n c)<|Dq .next):=by kernel_rfl
theorem seq1{n:Nat}(a:CS):B9 (Ba (cS n) [a])=Ir (cS n a) (Dq .next):=by kernel_rfl
theorem nA(n:Nat)(b:List CS)(c:CE)(x:Nm)(h:List CS):cS (n+1) (.Nl b c x h)=qV (B9<|Ba (cS n) b) (cE n c) x (B9<|Ba (cS n) h):=by kernel_rfl
theorem nB(n:Nat)(g:Nat)(t:CE)(b:List CS):cS (n+1) (.Zx g t b)=rB g (cB n t) (B9<|Ba (cS n) b):=by kernel_rfl
theorem m9(n:Nat)(x:Nm)(v:AV):cE (n+1) (.iL x v)=Dz v:=by kernel_rfl
theorem yT(R:AP (C1 w h1 os way up) (KF w) tt Gj)(h0:∀E σ,loop 0 E σ=none){n:Nat}(ok:Cp (C1 w h1 os way up) n cl)(HK:Hook (C1 w h1 os way up) ⟨tt.tab sum loop dc,cl⟩ n true KQ.scope 1 Zu Zv):
  SL (C1 w h1 os way up) ⟨tt.tab sum loop dc,cl⟩ n true KQ.scope (B9<|Ba (cS 40) F5) KQ.body:=by
 have KA:Ih (C1 w h1 os way up) AX:=R.ag;have G:IU (C1 w h1 os way up) ⟨tt.tab sum loop dc,cl⟩ n:=R.rL ok;have H0:∀tag,(λt=>Ao9 t 0) tag=true->∀b sc et bx,Hook (C1 w h1 os way up) ⟨tt.tab sum loop dc,cl⟩ n b sc tag et bx:=rU h0;obtain⟨Dy,TS,Zs⟩:=RM KA G 38;rw[yW,yV,AfL];refine SL.cons (DW KA G H0 40 true _ _ _ yX)<|SL.cons ?_<|SL.cons (DW KA G H0 40 true _ _ _ yY) SL.nil;rw[nA 39,seq1,nB 38,m9 38];refine SS.Nl (X:=⟨tt.tab sum loop dc,cl⟩) (nm:=hnN UB) (G:=114) G.O G.SO (SL.cons (SS.Zx HK (TS _ _ _ _ jG)<|DV (DW KA G H0 38 true _) jH) SL.nil) (B6 y8) y7 y5 yZ (Oj KA y9) (DV (DW KA G H0 39 false _) y6)
theorem Qr{A:KS}{F:AqI}{C:Cx}{T:Tab}{n:Nat}{rd:Nat}{rc:List CS}(KA:Ih C A)(hK:F.In C.h1){tg:Nat->Bool}(G:∀cl,Cp C n cl->IU C ⟨T,cl⟩ n)
  (HK:∀cl,Cp C n cl->∀tag,tg tag=true->∀b sc et bx,Hook C ⟨T,cl⟩ n b sc tag et bx)(vG:∀cf,cf.body=B9 (Ba (cS 40) rc)->Ga A F rd cf=true->Mb C T n cf rd):
  ∀{l:List (Nat×CF)} {m:List (List CS)} {i:Nat},l.map (λp=>p.2.body)=m.map (λce=>B9 (Ba (cS 40) ce))->l.length≤100000->(∀p,l[i]?=some p->p.1=rd)->(∀ce,m[i]?=some ce->ce=rc)->fn2 A F tg i l m=true->∀p∈l,Mb C T n p.2 p.1
 | [],[],_,_,_,_,_,_,p,hp=>by cases hp
 | [],_::_,_,_,_,_,_,_,p,hp=>by cases hp
 |_::_,[],_,e,_,_,_,_,p,hp=>by cases e
 |q::l,ce::m,i,e,hl,z1,z2,h,p,hp=>by
  rw[Aqb,Aqb,List.cons.injEq] at e;obtain⟨h1,h2⟩:=Aj h;have Nz:l.length<100000:=hl;rcases Apf.mp hp with rfl |hp
  ·cases i with
   |zero=>have e1:=z1 p rfl;have e2:=z2 ce rfl;have h1:Ga A F p.1 p.2=true:=h1;rw[e1] at h1 ⊢;exact vG p.2 (e2▸e.1) h1
   |succ i=>exact Z8 (p:=(p.1,p.2,ce)) KA hK G HK h1 e.1
  ·cases i with
   |zero=>
    refine Qr (i:=100000) KA hK G HK vG e.2 (Nat.le_of_lt Nz) (λp q=>?_) (λce q=>?_) h2 p hp
    ·have:=(Ape.mp q).1;omega
    ·have:=(Ape.mp q).1;have el:=congrArg List.length e.2;rw[Ap2,Ap2] at el;omega
   |succ i=>exact Qr (i:=i) KA hK G HK vG e.2 (Nat.le_of_lt Nz) (λp q=>z1 p q) (λce q=>z2 ce q) h2 p hp
theorem yU:(Ex.LX[XM]?).map (·.1)=some 1995:=by kernel_rfl
theorem pV:ZJ[XM]?=some F5:=by kernel_rfl
theorem nW:Ap0 Ex.LX.length 100000=true:=by kernel_rfl
theorem MF{lo:Nat}(R:AP (C1 w h1 os way up) (KF w) tt Gj)(h0:∀E σ,loop 0 E σ=none)(HK:∀n cl,lo≤n->Cp (C1 w h1 os way up) n cl->Hook (C1 w h1 os way up) ⟨tt.tab sum loop dc,cl⟩ n true KQ.scope 1 Zu Zv):
  ∀p∈tt.fn.LX,∀n,lo≤n->Mb (C1 w h1 os way up) (tt.tab sum loop dc) n p.2 p.1:=λp hp n Sm=>by
 have KA:Ih (C1 w h1 os way up) AX:=R.ag;refine Qr (A:=AX) (m:=ZJ) (rd:=1995) (rc:=F5) (i:=XM) KA R.hK (λcl ok=>R.rL ok) (λcl ok=>rU h0) (λcf e h=>?_) AdS (ApB nW) (λp q=>?_) (λce q=>?_) (AdT w) p hp
 ·refine Jt KA R.hK h λsc b hb cl ok=>?_
  rw[dK] at hb;cases hb;rw[e];exact yT R h0 ok (HK n cl Sm ok)
 ·have:=yU;rw[show Ex.LX[XM]?=some p from q] at this;exact Apr this
 ·rw[pV] at q;exact(Apr q).symm
end
section
variable{C:Cx}
def Keeps(h h':Apn)(P:Apc->Prop):Prop:=∀a o,h.get? a=some o->Bj o->P a->∃sl,h'.get? a=some {o with slots:=sl}∧(o.cls≠ .type "frame"->sl=o.slots)
theorem Keeps.same(K:Keeps h h' P){a:Apc}{o:Obj}(ho:h.get? a=some o)(nf:Bj o)(hp:P a)(hc:o.cls≠ .type "frame"):h'.get? a=h.get? a:=by obtain⟨sl,e,q⟩:=K a o ho nf hp;rw[e,ho,q hc]
theorem Ob.kept(S:DU W W2 h h')(K:Keeps h h' P){p:Apc×Apc}(h1:P p.1)(h2:P p.2):∀{o:AO},Ob C W h p o->Ob C W2 h' p (Cv o)
 | .list pre l suf,hb=>by have BO:=hb;obtain⟨ep,vs,_,⟨o,ho,hc,n,hd⟩,_⟩:=BO;have e1:=K.same ho (λvs q=>by rw[hd] at q;cases q) h1 (by rw[hc];decide);exact Ob.Bg S e1 (by rw[ep];exact e1) hb
 | .mid l a m,hb=>by have BO:=hb;obtain⟨ep,vs,ws,_,_,⟨o,ho,hc,n,hd⟩,_⟩:=BO;have e1:=K.same ho (λvs q=>by rw[hd] at q;cases q) h1 (by rw[hc];decide);exact Ob.Bg S e1 (by rw[ep];exact e1) hb
 | .dict l,hb=>by have BO:=hb;obtain⟨ep,Ci,⟨o,es,en,ho,hx,hd,_⟩,_⟩:=BO;have e1:=K.same ho (λvs q=>by rw[hd] at q;cases q) h1 (by rw[hx.1];decide);exact Ob.Bg S e1 (by rw[ep];exact e1) hb
 | .inst Cl l,hb=>by have BO:=hb;obtain⟨⟨sl,ho⟩,es,n,Cg,hd,_⟩:=BO;exact Ob.Bg S (K.same ho (λvs q=>nomatch q) h1 (λq=>nomatch q)) (K.same hd (λvs q=>nomatch q) h2 (show Aq3 "dict"≠ .type "frame" from by decide)) hb
 | .exc ..,_=>trivial
 | .old ..,_=>trivial
 | .iter _,_=>trivial
 | .G2 ..,_=>trivial
 | .dead,_=>trivial
 | .AE f,hb=>by have BO:=hb;obtain⟨ep,x,y,t,u,⟨o,ho,hc,n,hd⟩,_⟩:=BO;have e1:=K.same ho (λvs q=>by rw[hd] at q;cases q) h1 (by rw[hc];decide);exact Ob.Bg S e1 (by rw[ep];exact e1) hb
 | .ed l,hb=>by have BO:=hb;obtain⟨ep,es,n,Cg,hd,_⟩:=BO;have e1:=K.same hd (λvs q=>nomatch q) h1 (show Aq3 "dict"≠ .type "frame" from by decide);exact Ob.Bg S e1 (by rw[ep];exact e1) hb
 | .cell none,hb=>by have BO:=hb;obtain⟨ep,o,ho,hd⟩:=BO;obtain⟨sl,e,_⟩:=K _ _ ho (λvs q=>by rw[hd] at q;cases q) h1;exact⟨ep,_,e,hd⟩
 | .cell (some v),hb=>by obtain⟨ep,cv,⟨o,ho,hd⟩,hv⟩:=hb;obtain⟨sl,e,_⟩:=K _ _ ho (λvs q=>by rw[hd] at q;cases q) h1;exact⟨ep,cv,⟨_,e,hd⟩,hv.keep S.ρ S.τ S.q S.Ak⟩
 | .frame l,hb=>by obtain⟨ep,m,⟨o,es,n,ho,hd,r⟩,hN⟩:=hb;obtain⟨sl,q1,_⟩:=K _ _ ho (λvs q=>by rw[hd] at q;cases q) h1;exact⟨ep,m,⟨_,es,n,q1,hd,r⟩,hN.Bg S⟩
structure Sub(C:Cx)(σ:St)(W Wg:Wd)(s:Ao5)(σg σ':St)(W':Wd)(s':Ao5):Prop where
 I:Inv C W σ s
 X:Ext σg Wg s σ' W' s'
 I':Inv C W' σ' s'
 pick:∀p∈Wg.τ,p∈W.τ
 fs:Wg.fs=W.fs
section
variable{σ σg σ':St}{W Wg W':Wd}{s s':Ao5}
def HN(W W':Wd)(nw:List (Apc×Apc))(ex:List Int)(q:Nat->AV×AV)(ls:Nat->List Ao3):Wd:=⟨W.ρ++ex,W.τ++nw,q,ls,W'.fs,W.fo⟩
theorem Sub.keeps(B:Sub C σ W Wg s σg σ' W' s'):Keeps s.heap s'.heap (λa=>¬own Wg.τ a):=λa o h nf n=>B.X.keep a o h nf n
theorem Sub.away(B:Sub C σ W Wg s σg σ' W' s'){i:Nat}{p:Apc×Apc}(hp:W.τ[i]?=some p)(hn:p∉Wg.τ):¬own Wg.τ p.1∧¬own Wg.τ p.2:=by
 have key:∀q∈Wg.τ,p.1≠q.1∧p.1≠q.2∧p.2≠q.1∧p.2≠q.2:=λq hq=>by
  obtain⟨j,hj⟩:=Df (B.pick q hq);refine B.I.apart i j p q hp hj λe=>?_
  subst e;rw[hp] at hj;cases hj;exact hn hq
 exact⟨λ⟨q,hq,e⟩=>let⟨a,b,_,_⟩:=key q hq;e.elim a b,λ⟨q,hq,e⟩=>let⟨_,_,a,b⟩:=key q hq;e.elim a b⟩
theorem Sub.fresh(B:Sub C σ W Wg s σg σ' W' s'){p:Apc×Apc}(hp:p∈W'.τ)(hn:p∉W.τ):s.heap.get? p.1=none∧s.heap.get? p.2=none:=
 (B.X.fresh p hp).elim (λh=>absurd (B.pick p h) hn) id
theorem Sub.Ak(B:Sub C σ W Wg s σg σ' W' s'){nw:List (Apc×Apc)}{ex:List Int}{q:Nat->AV×AV}{ls:Nat->List Ao3}(Ha:∀p∈nw,p∈W'.τ∧p∉W.τ):Bb W (HN W W' nw ex q ls) s.heap s'.heap:=by intro a items ⟨un,fo,⟨o,ho,hc,n,hd⟩,o',Dx,Kw⟩;rw[ho] at Dx;cases Dx;have e:=B.keeps.same ho (λvs q=>by rw[hd] at q;cases q) (λ⟨p,hp,e⟩=>un ⟨p,B.pick p hp,e⟩) (by rw[hc];decide);refine⟨IL (λp hp=>(ApM.mp hp).imp id λhp=>?_) un,fo,⟨o,e.trans ho,hc,n,hd⟩,o,e.trans ho,Kw⟩;obtain⟨f1,f2⟩:=B.fresh (Ha p hp).1 (Ha p hp).2;exact⟨λe=>(by rw[e,ho] at f1;cases f1),λe=>(by rw[e,ho] at f2;cases f2)⟩
theorem Sub.Bg(B:Sub C σ W Wg s σg σ' W' s'){nw:List (Apc×Apc)}{ex:List Int}{q:Nat->AV×AV}{ls:Nat->List Ao3}(Ha:∀p∈nw,p∈W'.τ∧p∉W.τ)
  (hq:∀a,a<W.ρ.length->q a=W.q a)(hl:∀a,a<W.ρ.length->ls a=W.ls a):DU W (HN W W' nw ex q ls) s.heap s'.heap:=
 ⟨Aps _ _,Aps _ _,hq,hl,B.Ak Ha⟩
structure Back(C:Cx)(σ:St)(W Wg W':Wd)(s s':Ao5)(nw:List (Apc×Apc))(ex:List Int)(q:Nat->AV×AV)(ls:Nat->List Ao3)(σ2:St):Prop where
 Ha:∀p∈nw,p∈W'.τ∧p∉W.τ
 nd:nw.Nodup
 hq:∀a,a<W.ρ.length->q a=W.q a
 hl:∀a,a<W.ρ.length->ls a=W.ls a
 n:σ2.n=σ.n+nw.length
 k:σ2.k=σ.k+ex.length
 Bi:∃er,σ2.Bi=er++σ.Bi∧er.length=ex.length∧∀i x,ex[i]?=some x->inR (BB er<|ex.length-1-i) x
 neg:σ2.neg=σ.neg
 Ca:σ2.Ca=σ.Ca
 Bq:σ2.Bq=σ.Bq+1
 low:σ2.low=σ.low
 obj:∀i o,σ2.obj i=some o->(∃o0 p,σ.obj i=some o0∧o=Cv o0∧W.τ[i]?=some p∧p∉Wg.τ)∨∃p,(W.τ++nw)[i]?=some p∧Ob C (HN W W' nw ex q ls) s'.heap p o
theorem Sub.back(B:Sub C σ W Wg s σg σ' W' s')(K:Back C σ W Wg W' s s' nw ex q ls σ2):
  Inv C (HN W W' nw ex q ls) σ2 s'∧Ext σ W s σ2 (HN W W' nw ex q ls) s':=by
 have S:=B.Bg (ex:=ex) K.Ha K.hq K.hl;obtain⟨er,re,rl,rr⟩:=K.Bi;have I:=B.I;have Afq:(W.ρ++ex).length=σ2.k:=by rw[Apd,I.kρ,K.k]
 have xN:∀p∈W.τ,(∃o,s'.heap.get? p.1=some o∧Bk o)∧∃o,s'.heap.get? p.2=some o∧Bk o:=λp hp=>by obtain⟨⟨o,h,_⟩,o',h',_⟩:=I.live p hp;obtain⟨x,hx⟩:=B.X.alive _ _ h;obtain⟨y,hy⟩:=B.X.alive _ _ h';exact⟨⟨x,hx,trivial⟩,y,hy,trivial⟩
 have old:∀p∈W.τ,∀r∈nw,p.1≠r.1∧p.1≠r.2∧p.2≠r.1∧p.2≠r.2:=λp hp r hr=>by obtain⟨⟨o,h,_⟩,o',h',_⟩:=I.live p hp;obtain⟨f1,f2⟩:=B.fresh (K.Ha r hr).1 (K.Ha r hr).2;exact⟨λe=>(by rw[e,f1] at h;cases h),λe=>(by rw[e,f2] at h;cases h),λe=>(by rw[e,f1] at h';cases h'),λe=>(by rw[e,f2] at h';cases h')⟩
 have at2:∀{i:Nat} {p:Apc×Apc},(W.τ++nw)[i]?=some p->(W.τ[i]?=some p)∨(W.τ.length≤i∧nw[i-W.τ.length]?=some p):=λ{i p} h=>by
  by_cases hl:i<W.τ.length
  ·rw[Apz hl] at h;exact .inl h
  ·rw[Apo (AqQ hl)] at h;exact .inr ⟨AqQ hl,h⟩
 refine⟨⟨?_,Afq,?_,λa x h=>?_,λp hp=>?_,λp hp=>?_,λi o h=>?_,λi j p r hp hr rT=>?_,λp hp=>?_,λp hp=>?_,λa ha=>B.I'.Kn a ha,B.I'.base,B.I'.gens,B.I'.os,λa ha=>⟨(I.fo a ha).1,let⟨o,h⟩:=(I.fo a ha).2;B.X.alive a o h⟩⟩,?_⟩
 ·show(W.τ++nw).length=σ2.n;rw[Apd,I.nτ,K.n]
 ·rw[re,Apd,rl,I.rl,K.k,Nat.add_comm]
 ·have h:(W.ρ++ex)[a]?=some x:=h;show inR (BB σ2.Bi<|σ2.k-1-a) x;rw[K.k,re];unfold BB;rw[AA];by_cases hl:a<W.ρ.length
  ·rw[Apz hl] at h;have:=I.Bi a x h;rw[I.kρ] at hl;rw[Apo (by omega),rl,show σ.k+ex.length-1-a-ex.length=σ.k-1-a from by omega];unfold St.rg BB at this
   rwa [AA] at this
  ·rw[Apo (AqQ hl)] at h;have hx:=(Ape.mp h).1;have hl:σ.k≤a:=by rw[←I.kρ];exact AqQ hl
   have:=rr _ _ h;rw[I.kρ] at this hx;rw[Apz (by omega),show σ.k+ex.length-1-a=ex.length-1-(a-σ.k) from by omega];unfold BB at this
   rwa [AA] at this
 ·rw[K.neg] at hp;obtain⟨x,h,r⟩:=I.neg p hp;exact⟨x,Ap.CZ (Aps _ _) h,r⟩
 ·rw[K.Ca] at hp;obtain⟨x,h,r⟩:=I.Ca p hp;exact⟨x,Ap.CZ (Aps _ _) h,r⟩
 ·rcases K.obj i o h with⟨o0,p,h0,rfl,hp,hn⟩|⟨p,hp,hb⟩
  ·obtain⟨p',BK,hb⟩:=I.obj i o0 h0;rw[hp] at BK;cases BK;obtain⟨a1,a2⟩:=B.away hp hn;exact⟨p,Ah S.τ hp,Ob.kept S B.keeps a1 a2 hb⟩
  ·exact⟨p,hp,hb⟩
 ·rcases at2 hp with hp |⟨li,hp⟩<;>rcases at2 hr with hr |⟨lj,hr⟩
  ·exact I.apart i j p r hp hr rT
  ·exact old p (get_mem hp) r (get_mem hr)
  ·obtain⟨a1,a2,a3,a4⟩:=old r (get_mem hr) p (get_mem hp);exact⟨a1.symm,a3.symm,a2.symm,a4.symm⟩
  ·obtain⟨i',hi⟩:=Df (K.Ha p<|get_mem hp).1;obtain⟨j',hj⟩:=Df (K.Ha r<|get_mem hr).1;refine B.I'.apart i' j' p r hi hj λe=>?_
   subst e;rw[hi] at hj;cases hj;have:=(Ape.mp hp);have l1:=this.1;have:=K.nd;have e:=(List.getElem?_inj l1 K.nd).mp (hp.trans hr.symm);omega
 ·rcases ApM.mp hp with hp |hp
  ·exact I.new p hp
  ·exact B.I'.new p (K.Ha p hp).1
 ·rcases ApM.mp hp with hp |hp
  ·exact xN p hp
  ·exact B.I'.live p (K.Ha p hp).1
 ·refine⟨S.τ,S.ρ,S.q,S.ls,K.low,by rw[K.Bq];omega,λa o h nf n=>B.keeps a o h nf λ⟨p,hp,e⟩=>n ⟨p,B.pick p hp,e⟩,λv=>by rw[K.Bq] at v;omega,λp hp=>?_,B.X.alive,B.X.fr,B.fs▸B.X.fs,rfl⟩;rcases ApM.mp hp with hp |hp
  ·exact .inl hp
  ·exact .inr (B.fresh (K.Ha p hp).1 (K.Ha p hp).2)
end
end
section
variable{C:Cx}
section
variable{σ:St}{W:Wd}{s:Ao5}
theorem Inv.pick(I:Inv C W σ s){ρ:List Int}{ps:List (Apc×Apc)}{q:Nat->AV×AV}{ls:Nat->List Ao3}{fo:List Apc}{σg:St}(hp:∀p∈ps,p∈W.τ)(nd:ps.Nodup)(hn:ps.length=σg.n)(hk:ρ.length=σg.k)(rl:σg.Bi.length=σg.k)
  (Bi:∀a x,ρ[a]?=some x->inR (σg.rg a) x)(neg:∀p∈σg.neg,∃x,p.1.ev ρ=some x∧(decide (x<0))=p.2)(Ca:∀p∈σg.Ca,∃x,p.1.ev ρ=some x∧(decide (x=0))=p.2)
  (hfo:∀a∈fo,C.h1.get? a=none∧∃o,s.heap.get? a=some o)(obj:∀i o,σg.obj i=some o->∃p,ps[i]?=some p∧Ob C ⟨ρ,ps,q,ls,W.fs,fo⟩ s.heap p o):Inv C ⟨ρ,ps,q,ls,W.fs,fo⟩ σg s:=by
 refine⟨hn,hk,rl,Bi,neg,Ca,obj,λi j p r hi hj rT=>?_,λp h=>I.new p (hp p h),λp h=>I.live p (hp p h),I.Kn,I.base,I.gens,I.os,hfo⟩;obtain⟨i',Zq⟩:=Df (hp p<|get_mem hi);obtain⟨j',hj'⟩:=Df (hp r<|get_mem hj);refine I.apart i' j' p r Zq hj' λe=>?_
 subst e;rw[Zq] at hj';cases hj';exact rT ((List.getElem?_inj (Ape.mp hi).1 nd).mp<|hi.trans hj.symm)
def Ik(W:Wd):List Apc:=W.fo++(W.τ.map (·.1)++W.τ.map (·.2))
theorem Inv.Ik(I:Inv C W σ s):∀a∈Ik W,C.h1.get? a=none∧∃o,s.heap.get? a=some o:=λa h=>by
 rcases ApM.mp h with h |h
 ·exact I.fo a h
 ·rcases ApM.mp h with h |h<;>obtain⟨p,hp,rfl⟩:=Ark.mp h
  ·exact⟨(I.new p hp).1,let⟨⟨o,e,_⟩,_⟩:=I.live p hp;⟨o,e⟩⟩
  ·exact⟨(I.new p hp).2,let⟨_,o,e,_⟩:=I.live p hp;⟨o,e⟩⟩
def IK:K AV:=λ_ _=>false
theorem AG.IK(h:AG C IK σ W s e s'):False:=by obtain⟨_,_,_,_,_,_,q,_⟩:=h;cases q
theorem AW.fs{W':Wd}(h:AW A W)(e:W'.fs=W.fs):AW A W':=let⟨l,a,b⟩:=h;⟨l,a,λx hx=>let⟨y,L,z,u⟩:=b x hx;⟨y,L,by rw[e];exact z,u⟩⟩
theorem IM{A:Apg}{m:Nat}{cl:CL}(ok:Cp C m cl)(f:CJ m true A)(I:Inv C W σ s)(ar:AW A W){Wg:Wd}{σg:St}(Ig:Inv C Wg σg s)(pick:∀p∈Wg.τ,p∈W.τ)(fs:Wg.fs=W.fs){a:Apc}(hf:KV C a)
  {vs:List AV}{cvs:List Ao3}(hv:AM C Wg s.heap vs cvs){kg:K AV}(run:cl (.Au<|.ref a) vs σg kg IK=true){R:Aru->Ao5->Prop}
  (h:∀v cv σ' W' s',kg v σ'=true->Sub C σ W Wg s σg σ' W' s'->VR C W' s'.heap v cv->R (.ok<|.ret cv) s'):ApG (model C.prog C.w) A (.call (.ref a) ⟨cvs,[]⟩) R s:=by
 refine Arn (ok.code A σg Wg s a vs cvs kg IK f Ig (ar.fs fs) hf hv run) λr s' q=>?_
 cases r with
 |error e=>exact(AG.IK q).elim
 |ok fl=>
  cases fl with
  |ret v=>obtain⟨av,σ',W',h1,X,I',r⟩:=q;exact h av v σ' W' s' h1 ⟨I,X,I',pick,fs⟩ r
  |next=>exact q.elim
  |brk=>exact q.elim
  |cont=>exact q.elim
end
theorem Ef(O:Ok C)(m:Nat)(CT:Gl C T fn m)(SH:NF C)(SU:∀i,FN C T<|m+i+1):∀n,Cp C (m+n) (Qf T fn n)
 |0=>⟨λf vs σ k ke h=>(by cases h),λA σ W s f vs cf cvs ft I ar hf hv k ke h=>(by cases h),λA σ W s a vs cvs k ke ft I ar _ hv h=>(by cases h)⟩ |n+1=>NV O CT (Nat.le_add_right _ _) SH (SU n) (Ef O m CT SH SU n)
theorem FN.none{T:Tab}{n:Nat}(h:∀a vs σ k,T.sum a vs σ k=none):FN C T n:=λA σ W s a vs cvs k ke f I ar hv q=>by rw[h] at q;cases q
theorem CJ.le{m n:Nat}{b:Bool}(f:CJ n b A)(h:m≤n):CJ m b A:=⟨by have:=f.depth;omega,by have:=f.units;omega,f.hand⟩
def St.E5(σ:St):St:=match σ with
 |⟨n,objs,k,Bi,neg,Ca,Bq,low⟩=>⟨n,objs.kill,k,Bi,neg,Ca,Bq+1,low⟩
def St.Gi(σ:St)(i:Nat)(o:AO):St:=match σ with
 |⟨n,objs,k,Bi,neg,Ca,Bq,low⟩=>⟨n,objs.set o i,k,Bi,neg,Ca,Bq,low⟩
theorem St.SN{σ:St}{i:Nat}{o:AO}(h:σ.E5.obj i=some o):∃o0,σ.obj i=some o0∧o=Cv o0:=PA.Jw _ _ _ h
theorem St.GY{σ:St}{i j:Nat}{y:AO}(h:(σ.Gi i o).obj j=some y):(j=i∧y=o)∨(j≠i∧σ.obj j=some y):=PA.get_set _ _ _ _ _ h
end
section
variable{C:Cx}
def UT(k:Nat):List (Nat×Int)->Bool
 | []=>true |(a,_)::r=>match Aq0 a k with |true=>UT k r |false=>false
def DX(f:AV->Bool):List AV->Bool
 | []=>true |a::l=>match f a with |true=>DX f l |false=>false
def sW(n:Nat->Bool)(k:Nat):Nat->AV->Bool
 |0,_=>false
 |d+1,v=>match v with
  | .A4=>true | .bool _=>true | .int l=>UT k l.t | .str _=>true | .B4 _=>true | .Ak l=>DX (sW n k d) l | .obj i=>n i | .Au _=>true | .sel a l=>both (Aq0 a k) (DX (sW n k d) l) | .ED _=>false | .any=>true
structure Cut(W W2:Wd)(n:Nat->Bool)(k:Nat)(h:Apn):Prop where
 τ:∀i p,n i=true->W.τ[i]?=some p->W2.τ[i]?=some p
 ρ:∀a x,a<k->W.ρ[a]?=some x->W2.ρ[a]?=some x
 Ak:Bb W W2 h h
theorem R9{ρ ρ2:List Int}{k:Nat}(h:∀a x,a<k->ρ[a]?=some x->ρ2[a]?=some x):∀{t:List (Nat×Int)} {x:Int},UT k t=true->CN ρ t=some x->CN ρ2 t=some x
 | [],x,_,e=>e
 |(a,f)::r,x,b,e=>by
  simp only[UT] at b;split at b
  ·rename_i hl;simp only[CN] at e ⊢;split at e
   ·rename_i u v hu hv;rw[h a u (by simpa using hl) hu,R9 h b hv];exact e
   ·cases e
  ·cases b
theorem Ap.VX{ρ ρ2:List Int}{k:Nat}(h:∀a x,a<k->ρ[a]?=some x->ρ2[a]?=some x){l:Ap}{x:Int}(b:UT k l.t=true)(e:l.ev ρ=some x):l.ev ρ2=some x:=by unfold Ap.ev at e ⊢;obtain⟨y,hy,rfl⟩:=Aq7.mp e;rw[R9 h b hy];rfl
theorem Mk:∀{l:List AV} {i:Nat} {v:AV},DX f l=true->l[i]?=some v->f v=true
 |a::l,i,v,h,e=>by
  unfold DX at h;split at h
  ·cases i with
   |zero=>cases e;assumption
   |succ i=>exact Mk h (by simpa using e)
  ·cases h
theorem AM.map{f:AV->Bool}(ih:∀v cv,f v=true->VR C W h v cv->VR C W2 h2 v cv):∀{l:List AV} {vs:List Ao3},DX f l=true->AM C W h l vs->AM C W2 h2 l vs
 | [],_,_,.nil=>.nil
 |a::l,_,b,.cons x r=>by
  unfold DX at b;split at b
  ·exact .cons (ih _ _ (by assumption) x) (AM.map ih b r)
  ·cases b
theorem VR.cut{k:Nat}(K:Cut W W2 n k h):∀(d:Nat) (v:AV) (cv:Ao3),sW n k d v=true->VR C W h v cv->VR C W2 h v cv
 |0,_,_,b,_=>by cases b
 |d+1,v,cv,b,r=>by
  cases r with
  |A4=>exact .A4
  |bool=>exact .bool
  |int e=>exact .int (Ap.VX K.ρ b e)
  |str e=>exact .str e
  |B4=>exact .B4
  |Ak a r=>exact .Ak (K.Ak _ _ a) (AM.map (λv cv=>VR.cut K d v cv) b r)
  |obj e=>exact .obj (K.τ _ _ b e)
  |Au=>exact .Au
  |sel e1 e2 e3=>obtain⟨b1,b2⟩:=Ac b;exact .sel (K.ρ _ _ (by simpa using b1) e1) e2 (VR.cut K d _ _ (Mk b2 e2) e3)
  |ED _ _ _ _=>cases b
  |any=>exact .any
abbrev Ux(n:Nat->Bool)(k:Nat):AV->Bool:=sW n k 12
def eW(n:Nat->Bool)(k:Nat):List (Nm×AV)->Bool
 | []=>true |p::l=>match Ux n k p.2 with |true=>eW n k l |false=>false
def bdD(n:Nat->Bool)(k:Nat):List (AV×AV)->Bool
 | []=>true |p::l=>both (Ux n k p.1) (both (Ux n k p.2) (bdD n k l))
theorem Mj{k:Nat}:∀{l:List (Nm×AV)} {x:Nm} {v:AV},eW n k l=true->A2 l x=some v->Ux n k v=true
 | [],_,_,_,e=>by cases e
 |(a,u)::l,x,v,b,e=>by
  simp only[eW] at b;split at b
  ·have e:bt (Ao9 x a) (some u) (A2 l x)=some v:=e;cases q:Ao9 x a with
   |true=>rw[q] at e;cases e;assumption
   |false=>rw[q] at e;exact Mj b e
  ·cases b
def rI(n:Nat->Bool)(k:Nat):AO->Bool
 | .list none l none=>DX (Ux n k) l | .dict l=>bdD n k l | .inst _ l=>eW n k l | .frame l=>eW n k l | .ed l=>eW n k l | .AE []=>true | .dead=>true |_=>false
theorem EJ.cut{k:Nat}(K:Cut W W2 n k h){l:List (Nm×AV)}{m}(b:eW n k l=true)(N:EJ C W h l m):EJ C W2 h l m:=
 ⟨λx v e=>let⟨nm,cv,a1,a2,a3⟩:=N.1 x v e;⟨nm,cv,a1,a2,VR.cut K _ _ _ (Mj b e) a3⟩,N.2⟩
theorem Gp.cut{k:Nat}(K:Cut W W2 n k h):∀{l m},bdD n k l=true->Gp C W h l m->Gp C W2 h l m
 |_,_,_,.nil=>.nil
 |_,_,b,.cons x y r=>by
  obtain⟨b1,b⟩:=Ac b;obtain⟨b2,b3⟩:=Ac b;refine .cons ?_ (VR.cut K _ _ _ b2 y)<|r.cut K b3;cases x with
  |str e=>exact .str e
  |int e=>exact .int (Ap.VX K.ρ b1 e)
theorem Ob.cut{k:Nat}(K:Cut W W2 n k h):∀{o:AO},rI n k o=true->Ob C W h p o->Ob C W2 h p o
 | .list none l none,b,⟨ep,vs,a,il,c,d,nd⟩=>⟨ep,vs,AM.map (λv cv=>VR.cut K _ v cv) b a,il,trivial,trivial,nd⟩ | .dict l,b,⟨ep,Ci,a,r⟩=>⟨ep,Ci,a,r.cut K b⟩ | .inst Cl l,b,⟨a,es,m,sl,h1,h2,h3,N⟩=>⟨a,es,m,sl,h1,h2,h3,N.cut K b⟩ | .frame l,b,⟨ep,m,a,N⟩=>⟨ep,m,a,N.cut K b⟩ | .ed l,b,⟨ep,es,m,sl,h1,h2,h3,N⟩=>⟨ep,es,m,sl,h1,h2,h3,N.cut K b⟩ | .AE [],_,⟨ep,x,y,t,u,a,c,_,d⟩=>⟨ep,x,y,t,u,a,c,trivial,d⟩ | .dead,_,_=>trivial
 | .list (some _) _ _,b,_=>by cases b
 | .list none _ (some _),b,_=>by cases b
 | .mid ..,b,_=>by cases b
 | .exc ..,b,_=>by cases b
 | .old ..,b,_=>by cases b
 | .cell _,b,_=>by cases b
 | .iter _,b,_=>by cases b
 | .G2 ..,b,_=>by cases b
 | .AE (_::_),b,_=>by cases b
def BV{α:Type}(f:α->α->Bool):List α->List α->Bool
 | [],[]=>true |a::l,b::m=>match f a b with |true=>BV f l m |false=>false
 |_,_=>false
theorem BN{α:Type}{f:α->α->Bool}(h:∀a b,f a b=true->a=b):∀{l m:List α},BV f l m=true->l=m
 | [],[],_=>rfl
 |a::l,b::m,q=>by
  unfold BV at q;split at q
  ·rw[h a b (by assumption),BN h q]
  ·cases q
 | [],_::_,q=>by cases q
 |_::_,[],q=>by cases q
def R8:Ao3->Ao3->Bool
 | .ref x,.ref y=>Ao9 x y | .builtin x,.builtin y=>x==y | .type x,.type y=>x==y |_,_=>false
theorem Oc(h:R8 v w=true):v=w:=by
 unfold R8 at h;split at h
 ·rw[Ao6 h]
 ·rw[beq_iff_eq.mp h]
 ·rw[beq_iff_eq.mp h]
 ·cases h
def tU:Nat->AV->AV->Bool
 |0,_,_=>false
 |d+1,v,w=>match v,w with
  | .A4,.A4=>true | .bool x,.bool y=>x==y | .int x,.int y=>Ap.eq x y | .str x,.str y=>Ao9 x y | .B4 x,.B4 y=>CK x y | .Ak l,.Ak m=>BV (tU d) l m | .obj i,.obj j=>Ao9 i j | .Au x,.Au y=>R8 x y | .sel a l,.sel b m=>both (Ao9 a b) (BV (tU d) l m) | .ED a,.ED b=>Ao9 a b | .any,.any=>true |_,_=>false
theorem Ee:∀{l m:List UInt8},CK l m=true->l=m
 | [],[],_=>rfl
 |a::l,b::m,h=>by
  unfold CK at h;split at h
  ·rename_i q;rw[UInt8.toNat_inj.mp (Ao6 q),Ee h]
  ·cases h
 | [],_::_,h=>by cases h
 |_::_,[],h=>by cases h
theorem B7:∀{d:Nat} {v w:AV},tU d v w=true->v=w
 |0,_,_,h=>by cases h
 |d+1,v,w,h=>by
  unfold tU at h;split at h
  ·rfl
  ·rw[beq_iff_eq.mp h]
  ·rw[Ap.eq_iff h]
  ·rw[Ao6 h]
  ·rw[Ee h]
  ·rw[BN (λa b q=>B7 q) h]
  ·rw[Ao6 h]
  ·rw[Oc h]
  ·obtain⟨h1,h2⟩:=Ac h;rw[Ao6 h1,BN (λa b q=>B7 q) h2]
  ·rw[Ao6 h]
  ·rfl
  ·cases h
abbrev Hp:AV->AV->Bool:=tU 14
def TG(p q:Nm×AV):Bool:=both (Ao9 p.1 q.1) (Hp p.2 q.2)
theorem Gx(h:TG p q=true):p=q:=by obtain⟨h1,h2⟩:=Ac h;exact Prod.ext (Ao6 h1) (B7 h2)
def tT(p q:AV×AV):Bool:=both (Hp p.1 q.1) (Hp p.2 q.2)
theorem Z4(h:tT p q=true):p=q:=by obtain⟨h1,h2⟩:=Ac h;exact Prod.ext (B7 h1) (B7 h2)
def eqO:AO->AO->Bool
 | .list none l none,.list none m none=>BV Hp l m | .dict l,.dict m=>BV tT l m | .inst A l,.inst B m=>both (Ao9 A B) (BV TG l m) | .frame l,.frame m=>BV TG l m | .ed l,.ed m=>BV TG l m | .AE [],.AE []=>true | .dead,.dead=>true |_,_=>false
theorem nS(h:eqO a b=true):a=b:=by
 unfold eqO at h;split at h
 ·rw[BN (λa b q=>B7 q) h]
 ·rw[BN (λa b q=>Z4 q) h]
 ·obtain⟨h1,h2⟩:=Ac h;rw[Ao6 h1,BN (λa b q=>Gx q) h2]
 ·rw[BN (λa b q=>Gx q) h]
 ·rw[BN (λa b q=>Gx q) h]
 ·rfl
 ·rfl
 ·cases h
end
def AfP:Nat->List AV->St->K AV->Option Bool:=λ_ _ _ _=>none
def OO:Nat->Bo->St->Option (M Unit):=λ_ _ _=>none
def Jl:Nat->Bool:=λ_=>false
def mT:Tab:=tt.tab AfP OO Jl
def e0:St:=⟨0,.nil,0,[],[],[],0,0⟩
def zS(x y:Int):St:=⟨1,.Ae (some (.list none [.int ⟨x,[]⟩,.int ⟨y,[]⟩] none)) .nil .nil,0,[],[],[],0,0⟩
def OV(r x y:Int)(v:AV)(o:Option AO):Bool:=match v,o with
 | .int ⟨c,[]⟩,some (.list none [.int ⟨a,[]⟩,.int ⟨b,[]⟩] none)=>c==r&&(a==x&&b==y) |_,_=>false
def kDr(r x y:Int):K AV:=λv σ=>OV r x y v (σ.obj 0)
abbrev yy(y:Nat):Int:=Int.fmod (Int.add (Int.mul (Api y) 39373) 7) 2147483647
abbrev VJ(m x y r x' y':Int):Bool:=Qf mT Ex.get 3 (.Au (.ref 1967)) [.obj 0,.int ⟨m,[]⟩] (zS x y) (kDr r x' y') IK
def IT(m:Int):Prop:=(∀(n y:Nat) (r x' y':Int),VJ m (Api (n+1)) (Api y) r x' y'=OV r x' y' (.int ⟨Int.fmod (Api (n+1)) m,[]⟩) (some (.list none [.int ⟨Int.fdiv (Api (n+1)) m,[]⟩,.int ⟨Api y,[]⟩] none)))∧
 ∀(y:Nat) (r x' y':Int),VJ m (Api 0) (Api y) r x' y'=both (word<|yy y) (OV r x' y' (.int ⟨Int.fmod (Int.fdiv (Int.fmod (Int.mul (yy y)<|yy y) 2147483629) 32) m,[]⟩)<|some<|.list none [.int ⟨Api 0,[]⟩,.int ⟨yy y,[]⟩] none)
theorem dq2:IT 2:=⟨λn y r x' y'=>by kernel_rfl,λy r x' y'=>by kernel_rfl⟩
theorem dq3:IT 3:=⟨λn y r x' y'=>by kernel_rfl,λy r x' y'=>by kernel_rfl⟩
theorem dq4:IT 4:=⟨λn y r x' y'=>by kernel_rfl,λy r x' y'=>by kernel_rfl⟩
theorem dq5:IT 5:=⟨λn y r x' y'=>by kernel_rfl,λy r x' y'=>by kernel_rfl⟩
theorem dq6:IT 6:=⟨λn y r x' y'=>by kernel_rfl,λy r x' y'=>by kernel_rfl⟩
theorem dq7:IT 7:=⟨λn y r x' y'=>by kernel_rfl,λy r x' y'=>by kernel_rfl⟩
theorem dq8:IT 8:=⟨λn y r x' y'=>by kernel_rfl,λy r x' y'=>by kernel_rfl⟩
theorem Ad8:IT 10:=⟨λn y r x' y'=>by kernel_rfl,λy r x' y'=>by kernel_rfl⟩
theorem Ad9:IT 12:=⟨λn y r x' y'=>by kernel_rfl,λy r x' y'=>by kernel_rfl⟩
theorem Aea:IT 60:=⟨λn y r x' y'=>by kernel_rfl,λy r x' y'=>by kernel_rfl⟩
def inM(m:Int):Bool:=match m with
 | .ofNat n=>(match n with |2=>true |3=>true |4=>true |5=>true |6=>true |7=>true |8=>true |10=>true |12=>true |60=>true |_=>false) |_=>false
theorem iE{m:Int}(h:inM m=true):IT m∧0<m:=by
 unfold inM at h;split at h
 ·split at h<;>first |cases h |exact⟨by assumption,by decide⟩|skip
  ·exact⟨dq2,by decide⟩
  ·exact⟨dq3,by decide⟩
  ·exact⟨dq4,by decide⟩
  ·exact⟨dq5,by decide⟩
  ·exact⟨dq6,by decide⟩
  ·exact⟨dq7,by decide⟩
  ·exact⟨dq8,by decide⟩
  ·exact⟨Ad8,by decide⟩
  ·exact⟨Ad9,by decide⟩
  ·exact⟨Aea,by decide⟩
 ·cases h
theorem eQ{c:Int}(h0:0≤c)(h1:c<4611686018427387904):word c=true:=by unfold word;rw[(AZ _ _).mpr (by omega),(AZ _ _).mpr h1];rfl
theorem Ly(r x y:Int):OV r x y (.int ⟨r,[]⟩) (some<|.list none [.int ⟨x,[]⟩,.int ⟨y,[]⟩] none)=true:=by simp[OV]
theorem nN{m x y:Int}(hm:inM m=true)(h:Ij x y):VJ m x y (AS x y m).1 (AS x y m).2.1 (AS x y m).2.2=true:=by
 obtain⟨⟨q1,q2⟩,pos⟩:=iE hm;obtain⟨hx,hy,hy2⟩:=h;obtain⟨n,rfl⟩:=Aqa hx;obtain⟨l,rfl⟩:=Aqa hy;cases n with
 |succ n=>
  have e:AS ((n+1:Nat):Int) (l:Int) m=(Int.fmod ((n+1:Nat):Int) m,Int.fdiv ((n+1:Nat):Int) m,(l:Int)):=by unfold AS;rw[if_pos (by omega),Aqj _<|Int.le_of_lt pos,Int.fdiv_eq_ediv_of_nonneg _<|Int.le_of_lt pos]
  rw[e];exact(q1 n l _ _ _).trans (Ly _ _ _)
 |zero=>
  have ey:yy l=(((l:Int)*39373+7) % 2147483647):=Aqj _ (by decide);have e:AS ((0:Nat):Int) (l:Int) m=(Int.fmod (Int.fdiv (Int.fmod (Int.mul (yy l)<|yy l) 2147483629) 32) m,Api 0,yy l):=by unfold AS;rw[if_neg (by omega),Aqj _<|Int.le_of_lt pos,Int.fdiv_eq_ediv_of_nonneg _ (by decide),Aqj _ (by decide),ey];rfl
  rw[e];refine(q2 l _ _ _).trans ?_;rw[Ly,eQ]
  ·rfl
  ·rw[ey];omega
  ·rw[ey];omega
theorem DH{m x y:Int}(hm:0<m)(h:Ij x y):Ij (AS x y m).2.1 (AS x y m).2.2∧0≤(AS x y m).1∧(AS x y m).1<m:=by
 obtain⟨hx,hy,hy2⟩:=h;unfold AS;split
 ·exact⟨⟨Int.ediv_nonneg hx<|Int.le_of_lt hm,hy,hy2⟩,Int.emod_nonneg _ (by omega),Int.emod_lt_of_pos _ hm⟩
 ·exact⟨⟨hx,Int.emod_nonneg _ (by decide),Int.emod_lt_of_pos _ (by decide)⟩,Int.emod_nonneg _ (by omega),Int.emod_lt_of_pos _ hm⟩
theorem Xx{r x y:Int}(h:OV r x y v o=true):v= .int ⟨r,[]⟩∧o=some (.list none [.int ⟨x,[]⟩,.int ⟨y,[]⟩] none):=by
 unfold OV at h;split at h
 ·obtain⟨k1,h⟩:=Aj h;obtain⟨k2,k3⟩:=Aj h;rw[beq_iff_eq.mp k1,beq_iff_eq.mp k2,beq_iff_eq.mp k3];exact⟨rfl,rfl⟩
 ·cases h
def Ka(vs:List AV)(σ:St)(k:K AV):Bool:=match vs with
 | [.obj j,.int ⟨m,[]⟩]=>both (inM m) (match σ.obj j with
  |some (.AE [])=>k (.int (.at σ.k)) ((σ.E5.atoms [(some 0,some (m-1))]).Gi j (.AE [])) |some (.AE ((m',b)::r))=>(match FW m' m with |true=>k (.int (.at b)) ((σ.E5.atoms []).Gi j (.AE r))|false=>bad "future")
  |_=>bad "drawn")
 |_=>bad "drawn"
section
variable{w:Ao7}{h1:Apn}{os:Aqz}{way:List Int->AV->AV->Prop}{up:∀{ρ ρ' t o},ρ<+:ρ'->way ρ t o->way ρ' t o}
theorem nD(R:AP (C1 w h1 os way up) (KF w) tt Gj)(m n:Nat):Cp (C1 w h1 os way up) (m+n) (Qf mT Ex.get n):=
 Ef R.ok m (R.call (MF R (λ_ _=>rfl) λn cl _ ok=>Hook.none λ_ _=>rfl) λ_ _ _ _ _ h=>(by cases h)) (S6 R.sys) (λi=>FN.none λ_ _ _ _=>rfl) n
variable{A:Apg}{σ:St}{W:Wd}{s:Ao5}
theorem Fi(R:AP (C1 w h1 os way up) (KF w) tt Gj){a:Apc}(h:fnIn (KF w) a=true):KV (C1 w h1 os way up) a:=ME R.hK h
theorem tX(w:Ao7):fnIn (KF w) 1967=true:=by kernel_rfl
theorem Xz{i j:Nat}{p q:Apc×Apc}{C:Cx}(I:Inv C W σ s)(hi:W.τ[i]?=some q)(hj:W.τ[j]?=some p)(ne:i≠j):q∉[p]:=λh=>by rw[Apu.mp h] at hi;exact(I.apart i j p p hi hj ne).1 rfl
theorem N4(R:AP (C1 w h1 os way up) (KF w) tt Gj){m:Nat}(f:CJ (m+3) true A)(I:Inv (C1 w h1 os way up) W σ s)(ar:AW A W)(hv:AM (C1 w h1 os way up) W s.heap vs cvs){k:K AV}(h:Ka vs σ k=true):
  ApG (model (C1 w h1 os way up).prog (C1 w h1 os way up).w) A (.call (.ref 1967) ⟨cvs,[]⟩) (Cq (C1 w h1 os way up) k ke σ W s) s:=by
 unfold Ka at h;split at h
 ·rename_i j mm;obtain⟨hm,h⟩:=Ac h;have QB:=(iE hm).2;cases hv with
  |cons v1 hv=>cases hv with
   |cons v2 hv=>
    cases hv;cases v1 with
    | @obj _ p hj=>
     cases v2 with
     | @int _ i t hi=>
      cases(show some mm=some i by simpa [Ap.ev,CN] using hi);have main:∀f,σ.obj j=some (.AE f)->(∀x y:Int,Ij x y->BU W.ρ x y f->∃(ex:List Int) (er:List DB) (f':List (Int×Nat)) (b:Nat),er.length=ex.length∧(∀i x,ex[i]?=some x->inR (BB er<|ex.length-1-i) x)∧(W.ρ++ex)[b]?=some (AS x y mm).1∧BU (W.ρ++ex) (AS x y mm).2.1 (AS x y mm).2.2 f'∧k (.int<|.at b) ((σ.E5.atoms er).Gi j<|.AE f')=true)->
        ApG (model (C1 w h1 os way up).prog (C1 w h1 os way up).w) A (.call (.ref 1967) ⟨[.ref p.1,.int mm t],[]⟩) (Cq (C1 w h1 os way up) k ke σ W s) s:=by
       intro f0 of go;obtain⟨p',BK,ep,x,y,t1,t2,il,sp,fu,nd⟩:=I.obj _ _ of;rw[hj] at BK;cases BK;obtain⟨ex,er,f',b,e1,e2,e3,e4,hk⟩:=go x y sp fu;have Ig:Inv (C1 w h1 os way up) ⟨[],[p],W.q,W.ls,W.fs,W.fo⟩ (zS x y) s:=by
        refine I.pick (λq hq=>by rw[Apu.mp hq];exact get_mem hj) (by simp) rfl rfl rfl (λa x e=>by cases e) (λp hp=>by cases hp) (λp hp=>by cases hp) I.fo λi o ho=>?_
        cases i with
        |succ i=>exfalso;have:bt (Ao9 (Ap7 i 2) 0) (none:Option AO) none=some o:=ho;cases hq:Ao9 (Ap7 i 2) 0<;>rw[hq] at this<;>cases this
        |zero=>cases(show some _=some o from ho);exact⟨p,rfl,ep,[.int x t1,.int y t2],.cons (.int (Ap.CY _)) (.cons (.int (Ap.CY _)) .nil),by simpa [Aq] using il,trivial,trivial,nd⟩
       refine IM (nD R m 3) f I ar Ig (λq hq=>by rw[Apu.mp hq];exact get_mem hj) rfl (Fi R<|tX w) (vs:=[.obj 0,.int ⟨mm,[]⟩]) (.cons (.obj (i:=0) (p:=p) rfl)<|.cons (.int<|Ap.CY _) .nil) (nN hm sp) λv cv σ' W' s' hkd B r=>?_
       obtain⟨rfl,eo⟩:=Xx (show OV (AS x y mm).1 (AS x y mm).2.1 (AS x y mm).2.2 v (σ'.obj 0)=true from hkd)
       ·obtain⟨p2,MP,_,vs2,vv,Wy,_,_,Xm⟩:=B.I'.obj 0 _ eo;have QA:W'.τ[0]?=some p:=Ah B.X.τ (show([p]:List (Apc×Apc))[0]?=some p from rfl);rw[QA] at MP;cases MP;cases vv with
        |cons u1 vv=>cases vv with
         |cons u2 vv=>
          cases vv;cases u1 with
          |int g1=>cases u2 with
           |int g2=>
            cases(show some _=some _ by simpa [Ap.ev,CN] using g1);cases(show some _=some _ by simpa [Ap.ev,CN] using g2);have Wq:∀i o,((σ.E5.atoms er).Gi j<|.AE f').obj i=some o->(∃o0 p0,σ.obj i=some o0∧o=Cv o0∧W.τ[i]?=some p0∧p0∉[p])∨∃p0,(W.τ++ [])[i]?=some p0∧Ob (C1 w h1 os way up) (HN W W' [] ex W.q W.ls) s'.heap p0 o:=λi o ho=>by
             rcases St.GY ho with⟨rfl,rfl⟩|⟨ne,ho⟩
             ·exact .inr ⟨p,by rw[Apj];exact hj,ep,_,_,_,_,by simpa [Aq] using Wy,(DH QB sp).1,e4,Xm⟩
             ·obtain⟨o0,h0,rfl⟩:=St.SN (σ:=σ) (i:=i) (o:=o) ho;obtain⟨q,hq,_⟩:=I.obj i o0 h0;exact .inl ⟨o0,q,h0,rfl,hq,Xz I hq hj ne⟩
            obtain⟨J,Y⟩:=B.back (nw:=[]) (ex:=ex) (q:=W.q) (ls:=W.ls) (σ2:=(σ.E5.atoms er).Gi j (.AE f')) ⟨λp hp=>(by cases hp),AqY,λ_ _=>rfl,λ_ _=>rfl,rfl,by show σ.k+er.length=_;rw[e1],⟨er,rfl,e1,e2⟩,rfl,rfl,rfl,rfl,Wq⟩;refine⟨_,_,_,hk,Y,J,?_⟩;cases r with
            |int g=>refine .int ?_;cases(show some _=some _ by simpa [Ap.ev,CN] using g);show Ap.ev (W.ρ++ex) (Ap.at b)=_;simp[Ap.ev,Ap.at,CN,e3]
      split at h
      ·rename_i of;refine main [] of λx y sp _=>⟨[(AS x y mm).1],[(some 0,some<|mm-1)],[],W.ρ.length,rfl,λi x e=>?_,by simp,trivial,?_⟩
       ·obtain⟨d0,d1,d2⟩:=DH QB sp;cases i with
        |zero=>cases e;exact⟨λa e=>by cases e;exact d1,λa e=>by cases e;omega⟩
        |succ i=>cases e
       ·rw[I.kρ];exact h
      ·rename_i m' b r of;split at h
       ·rename_i em;cases(AR _ _).mp em;exact main _ of λx y sp fu=>⟨[],[],r,b,rfl,λi x e=>(by cases e),(by rw[Apj];exact((BU.cons QB).mp fu).1),(by rw[Apj];exact((BU.cons QB).mp fu).2),h⟩
       ·cases h
      ·cases h
 ·cases h
end
section
variable{C:Cx}
def sC:Nat->AV->Bool
 |0,_=>false
 |d+1,v=>match v with
  | .obj _=>false | .ED _=>false | .any=>false | .Ak l=>DX (sC d) l | .sel _ l=>DX (sC d) l |_=>true
def Ji(f:AV->Option AV):List AV->Option (List AV)
 | []=>some []
 |a::l=>match f a,Ji f l with
  |some b,some m=>some (b::m) |_,_=>none
def Gv(ρ:List Int):Nat->AV->Option AV
 |0,_=>none
 |d+1,v=>match v with
  | .A4=>some .A4 | .bool b=>some (.bool b) | .str s=>some (.str s) | .B4 b=>some (.B4 b) | .Au v=>some (.Au v) | .int l=>(match l.ev ρ with |some x=>some (.int (.k x))|none=>none) | .Ak l=>(match Ji (Gv ρ d) l with |some m=>some (.Ak m)|none=>none)
  | .sel a l=>(match ρ[a]? with
   |some (.ofNat j)=>(match l[j]? with |some v=>Gv ρ d v |none=>none)
   |_=>none)
  |_=>none
theorem NY{f:AV->Option AV}{g:AV->Bool}(ih:∀v cv,g v=true->VR C W h v cv->∃t,f v=some t∧VR C W2 h t cv):∀{l:List AV} {vs:List Ao3},DX g l=true->AM C W h l vs->∃m,Ji f l=some m∧AM C W2 h m vs
 | [],_,_,.nil=>⟨[],rfl,.nil⟩
 |a::l,_,b,.cons x r=>by
  unfold DX at b;split at b
  ·obtain⟨t,e1,v1⟩:=ih _ _ (by assumption) x;obtain⟨m,e2,v2⟩:=NY ih b r;exact⟨t::m,by simp only[Ji,e1,e2],.cons v1 v2⟩
  ·cases b
theorem Eu(T:Bb W W2 h h):∀(d:Nat) (v:AV) (cv:Ao3),sC d v=true->VR C W h v cv->∃t,Gv W.ρ d v=some t∧VR C W2 h t cv
 |0,_,_,b,_=>by cases b
 |d+1,v,cv,b,r=>by
  cases r with
  |A4=>exact⟨_,rfl,.A4⟩
  |bool=>exact⟨_,rfl,.bool⟩
  | @int l i t e=>exact⟨.int (.k i),by simp only[Gv,e],.int (Ap.CY _)⟩
  |str e=>exact⟨_,rfl,.str e⟩
  |B4=>exact⟨_,rfl,.B4⟩
  |Ak a r=>obtain⟨m,e,v⟩:=NY (λv cv=>Eu T d v cv) b r;exact⟨.Ak m,by simp only[Gv,e],.Ak (T _ _ a) v⟩
  |obj e=>cases b
  |Au=>exact⟨_,rfl,.Au⟩
  | @sel k l j v cv e1 e2 e3=>obtain⟨t,e,v⟩:=Eu T d _ _ (Mk b e2) e3;exact⟨t,by simp only[Gv,e1,e2,e],v⟩
  |ED _ _ _ _=>cases b
  |any=>cases b
theorem Jj{f:AV->Option AV}(ih:∀v t cv,f v=some t->VR C W h t cv->VR C W2 h v cv):∀{l m:List AV} {vs:List Ao3},Ji f l=some m->AM C W h m vs->AM C W2 h l vs
 | [],m,_,e,r=>by cases e;cases r;exact .nil
 |a::l,m,vs,e,r=>by
  simp only[Ji] at e;split at e
  ·rename_i b m' e1 e2;cases e;cases r with
   |cons x r=>exact .cons (ih _ _ _ e1 x) (Jj ih e2 r)
  ·cases e
theorem Hl{W2:Wd}{h:Apn}{ρ:List Int}(hρ:ρ<+:W2.ρ)(T:Bb W W2 h h):∀(d:Nat) (v t:AV) (cv:Ao3),Gv ρ d v=some t->VR C W h t cv->VR C W2 h v cv
 |0,_,_,_,e,_=>by cases e
 |d+1,v,t,cv,e,r=>by
  unfold Gv at e;split at e
  ·cases e;cases r;exact .A4
  ·cases e;cases r;exact .bool
  ·cases e;cases r;exact .str (by assumption)
  ·cases e;cases r;exact .B4
  ·cases e;cases r;exact .Au
  ·split at e
   ·rename_i x ex;cases e;cases r with
    |int g=>rw[Ap.CY] at g;cases g;exact .int (Ap.CZ hρ ex)
   ·cases e
  ·split at e
   ·rename_i m em;cases e;cases r with
    |Ak a r=>exact .Ak (T _ _ a) (Jj (λv t cv=>Hl hρ T d v t cv) em r)
   ·cases e
  ·split at e
   ·rename_i j ej;split at e
    ·rename_i u eu;exact .sel (Ah hρ ej) eu (Hl hρ T d _ _ _ e r)
    ·cases e
   ·cases e
  ·cases e
structure Facts(ρ:List Int)(σ:St):Prop where
 k:ρ.length=σ.k
 rl:σ.Bi.length=σ.k
 Bi:∀a x,ρ[a]?=some x->inR (σ.rg a) x
 neg:∀p∈σ.neg,∃x,p.1.ev ρ=some x∧(decide (x<0))=p.2
 Ca:∀p∈σ.Ca,∃x,p.1.ev ρ=some x∧(decide (x=0))=p.2
theorem Inv.facts(I:Inv C W σ s):Facts W.ρ σ:=⟨I.kρ,I.rl,I.Bi,I.neg,I.Ca⟩
def mQ(ρ:List Int):AV->AV->Prop
 | .int l,o=>∃x,l.ev ρ=some x∧o= .int (.k x) | .str n,o=>o= .str n |_,_=>False
end
structure Bm where
 n0:Nat
 objs:List (Nat×AO)
 run:Nat
 call:Nat
 cells:Nat
 work:Nat
 vals:Nat
 Bz:List (Nm×AV)
 As:List AV
 er:DB
def Lv:Nm:=156
def HB:Nm:=157
def yH:Nm:=146
def JN:Nm:=166
def cP:Nm:=326
def pK:Nm:=254
def Bd:Nm:=70
def CP:Nm:=26
def Dh:Nm:=28
def Gf:Nm:=31
def Xt:Nm:=22
def Q3:Nm:=23
def SK:Nm:=167
def qE:AV:=.Au (.ref 117)
def texts:List Nm:=[110,126,233]
def encOf(x:Nm):AV:=match A2 encL x with |some b=>.B4 b |none=>.any
def Ff:List AV:=Ba encOf texts
def Nk(b:List UInt8):Option Nat:=match Ff with
 | [.B4 x,.B4 y,.B4 z]=>bt (CK b x) (some 0) (bt (CK b y) (some 1) (bt (CK b z) (some 2) none)) |_=>none
def eT(a:Nat):AV:=.int (.at a)
def HX:AV:=.Ak [eT 0,eT 1,.Ak [eT 2,eT 3,eT 4],.sel 8 [.A4,eT 5],.sel 10 [.bool false,.bool true],.sel 9 [.A4,.Ak [eT 6,eT 7]]]
def En(er:DB):List DB:=[(some 0,some 1),er,(some 0,some 1),(some 1,some 3),(some 0,some 2),(some 0,some 6),(some 0,some 4),(some 3,some 62),(some 0,some 3),(some 0,some 2),(some 0,some 3)]
def qJ(a:Nat)(vs:List AV)(σ:St)(k:K AV):Option Bool:=bt (Ao9 a 1967) (some (Ka vs σ k)) none
def TD(dc:Nat->Bool):Tab:=tt.tab qJ OO dc
def Zn(dc:Nat->Bool):CL:=Qf (TD dc) Ex.get 30
def FG(X:CX)(E:Bo)(t:Cb)(body:Cs)(stop:St->Bool)(n:Nat):St->M Unit:=NR (λ_ _ _=>bad "until lim")
 (λ_ ih σ k ke=>bt (stop σ) (k () σ) (t X E σ (λc σ=>bt c (body X E σ (λf σ=>turned f (λ_ _=>bad "until") (λσ=>ih σ k ke) σ) ke) (bad "until end")) ke)) n
def EF:List (Nat×AO)->PA->PA
 | [],t=>t |(i,o)::r,t=>EF r (t.set o i)
def NZ(n:Nat):PA:=NR .nil (λi t=>t.set .dead i) n
def EV(tp:Bm):AO:=.frame [(Lv,.obj tp.run),(HB,.obj tp.call),(yH,.any),(JN,.any)]
def Sg(tp:Bm)(k:Nat)(t:AV):PA:=
 EF ((tp.call,.inst 385<|BM tp.Bz Bd<|.obj tp.n0)::(tp.cells,.mid tp.As (k+2) [])::(tp.work,.list (some k) [.Ak [.str CP,t]] none)::(tp.n0,.list (some<|k+1) [] none)::
  (tp.n0+1,EV tp)::(0,.AE [])::tp.objs) (NZ<|tp.n0+2)
def Lb(tp:Bm)(σ:St)(t:AV):St:=match σ with
 |⟨_,_,k,Bi,neg,Ca,_,_⟩=>⟨tp.n0+2,Sg tp k t,k+3,(some 0,some 5000)::(some 0,some 5000)::(some 0,some 5000)::Bi,neg,Ca,0,5⟩
def isFrame(tp:Bm)(o:Option AO):Bool:=match o with
 |some (.frame [(a,.obj r),(b,.obj c),(e,_),(f,_)])=>both (both (Ao9 a Lv) (Ao9 b HB)) (both (both (Ao9 e yH) (Ao9 f JN)) (both (Ao9 r tp.run) (Ao9 c tp.call))) |_=>false
def J7(tp:Bm)(k:Nat)(σ:St):Bool:=match σ.obj tp.work with
 |some (.list (some p) [] none)=>Ao9 p k |_=>false
def CU(l:List (Nat×AO))(σ:St):Bool:=LR true (λp _ ih=>both (match σ.obj p.1 with |some o=>eqO o p.2 |none=>false) ih) l
def Iz(tp:Bm)(k:Nat)(σ:St):Bool:=match σ.obj tp.cells with
 |some (.mid l p m)=>both (Ao9 p (k+2)) (both (BV Hp l tp.As) (Ap0 m.length 1)) |_=>false
def kU(tp:Bm)(o:AV)(k:Nat):K Unit:=λ_ σ=>match o with
 | .int l=>(match σ.obj tp.call with
  |some (.inst C a)=>both (Ao9 C 385) (both (BV TG (BM a Bd .any) (BM tp.Bz Bd .any)) (match A2 a Bd with
   |some (.obj v)=>both (Ap0 (tp.n0+2) v) (match σ.obj v with
    |some (.list (some p) [.int x] none)=>both (Ao9 p (k+1)) (both (Iz tp k σ) (both (both (Ao9 σ.Bq 0) (both (isFrame tp (σ.obj (tp.n0+1))) (CU ((0,.AE [])::tp.objs) σ))) (isZero (x.sub l) σ λc _=>c)))
    |_=>bad "until: values")
   |_=>bad "until: no values"))
  |_=>bad "until: call")
 |_=>bad "until: no panic"
def v8(tp:Bm)(o:AV)(k:Nat):K AV:=λe σ=>match o,e with
 | .str n,.obj j=>(match σ.obj j with
  |some (.old C (some d))=>both (Ao9 C 114) (both (both (Ap0 (tp.n0+2) j) (both (Ap0 (tp.n0+2) d) (!(Ao9 j d)))) (match σ.obj d with
   |some (.ed [(a,.str b),(c,.int z),(f,.Ak [.str g,r,.B4 x])])=>both (both (Ao9 a Xt) (both (Ao9 b Dh) (both (Ao9 c Q3) (both (Ap.eq z ⟨0,[]⟩) (both (Ao9 f CP) (both (Ao9 g Gf) (Hp r qE)))))))
     (both (match Nk x with |some i=>Ao9 i n |none=>false)<|both (Iz tp k σ)<|both (isFrame tp<|σ.obj<|tp.n0+1)<|CU ((0,.AE [])::tp.objs) σ)
   |_=>bad "until: its dict"))
  |_=>bad "until: raised")
 |_,_=>bad "until: raises"
def CQ(tp:Bm)(t o:AV)(σ:St):Bool:=FG ⟨TD Jl,Zn Jl⟩ ⟨tp.n0+1,[]⟩ yS yR (J7 tp σ.k) 40 (Lb tp σ t) (kU tp o σ.k) (v8 tp o σ.k)
def bL(l:Ap)(σ:St):Bool:=match l.range σ with
 |(some a,some b)=>both (Fm (-4) a) (Fm b 98) |_=>false
def MT(t:AV):Bool:=match t with
 | .Ak (_::b::_)=>Hp b C8 |_=>false
def Xu(tp:Bm)(t o:AV)(σ:St):Bool:=res o σ λo σ=>match o with
 | .Ak [.str w,x]=>bt (Ao9 w CP) (res x σ λx σ=>match x with
   | .int l=>both (bL l σ) (CQ tp t (.int l) σ)
   |_=>bad "number: value")
  (bt (Ao9 w Dh) (match x with | .B4 b=>(match Nk b with |some n=>CQ tp t (.str n) σ |none=>bad "number: text")|_=>bad "number: panic") (bad "number: word"))
 |_=>bad "number: outcome"
def pM(tp:Bm)(k:Nat):K AV:=λv σ'=>both (Ao9 σ'.k k) (both (match σ'.obj 0 with |some (.AE [(m,a)])=>both (FW m (-7)) (Ao9 a (k-2))|_=>false) (res v σ' λv σ'=>match v with
 | .Ak [t,o]=>both (MT t) (both (sC 12 t) (Xu tp t o σ'))
 |_=>bad "number: pair"))
def R0(m:Int):DB:=(some 0,some (m-1))
def Rk(i:Nat):DB:=(some (Api i),some (Api i))
def jE(tp:Bm)(b c:Nat):St:=⟨1,.Ae (some (.AE [(5,11),(3,12),(12,13),(-7,14)])) .nil .nil,16,(none,none)::(none,none)::Rk c::Rk b::R0 5::En tp.er,[],[],0,0⟩
def dcF(j:Nat):Nat->Bool:=λn=> !(bt (Ao9 n (1000+j)) true (Ao9 n (2000+j)))
def AH(tp:Bm)(b c:Nat):Bool:=Zn (dcF c) (.Au (.ref 2028)) [.obj 0,HX] (jE tp b c) (pM tp 16) IK
def Hm(t:AV)(l:Ap):Bool:=match t with
 | .Ak [.str a,w,.int o,.int x]=>both (Ao9 a SK) (both (Hp w C8) (both (Ap.eq o ⟨1,[]⟩) (Ap.eq x l))) |_=>false
def cD(tp:Bm)(b k:Nat):K AV:=λv σ'=>both (Ao9 σ'.k k) (both (match σ'.obj 0 with |some (.AE [(m,a)])=>both (FW m (-7)) (Ao9 a (k-2))|_=>false) (res v σ' λv σ'=>match v with
 | .Ak [t,o]=>both (MT t) (both (sC 12 t) (res o σ' λo σ'=>match o with
  | .int l=>both (bL l σ') (NC (Hm t l) (λ_=>CQ tp t (.int l) σ') b)
  |_=>bad "leaf: value"))
 |_=>bad "leaf: pair"))
def WY(tp:Bm)(b:Nat):St:=⟨1,.Ae (some (.AE [(5,11),(3,12),(-7,13)])) .nil .nil,15,(none,none)::(none,none)::Rk b::R0 5::En tp.er,[],[],0,0⟩
def IF(tp:Bm)(b:Nat):Bool:=Zn Jl (.Au (.ref 2014)) [.obj 0,HX] (WY tp b) (cD tp b 15) IK
def yN(k:Nat):AV:=.sel (k+1) [.Ak [.str CP,.int (.at (k+2))],.Ak [.str Dh,.sel (k+3) Ff]]
def PO(r q:DB):Bool:=match r,q with
 |(some a,some b),(some c,some d)=>both (Fm c a) (Fm b d) |_,_=>false
def canon(tp:Bm)(σ:St):Bool:=both (Ap0 11 σ.k) (NR true (λi ih=>both (PO (σ.rg i) (BB (En tp.er) (10-i))) ih) 11)
def XA:List DB:=[(some 0,some 2),(some (-4),some 98),(some 0,some 1),(none,none)]
def Kb(tp:Bm)(vs:List AV)(σ:St)(k:K AV):Bool:=match vs with
 | [.obj j,h]=>both (both (Hp h HX) (canon tp σ)) (match σ.obj j with
  |some (.AE ((m1,_)::(m2,_)::(m3,_)::r))=>both (both (FW m1 5) (both (FW m2 3) (FW m3 12))) (k (.Ak [.ED σ.k,yN σ.k]) ((σ.E5.atoms XA).Gi j (.AE r)))
  |_=>bad "number: spool")
 |_=>bad "number: arguments"
def QM:List DB:=[(some 0,some 1),(none,none),(some (-4),some 98),(some 0,some 0),(none,none)]
def i7(k:Nat):AV:=.sel (k+4) [.Ak [.str SK,C8,.int ⟨1,[]⟩,.int (.at (k+2))],.ED k]
def FE(tp:Bm)(vs:List AV)(σ:St)(k:K AV):Bool:=match vs with
 | [.obj j,h]=>both (both (Hp h HX) (canon tp σ)) (match σ.obj j with
  |some (.AE ((m1,_)::(m2,_)::r))=>both (both (FW m1 5) (FW m2 3)) (k (.Ak [i7 σ.k,.int (.at (σ.k+2))]) ((σ.E5.atoms QM).Gi j (.AE r)))
  |_=>bad "leaf: spool")
 |_=>bad "leaf: arguments"
def upTo(r:DB)(m:Nat):Option Int:=match r.2 with
 |some b=>some (b+Api m) |none=>none
def hidden(tp:Bm)(σ:St):Option Int:=match σ.obj tp.cells with
 |some (.list none l none)=>bt (BV Hp l tp.As) (some 0) none |some (.mid l p m)=>bt (BV Hp l tp.As) (upTo (σ.rg p) m.length) none |_=>none
def St.more(σ:St)(objs:PA)(n:Nat)(r:DB):St:=match σ with
 |⟨m,_,k,Bi,neg,Ca,Bq,low⟩=>⟨m+n,objs,k+1,r::Bi,neg,Ca,Bq+1,low⟩
def Fq(σ:St)(a:Nat)(z:Int)(f:St->Bool):Bool:=match σ.rg a with
 |(some x,some y)=>(match both (Fm x z) (Fm z y) with
  |true=>narrow σ a (some z,some z) f
  |false=>true)
 |_=>bad "kind"
def Wr(tp:Bm)(q vi fr:Nat)(rest lv:List AV)(Dc:Int)(σ:St):St:=σ.more (EF [(tp.n0,.dead),(tp.n0+1,.dead),(tp.vals,.dead),(vi,.dead),(fr,EV tp),(tp.call,.inst 385 (BM tp.Bz Bd (.obj σ.n))),(tp.work,.list none rest.reverse none),(tp.cells,.mid tp.As σ.k []),(σ.n,.list none (lv++ [.int (.at (q+2))]) none)] σ.objs.kill) 1 (some 0,some (Dc+1))
def Sn(tp:Bm)(q vi fr:Nat)(Dc:Int)(σ:St):St:=σ.more (EF [(tp.n0,.dead),(tp.n0+1,.dead),(tp.vals,.dead),(vi,.dead),(2,.dead),(3,.dead),(4,.dead),(fr,EV tp),(tp.call,.dead),(tp.work,.dead),(tp.cells,.mid tp.As σ.k []),(σ.n,.ed [(Xt,.str Dh),(Q3,.int ⟨0,[]⟩),(CP,.Ak [.str Gf,qE,.sel (q+3) Ff])]),(σ.n+1,.old 114 (some σ.n))] σ.objs.kill) 2 (some 0,some (Dc+1))
def WE(o:Option AO)(n:Nat):Bool:=match o with
 |some (.old C (some d))=>both (Ao9 C 114) (Ao9 d n) |_=>false
def Qy(tp:Bm)(q vi fr:Nat)(rest lv:List AV)(Dc:Int)(σ:St)(k:K Unit)(ke:K AV):Bool:=
 both (Fq σ (q+1) 0 λσ=>k () (Wr tp q vi fr rest lv Dc σ)) (Fq σ (q+1) 1 λσ=>both (WE ((Sn tp q vi fr Dc σ).obj<|σ.n+1) σ.n) (ke (.obj<|σ.n+1)<|Sn tp q vi fr Dc σ))
inductive Top where
 |ED(q:Nat)
 |sel(a:Nat)(c:AV)(q:Nat)
def Te(v:AV):Option Top:=match v with
 | .Ak [.str s,.ED q]=>bt (Ao9 s CP) (some (.ED q)) none | .Ak [.str s,.sel a [c,.ED q]]=>bt (Ao9 s CP) (some (.sel a c q)) none |_=>none
def MN(items:List AV):Option (Top×List AV):=match items.reverse with
 |v::r=>OR none (λt=>some (t,r)) (Te v) |_=>none
def hookAt(tp:Bm)(σ:St)(fr:Nat):Option (Top×Nat×List AV×List AV×Int):=match σ.obj tp.call with
 |some (.inst C a)=>(match A2 a Bd with
  |some (.obj vi)=>(match σ.obj tp.work,σ.obj vi with
   |some (.list none items none),some (.list none lv none)=>(match MN items,hidden tp σ with
    |some (q,r),some Dc=>bt (both (both (Aq0 (tp.n0+1) σ.n) (both (both (Aq0 (tp.n0+1) fr) (!(Ao9 fr vi))) (bt (Ao9 vi tp.vals) true (Aq0 (tp.n0+1) vi)))) (both (Ao9 C 385) (both (BV TG a (BM tp.Bz Bd (.obj vi))) (both (Fm Dc 1000) (both (fits items) (both (fits lv) (both (canon tp σ) (CU ((0,.AE [])::tp.objs) σ)))))))) (some (q,vi,r,lv,Dc)) none
    |_,_=>none)
   |_,_=>none)
  |_=>none)
 |_=>none
def MM(tp:Bm)(t:Top)(vi fr:Nat)(rest lv:List AV)(Dc:Int)(σ:St)(k:K Unit)(ke:K AV):Bool:=match t with
 | .ED q=>Qy tp q vi fr rest lv Dc σ k ke | .sel a c q=>both (Fq σ a 0 λσ=>k () (σ.put tp.work (.list none (rest.reverse++ [.Ak [.str CP,c]]) none))) (Fq σ a 1 λσ=>Qy tp q vi fr rest lv Dc σ k ke)
def vE(tp:Bm)(tag:Nat)(E:Bo)(σ:St):Option (M Unit):=bt (both (Ao9 tag 1) (isFrame tp (σ.obj E.fr))) (OR none (λp=>some λk ke=>MM tp p.1 p.2.1 E.fr p.2.2.1 p.2.2.2.1 p.2.2.2.2 σ k ke) (hookAt tp σ E.fr)) none
def eD(tp:Bm)(a:Nat)(vs:List AV)(σ:St)(k:K AV):Option Bool:=bt (Ao9 a 1967) (some (Ka vs σ k)) (bt (Ao9 a 2028) (some (Kb tp vs σ k)) (bt (Ao9 a 2014) (some (FE tp vs σ k)) none))
def dcE(r:DB)(f n:Nat):Bool:=bt (Ao9 n 2005) (both (match r.1 with |some e=>FW e 1 |none=>false) (!(Ao9 f 5))) (dcF f n)
def T1(tp:Bm)(f:Nat):Tab:=tt.tab (eD tp) (vE tp) (dcE tp.er f)
def Bm.free(tp:Bm):Bm:={tp with objs:=tp.objs.filter (λp=>Ap0 5 p.1),As:=tp.As.take 7,er:=(some 0,some 1)}
def nX:List Cs:=Ba (cS 40) Hi
def part2:Cs:=B9 (nX.drop 2)
def Nj(g:List Ap):List (Nat×Int)->Option Ap
 | []=>some ⟨0,[]⟩
 |(a,f)::r=>(match Bs g a,Nj g r with
  |some l,some m=>some (Ap.add (Ap.mul f l) m)
  |_,_=>none)
def Ni(g:List Ap)(m:Ap):Option Ap:=match Nj g m.t with
 |some l=>some ⟨Int.add m.c l.c,l.t⟩ |none=>none
def eP(f:List Nat)(g:List Ap):Nat->AV->AV->Bool
 |0,_,_=>false
 |d+1,v,w=>match v,w with
  |_,.any=>true
  |v,.sel a ws=>(match Bs g a with
   |some ⟨.ofNat j,[]⟩=>(match Bs ws j with |some u=>eP f g d v u |none=>false)
   |_=>false)
  | .A4,.A4=>true | .bool x,.bool y=>x==y | .int x,.int y=>(match Ni g y with |some z=>Ap.eq z x |none=>false) | .str x,.str y=>Ao9 x y | .B4 x,.B4 y=>CK x y | .Ak l,.Ak m=>BV (eP f g d) l m | .obj j,.obj i=>(match Bs f i with |some j'=>Ao9 j j' |none=>false) | .Au x,.Au y=>R8 x y |_,_=>false
def wkN(f:List Nat)(g:List Ap)(p q:Nm×AV):Bool:=both (Ao9 p.1 q.1) (eP f g 12 p.2 q.2)
def wkD(f:List Nat)(g:List Ap)(p q:AV×AV):Bool:=both (keyOk q.1) (both (eP f g 12 p.1 q.1) (eP f g 12 p.2 q.2))
def sJ(f:List Nat)(g:List Ap)(a b:AO):Bool:=match a,b with
 |_,.dead=>true | .list none l none,.list none m none=>BV (eP f g 12) l m | .dict l,.dict m=>BV (wkD f g) l m | .inst A l,.inst B m=>both (Ao9 A B) (BV (wkN f g) l m) | .frame l,.frame m=>BV (wkN f g) l m |_,_=>false
def frC(tp:Bm):AO:=.frame [(cP,.obj 0),(pK,HX),(Lv,.obj tp.run),(HB,.obj tp.call)]
def Xv(tp:Bm):List (Nat×AO):=(1,frC tp)::(tp.call,.inst 385 tp.Bz)::(tp.cells,.list none tp.As none)::(tp.work,.list none [] none)::(tp.vals,.list none [] none)::tp.objs
def gOf(v:AV):Option (List Ap):=match v with
 | .Ak [.int n,.int o,.Ak [.int a,.int b,.int c],l,.bool r,e]=>(match(match l with | .A4=>some (Ap.k 5,Ap.k 0)| .int x=>some (x,Ap.k 1)|_=>none),(match e with | .A4=>some (Ap.k 0,Ap.k 1,Ap.k 0)| .Ak [.int x,.int y]=>some (x,y,Ap.k 1)|_=>none) with
  |some (x,lk),some (y,z,ek)=>some [n,o,a,b,c,x,y,z,lk,ek,bt r (Ap.k 1) (Ap.k 0)]
  |_,_=>none)
 |_=>none
def gRg(g:List Ap)(rs:List DB)(σ:St):Bool:=match g,rs with
 | [],[]=>true |l::g,r::rs=>both (PO (l.range σ) r) (gRg g rs σ) |_,_=>false
def Gd:List Nat->Bool
 | []=>true |a::l=>both (!(isIn a l)) (Gd l)
def UM(n:Nat):List Nat->Bool
 | []=>true |a::l=>both (Aq0 a n) (UM n l)
def MU(tp:Bm)(f:List Nat)(σ:St)(g:List Ap):Bool:=both (both (Ao9 f.length (tp.n0+1)) (both (Gd f) (both (UM σ.n f) (match f with |0::1::_=>true |_=>false)))) (both (gRg g (En tp.er).reverse σ)
 (LR true (λp _ ih=>both (match Bs f p.1 with |some j=>(match σ.obj j with |some o=>sJ f g o p.2 |none=>false)|none=>false) ih)<|Xv tp))
def Sv(tp0 tp1:Bm)(fs:List (List Nat)):K Fl:=λfl σ=>match fl with
 | .next=>(match σ.obj 0,σ.obj 1 with
  |some (.AE []),some (.frame ((_,_)::(_,h)::_))=>(match gOf h with
   |some g=>(match Bs g 9 with
    |some ⟨.ofNat e,[]⟩=>(match Bs fs e with
     |some f=>MU (NC tp0 (λ_=>tp1) e) f σ g
     |none=>bad "join: shape")
    |_=>bad "join: kinds")
   |none=>bad "join: held")
  |_,_=>bad "join: frame")
 |_=>bad "join: flow"
def Dw:List (Int×Nat):=[(5,11),(3,12),(12,13),(5,14),(3,15),(12,16),(8,17),(10,18)]
def Du(f:Nat):List DB:=Rk f::(some 0,some 4)::R0 12::R0 3::R0 5::R0 12::R0 3::R0 5:: []
def GA:List (Int×Nat):=[(5,11),(3,12),(12,13),(5,14),(3,15),(12,16),(8,17),(5,18),(3,19),(5,20),(3,21),(2,22),(2,23),(6,24)]
def Gh(f:Nat):List DB:=Rk f::R0 2::R0 2::R0 3::R0 5::R0 3::R0 5::(some 5,some 7)::R0 12::R0 3::R0 5::R0 12::R0 3::R0 5:: []
def Rn(tp:Bm)(fut:List (Int×Nat))(rg:List DB):St:=⟨tp.n0+1,EF ((0,.AE fut)::Xv tp) (NZ (tp.n0+1)),11+rg.length,rg++En tp.er,[],[],0,0⟩
def bP:K Fl:=λfl σ=>match fl with
 | .ret (.bool b)=>both b (match σ.obj 0 with |some (.AE [])=>true |_=>false) |_=>bad "form right"
def AF(tp:Bm)(f:Nat)(fut:List (Int×Nat))(rg:List DB):Bool:=part2 ⟨T1 tp f,Qf (T1 tp f) Ex.get 20⟩ ⟨1,[]⟩ (Rn tp fut rg) bP IK
def fS5:List Nat:=[0,1,101,103,65,43,86,4,60,62,63,64,99,78,88,89,90,59,69]
def BC:Bm:=⟨18,[(2,.inst 567 [(113,.obj 3),(114,.int ⟨0,[]⟩)]),(3,.list none [] none),(5,.inst 1861 [(35,.obj 7),(180,.any),(83,.any),(257,.int ⟨9,[]⟩),(160,.obj 8),(252,.any),(262,.any),(264,.any),(265,.any),(266,.A4),(158,.obj 13)]),(7,.inst 1928 [(299,.A4),(301,.any),(158,.any),(302,.any),(303,.any),(304,.any),(305,.any),(306,.any),(307,.any),(308,.any),(309,.A4),(310,.A4),(311,.any),(312,.any),(70,.any),(313,.any),(314,.any),(315,.any),(316,.any),(317,.bool true)]),(8,.inst 691 [(94,.obj 17),(68,.obj 9),(119,.obj 10),(120,.obj 11)]),(10,.list none [.obj 12] none),(11,.list none [.obj 2] none),(12,.list none [.int ⟨0,[(2,1)]⟩,.int ⟨0,[(3,1)]⟩,.int ⟨0,[(4,1)]⟩,.int ⟨9,[]⟩] none),(13,.dict [(.str 335,.int ⟨0,[]⟩)]),(14,.dict [(.int ⟨0,[]⟩,.int ⟨2,[]⟩),(.int ⟨1,[]⟩,.int ⟨3,[]⟩),(.int ⟨2,[]⟩,.int ⟨4,[]⟩),(.int ⟨3,[]⟩,.int ⟨5,[]⟩),(.int ⟨4,[]⟩,.int ⟨6,[]⟩),(.int ⟨5,[]⟩,.int ⟨7,[]⟩)]),(17,.dead)],5,6,9,15,16,[(67,.A4),(68,.obj 14),(69,.obj 15),(70,.obj 16),(71,.any),(72,.A4),(73,.bool false)],[.int ⟨0,[(1,1)]⟩,.int ⟨0,[(5,1)]⟩,.int ⟨0,[(0,1)]⟩,.Ak [.str 17,.Ak [.int ⟨0,[(2,1)]⟩,.int ⟨0,[(3,1)]⟩,.int ⟨0,[(4,1)]⟩]],.A4,.sel 8 [.A4,.Ak [.str 112,.Ak [.str 121,.int ⟨1,[]⟩],.Ak []]],.sel 10 [.A4,.Ak [.str 3,.Ak [.str 123,.int ⟨0,[]⟩,.Ak []],.int ⟨0,[]⟩,.int ⟨3,[]⟩,.int ⟨4,[]⟩]],.A4],(some 0,some 0)⟩
def fS7:List Nat:=[0,1,101,103,116,43,86,4,60,62,63,64,99,78,88,89,90,59,69]
def BY:Bm:=⟨18,[(2,.inst 567 [(113,.obj 3),(114,.int ⟨1,[]⟩)]),(3,.list none [.obj 4] none),(4,.list none [.int ⟨0,[]⟩,.Ak [.Ak [.str 15,.int ⟨0,[(6,1)]⟩]],.int ⟨0,[(6,1)]⟩,.int ⟨0,[(7,1)]⟩] none),(5,.inst 1861 [(35,.obj 7),(180,.any),(83,.any),(257,.int ⟨9,[]⟩),(160,.obj 8),(252,.any),(262,.any),(264,.any),(265,.any),(266,.A4),(158,.obj 13)]),(7,.inst 1928 [(299,.A4),(301,.any),(158,.any),(302,.any),(303,.any),(304,.any),(305,.any),(306,.any),(307,.any),(308,.any),(309,.A4),(310,.A4),(311,.any),(312,.any),(70,.any),(313,.any),(314,.any),(315,.any),(316,.any),(317,.bool true)]),(8,.inst 691 [(94,.obj 17),(68,.obj 9),(119,.obj 10),(120,.obj 11)]),(10,.list none [.obj 12] none),(11,.list none [.obj 2] none),(12,.list none [.int ⟨0,[(2,1)]⟩,.int ⟨0,[(3,1)]⟩,.int ⟨0,[(4,1)]⟩,.int ⟨9,[]⟩] none),(13,.dict [(.str 335,.int ⟨0,[]⟩)]),(14,.dict [(.int ⟨0,[]⟩,.int ⟨2,[]⟩),(.int ⟨1,[]⟩,.int ⟨3,[]⟩),(.int ⟨2,[]⟩,.int ⟨4,[]⟩),(.int ⟨3,[]⟩,.int ⟨5,[]⟩),(.int ⟨4,[]⟩,.int ⟨6,[]⟩),(.int ⟨5,[]⟩,.int ⟨7,[]⟩)]),(17,.dead)],5,6,9,15,16,[(67,.A4),(68,.obj 14),(69,.obj 15),(70,.obj 16),(71,.any),(72,.A4),(73,.bool false)],[.int ⟨0,[(1,1)]⟩,.int ⟨0,[(5,1)]⟩,.int ⟨0,[(0,1)]⟩,.Ak [.str 17,.Ak [.int ⟨0,[(2,1)]⟩,.int ⟨0,[(3,1)]⟩,.int ⟨0,[(4,1)]⟩]],.A4,.sel 8 [.A4,.Ak [.str 112,.Ak [.str 121,.int ⟨1,[]⟩],.Ak []]],.sel 10 [.A4,.Ak [.str 3,.Ak [.str 123,.int ⟨0,[]⟩,.Ak []],.int ⟨0,[]⟩,.int ⟨3,[]⟩,.int ⟨4,[]⟩]],.Ak [.str 4,.int ⟨0,[]⟩]],(some 1,some 1)⟩
def Dj:Bm:=BC.free
def fSs:List (List Nat):=[fS5,fS7]
def isTrue:K AV:=λv _=>match v with | .bool b=>b |_=>false
theorem z6:Qf mT Ex.get 60 (.Au<|.ref 2007) [] e0 isTrue IK=true:=by kernel_rfl
def d8(x:Int):St:=⟨1,.Ae (some (.mid [.int ⟨x,[]⟩] 0 [])) .nil .nil,1,[(some 0,some 100)],[],[],0,1⟩
def YI:St:=⟨1,.Ae (some (.list none [] none)) .nil .nil,0,[],[],[],0,1⟩
def Q6(a b:Int)(v:AV)(σ:St):Bool:=match v with
 | .obj (i+1)=>both (Ao9 σ.Bq 0) (match σ.obj (i+1) with |some (.list none [.int ⟨c,[]⟩,.int ⟨d,[]⟩] none)=>c==a&&d==b |_=>false) |_=>false
def qq(s:Int):Int:=Int.fmod (Int.mul (Int.add (Int.fmod s 2147483629) 17) 48271) 2147483647
def rr(s a b:Int):Bool:=bt (!(CH (Int.sub s 1000000000000000000) 0)) (s==a&&qq s==b) ((0:Int)==a&&qq s==b)
theorem sG(x a b:Int):Qf mT Ex.get 3 (.Au<|.ref 1960) [.obj 0] (d8 x) (Q6 a b) IK=bt (CH (Int.sub x<|Int.sub (-1) x) 0) (rr (Int.sub (-1) x) a b) (rr x a b):=by kernel_rfl
theorem sp0:Qf mT Ex.get 3 (.Au<|.ref 1960) [.obj 0] YI (Q6 0 820607) IK=true:=by kernel_rfl
theorem jI{s:Int}(h:0≤s):∃a b,Ij a b∧rr s a b=true:=by
 have hq:0≤qq s∧qq s<2147483647:=by unfold qq;rw[Aqj _ (by decide)];exact⟨Int.emod_nonneg _ (by decide),Int.emod_lt_of_pos _ (by decide)⟩
 unfold rr;cases CH (Int.sub s 1000000000000000000) 0 with
 |true=>exact⟨0,qq s,⟨by omega,hq.1,hq.2⟩,by simp[bt]⟩
 |false=>exact⟨s,qq s,⟨h,hq.1,hq.2⟩,by simp[bt]⟩
theorem qI(x:Int):∃a b,Ij a b∧Qf mT Ex.get 3 (.Au<|.ref 1960) [.obj 0] (d8 x) (Q6 a b) IK=true:=by
 cases q:CH (Int.sub x<|Int.sub (-1) x) 0 with
 |true=>
  have:=(AZ _ _).mp q;have e:0≤Int.sub (-1) x:=by show 0≤ -1-x;have:x-(-1-x)<0:=this;omega
  obtain⟨a,b,h1,h2⟩:=jI e;exact⟨a,b,h1,by rw[sG,q];exact h2⟩
 |false=>
  have e:0≤x:=by
   refine Int.not_lt.mp λhl=>?_
   have:CH (Int.sub x<|Int.sub (-1) x) 0=true:=(AZ _ _).mpr (by show x-(-1-x)<0;omega);rw[q] at this;cases this
  obtain⟨a,b,h1,h2⟩:=jI e;exact⟨a,b,h1,by rw[sG,q];exact h2⟩
theorem Xy{a b:Int}(h:Q6 a b v σ=true):σ.Bq=0∧∃i,v= .obj (i+1)∧σ.obj (i+1)=some (.list none [.int ⟨a,[]⟩,.int ⟨b,[]⟩] none):=by
 unfold Q6 at h;split at h
 ·obtain⟨h0,h⟩:=Ac h;split at h
  ·rename_i e;obtain⟨k1,k2⟩:=Aj h;rw[beq_iff_eq.mp k1,beq_iff_eq.mp k2] at e;exact⟨Ao6 h0,_,rfl,e⟩
  ·cases h
 ·cases h
def BX:Apc:=2062
def PT(vs:List AV)(σ:St)(k:K AV):Bool:=match vs with
 | [.Au (.ref b)]=>both (Ao9 b BX) (k (.obj σ.n) (σ.new (.AE []))) |_=>bad "spool"
def Ta(vs:List AV)(σ:St)(k:K AV):Bool:=match vs with
 | []=>k (.bool true) σ.E5 |_=>bad "told right"
section
variable{w:Ao7}{h1:Apn}{os:Aqz}{way:List Int->AV->AV->Prop}{up:∀{ρ ρ' t o},ρ<+:ρ'->way ρ t o->way ρ' t o}
variable{A:Apg}{σ:St}{W:Wd}{s:Ao5}
theorem tY(w:Ao7):fnIn (KF w) 2007=true:=by kernel_rfl
theorem tW(w:Ao7):fnIn (KF w) 1960=true:=by kernel_rfl
theorem OF{C:Cx}(I:Inv C W σ s):∀i o,σ.E5.obj i=some o->∃o0 p0,σ.obj i=some o0∧o=Cv o0∧W.τ[i]?=some p0:=λi o ho=>by obtain⟨o0,h0,rfl⟩:=St.SN ho;obtain⟨q,hq,_⟩:=I.obj i o0 h0;exact⟨o0,q,h0,rfl,hq⟩
theorem eJ(R:AP (C1 w h1 os way up) (KF w) tt Gj){m:Nat}(f:CJ (m+60) true A)(I:Inv (C1 w h1 os way up) W σ s)(ar:AW A W)(hv:AM (C1 w h1 os way up) W s.heap vs cvs){k:K AV}(h:Ta vs σ k=true):
  ApG (model (C1 w h1 os way up).prog (C1 w h1 os way up).w) A (.call (.ref 2007) ⟨cvs,[]⟩) (Cq (C1 w h1 os way up) k ke σ W s) s:=by
 unfold Ta at h;split at h
 ·cases hv;have Ig:Inv (C1 w h1 os way up) ⟨[],[],W.q,W.ls,W.fs,W.fo⟩ e0 s:=I.pick (λq hq=>nomatch hq) AqY rfl rfl rfl (λa x e=>by cases e) (λp hp=>by cases hp) (λp hp=>by cases hp) I.fo λi o ho=>nomatch ho
  refine IM (nD R m 60) f I ar Ig (λq hq=>nomatch hq) rfl (Fi R<|tY w) .nil z6 λv cv σ' W' s' hk B r=>?_
  have Wq:∀i o,σ.E5.obj i=some o->(∃o0 p0,σ.obj i=some o0∧o=Cv o0∧W.τ[i]?=some p0∧p0∉([]:List (Apc×Apc)))∨∃p0,(W.τ++ [])[i]?=some p0∧Ob (C1 w h1 os way up) (HN W W' [] [] W.q W.ls) s'.heap p0 o:=λi o ho=>by obtain⟨o0,p0,a,b,c⟩:=OF I i o ho;exact .inl ⟨o0,p0,a,b,c,by simp⟩
  obtain⟨J,Y⟩:=B.back (nw:=[]) (ex:=[]) (q:=W.q) (ls:=W.ls) (σ2:=σ.E5) ⟨λp hp=>(by cases hp),AqY,λ_ _=>rfl,λ_ _=>rfl,rfl,rfl,⟨[],rfl,rfl,λi x e=>(by cases e)⟩,rfl,rfl,rfl,rfl,Wq⟩;unfold isTrue at hk;split at hk
  ·subst hk;cases r;exact⟨_,_,_,h,Y,J,.bool⟩
  ·cases hk
 ·cases h
theorem YO{h0:Apn}(R0:AP (C1 w h0 os way up) (KF w) tt Gj)(Im:∀b o,h0.get? b=some o->h1.get? b=some o){items:List Ao3}(hn:h0.get? BX=none)(ho:h1.get? BX=some {cls:=.type "list",data:=.seq items.toArray})(hlen:items.length≤63)
  (Wo:∀v∈items,∃i t,v= .int i t){m:Nat}(f:CJ (m+3) true A)(I:Inv (C1 w h1 os way up) W σ s)(ar:AW A W){vs:List AV}{cvs:List Ao3}(hv:AM (C1 w h1 os way up) W s.heap vs cvs){k ke:K AV}(h:PT vs σ k=true):
  ApG (model (C1 w h1 os way up).prog (C1 w h1 os way up).w) A (.call (.ref 1960) ⟨cvs,[]⟩) (Cq (C1 w h1 os way up) k ke σ W s) s:=by
 unfold PT at h;split at h
 ·rename_i b;obtain⟨hb,h⟩:=Ac h;have hb:=Ao6 hb;subst hb;cases hv with
  |cons v1 hv=>
   cases hv;cases v1;have hs:=I.base _ _ ho;have down:∀a,h1.get? a=none->h0.get? a=none:=λa q=>by
    cases e:h0.get? a with
    |none=>rfl |some o=>rw[Im a o e] at q;cases q
   have main:∀(σg:St) (ρ:List Int) (ls:Nat->List Ao3) (a b:Int),σg.low=1->σg.Bq=0->Inv (C1 w h0 os way up) ⟨ρ,[(BX,BX)],W.q,ls,W.fs,[]⟩ σg s->Ij a b->Qf mT Ex.get 3 (.Au<|.ref 1960) [.obj 0] σg (Q6 a b) IK=true->
     ApG (model (C1 w h1 os way up).prog (C1 w h1 os way up).w) A (.call (.ref 1960) ⟨[.ref BX],[]⟩) (Cq (C1 w h1 os way up) k ke σ W s) s:=by
    intro σg ρ ls a b vB Ae9 Ig sp run;refine Arn ((nD R0 m 3).code A σg _ s 1960 [.obj 0] [.ref BX] (Q6 a b) IK f Ig (ar.fs rfl) (Fi R0<|tW w) (.cons (.obj (i:=0) (p:=(BX,BX)) rfl) .nil) run) λr s' q=>?_
    cases r with
    |error e=>exact(AG.IK q).elim
    |ok fl=>
     cases fl with
     |next=>exact q.elim
     |brk=>exact q.elim
     |cont=>exact q.elim
     |ret v=>
      obtain⟨av,σ',W',hk,X,I',r⟩:=q;obtain⟨ev,i,rfl,eo⟩:=Xy hk;have keep:∀c x,s.heap.get? c=some x->s'.heap.get? c=some x:=λc x e=>X.exact (ev.trans Ae9.symm) c x e (by
       by_cases q:c=BX
       ·refine .inr ⟨(BX,BX),?_,.inl q⟩;rw[vB];exact .head _
       ·refine .inl λ⟨r,hr,z⟩=>q ?_
        rw[Apu.mp hr] at z;exact z.elim id id)
      obtain⟨p2,MP,ep,vs2,vv,Wy,_,_,Xm⟩:=I'.obj _ _ eo;have QA:W'.τ[0]?=some (BX,BX):=Ah X.τ (show([(BX,BX)]:List (Apc×Apc))[0]?=some (BX,BX) from rfl);have fr:s.heap.get? p2.1=none∧s.heap.get? p2.2=none:=by
       rcases X.fresh p2 (get_mem MP) with z |z
       ·rw[Apu.mp z] at MP;exact absurd rfl (I'.apart _ _ _ _ MP QA<|Nat.succ_ne_zero i).1
       ·exact z
      obtain⟨l1,l2⟩:=I'.live p2 (get_mem MP);cases vv with
      |cons u1 vv=>cases vv with
       |cons u2 vv=>
        cases vv;cases u1 with
        |int g1=>cases u2 with
         |int g2=>
          cases(show some _=some _ by simpa [Ap.ev,CN] using g1);cases(show some _=some _ by simpa [Ap.ev,CN] using g2);obtain⟨J,Y⟩:=I.make (o:=.AE []) (p:=p2) keep fr.1 fr.2 (λS=>⟨ep,a,b,_,_,by simpa [Aq] using Wy,sp,trivial,Xm⟩) l1 l2 (I'.gens.trans I.gens.symm) (I'.os.trans I.os.symm);refine⟨_,_,_,h,Y,J,?_⟩;cases r with
          |obj e=>rw[MP] at e;cases e;refine .obj (i:=σ.n) ?_;show(W.τ++ [p2])[σ.n]?=some p2;rw[←I.nτ];simp
   have vP:∀(σg:St) (ρ:List Int) (ls:Nat->List Ao3) (o:AO),σg.n=1->ρ.length=σg.k->σg.Bi.length=σg.k->(∀a x,ρ[a]?=some x->inR (σg.rg a) x)->σg.neg= []->σg.Ca= []->σg.objs= .Ae (some o) .nil .nil->Ob (C1 w h0 os way up) ⟨ρ,[(BX,BX)],W.q,ls,W.fs,[]⟩ s.heap (BX,BX) o->
     Inv (C1 w h0 os way up) ⟨ρ,[(BX,BX)],W.q,ls,W.fs,[]⟩ σg s:=by
    intro σg ρ ls o e1 e2 e3 e4 e5 e6 e7 ob;refine⟨by rw[e1];rfl,e2,e3,e4,λp hp=>(by rw[e5] at hp;cases hp),λp hp=>(by rw[e6] at hp;cases hp),λi x hx=>?_,λi j p q hp hq ne=>?_,λp hp=>(by rw[Apu.mp hp];exact⟨hn,hn⟩),λp hp=>(by rw[Apu.mp hp];exact⟨⟨_,hs,trivial⟩,_,hs,trivial⟩),λa ha=>⟨down a (I.Kn a ha).1,(I.Kn a ha).2⟩,λa x hx=>I.base a x (Im a x hx),I.gens,I.os,λa ha=>nomatch ha⟩
    ·unfold St.obj at hx;rw[e7] at hx;cases i with
     |succ i=>exfalso;have:bt (Ao9 (Ap7 i 2) 0) (none:Option AO) none=some x:=hx;cases hq:Ao9 (Ap7 i 2) 0<;>rw[hq] at this<;>cases this
     |zero=>cases(show some _=some x from hx);exact⟨_,rfl,ob⟩
    ·have li:=(Ape.mp hp).1;have lj:=(Ape.mp hq).1;simp only[ApD,AqM] at li lj;omega
   have nd:Kq s.heap BX:=⟨_,hs,rfl,rfl⟩;have il:s.heap.IsList BX items.toArray:=⟨_,hs,rfl,_,rfl⟩;cases items with
   |nil=>exact main YI [] W.ls 0 820607 rfl rfl (vP YI [] W.ls _ rfl rfl rfl (λa x e=>nomatch e) rfl rfl rfl ⟨rfl,[],.nil,by simpa [Aq] using il,trivial,trivial,nd⟩) ⟨by decide,by decide,by decide⟩ sp0
   |cons v rest=>
    obtain⟨x,t,rfl⟩:=Wo _ (.head _);obtain⟨a,b,sp,run⟩:=qI x;refine main (d8 x) [Api rest.length] (λ_=>rest) a b rfl rfl (vP (d8 x) [Api rest.length] (λ_=>rest) _ rfl rfl rfl (λa z e=>?_) rfl rfl rfl ⟨rfl,[.int x t],[],.cons (.int<|Ap.CY _) .nil,.nil,by simpa using il,rfl,nd⟩) sp run;cases a with
    |zero=>cases e;simp only[ApD] at hlen;exact⟨λa e=>by cases e;simp,λa e=>by cases e;show(rest.length:Int)≤100;omega⟩
    |succ a=>cases e
 ·cases h
end
def Uu(z9:List Bm)(ρ:List Int)(t o:AV):Prop:=
 ∃tp∈z9,∃(σ1:St) (ρ1:List Int) (t1 o1:AV),ρ1.take 11=ρ.take 11∧11≤ρ.length∧11≤ρ1.length∧Facts ρ1 σ1∧CQ tp t1 o1 σ1=true∧Gv ρ1 12 t1=some t∧mQ ρ1 o1 o
def eO(ρ:List Int)(t o:AV):Prop:=∃e:Int,ρ[9]?=some e∧((e=0∧Uu [BC,Dj] ρ t o)∨(e=1∧Uu [BY,Dj] ρ t o))
theorem Ur{ρ ρ':List Int}(h:ρ<+:ρ')(hl:11≤ρ.length):ρ'.take 11=ρ.take 11:=by obtain⟨r,rfl⟩:=h;rw[Aqt hl]
theorem Ze{ρ ρ':List Int}(h:ρ<+:ρ'):eO ρ t o->eO ρ' t o:=by
 have up:∀z9,Uu z9 ρ t o->Uu z9 ρ' t o:=λz9 ⟨tp,m,σ1,ρ1,t1,o1,a,b,c,d⟩=>⟨tp,m,σ1,ρ1,t1,o1,a.trans (Ur h b).symm,AqT b h.length_le,c,d⟩
 exact λ⟨e,a,b⟩=>⟨e,Ah h a,b.imp (λ⟨x,y⟩=>⟨x,up _ y⟩) (λ⟨x,y⟩=>⟨x,up _ y⟩)⟩
abbrev CW(w:Ao7)(h1:Apn)(os:Aqz):Cx:=C1 w h1 os eO Ze
def Gn(tp:Bm)(e:Int):Prop:=(e=0∧tp=BC)∨(e=1∧tp=BY)
theorem Gn.er{tp:Bm}{e:Int}(h:Gn tp e):tp.er=(some e,some e):=by rcases h with⟨rfl,rfl⟩|⟨rfl,rfl⟩<;>rfl
theorem Gn.way{tp:Bm}{e:Int}(h:Gn tp e){ρ:List Int}(h9:ρ[9]?=some e)(hw:Uu [tp,Dj] ρ t o):eO ρ t o:=by
 rcases h with⟨rfl,rfl⟩|⟨rfl,rfl⟩
 ·exact⟨_,h9,.inl ⟨rfl,hw⟩⟩
 ·exact⟨_,h9,.inr ⟨rfl,hw⟩⟩
def JU(tp:Bm)(c:Nat):Bm:=if c=3 then tp else Dj
structure FL(tp:Bm):Prop where
 num:∀b c,b<3->c<12->AH (JU tp c) b c=true
 Af:∀b,b<3->IF Dj b=true
section
variable{w:Ao7}{h1:Apn}{os:Aqz}
variable{A:Apg}{σ:St}{W:Wd}{s:Ao5}
theorem i5(w:Ao7):keepIn (KF w) (.ref 1967)=true:=by kernel_rfl
theorem Ml{b:Bool}{x r:Bool}(h:bt b (some x) none=some r):b=true∧x=r:=by cases b with |true=>cases h;exact⟨rfl,rfl⟩|false=>cases h
theorem eF(R:AP (CW w h1 os) (KF w) tt Gj)(m:Nat){n:Nat}(hn:m+3≤n):FN (CW w h1 os) (TD dc) n:=λA σ W s a vs cvs k ke f I ar hv h=>by have h:bt (Ao9 a 1967) (some<|Ka vs σ k) none=some true:=h;obtain⟨h1,h2⟩:=Ml h;cases Ao6 h1;exact N4 R (f.le hn) I ar hv h2
theorem Mq(R:AP (CW w h1 os) (KF w) tt Gj)(m:Nat)(dc:Nat->Bool):Cp (CW w h1 os) (m+3+30) (Zn dc):=
 Ef R.ok (m+3) (R.call (MF R (λ_ _=>rfl) λn cl _ ok=>Hook.none λ_ _=>rfl) λa vs σ k r h=>by
  have h:bt (Ao9 a 1967) (some<|Ka vs σ k) none=some r:=h;cases Ao6 (Ml h).1;exact i5 w) (S6 R.sys) (λi=>eF R m (by omega)) 30
theorem t4(w:Ao7):fnIn (KF w) 2028=true:=by kernel_rfl
theorem tZ(w:Ao7):fnIn (KF w) 2014=true:=by kernel_rfl
theorem PQ{x:Int}(h:PO r q=true)(hx:inR r x):inR q x:=by
 obtain⟨r1,r2⟩:=r;obtain⟨q1,q2⟩:=q;unfold PO at h;split at h
 ·rename_i a b c d e1 e2;cases e1;cases e2;obtain⟨h1,h2⟩:=Ac h;have h1:=B1 h1;have h2:=B1 h2;exact⟨λa e=>by cases e;have:=hx.1 _ rfl;omega,λa e=>by cases e;have:=hx.2 _ rfl;omega⟩
 ·cases h
theorem UJ{f:Nat->Bool}:∀{n:Nat},NR true (λi ih=>both (f i) ih) n=true->∀i,i<n->f i=true
 |0,_,i,h=>by omega
 |n+1,h,i,hi=>by
  have h:both (f n) (NR true (λi ih=>both (f i) ih) n)=true:=h;obtain⟨h1,h2⟩:=Ac h;rcases Nat.lt_succ_iff_lt_or_eq.mp hi with hi |rfl
  ·exact UJ h2 i hi
  ·exact h1
theorem ER{tp:Bm}(I:Inv (CW w h1 os) W σ s)(h:canon tp σ=true):11≤W.ρ.length∧∀a x,a<11->W.ρ[a]?=some x->inR (BB (En tp.er)<|10-a) x:=by obtain⟨h1,h2⟩:=Ac h;exact⟨by rw[I.kρ];exact ApB h1,λa x ha hx=>PQ (UJ h2 a ha) (I.Bi a x hx)⟩
theorem Iy{tp:Bm}{e:Int}(I:Inv (CW w h1 os) W σ s)(he:Gn tp e)(h:canon tp σ=true):W.ρ[9]?=some e:=by
 obtain⟨hl,hr⟩:=ER I h;have:9<W.ρ.length:=by omega
 have e1:=Apk this;have:=hr 9 _ (by omega) e1;rw[he.er] at this;have a:=this.1 e rfl;have b:=this.2 e rfl;rw[e1];congr 1;omega
theorem Q5{items:Array Ao3}(q:IsT W h a items):a∉Ik W:=λm=>by
 rcases ApM.mp m with m |m
 ·exact q.fo m
 ·rcases ApM.mp m with m |m<;>obtain⟨p,hp,rfl⟩:=Ark.mp m
  ·exact q.un ⟨p,hp,.inl rfl⟩
  ·exact q.un ⟨p,hp,.inr rfl⟩
theorem XB{W:Wd}(h:own W.τ a):a∈Ik W:=by
 obtain⟨p,hp,rfl |rfl⟩:=h
 ·exact AqO _ (AqX _<|Ark.mpr ⟨p,hp,rfl⟩)
 ·exact AqO _ (AqO _<|Ark.mpr ⟨p,hp,rfl⟩)
theorem B3{W':Wd}(e:W'.fo=Ik W):Bb W' (HN W W' [] ex q ls) h h:=λa items x=>
 ⟨λo=>x.fo (by rw[e];exact XB (by rw[show(HN W W' [] ex q ls).τ=W.τ++ [] from rfl,Apj] at o;exact o)),λm=>x.fo (by rw[e];exact AqX _ m),x.Ak,x.nd⟩
abbrev Wn(W:Wd)(p:Apc×Apc)(ex:List Int):Wd:=⟨W.ρ.take 11++ex,[p],W.q,W.ls,W.fs,Ik W⟩
theorem Wn.cut{p:Apc×Apc}(hp:p∈W.τ)(hl:11≤W.ρ.length)(h:Apn):Cut W (Wn W p ex) (λ_=>false) 11 h:=by refine⟨λi p h=>(by cases h),λa x ha hx=>?_,λa items q=>⟨λ⟨r,hr,e⟩=>q.un ⟨r,by rw[Apu.mp hr];exact hp,e⟩,Q5 q,q.Ak,q.nd⟩⟩;rw[Apz (by rw[AqD];omega),ArG,if_pos ha];exact hx
theorem RS:sW (λ_=>false) 11 12 HX=true:=by kernel_rfl
theorem Ro{l1 l2:List DB}{i:Nat}(h:l1.length≤i):BB (l1++l2) i=BB l2 (i-l1.length):=by unfold BB;rw[AA,AA,Apo h]
theorem HZ{t':AV}(h:MT t=true)(hc:Gv ρ 12 t=some t'):∃a r,t'= .Ak (a::C8::r):=by
 unfold MT at h;split at h
 ·rename_i a b r;cases B7 h;unfold Gv at hc;dsimp only at hc;split at hc
  ·rename_i m em;cases hc;simp only[Ji] at em;split at em
   ·rename_i a' m' e1 e2;cases em;split at e2
    ·rename_i b' m'' e3 e4;cases e2;have:Gv ρ 11 C8=some C8:=rfl;rw[this] at e3;cases e3;exact⟨_,_,rfl⟩
    ·cases e2
   ·cases em
  ·cases hc
 ·cases h
theorem PU{n:Nat}(h:Nk b=some n):n<3∧Ff[n]?=some (.B4 b):=by
 unfold Nk at h;split at h
 ·rename_i x y z e;rw[e];cases q1:CK b x with
  |true=>rw[q1] at h;cases h;rw[Ee q1];exact⟨by decide,rfl⟩
  |false=>
   rw[q1] at h;have h:bt (CK b y) (some 1) (bt (CK b z) (some 2) none)=some n:=h;cases q2:CK b y with
   |true=>rw[q2] at h;cases h;rw[Ee q2];exact⟨by decide,rfl⟩
   |false=>
    rw[q2] at h;have h:bt (CK b z) (some 2) none=some n:=h;cases q3:CK b z with
    |true=>rw[q3] at h;cases h;rw[Ee q3];exact⟨by decide,rfl⟩
    |false=>rw[q3] at h;cases h
 ·cases h
inductive IW(C:Cx)(W:Wd)(s:Ao5)(tp:Bm)(t:AV)(co:Ao3):Prop
 |val {σ3:St} {l:Ap} {x:Int}:Facts W.ρ σ3->CQ tp t (.int l) σ3=true->l.ev W.ρ=some x-> -4≤x->x≤98->VR C W s.heap (.Ak [.str CP,.int (.k x)]) co->IW C W s tp t co
 |pan {σ3:St} {n:Nat} {b:List UInt8}:Facts W.ρ σ3->CQ tp t (.str n) σ3=true->n<3->Ff[n]?=some (.B4 b)->VR C W s.heap (.Ak [.str Dh,.B4 b]) co->IW C W s tp t co
theorem So{C:Cx}{l:Ap}{x:Int}(I:Inv C W σ s)(h:bL l σ=true)(hx:l.ev W.ρ=some x): -4≤x∧x≤98:=by
 unfold bL at h;split at h
 ·rename_i a b e;obtain⟨h1,h2⟩:=Ac h;have h1:=B1 h1;have h2:=B1 h2;have:=Dt I.Bi hx;rw[e] at this;have a1:=this.1 _ rfl;have a2:=this.2 _ rfl;omega
 ·cases h
theorem Ue{C:Cx}{tp:Bm}(I:Inv C W σ s)(ho:VR C W s.heap o co)(h:Xu tp t o σ=true):IW C W s tp t co:=by
 obtain⟨o2,σ1,n1,r1,_,h⟩:=AN I ho h;split at h
 ·rename_i w x;cases r1 with
  |Ak ht vv=>
   cases vv with
   |cons vw vv=>cases vv with
    |cons vx vv=>
     cases vv;rcases CV h with⟨e1,h⟩|⟨_,h⟩
     ·cases Ao6 e1;obtain⟨x2,σ2,n2,r2,_,h⟩:=AN n1.1 vx h;split at h
      ·rename_i l;obtain⟨h1,h2⟩:=Ac h;cases r2 with
       | @int l i u hl=>have b:=So n2.1 h1 hl;have vr:VR C W s.heap (.Ak [.str CP,.int (.k i)]) (.ref _):=VR.Ak ht (AM.cons vw (AM.cons (VR.int (Ap.CY i)) AM.nil));exact IW.val n2.1.facts h2 hl b.1 b.2 vr
      ·cases h
     ·rcases CV h with⟨e1,h⟩|⟨_,h⟩
      ·cases Ao6 e1;split at h
       ·rename_i b _ _;split at h
        ·rename_i n hn;obtain⟨l3,ht3⟩:=PU hn;have vr:VR C W s.heap (.Ak [.str Dh,.B4 b]) (.ref _):=VR.Ak ht (AM.cons vw<|AM.cons vx AM.nil);exact IW.pan n1.1.facts h l3 ht3 vr
        ·cases h
       ·cases h
      ·cases h
 ·cases h
end
theorem Q9{o o':AO}{i:Nat}(h:(PA.Ae (some o) .nil .nil).get i=some o'):i=0∧o'=o:=by
 cases i with
 |zero=>exact⟨rfl,(Apr (show some o=some o' from h)).symm⟩
 |succ i=>exfalso;have:bt (Ao9 (Ap7 i 2) 0) (none:Option AO) none=some o':=h;cases hq:Ao9 (Ap7 i 2) 0<;>rw[hq] at this<;>cases this
theorem dU{er:DB}:∀{n:Nat},n≠1->BB (En er) n=BB (En er') n
 |0,_=>rfl |1,h=>absurd rfl h |_+2,_=>rfl
theorem dV{er:DB}{a:Nat}{x:Int}(ha:a<11)(h9:a=9->inR er' x)(h:inR (BB (En er)<|10-a) x):inR (BB (En er')<|10-a) x:=by
 by_cases e:a=9
 ·subst e;exact h9 rfl
 ·rw[dU (er:=er') (er':=er) (by omega)];exact h
theorem VR.FF{C:Cx}{l:List AV}(r:VR C W h (.Ak l) cv):∃a vs,cv= .ref a∧IsT W h a (List.toArray vs)∧AM C W h l vs:=by
 cases r with
 |Ak ht v=>exact⟨_,_,rfl,ht,v⟩
theorem AM.two{C:Cx}{a b:AV}(r:AM C W h [a,b] vs):∃x y,vs= [x,y]∧VR C W h a x∧VR C W h b y:=by
 cases r with
 |cons u v=>cases v with
  |cons v z=>cases z;exact⟨_,_,rfl,u,v⟩
theorem VR.str_inv{C:Cx}(r:VR C W h (.str n) cv):VR C W2 h2 (.str n) cv:=by
 cases r with
 |str e=>exact .str e
theorem VR.RY{C:Cx}(r:VR C W h (.B4 b) cv):VR C W2 h2 (.B4 b) cv:=by
 cases r with
 |B4=>exact .B4
theorem VR.int_inv{C:Cx}{W2:Wd}{x:Int}{l:Ap}{cv:Ao3}(r:VR C W h (.int<|.k x) cv)(e:l.ev W2.ρ=some x):VR C W2 h2 (.int l) cv:=by
 cases r with
 |int g=>rw[Ap.CY] at g;cases g;exact .int e
theorem EE(x:Int):inR (none,none) x:=⟨λa e=>(nomatch e),λa e=>(nomatch e)⟩
theorem XO{m x:Int}(h0:0≤x)(h1:x<m):inR (R0 m) x:=⟨λa e=>(by cases e;exact h0),λa e=>(by cases e;omega)⟩
theorem O8{n:Nat}:inR (Rk n) (Api n):=⟨λa e=>(by cases e;exact Aqd _),λa e=>(by cases e;exact Aqd _)⟩
section
variable{w:Ao7}{h1:Apn}{os:Aqz}
variable{A:Apg}{σ:St}{W:Wd}{s:Ao5}
theorem qU:Dj.er=(some 0,some 1):=rfl
theorem SR{tp:Bm}{e:Int}(he:Gn tp e)(c:Nat):inR (JU tp c).er e:=by
 unfold JU;split
 ·rw[he.er];exact⟨λa q=>by cases q;exact Aqd _,λa q=>by cases q;exact Aqd _⟩
 ·rw[qU];rcases he with⟨rfl,_⟩|⟨rfl,_⟩
  ·exact⟨λa q=>by cases q;decide,λa q=>by cases q;decide⟩
  ·exact⟨λa q=>by cases q;decide,λa q=>by cases q;decide⟩
theorem Inv.iF{tp:Bm}{e:Int}(he:Gn tp e)(I:Inv (CW w h1 os) W σ s)(hc:canon tp σ=true){p:Apc×Apc}(hp:p∈W.τ){er:DB}(hE:inR er e){ex:List Int}{rg:List DB}{o:AO}{σg:St}(hg:σg=⟨1,.Ae (some o) .nil .nil,11+rg.length,rg++En er,[],[],0,0⟩)
  (hl:rg.length=ex.length)(hr:∀i x,ex[i]?=some x->inR (BB rg<|ex.length-1-i) x)(hb:Ob (CW w h1 os) (Wn W p ex) s.heap p o):Inv (CW w h1 os) (Wn W p ex) σg s:=by
 subst hg;obtain⟨c1,c2⟩:=ER I hc;have P2:(W.ρ.take 11).length=11:=by rw[AqD];omega
 refine I.pick (λq hq=>by rw[Apu.mp hq];exact hp) (by simp) rfl ?_ ?_ (λa x hx=>?_) (λp hp=>nomatch hp) (λp hp=>nomatch hp) I.Ik λi o' ho=>?_
 ·rw[Apd,P2,hl]
 ·show(rg++En er).length=11+rg.length;rw[Apd,Nat.add_comm];rfl
 ·show inR (BB (rg++En er)<|11+rg.length-1-a) x;by_cases ha:a<11
  ·rw[Apz (by rw[P2];exact ha),ArG,if_pos ha] at hx;rw[Ro (by omega),show 11+rg.length-1-a-rg.length=10-a from by omega];refine dV (er:=tp.er) ha (λe9=>?_)<|c2 a x ha hx;subst e9;rw[Iy I he hc] at hx;cases hx;exact hE
  ·rw[Apo (by rw[P2];omega),P2] at hx;have:=(Ape.mp hx).1;have q:=hr _ _ hx;have e1:BB (rg++En er) (11+rg.length-1-a)=BB rg (11+rg.length-1-a):=by
    unfold BB;rw[AA,AA,Apz (by omega)]
   rw[e1,show 11+rg.length-1-a=ex.length-1-(a-11) from by omega];exact q
 ·obtain⟨rfl,rfl⟩:=Q9 (show(PA.Ae (some o) .nil .nil).get i=some o' from ho);exact⟨p,rfl,hb⟩
theorem US{C:Cx}(I:Inv C W σ s){j:Nat}{p:Apc×Apc}(hj:W.τ[j]?=some p){σ2:St}{o:AO}{Wg:Wd}(hg:Wg.τ= [p])(h2:∀i o',σ2.obj i=some o'->(i=j∧o'=o)∨(i≠j∧σ.E5.obj i=some o'))(hb:Ob C W2 h p o):
  ∀i o',σ2.obj i=some o'->(∃o0 p0,σ.obj i=some o0∧o'=Cv o0∧W.τ[i]?=some p0∧p0∉Wg.τ)∨∃p0,(W.τ++ [])[i]?=some p0∧Ob C W2 h p0 o':=λi o' ho=>by
 rcases h2 i o' ho with⟨rfl,rfl⟩|⟨ne,ho⟩
 ·exact .inr ⟨p,by rw[Apj];exact hj,hb⟩
 ·obtain⟨o0,p0,a1,a2,a3⟩:=OF I i o' ho;exact .inl ⟨o0,p0,a1,a2,a3,by rw[hg];exact Xz I a3 hj ne⟩
theorem Ug(R:AP (CW w h1 os) (KF w) tt Gj){tp:Bm}{e:Int}(he:Gn tp e)(NK:FL tp){m:Nat}(f:CJ (m+3+30) true A)(I:Inv (CW w h1 os) W σ s)(ar:AW A W){vs:List AV}{cvs:List Ao3}(hv:AM (CW w h1 os) W s.heap vs cvs){k ke:K AV}
  (h:Kb tp vs σ k=true):ApG (model (CW w h1 os).prog (CW w h1 os).w) A (.call (.ref 2028) ⟨cvs,[]⟩) (Cq (CW w h1 os) k ke σ W s) s:=by
 unfold Kb at h;split at h
 ·rename_i j hh;have hB:=Ac h;clear h;obtain⟨h0,h⟩:=hB;have hD:=Ac h0;clear h0;obtain⟨u0,hc⟩:=hD;have hh2:=B7 u0;clear u0;subst hh2;split at h
  ·rename_i m1 a1 m2 a2 m3 a3 r of;have hB:=Ac h;clear h;obtain⟨h0,h⟩:=hB;have hD:=Ac h0;clear h0;obtain⟨q1,h0⟩:=hD;obtain⟨q2,q3⟩:=Ac h0;clear h0;have q1:=(AR _ _).mp q1;have q2:=(AR _ _).mp q2;have q3:=(AR _ _).mp q3;subst q1 q2 q3;cases hv with
   |cons v1 hv=>cases hv with
    |cons v2 hv=>
     cases hv;cases v1 with
     | @obj _ p hj=>
      rename_i ch;obtain⟨p',BK,ep,x,y,t1,t2,il,sp,fu,nd⟩:=I.obj _ _ of;rw[hj] at BK;cases BK;obtain⟨_,fu⟩:=(BU.cons (by decide)).mp fu;obtain⟨_,fu⟩:=(BU.cons (by decide)).mp fu;obtain⟨_,fu⟩:=(BU.cons (by decide)).mp fu;have g1:=DH (m:=5) (by decide) sp;rcases oC:AS x y 5 with⟨d1,x1,y1⟩;rw[oC] at fu g1;obtain⟨sG,tN,tP⟩:=g1;have g2:=DH (m:=3) (by decide) sG;dsimp only at fu g2 tN tP;rcases hd2:AS x1 y1 3 with⟨d2,x2,y2⟩;rw[hd2] at fu g2;obtain⟨sp2,tQ,d2b⟩:=g2;have g3:=DH (m:=12) (by decide) sp2;dsimp only at fu g3 tQ d2b;rcases hd3:AS x2 y2 12 with⟨d3,x3,y3⟩;rw[hd3] at fu g3;obtain⟨sp3,d3a,d3b⟩:=g3;dsimp only at fu sp3 d3a d3b;obtain⟨b,rfl⟩:=Aqa tQ;obtain⟨c,rfl⟩:=Aqa d3a;obtain⟨c1,c2⟩:=ER I hc;have P2:(W.ρ.take 11).length=11:=by rw[AqD];omega
      have run:=NK.num b c (by omega) (by omega);have RN:∀(i:Nat) (z:Int),([d1,(b:Int),(c:Int),x3,y3]:List Int)[i]?=some z->(Wn W p [d1,b,c,x3,y3]).ρ[11+i]?=some z:=λi z hz=>by show(W.ρ.take 11++_)[11+i]?=_;rw[Apo (by rw[P2];omega),P2,show 11+i-11=i from by omega];exact hz
      have Ig:Inv (CW w h1 os) (Wn W p [d1,(b:Int),(c:Int),x3,y3]) (jE (JU tp c) b c) s:=by
       refine Inv.iF (rg:=[(none,none),(none,none),Rk c,Rk b,R0 5]) he I hc (get_mem hj) (SR he c) rfl rfl (λi z hz=>?_) ⟨ep,x,y,t1,t2,il,sp,?_,nd⟩
       ·match i,hz with
        |0,hz=>cases hz;exact XO tN tP
        |1,hz=>cases hz;exact O8
        |2,hz=>cases hz;exact O8
        |3,hz=>exact EE _
        |4,hz=>exact EE _
        |i+5,hz=>cases hz
       ·refine(BU.cons (by decide)).mpr ⟨?_,?_⟩
        ·rw[oC];exact RN 0 _ rfl
        ·rw[oC];refine(BU.cons (by decide)).mpr ⟨?_,?_⟩
         ·dsimp only;rw[hd2];exact RN 1 _ rfl
         ·dsimp only;rw[hd2];refine(BU.cons (by decide)).mpr ⟨?_,?_⟩
          ·dsimp only;rw[hd3];exact RN 2 _ rfl
          ·dsimp only;rw[hd3];exact BU.mark.mpr ⟨RN 3 _ rfl,RN 4 _ rfl⟩
      refine IM (Mq R m<|dcF c) f I ar Ig (λq hq=>by rw[Apu.mp hq];exact get_mem hj) rfl (Fi R<|t4 w) (vs:=[.obj 0,HX]) (.cons (.obj (i:=0) (p:=p) rfl)<|.cons (VR.cut (Wn.cut (get_mem hj) c1 s.heap) 12 _ _ RS v2) .nil) run λv cv σ' W' s' hk B r0=>?_
      obtain⟨hk1,oK⟩:=Ac hk;obtain⟨oL,hk4⟩:=Ac oK;have ek:σ'.k=16:=Ao6 hk1;have lρ:W'.ρ=(Wn W p [d1,(b:Int),(c:Int),x3,y3]).ρ:=by obtain⟨rr,er⟩:=B.X.ρ;have z:=B.I'.kρ;rw[ek,←er,Apd,Apd,P2] at z;have:rr= []:=ArC (by simp only[ApD,AqM] at z;omega);rw[←er,this,Apj]
      split at oL
      ·rename_i mm aa eo;obtain⟨z1,z2⟩:=Ac oL;have z1:=(AR _ _).mp z1;have z2:aa=14:=Ao6 z2;subst z1 z2;obtain⟨p2,MP,Z0,x',y',u1,u2,Wy,sp',fu',Xm⟩:=B.I'.obj 0 _ eo;have QA:W'.τ[0]?=some p:=Ah B.X.τ (show([p]:List (Apc×Apc))[0]?=some p from rfl);rw[QA] at MP;cases MP;obtain⟨fx,fy⟩:=BU.mark.mp fu';rw[lρ] at fx fy;have ex3:x'=x3:=Apr (fx.symm.trans<|RN 3 x3 rfl);have ey3:y'=y3:=Apr (fy.symm.trans<|RN 4 y3 rfl);subst ex3 ey3;obtain⟨v2',σ1,n1,r1,_,oM⟩:=AN B.I' r0 hk4;split at oM
       ·rename_i t o _;obtain⟨i1,hk6⟩:=Ac oM;obtain⟨i2,i3⟩:=Ac hk6;obtain⟨a0,vs0,rfl,ht,vv⟩:=r1.FF;obtain⟨ct,co,rfl,vt,vo⟩:=vv.two
        ···
           have fin:∀(kind val ix:Int) (o1 o':AV) (σ3:St),Facts W'.ρ σ3->CQ (JU tp c) t o1 σ3=true->mQ W'.ρ o1 o'->0≤kind->kind≤1-> -4≤val->val≤98->0≤ix->ix≤2->Tn (W.ρ++ [0,kind,val,ix]) W.ρ.length o'->
             (∀q,VR (CW w h1 os) (HN W W' [] [0,kind,val,ix] q W.ls) s'.heap (yN W.ρ.length) co)->A7 (CW w h1 os) k σ W s (RV<|CW w h1 os) (.ref a0) s':=by
            intro kind val ix o1 o' σ3 F nc oe k1 k2 v1 v2 x1 x2 oR ov;obtain⟨t',nJ,vt'⟩:=Eu (W2:=HN W W' [] [0,kind,val,ix] (λa=>if a=W.ρ.length then(AV.A4,AV.A4) else W.q a) W.ls) (B3 B.X.fo) 12 t _ i2 vt;obtain⟨_,Vz,vt⟩:=Eu (W2:=HN W W' [] [0,kind,val,ix] (λa=>if a=W.ρ.length then(t',o') else W.q a) W.ls) (B3 B.X.fo) 12 t _ i2 vt;rw[nJ] at Vz;cases Vz;obtain⟨J,Y⟩:=B.back (nw:=[]) (ex:=[0,kind,val,ix]) (q:=λa=>if a=W.ρ.length then(t',o') else W.q a) (ls:=W.ls) (σ2:=(σ.E5.atoms XA).Gi j (.AE r)) ⟨λp hp=>(by cases hp),AqY,λa ha=>if_neg (by omega),λ_ _=>rfl,rfl,rfl,⟨XA,rfl,rfl,λi z hz=>(by
              match i,hz with
              |0,hz=>exact EE _
              |1,hz=>cases hz;exact⟨λa e=>(by cases e;exact k1),λa e=>(by cases e;exact k2)⟩
              |2,hz=>cases hz;exact⟨λa e=>(by cases e;exact v1),λa e=>(by cases e;exact v2)⟩
              |3,hz=>cases hz;exact⟨λa e=>(by cases e;exact x1),λa e=>(by cases e;exact x2)⟩
              |i+4,hz=>cases hz)⟩,rfl,rfl,rfl,rfl,
              US I hj rfl (λi o' ho=>(St.GY ho).imp id λ⟨a,b⟩=>⟨a,b⟩) ⟨Z0,_,_,u1,u2,Wy,sp',fu.pre<|Aps _ _,Xm⟩⟩
            refine⟨_,_,_,h,Y,J,?_⟩;rw[←I.kρ];have h9:(W.ρ++ [0,kind,val,ix])[9]?=some e:=Ah (Aps _ _) (Iy I he hc);refine VR.Ak (vs:=[ct,co]) (B3 B.X.fo _ _ ht) (.cons (.ED (t:=(t',o')) ?_ (if_pos rfl) ⟨he.way h9 ⟨JU tp c,?_,σ3,W'.ρ,t,o1,?_,?_,?_,F,nc,nJ,oe⟩,oR,HZ i1 nJ⟩ vt)<|.cons (ov _) .nil)
            ·show W.ρ.length<(W.ρ++ [0,kind,val,ix]).length;rw[Apd];simp
            ·unfold JU;split
             ·exact .head _
             ·exact .tail _ (.head _)
            ·rw[lρ];show(W.ρ.take 11++_).take 11=(W.ρ++_).take 11;rw[Aqt (by rw[P2];exact Aqc _),Aqt c1,List.take_take];rfl
            ·show 11≤(W.ρ++ [0,kind,val,ix]).length;rw[Apd];omega
            ·rw[lρ];show 11≤(W.ρ.take 11++_).length;rw[Apd,P2];omega
           have at2:∀(kind val ix:Int) (i:Nat) (z:Int),([0,kind,val,ix]:List Int)[i]?=some z->(W.ρ++ [0,kind,val,ix])[W.ρ.length+i]?=some z:=λkind val ix i z hz=>by rw[Apo (by omega),show W.ρ.length+i-W.ρ.length=i from by omega];exact hz
           show A7 (CW w h1 os) k σ W s (RV<|CW w h1 os) (.ref a0) s';cases Ue n1.1 vo i3 with
           | @val σ3 l z F nc hl b1 b2 vr=>
            refine fin 0 z 0 (.int l) (.int<|.k z) σ3 F nc ⟨z,hl,rfl⟩ (by decide) (by decide) b1 b2 (by decide) (by decide) ⟨z,Ap.CY _,at2 0 z 0 1 _ rfl,at2 0 z 0 2 _ rfl⟩ λq=>.sel (j:=0) (at2 0 z 0 1 _ rfl) rfl ?_
            obtain⟨a4,vs4,rfl,h2,v2⟩:=vr.FF;obtain⟨c5,c6,rfl,y1,y2⟩:=v2.two;refine .Ak (B3 B.X.fo _ _ h2)<|.cons y1.str_inv<|.cons (y2.int_inv ?_) .nil;show Ap.ev (W.ρ++ [0,0,z,0]) (Ap.at<|W.ρ.length+2)=some z;have:=at2 0 z 0 2 z rfl;simp only[Ap.ev,Ap.at,CN,this,AqN];congr 1;omega
           | @pan σ3 n b F nc hn ht3 vr=>
            refine fin 1 0 (Api n) (.str n) (.str n) σ3 F nc rfl (by decide) (by decide) (by decide) (by decide) (AqS n) (by show(n:Int)≤2;omega) ⟨at2 1 0 _ 1 _ rfl,at2 1 0 _ 3 _ rfl⟩ λq=>.sel (j:=1) (at2 1 0 (Api n) 1 _ rfl) rfl ?_
            obtain⟨a4,vs4,rfl,h2,v2⟩:=vr.FF;obtain⟨c5,c6,rfl,y1,y2⟩:=v2.two;exact .Ak (B3 B.X.fo _ _ h2) (.cons y1.str_inv<|.cons (.sel (j:=n) (at2 1 0 (Api n) 3 _ rfl) ht3 y2.RY) .nil)
       ·cases oM
      ·cases oL
  ·cases h
 ·cases h
end
section
variable{w:Ao7}{h1:Apn}{os:Aqz}
variable{A:Apg}{σ:St}{W:Wd}{s:Ao5}
theorem cG(R:AP (CW w h1 os) (KF w) tt Gj){tp:Bm}{e:Int}(he:Gn tp e)(NK:FL tp){m:Nat}(f:CJ (m+3+30) true A)(I:Inv (CW w h1 os) W σ s)(ar:AW A W){vs:List AV}{cvs:List Ao3}(hv:AM (CW w h1 os) W s.heap vs cvs){k ke:K AV}
  (h:FE tp vs σ k=true):ApG (model (CW w h1 os).prog (CW w h1 os).w) A (.call (.ref 2014) ⟨cvs,[]⟩) (Cq (CW w h1 os) k ke σ W s) s:=by
 unfold FE at h;split at h
 ·rename_i j hh;have hB:=Ac h;clear h;obtain⟨h0,h⟩:=hB;have hD:=Ac h0;clear h0;obtain⟨u0,hc⟩:=hD;have hh2:=B7 u0;clear u0;subst hh2;split at h
  ·rename_i m1 a1 m2 a2 r of;have hB:=Ac h;clear h;obtain⟨h0,h⟩:=hB;obtain⟨q1,q2⟩:=Ac h0;clear h0;have q1:=(AR _ _).mp q1;have q2:=(AR _ _).mp q2;subst q1 q2;cases hv with
   |cons v1 hv=>cases hv with
    |cons v2 hv=>
     cases hv;cases v1 with
     | @obj _ p hj=>
      rename_i ch;obtain⟨p',BK,ep,x,y,t1,t2,il,sp,fu,nd⟩:=I.obj _ _ of;rw[hj] at BK;cases BK;obtain⟨_,fu⟩:=(BU.cons (by decide)).mp fu;obtain⟨_,fu⟩:=(BU.cons (by decide)).mp fu;have g1:=DH (m:=5) (by decide) sp;rcases oC:AS x y 5 with⟨d1,x1,y1⟩;rw[oC] at fu g1;obtain⟨sG,tN,tP⟩:=g1;have g2:=DH (m:=3) (by decide) sG;dsimp only at fu g2 tN tP;rcases hd2:AS x1 y1 3 with⟨d2,x2,y2⟩;rw[hd2] at fu g2;obtain⟨sp2,tQ,d2b⟩:=g2;dsimp only at fu sp2 tQ d2b;obtain⟨b,rfl⟩:=Aqa tQ;obtain⟨c1,c2⟩:=ER I hc;have P2:(W.ρ.take 11).length=11:=by rw[AqD];omega
      have run:=NK.Af b (by omega);have RN:∀(i:Nat) (z:Int),([d1,(b:Int),x2,y2]:List Int)[i]?=some z->(Wn W p [d1,b,x2,y2]).ρ[11+i]?=some z:=λi z hz=>by show(W.ρ.take 11++_)[11+i]?=_;rw[Apo (by rw[P2];omega),P2,show 11+i-11=i from by omega];exact hz
      have Ig:Inv (CW w h1 os) (Wn W p [d1,(b:Int),x2,y2]) (WY Dj b) s:=by
       refine Inv.iF (rg:=[(none,none),(none,none),Rk b,R0 5]) he I hc (get_mem hj) (SR (tp:=tp) he 0) rfl rfl (λi z hz=>?_) ⟨ep,x,y,t1,t2,il,sp,?_,nd⟩
       ·match i,hz with
        |0,hz=>cases hz;exact XO tN tP
        |1,hz=>cases hz;exact O8
        |2,hz=>exact EE _
        |3,hz=>exact EE _
        |i+4,hz=>cases hz
       ·refine(BU.cons (by decide)).mpr ⟨?_,?_⟩
        ·rw[oC];exact RN 0 _ rfl
        ·rw[oC];refine(BU.cons (by decide)).mpr ⟨?_,?_⟩
         ·dsimp only;rw[hd2];exact RN 1 _ rfl
         ·dsimp only;rw[hd2];exact BU.mark.mpr ⟨RN 2 _ rfl,RN 3 _ rfl⟩
      refine IM (Mq R m Jl) f I ar Ig (λq hq=>by rw[Apu.mp hq];exact get_mem hj) rfl (Fi R<|tZ w) (vs:=[.obj 0,HX]) (.cons (.obj (i:=0) (p:=p) rfl)<|.cons (VR.cut (Wn.cut (get_mem hj) c1 s.heap) 12 _ _ RS v2) .nil) run λv cv σ' W' s' hk B r0=>?_
      obtain⟨hk1,oK⟩:=Ac hk;obtain⟨oL,hk4⟩:=Ac oK;have ek:σ'.k=15:=Ao6 hk1;have lρ:W'.ρ=(Wn W p [d1,(b:Int),x2,y2]).ρ:=by obtain⟨rr,er⟩:=B.X.ρ;have z:=B.I'.kρ;rw[ek,←er,Apd,Apd,P2] at z;have:rr= []:=ArC (by simp only[ApD,AqM] at z;omega);rw[←er,this,Apj]
      split at oL
      ·rename_i mm aa eo;obtain⟨z1,z2⟩:=Ac oL;have z1:=(AR _ _).mp z1;have z2:aa=13:=Ao6 z2;subst z1 z2;obtain⟨p2,MP,Z0,x',y',u1,u2,Wy,sp',fu',Xm⟩:=B.I'.obj 0 _ eo;have QA:W'.τ[0]?=some p:=Ah B.X.τ (show([p]:List (Apc×Apc))[0]?=some p from rfl);rw[QA] at MP;cases MP;obtain⟨fx,fy⟩:=BU.mark.mp fu';rw[lρ] at fx fy;have ex3:x'=x2:=Apr (fx.symm.trans<|RN 2 x2 rfl);have ey3:y'=y2:=Apr (fy.symm.trans<|RN 3 y2 rfl);subst ex3 ey3;obtain⟨v2',σ1,n1,r1,_,oM⟩:=AN B.I' r0 hk4;split at oM
       ·rename_i t o _;obtain⟨i1,hk6⟩:=Ac oM;obtain⟨i2,i3⟩:=Ac hk6;obtain⟨a0,vs0,rfl,ht,vv⟩:=r1.FF;obtain⟨ct,co,rfl,vt,vo⟩:=vv.two;obtain⟨o2,σ2,n2,r2,_,hk7⟩:=AN n1.1 vo i3;split at hk7
        ·rename_i l _;obtain⟨hrg,TN⟩:=Ac hk7;obtain⟨z,hz⟩:∃z,l.ev W'.ρ=some z:=by cases r2 with |int e=>exact⟨_,e⟩
         obtain⟨zb1,zb2⟩:=So n2.1 hrg hz;have at2:∀(kb:Int) (i:Nat) (u:Int),([0,0,z,0,kb]:List Int)[i]?=some u->(W.ρ++ [0,0,z,0,kb])[W.ρ.length+i]?=some u:=λkb i u hz=>by rw[Apo (by omega),show W.ρ.length+i-W.ρ.length=i from by omega];exact hz
         have fin:∀(kb:Int) (q:Nat->AV×AV),0≤kb->kb≤1->(∀a,a<W.ρ.length->q a=W.q a)->VR (CW w h1 os) (HN W W' [] [0,0,z,0,kb] q W.ls) s'.heap (i7 W.ρ.length) ct->A7 (CW w h1 os) k σ W s (RV<|CW w h1 os) (.ref a0) s':=by
          intro kb q k1 k2 hq vt';obtain⟨J,Y⟩:=B.back (nw:=[]) (ex:=[0,0,z,0,kb]) (q:=q) (ls:=W.ls) (σ2:=(σ.E5.atoms QM).Gi j (.AE r)) ⟨λp hp=>(by cases hp),AqY,hq,λ_ _=>rfl,rfl,rfl,⟨QM,rfl,rfl,λi z hz=>(by
            match i,hz with
            |0,hz=>exact EE _
            |1,hz=>cases hz;exact⟨λa e=>(by cases e;decide),λa e=>(by cases e;decide)⟩
            |2,hz=>cases hz;exact⟨λa e=>(by cases e;exact zb1),λa e=>(by cases e;exact zb2)⟩
            |3,hz=>exact EE _
            |4,hz=>cases hz;exact⟨λa e=>(by cases e;exact k1),λa e=>(by cases e;exact k2)⟩
            |i+5,hz=>cases hz)⟩,rfl,rfl,rfl,rfl,
            US I hj rfl (λi o' ho=>(St.GY ho).imp id λ⟨a,b⟩=>⟨a,b⟩) ⟨Z0,_,_,u1,u2,Wy,sp',fu.pre<|Aps _ _,Xm⟩⟩
          refine⟨_,_,_,h,Y,J,?_⟩;rw[←I.kρ];refine VR.Ak (vs:=[ct,co]) (B3 B.X.fo _ _ ht)<|.cons vt'<|.cons ?_ .nil;cases r2 with
          |int e=>rw[hz] at e;cases e;refine .int ?_;show Ap.ev (W.ρ++ [0,0,z,0,kb]) (Ap.at (W.ρ.length+2))=some z;have:=at2 kb 2 z rfl;simp only[Ap.ev,Ap.at,CN,this,AqN];congr 1;omega
         show A7 (CW w h1 os) k σ W s (RV<|CW w h1 os) (.ref a0) s';cases b with
         |zero=>
          have TN:Hm t l=true:=TN;unfold Hm at TN;split at TN
          ·rename_i na wv ol xl;obtain⟨c1',TN⟩:=Ac TN;obtain⟨c2',TN⟩:=Ac TN;obtain⟨c3',c4'⟩:=Ac TN;cases Ao6 c1';have c2':=B7 c2';have c3':=Ap.eq_iff c3';have c4':=Ap.eq_iff c4';subst c2' c3' c4';refine fin 0 W.q (by decide) (by decide) (λ_ _=>rfl)<|.sel (j:=0) (at2 0 4 0 rfl) rfl ?_;obtain⟨a4,vs4,rfl,h2,v2⟩:=vt.FF;cases v2 with
           |cons y1 v2=>cases v2 with
            |cons y2 v2=>
             obtain⟨c5,c6,rfl,y3,y4⟩:=v2.two;obtain⟨w',ew,vw⟩:=Eu (W2:=HN W W' [] [0,0,z,0,0] W.q W.ls) (B3 B.X.fo) 12 _ _ (show sC 12 C8=true from rfl) y2;have:Gv W'.ρ 12 C8=some C8:=rfl;rw[this] at ew;cases ew;refine .Ak (B3 B.X.fo _ _ h2)<|.cons y1.str_inv<|.cons vw<|.cons (VR.int_inv (x:=1) y3<|Ap.CY 1)<|.cons ?_ .nil;cases y4 with
             |int e=>rw[hz] at e;cases e;refine .int ?_;show Ap.ev (W.ρ++ [0,0,z,0,0]) (Ap.at (W.ρ.length+2))=some z;have:=at2 0 2 z rfl;simp only[Ap.ev,Ap.at,CN,this,AqN];congr 1;omega
          ·cases TN
         |succ b=>
          have TN:CQ Dj t (.int l) σ2=true:=TN;obtain⟨t',nJ,_⟩:=Eu (W2:=HN W W' [] [0,0,z,0,1] W.q W.ls) (B3 B.X.fo) 12 t _ i2 vt;obtain⟨_,Vz,vt2⟩:=Eu (W2:=HN W W' [] [0,0,z,0,1] (λa=>if a=W.ρ.length then(t',.int<|.k z) else W.q a) W.ls) (B3 B.X.fo) 12 t _ i2 vt;rw[nJ] at Vz;cases Vz;have h9:(W.ρ++ [0,0,z,0,1])[9]?=some e:=Ah (Aps _ _) (Iy I he hc);refine fin 1 (λa=>if a=W.ρ.length then(t',.int<|.k z) else W.q a) (by decide) (by decide) (λa ha=>if_neg (by omega)) (.sel (j:=1) (at2 1 4 1 rfl) rfl (.ED (t:=(t',.int<|.k z)) ?_ (if_pos rfl) ⟨he.way h9 ⟨Dj,.tail _<|.head _,σ2,W'.ρ,t,.int l,?_,?_,?_,n2.1.facts,TN,nJ,⟨z,hz,rfl⟩⟩,⟨z,Ap.CY _,at2 1 1 0 rfl,at2 1 2 z rfl⟩,HZ i1 nJ⟩ vt2))
          ·show W.ρ.length<(W.ρ++ [0,0,z,0,1]).length;rw[Apd];simp
          ·rw[lρ];show(W.ρ.take 11++_).take 11=(W.ρ++_).take 11;rw[Aqt (by rw[P2];exact Aqc _),Aqt c1,List.take_take];rfl
          ·show 11≤(W.ρ++ [0,0,z,0,1]).length;rw[Apd];omega
          ·rw[lρ];show 11≤(W.ρ.take 11++_).length;rw[Apd,P2];omega
        ·cases hk7
       ·cases oM
      ·cases oL
  ·cases h
 ·cases h
end
section
variable{C:Cx}{X:CX}{n:Nat}{b:Bool}{sc:ApH}
theorem Nq(X:CX)(E:Bo)(t:Cb)(body:Cs)(stop:St->Bool)(m:Nat)(σ:St)(k:K Unit)(ke:K AV):FG X E t body stop (m+1) σ k ke =
 bt (stop σ) (k () σ) (t X E σ (λc σ=>bt c (body X E σ (λf σ=>turned f (λ_ _=>bad "until") (λσ=>FG X E t body stop m σ k ke) σ) ke) (bad "until end")) ke):=rfl
theorem PX(ht:SB C X n b sc t et)(hb:SL C X n b sc c bx)(f:CJ n b A){k:K Unit}:
  ∀(m:Nat) (σ:St) (W:Wd) (s:Ao5) (R:Aru->Ao5->Prop),Inv C W σ s->A8 C A W sc E env->FG X E t c stop m σ k ke=true->
   (∀σ' W' s',stop σ'=true->k () σ'=true->Ext σ W s σ' W' s'->Inv C W' σ' s'->ApG (model C.prog C.w) A (.whileLoop et bx [] env) R s')->(∀e s',BD C ke σ W s e s'->R (.error e) s')->
   ApG (model C.prog C.w) A (.whileLoop et bx [] env) R s
 |0,σ,W,s,R,I,e,h,hk,hR=>by cases h
 |m+1,σ,W,s,R,I,e,h,hk,hR=>by
  rw[Nq] at h;cases hs:stop σ with
  |true=>rw[hs] at h;exact hk σ W s hs h (.refl _ _ _) I
  |false=>
   rw[hs] at h
   replace h:t X E σ (λc' σ=>bt c' (c X E σ (λf σ=>turned f (λ_ _=>bad "until") (λσ=>FG X E t c stop m σ k ke) σ) ke) (bad "until end")) ke=true:=h
   have er:∀{σ2:St} {W2:Wd} {s2 s3:Ao5} {x:Ao3},Ext σ W s σ2 W2 s2->A8 C A W2 sc E env->AG C ke σ2 W2 s2 x s3->AqW (model C.prog C.w) A env (λe s'=>R (.error e) s') x s3:=by intro σ2 W2 s2 s3 x X2 e2 q;exact Apa (Ek q e2 (Er:=λe s'=>R (.error e) s')) (λ_ _ q=>hR _ _ (BD.base X2 q)) λ_ _ q=>q
   refine Kh (Apa (ht A σ W s E env f I e _ ke h) (λbo s1 q=>?_) λ_ _ q=>er (.refl _ _ _) e q);obtain⟨a,σ1,W1,h1,X1,I1,r1⟩:=q;cases(show a=bo from r1);cases bo with
   |false=>cases h1
   |true=>
    rw[if_pos rfl];have e1:=e.up X1.up;refine Apa (hb A σ1 W1 s1 E env f I1 e1 _ ke h1) (λfl s3 q=>?_) λ_ _ q=>er X1 e1 q
    obtain⟨a,σ3,W3,h3,X3,I3,r3⟩:=q;have Fg:=X1.trans X3;have again:FG X E t c stop m σ3 k ke=true->ApG (model C.prog C.w) A (.whileLoop et bx [] env) R s3:=λh=>
     PX ht hb f m σ3 W3 s3 R I3 (e1.up X3.up) h (λσ' W' s' q0 q1 q2 q3=>hk σ' W' s' q0 q1 (Fg.trans q2) q3) λx s' q=>hR x s' (q.base Fg)
    cases r3 with
    |next=>exact again h3
    |cont=>exact again h3
    |brk=>cases h3
    |ret hv=>cases h3
end
theorem Dv:∀{l:List (Nat×AO)} {t:PA} {i:Nat} {o:AO},(EF l t).get i=some o->(i,o)∈l∨(t.get i=some o∧∀p∈l,p.1≠i)
 | [],t,i,o,h=>.inr ⟨h,λp hp=>nomatch hp⟩
 |(j,u)::l,t,i,o,h=>by
  rcases Dv (l:=l) h with h |⟨h,hn⟩
  ·exact .inl (.tail _ h)
  ·rcases PA.get_set _ _ _ _ _ h with⟨rfl,rfl⟩|⟨ne,h⟩
   ·exact .inl (.head _)
   ·refine .inr ⟨h,λp hp=>?_⟩;rcases Apf.mp hp with rfl |hp
    ·exact λe=>ne e.symm
    ·exact hn p hp
theorem Hn:∀{n i:Nat} {o:AO},(NZ n).get i=some o->o= .dead∧i<n
 |0,i,o,h=>by cases h
 |n+1,i,o,h=>by
  rcases PA.get_set _ _ _ _ _ (show((NZ n).set .dead n).get i=some o from h) with⟨rfl,rfl⟩|⟨_,h⟩
  ·exact⟨rfl,Nat.lt_succ_self _⟩
  ·obtain⟨a,b⟩:=Hn h;exact⟨a,ArT b⟩
theorem DQ:∀{l:List (Nat×AO)} {σ:St},CU l σ=true->∀p∈l,σ.obj p.1=some p.2
 | [],_,_,p,hp=>by cases hp
 |q::l,σ,h,p,hp=>by
  have h:both (match σ.obj q.1 with |some o=>eqO o q.2 |none=>false) (CU l σ)=true:=h;obtain⟨h1,h2⟩:=Ac h;rcases Apf.mp hp with rfl |hp
  ·split at h1
   ·rename_i o e;rw[e,nS h1]
   ·cases h1
  ·exact DQ h2 p hp
def Cn(W:Wd)(idx:List Nat):List (Apc×Apc):=idx.map λi=>(W.τ[i]?).getD (0,0)
theorem BG{W:Wd}{idx:List Nat}{i j:Nat}{p:Apc×Apc}(hi:idx[i]?=some j)(hp:W.τ[j]?=some p):(Cn W idx)[i]?=some p:=by unfold Cn;rw[List.getElem?_map,hi,AqN,hp];rfl
theorem El{W:Wd}{idx:List Nat}(hl:∀i∈idx,i<W.τ.length):∀p∈Cn W idx,p∈W.τ:=λp hp=>by obtain⟨i,hi,rfl⟩:=Ark.mp hp;rw[Apk (hl i hi)];exact List.getElem_mem _
theorem JV{C:Cx}(I:Inv C W σ s){idx:List Nat}(hn:idx.Nodup)(hl:∀i∈idx,i<W.τ.length):(Cn W idx).Nodup:=by unfold Cn;refine List.pairwise_map.mpr<|List.Pairwise.imp_of_mem (λ{a b} ha hb hab=>?_) hn;have la:=hl a ha;have lb:=hl b hb;rw[Apk la,Apk lb];exact λe=>(I.apart a b _ _ (Apk la) (Apk lb) hab).1 (congrArg Prod.fst e)
def gi(tp:Bm)(vi fr i:Nat):Nat:=if i<tp.n0 then(if i=tp.vals∧vi=tp.vals then tp.n0+1 else if i=1 then tp.n0 else i) else if i=tp.n0 then vi else fr
def Cm(tp:Bm)(vi fr:Nat):List Nat:=(List.range (tp.n0+2)).map (gi tp vi fr)
theorem B5{tp:Bm}{vi fr i:Nat}(h:i<tp.n0+2):(Cm tp vi fr)[i]?=some (gi tp vi fr i):=by unfold Cm;rw[List.getElem?_map,List.getElem?_range h];rfl
theorem QD{tp:Bm}{vi fr:Nat}(h1:tp.vals<tp.n0)(h0:1<tp.vals)(h2:vi=tp.vals∨tp.n0+1<vi)(h3:tp.n0+1<fr)(h4:fr≠vi):(Cm tp vi fr).Nodup:=by unfold Cm;refine List.pairwise_map.mpr<|List.Pairwise.imp_of_mem (λ{a b} ha hb hab=>?_) List.pairwise_lt_range;have ha:=List.mem_range.mp ha;have hb:=List.mem_range.mp hb;unfold gi;split<;>split<;>(try split)<;>(try split)<;>(try split)<;>(try split)<;>omega
theorem bF{tp:Bm}{vi fr n:Nat}(h1:tp.n0+1<n)(h2:vi<n)(h3:fr<n):∀i∈Cm tp vi fr,i<n:=λi hi=>by
 obtain⟨j,hj,rfl⟩:=Ark.mp hi;have hj:=List.mem_range.mp hj;unfold gi;split
 ·split
  ·omega
  ·split<;>omega
 ·split<;>omega
theorem ID{C:Cx}(I:Inv C W σ s){a:Nat}{z:Int}(hz:W.ρ[a]?=some z)(h:Fq σ a z f=true):∃σ',Bx C W s σ σ'∧f σ'=true:=by
 unfold Fq at h;split at h
 ·rename_i x y e;have r:=I.Bi a z hz;rw[e] at r;have r1:=r.1 _ rfl;have r2:=r.2 _ rfl;have:both (Fm x z) (Fm z y)=true:=by
   rw[(BW _ _).mpr r1,(BW _ _).mpr r2];rfl
  rw[this] at h;have hr:inR (some z,some z) z:=⟨λa e=>by cases e;exact Aqd _,λa e=>by cases e;exact Aqd _⟩;exact⟨_,Bx.B2 I hz hr,BL I hz hr h⟩
 ·cases h
structure IZ(tp:Bm):Prop where
 n0:tp.n0=18
 run:tp.run=5
 call:tp.call=6
 cells:tp.cells=9
 work:tp.work=15
 vals:tp.vals=16
 Bz:tp.Bz=BC.Bz
 free:tp.free=Dj
 len:tp.As.length=8
theorem z7:IZ BC:=⟨rfl,rfl,rfl,rfl,rfl,rfl,rfl,rfl,rfl⟩
theorem z8:IZ BY:=⟨rfl,rfl,rfl,rfl,rfl,rfl,rfl,by kernel_rfl,rfl⟩
theorem Gn.tp{tp:Bm}{e:Int}(h:Gn tp e):IZ tp:=by
 rcases h with⟨rfl,rfl⟩|⟨rfl,rfl⟩
 ·exact z7
 ·exact z8
def OW(i:Nat):Bool:=both (Aq0 i 18) (both (!(Ao9 i 16)) (!(Ao9 i 1)))
def Xw(tp:Bm):Bool:=LR true (λp _ ih=>both (both (rI OW 11 p.2) (both (Aq0 p.1 18) (both (!(isIn p.1 [0,1,6,9,15,16])) true))) ih) tp.objs
theorem cR:Xw BC=true:=by kernel_rfl
theorem cU:Xw BY=true:=by kernel_rfl
theorem HE:∀{l:List (Nat×AO)},LR true (λp _ ih=>both (both (rI OW 11 p.2)<|both (Aq0 p.1 18)<|both (!(isIn p.1 [0,1,6,9,15,16])) true) ih) l=true->∀p∈l,rI OW 11 p.2=true∧p.1<18∧isIn p.1 [0,1,6,9,15,16]=false
 | [],_,p,hp=>by cases hp
 |q::l,h,p,hp=>by
  obtain⟨h1,h2⟩:=Ac h;rcases Apf.mp hp with rfl |hp
  ·obtain⟨a,b⟩:=Ac h1;obtain⟨b,c⟩:=Ac b;obtain⟨c,_⟩:=Ac c;exact⟨a,by simpa using b,by simpa using c⟩
  ·exact HE h2 p hp
theorem Gn.objs{tp:Bm}{e:Int}(h:Gn tp e):∀p∈tp.objs,rI OW 11 p.2=true∧p.1<18∧isIn p.1 [0,1,6,9,15,16]=false:=by
 rcases h with⟨rfl,rfl⟩|⟨rfl,rfl⟩
 ·exact HE cR
 ·exact HE cU
theorem RQ:eW OW 11 (BM BC.Bz Bd .A4)=true:=by kernel_rfl
theorem Tq:DX (Ux OW 11) BC.As=true:=by kernel_rfl
theorem Ts:DX (Ux OW 11) BY.As=true:=by kernel_rfl
theorem Gn.Qd{tp:Bm}{e:Int}(h:Gn tp e):DX (Ux OW 11) tp.As=true:=by
 rcases h with⟨rfl,rfl⟩|⟨rfl,rfl⟩
 ·exact Tq
 ·exact Ts
structure Rel(A9 tp:Bm):Prop where
 n0:A9.n0=18
 run:A9.run=5
 call:A9.call=6
 cells:A9.cells=9
 work:A9.work=15
 vals:A9.vals=16
 Bz:A9.Bz=BC.Bz
 objs:∀p∈A9.objs,p∈tp.objs
 As:∃n,A9.As=tp.As.take n
 all:∀p∈tp.objs,5≤p.1->p∈A9.objs
theorem pW{tp A9:Bm}(O:IZ tp)(h:A9∈[tp,Dj]):Rel A9 tp:=by
 rcases Apf.mp h with rfl |h
 ·exact⟨O.n0,O.run,O.call,O.cells,O.work,O.vals,O.Bz,λp h=>h,⟨A9.As.length,(List.take_length).symm⟩,λp h _=>h⟩
 ·have:=Apu.mp h;subst this;rw[←O.free];exact⟨O.n0,O.run,O.call,O.cells,O.work,O.vals,O.Bz,λp h=>(List.mem_filter.mp h).1,⟨7,rfl⟩,λp h h5=>List.mem_filter.mpr ⟨h,by simpa using h5⟩⟩
section
variable{w:Ao7}{h1:Apn}{os:Aqz}
variable{A:Apg}{σ:St}{W:Wd}{s:Ao5}{ee tt_:AV}
def QX(k:Nat)(a b c:List Ao3)(i:Nat):List Ao3:=if i=k then a else if i=k+1 then b else if i=k+2 then c else []
abbrev Wg(W:Wd)(tp:Bm)(vi fr:Nat)(ρ1:List Int)(vr vl hh:List Ao3):Wd:=
 ⟨ρ1++ [Api vr.length,Api vl.length,Api hh.length],Cn W<|Cm tp vi fr,W.q,QX ρ1.length vr vl hh,W.fs,Ik W⟩
theorem Tc{ρ ρ1:List Int}(h:ρ1.take 11=ρ.take 11){a:Nat}{x:Int}(ha:a<11)(hx:ρ[a]?=some x):ρ1[a]?=some x:=by
 have e:(ρ1.take 11)[a]?=(ρ.take 11)[a]? :=by rw[h]
 rw[ArG,ArG,if_pos ha,if_pos ha] at e;rw[e];exact hx
theorem SQ{i:Nat}(hi:OW i=true):i<18∧i≠16∧i≠1:=by obtain⟨h1,h2⟩:=Ac hi;obtain⟨h2,h3⟩:=Ac h2;exact⟨by simpa using h1,λe=>(by subst e;cases h2),λe=>(by subst e;cases h3)⟩
theorem aE{tp:Bm}(O:IZ tp)(I:Inv (CW w h1 os) W σ s){vi fr:Nat}{ρ1:List Int}{vr:List Ao3}(hρ:ρ1.take 11=W.ρ.take 11)(hl:∀i∈Cm tp vi fr,i<W.τ.length):Cut W (Wg W tp vi fr ρ1 vr vl hh) OW 11 s.heap:=by refine⟨λi p hi hp=>?_,λa x ha hx=>Ah (Aps _ _) (Tc hρ ha hx),λa items q=>⟨λ⟨r,hr,e⟩=>q.un ⟨r,El hl r hr,e⟩,Q5 q,q.Ak,q.nd⟩⟩;obtain⟨h1,h2,h3⟩:=SQ hi;refine BG (B5 (by rw[O.n0];omega)) ?_;unfold gi;rw[O.n0,if_pos h1,if_neg (by rw[O.vals];exact λq=>h2 q.1),if_neg h3];exact hp
theorem PH{l:List (Nm×AV)}:(BM l x v).length=(BM l x v').length:=by
 induction l with
 |nil=>rfl
 |cons p l ih=>
  show(bt (Ao9 x p.1) ((p.1,v)::l) (p::BM l x v)).length=(bt (Ao9 x p.1) ((p.1,v')::l) (p::BM l x v')).length;cases Ao9 x p.1 with
  |true=>rfl |false=>exact congrArg ArI ih
theorem EJ.reset{C:Cx}{l:List (Nm×AV)}(N:EJ C W h (BM l x v) m)(hv:∀cv,VR C W h v cv->VR C W2 h v' cv)(hl:∀y u cv,y≠x->A2 l y=some u->VR C W h u cv->VR C W2 h u cv):EJ C W2 h (BM l x v') m:=by
 refine⟨λy u hu=>?_,λnm cv hm=>?_⟩
 ·rw[Bc] at hu;by_cases e:y=x
  ·rw[if_pos e] at hu;cases hu;obtain⟨nm,cv,a1,a2,a3⟩:=N.1 y v (by rw[Bc,if_pos e]);exact⟨nm,cv,a1,a2,hv cv a3⟩
  ·rw[if_neg e] at hu;obtain⟨nm,cv,a1,a2,a3⟩:=N.1 y u (by rw[Bc,if_neg e];exact hu);exact⟨nm,cv,a1,a2,hl y u cv e hu a3⟩
 ·obtain⟨y,u,a1,a2⟩:=N.2 nm cv hm;rw[Bc] at a2;by_cases e:y=x
  ·exact⟨y,v',a1,by rw[Bc,if_pos e]⟩
  ·rw[if_neg e] at a2;exact⟨y,u,a1,by rw[Bc,if_neg e];exact a2⟩
theorem BE{α:Type}{x y:Nm}{v:α}{l:List (Nm×α)}:A2 ((y,v)::l) x=if x=y then some v else A2 l x:=by
 show bt (Ao9 x y) (some v) (A2 l x)=_;cases q:Ao9 x y with
 |true=>rw[if_pos (Ao6 q)];rfl
 |false=>rw[if_neg (Nat.ne_of_beq_eq_false q)];rfl
theorem EJ.mZ{C:Cx}{a b c d:Nm}{u1 u2 u3 u4:AV}(N:EJ C W h [(a,u1),(b,u2),(c,u3),(d,u4)] m)(h1:∀cv,VR C W h u1 cv->VR C W2 h v1 cv)(h2:∀cv,VR C W h u2 cv->VR C W2 h v2 cv):EJ C W2 h [(a,v1),(b,v2),(c,.any),(d,.any)] m:=by
 refine⟨λx v hv=>?_,λnm cv hm=>?_⟩
 ·simp only[BE] at hv;split at hv
  ·rename_i e;cases hv;obtain⟨nm,cv,q1,q2,q3⟩:=N.1 x u1 (by simp only[BE,if_pos e]);exact⟨nm,cv,q1,q2,h1 cv q3⟩
  ·rename_i e1;split at hv
   ·rename_i e;cases hv;obtain⟨nm,cv,q1,q2,q3⟩:=N.1 x u2 (by simp only[BE,if_neg e1,if_pos e]);exact⟨nm,cv,q1,q2,h2 cv q3⟩
   ·rename_i e2;split at hv
    ·rename_i e;cases hv;obtain⟨nm,cv,q1,q2,q3⟩:=N.1 x u3 (by simp only[BE,if_neg e1,if_neg e2,if_pos e]);exact⟨nm,cv,q1,q2,.any⟩
    ·rename_i e3;split at hv
     ·rename_i e;cases hv;obtain⟨nm,cv,q1,q2,q3⟩:=N.1 x u4 (by simp only[BE,if_neg e1,if_neg e2,if_neg e3,if_pos e]);exact⟨nm,cv,q1,q2,.any⟩
     ·cases hv
 ·obtain⟨y,u,a1,a2⟩:=N.2 nm cv hm;simp only[BE] at a2;split at a2
  ·rename_i e;exact⟨y,v1,a1,by simp only[BE,if_pos e]⟩
  ·rename_i e1;split at a2
   ·rename_i e;exact⟨y,v2,a1,by simp only[BE,if_neg e1,if_pos e]⟩
   ·rename_i e2;split at a2
    ·rename_i e;exact⟨y,.any,a1,by simp only[BE,if_neg e1,if_neg e2,if_pos e]⟩
    ·rename_i e3;split at a2
     ·rename_i e;exact⟨y,.any,a1,by simp only[BE,if_neg e1,if_neg e2,if_neg e3,if_pos e]⟩
     ·cases a2
theorem Jx{tp:Bm}(O:IZ tp){vi fr:Nat}:gi tp vi fr 18=vi∧gi tp vi fr 19=fr:=by unfold gi;rw[O.n0];exact⟨by rw[if_neg (by omega),if_pos rfl],by rw[if_neg (by omega),if_neg (by omega)]⟩
theorem MH{tp:Bm}(O:IZ tp){vi fr i:Nat}(h:i<18)(h2:i≠16)(h3:i≠1):gi tp vi fr i=i:=by unfold gi;rw[O.n0,if_pos h,if_neg (by rw[O.vals];exact λq=>h2 q.1),if_neg h3]
theorem aF{tp A9:Bm}{e:Int}(he:Gn tp e)(rel:Rel A9 tp)(I:Inv (CW w h1 os) W σ s){σ1:St}{ρ1:List Int}{t1 t:AV}(hρ:ρ1.take 11=W.ρ.take 11)(l1:11≤ρ1.length)(F:Facts ρ1 σ1)(hc:Gv ρ1 12 t1=some t){vi fr:Nat}(hl:∀i∈Cm tp vi fr,i<W.τ.length)
  (oQ:(Cm tp vi fr).Nodup)(DP:∀p∈tp.objs,σ.obj p.1=some p.2)(sp:σ.obj 0=some (.AE [])){pc pw pv pk pf:Apc×Apc}
  (tc:W.τ[6]?=some pc)(oc:Ob (CW w h1 os) W s.heap pc (.inst 385<|BM tp.Bz Bd<|.obj vi))
  {vr vl vc Br:List Ao3}{cv cs ct:Ao3}{ait:Apc}(tw:W.τ[15]?=some pw)(ew:pw.2=pw.1)(lw:s.heap.IsList pw.1 (vr++ [cv]).toArray)(nw:Kq s.heap pw.1)(ecv:cv= .ref ait)(hit:IsT W s.heap ait (List.toArray [cs,ct]))(Aeu:VR (CW w h1 os) W s.heap (.str CP) cs)(hct:VR (CW w h1 os) W s.heap t ct)(br:vr.length≤5000)
  (tv:W.τ[vi]?=some pv)(ev:pv.2=pv.1)(lv:s.heap.IsList pv.1 vl.toArray)(nv:Kq s.heap pv.1)(bl:vl.length≤5000)
  (tk:W.τ[9]?=some pk)(ek:pk.2=pk.1)(lk:s.heap.IsList pk.1 (vc++Br).toArray)(nk:Kq s.heap pk.1)(Th:AM (CW w h1 os) W s.heap tp.As vc)(bk:Br.length≤2000)
  (tf:W.τ[fr]?=some pf)(of:Ob (CW w h1 os) W s.heap pf (.frame [(Lv,.obj 5),(HB,.obj 6),(yH,ee),(JN,tt_)])){n:Nat}(hn:A9.As=tp.As.take n):
  Inv (CW w h1 os) (Wg W tp vi fr ρ1 vr vl<|vc.drop A9.As.length++Br) (Lb A9 σ1 t1) s:=by
 have O:=he.tp;have K:=aE O I (vr:=vr) (vl:=vl) (hh:=vc.drop A9.As.length++Br) hρ hl;have lvc:vc.length=8:=Th.length.trans O.len;have atE:∀(i:Nat) (z:Int),([Api vr.length,Api vl.length,Api (vc.drop A9.As.length++Br).length]:List Int)[i]?=some z->(Wg W tp vi fr ρ1 vr vl<|vc.drop A9.As.length++Br).ρ[ρ1.length+i]?=some z:=λi z hz=>by show(ρ1++_)[ρ1.length+i]?=_;rw[Apo (by omega),show ρ1.length+i-ρ1.length=i from by omega];exact hz
 have sU:(Cn W<|Cm tp vi fr)[18]?=some pv:=BG (B5 (by rw[O.n0];omega)) (by rw[(Jx O).1];exact tv);have AdC:(Cn W<|Cm tp vi fr)[19]?=some pf:=BG (B5 (by rw[O.n0];omega)) (by rw[(Jx O).2];exact tf);have m4:∀{i:Nat} {p:Apc×Apc},i<18->i≠16->i≠1->W.τ[i]?=some p->(Cn W<|Cm tp vi fr)[i]?=some p:=λhi h2 h3 hp=>BG (B5 (by rw[O.n0];omega)) (by rw[MH O hi h2 h3];exact hp)
 have k1:σ1.k=ρ1.length:=F.k.symm;refine I.pick (El hl) (JV I oQ hl) ?_ ?_ ?_ (λa x hx=>?_) (λp hp=>?_) (λp hp=>?_) I.Ik λi o ho=>?_
 ·show(Cn W<|Cm tp vi fr).length=A9.n0+2;unfold Cn Cm;rw[Ap2,Ap2,Arl,O.n0,rel.n0]
 ·show(ρ1++_).length=σ1.k+3;rw[Apd,k1];rfl
 ·show(σ1.Bi).length+3=σ1.k+3;rw[F.rl]
 ·show inR (BB ([(some 0,some 5000),(some 0,some 5000),(some 0,some 5000)]++σ1.Bi)<|σ1.k+3-1-a) x;have hx:(ρ1++ [Api vr.length,Api vl.length,Api (vc.drop A9.As.length++Br).length])[a]?=some x:=hx;by_cases ha:a<ρ1.length
  ·rw[Apz ha] at hx;have:=F.Bi a x hx;rw[Ro (by simp only[ApD,AqM];omega)];simp only[ApD,AqM];rw[show σ1.k+3-1-a-(0+1+1+1)=σ1.k-1-a from by omega];exact this
  ·have hxl:=(Ape.mp hx).1;rw[Apd] at hxl;simp only[ApD,AqM] at hxl;have e5:∀i,i<3->BB ([(some 0,some 5000),(some 0,some 5000),(some 0,some 5000)]++σ1.Bi) i=(some 0,some 5000):=λi hi=>by
    match i,hi with
    |0,_=>rfl |1,_=>rfl |2,_=>rfl
   rw[e5 _ (by omega)];rw[Apo (AqQ ha)] at hx;have bb:(0:Int)≤x∧x≤5000:=by
    have hll:(vc.drop A9.As.length++Br).length≤2008:=by rw[Apd,List.length_drop];omega
    match a-ρ1.length,hx with
    |0,hx=>cases hx;exact⟨AqS _,by show(vr.length:Int)≤5000;omega⟩
    |1,hx=>cases hx;exact⟨AqS _,by show(vl.length:Int)≤5000;omega⟩
    |2,hx=>cases hx;exact⟨AqS _,by show((vc.drop A9.As.length++Br).length:Int)≤5000;omega⟩
    |_+3,hx=>cases hx
   exact⟨λa e=>(by cases e;exact bb.1),λa e=>(by cases e;exact bb.2)⟩
 ·obtain⟨x,a,b⟩:=F.neg p hp;exact⟨x,Ap.CZ (Aps _ _) a,b⟩
 ·obtain⟨x,a,b⟩:=F.Ca p hp;exact⟨x,Ap.CZ (Aps _ _) a,b⟩
 ·have ho:(Sg A9 σ1.k t1).get i=some o:=ho;have T6:∀j,(Wg W tp vi fr ρ1 vr vl<|vc.drop A9.As.length++Br).ls j=QX σ1.k vr vl (vc.drop A9.As.length++Br) j:=λj=>by rw[k1]
  have ls0:QX σ1.k vr vl (vc.drop A9.As.length++Br) σ1.k=vr:=if_pos rfl;have ls1:QX σ1.k vr vl (vc.drop A9.As.length++Br) (σ1.k+1)=vl:=by unfold QX;rw[if_neg (by omega),if_pos rfl]
  have sA:QX σ1.k vr vl (vc.drop A9.As.length++Br) (σ1.k+2)=vc.drop A9.As.length++Br:=by unfold QX;rw[if_neg (by omega),if_neg (by omega),if_pos rfl]
  rcases Dv ho with hm |⟨hd,_⟩
  ·rcases Apf.mp hm with q |hm
   ·obtain⟨rfl,rfl⟩:=ApK q;refine⟨pc,by rw[rel.call];exact m4 (by omega) (by omega) (by omega) tc,?_⟩;obtain⟨⟨sl,o1⟩,es,nn,Cg,g1,g2,g3,N⟩:=oc;rw[O.Bz] at N g3;refine⟨⟨sl,o1⟩,es,nn,Cg,g1,g2,?_,?_⟩
    ·rw[rel.Bz,PH (v':=.obj vi)];exact g3
    ·rw[rel.Bz,rel.n0];refine N.reset (λcv r=>?_) (λy u cv ne hu r=>VR.cut K 12 u cv (Mj RQ (by rw[Bc,if_neg ne];exact hu)) r);cases r with
     |obj e=>rw[tv] at e;cases e;exact .obj sU
   ·rcases Apf.mp hm with q |hm
    ·obtain⟨rfl,rfl⟩:=ApK q;refine⟨pk,by rw[rel.cells];exact m4 (by omega) (by omega) (by omega) tk,ek,vc.take n,[],?_,.nil,?_,?_,nk⟩
     ·have:=AM.take n (AM.map (λv cv=>VR.cut K _ v cv) he.Qd Th);rw[←hn] at this;exact this
     ·rw[T6,sA,Apj];have:vc.drop A9.As.length=vc.drop n:=by
       rw[hn,AqD,O.len];rcases Nat.le_total n 8 with q |q
       ·rw[Nat.min_eq_left q]
       ·rw[Nat.min_eq_right q,AqK (by omega),AqK (by omega)]
      rw[this,←ApQ,Aqh];exact lk
     ·show(Wg W tp vi fr ρ1 vr vl<|vc.drop A9.As.length++Br).ρ[σ1.k+2]?=_;rw[T6,sA,k1];exact atE 2 _ rfl
    ·rcases Apf.mp hm with q |hm
     ·obtain⟨rfl,rfl⟩:=ApK q;refine⟨pw,by rw[rel.work];exact m4 (by omega) (by omega) (by omega) tw,ew,[cv],.cons ?_ .nil,?_,?_,trivial,nw⟩
      ·rw[ecv];exact .Ak (K.Ak _ _ hit) (.cons Aeu.str_inv<|.cons (Hl (Aps _ _) K.Ak 12 t1 t ct hc hct) .nil)
      ·show s.heap.IsList pw.1 ((Wg W tp vi fr ρ1 vr vl<|vc.drop A9.As.length++Br).ls σ1.k++ [cv]++ []).toArray;rw[T6,ls0,Apj];exact lw
      ·show(Wg W tp vi fr ρ1 vr vl<|vc.drop A9.As.length++Br).ρ[σ1.k]?=_;rw[T6,ls0,k1];exact atE 0 _ rfl
     ·rcases Apf.mp hm with q |hm
      ·obtain⟨rfl,rfl⟩:=ApK q;refine⟨pv,by rw[rel.n0];exact sU,ev,[],.nil,?_,?_,trivial,nv⟩
       ·show s.heap.IsList pv.1 ((Wg W tp vi fr ρ1 vr vl<|vc.drop A9.As.length++Br).ls (σ1.k+1)++ []++ []).toArray;rw[T6,ls1,Apj,Apj];exact lv
       ·show(Wg W tp vi fr ρ1 vr vl<|vc.drop A9.As.length++Br).ρ[σ1.k+1]?=_;rw[T6,ls1,k1];exact atE 1 _ rfl
      ·rcases Apf.mp hm with q |hm
       ·obtain⟨rfl,rfl⟩:=ApK q;obtain⟨ep,m,a,N⟩:=of;refine⟨pf,by rw[rel.n0];exact AdC,ep,m,a,?_⟩;rw[rel.run,rel.call];exact N.mZ (λcv r=>by cases r with |obj e=>exact .obj<|m4 (by omega) (by omega) (by omega) e) (λcv r=>by cases r with |obj e=>exact .obj<|m4 (by omega) (by omega) (by omega) e)
       rcases Apf.mp hm with q |hm
       ·obtain⟨rfl,rfl⟩:=ApK q;obtain⟨p,hp,hb⟩:=I.obj 0 _ sp;exact⟨p,m4 (by omega) (by omega) (by omega) hp,Ob.cut K (k:=11) (n:=OW) rfl hb⟩
       ·obtain⟨b1,b2,b3⟩:=he.objs _ (rel.objs _ hm);obtain⟨p,hp,hb⟩:=I.obj i o (DP _<|rel.objs _ hm);exact⟨p,m4 b2 (λq=>by rw[show i=16 from q] at b3;cases b3) (λq=>by rw[show i=1 from q] at b3;cases b3) hp,Ob.cut K b1 hb⟩
  ·obtain⟨rfl,P0⟩:=Hn hd;have:i<(Cn W<|Cm tp vi fr).length:=by
    unfold Cn Cm;rw[Ap2,Ap2,Arl,O.n0];rw[rel.n0] at P0;exact P0
   exact⟨_,Apk this,trivial⟩
end
section
variable{w:Ao7}{h1:Apn}{os:Aqz}
variable{A:Apg}{σ:St}{W:Wd}{s:Ao5}
theorem Us{W':Wd}{nw:List (Apc×Apc)}(e:W'.fo=Ik W)(hn:∀p∈nw,p∈W'.τ):Bb W' (HN W W' nw ex q ls) h h:=λa items x=>by
 refine⟨λo=>?_,λm=>x.fo (by rw[e];exact AqX _ m),x.Ak,x.nd⟩;obtain⟨p,hp,hq⟩:=o;rcases ApM.mp hp with hp |hp
 ·exact x.fo (by rw[e];exact XB ⟨p,hp,hq⟩)
 ·exact x.un ⟨p,hn p hp,hq⟩
def Qi(tp:Bm):Bool:=DD (λi=>(tp.objs.map (·.1)).contains i) [5,7,8,10,11,12,13,14,17]
theorem nH:Qi BC=true:=by kernel_rfl
theorem nI:Qi BY=true:=by kernel_rfl
theorem Gn.cover{tp:Bm}{e:Int}(h:Gn tp e){i:Nat}(h5:5≤i)(h18:i<18)(h6:i≠6)(h9:i≠9)(h15:i≠15)(h16:i≠16):∃o,(i,o)∈tp.objs:=by
 have c:Qi tp=true:=by
  rcases h with⟨rfl,rfl⟩|⟨rfl,rfl⟩
  ·exact nH
  ·exact nI
 have m:i∈[5,7,8,10,11,12,13,14,17]:=by
  have:i=5∨i=7∨i=8∨i=10∨i=11∨i=12∨i=13∨i=14∨i=17:=by omega
  simp;omega
 have:=List.contains_iff_mem.mp (DE c i m);obtain⟨p,hp,rfl⟩:=Ark.mp this;exact⟨p.2,hp⟩
theorem RT{k:Nat}(h:rI n k o=true):Cv o=o:=by cases o<;>first |rfl |cases h
structure Behind(w:Ao7)(h1:Apn)(os:Aqz)(σ:St)(W:Wd)(s:Ao5)(tp A9:Bm)(vi fr:Nat)(ρ1:List Int)(vr vl vc Br:List Ao3)(σ1:St)(t1:AV)(σ':St)(W':Wd)(s':Ao5):Prop where
 I:Inv (CW w h1 os) W σ s
 X:Ext (Lb A9 σ1 t1) (Wg W tp vi fr ρ1 vr vl<|vc.drop A9.As.length++Br) s σ' W' s'
 I':Inv (CW w h1 os) W' σ' s'
 hl:∀i∈Cm tp vi fr,i<W.τ.length
 hρ:ρ1.take 11=W.ρ.take 11
 v9:11≤W.ρ.length
 k1:ρ1.length=σ1.k
section
variable{tp A9:Bm}{vi fr:Nat}{ρ1:List Int}{vr vl vc Br:List Ao3}{σ1:St}{t1:AV}{σ':St}{W':Wd}{s':Ao5}
theorem Behind.sub(B:Behind w h1 os σ W s tp A9 vi fr ρ1 vr vl vc Br σ1 t1 σ' W' s'):Sub (CW w h1 os) σ W (Wg W tp vi fr ρ1 vr vl<|vc.drop A9.As.length++Br) s (Lb A9 σ1 t1) σ' W' s':=
 ⟨B.I,B.X,B.I',El B.hl,rfl⟩
theorem Behind.at_(B:Behind w h1 os σ W s tp A9 vi fr ρ1 vr vl vc Br σ1 t1 σ' W' s'){i:Nat}{p:Apc×Apc}(h:(Cn W<|Cm tp vi fr)[i]?=some p):W'.τ[i]?=some p:=Ah B.X.τ h
theorem Behind.low(B:Behind w h1 os σ W s tp A9 vi fr ρ1 vr vl vc Br σ1 t1 σ' W' s')(O:IZ tp){i:Nat}{p:Apc×Apc}(h18:i<18)(h16:i≠16)(h1':i≠1)(hp:W.τ[i]?=some p):W'.τ[i]?=some p:=
 B.at_ (BG (B5 (by rw[O.n0];omega)) (by rw[MH O h18 h16 h1'];exact hp))
theorem Behind.Afr(B:Behind w h1 os σ W s tp A9 vi fr ρ1 vr vl vc Br σ1 t1 σ' W' s')(O:IZ tp){i:Nat}(h18:i<18)(h16:i≠16)(h1':i≠1):i<W.τ.length:=
 B.hl i (AqC (i:=i) (by rw[B5 (by rw[O.n0];omega),MH O h18 h16 h1']))
theorem Behind.cut(B:Behind w h1 os σ W s tp A9 vi fr ρ1 vr vl vc Br σ1 t1 σ' W' s')(O:IZ tp){nw:List (Apc×Apc)}(hn:∀p∈nw,p∈W'.τ):Cut W' (HN W W' nw ex q ls) OW 11 s'.heap:=by
 refine⟨λi p hi hp=>?_,λa x ha hx=>?_,Us B.X.fo hn⟩
 ·obtain⟨g1,g2,g3⟩:=SQ hi;have:=B.Afr O g1 g2 g3;have e:=B.low O g1 g2 g3 (Apk this);rw[hp] at e;cases e;exact Ah (Aps _ _) (Apk this)
 ·have hlen:a<W.ρ.length:=by have:=B.v9;omega
  have e1:=Tc B.hρ ha (Apk hlen);have e2:W'.ρ[a]?=some W.ρ[a]:=Ah B.X.ρ (Ah (Aps _ _) e1);rw[hx] at e2;cases e2;exact Ah (Aps _ _) (Apk hlen)
theorem Behind.pH(B:Behind w h1 os σ W s tp A9 vi fr ρ1 vr vl vc Br σ1 t1 σ' W' s')(O:IZ tp){j:Nat}{p:Apc×Apc}(hj:20≤j)(hp:W'.τ[j]?=some p):p∉W.τ:=λm=>by
 have hng:p∉Cn W (Cm tp vi fr):=λq=>by
  obtain⟨i,hi⟩:=Df q;have il:=(Ape.mp hi).1;have:(Cn W<|Cm tp vi fr).length=20:=by unfold Cn Cm;rw[Ap2,Ap2,Arl,O.n0]
  exact(B.I'.apart j i p p hp (B.at_ hi) (by omega)).1 rfl
 rcases B.X.fresh p (get_mem hp) with q |⟨q,_⟩
 ·exact hng q
 ·obtain⟨⟨o,e,_⟩,_⟩:=B.I.live p m;rw[q] at e;cases e
theorem Behind.rest(B:Behind w h1 os σ W s tp A9 vi fr ρ1 vr vl vc Br σ1 t1 σ' W' s'){e:Int}(he:Gn tp e)(rel:Rel A9 tp)(DP:∀p∈tp.objs,σ.obj p.1=some p.2)(sp:σ.obj 0=some (.AE []))(YQ:∀p∈(0,.AE [])::A9.objs,σ'.obj p.1=some p.2)
  {nw:List (Apc×Apc)}{ex:List Int}{q:Nat->AV×AV}{ls:Nat->List Ao3}(Ha:∀p∈nw,p∈W'.τ∧p∉W.τ)(hq:∀a,a<W.ρ.length->q a=W.q a)(aX:∀a,a<W.ρ.length->ls a=W.ls a)
  {i:Nat}{o:AO}(ho:σ.objs.kill.get i=some o)(low:2≤i->i<5->σ'.Bq=0)(n6:i≠6)(n9:i≠9)(n15:i≠15)(n16:i≠16)(n18:i≠18)(x9:i≠19)(nv:i≠vi)(nf:i≠fr):
  (∃o0 p,σ.obj i=some o0∧o=Cv o0∧W.τ[i]?=some p∧p∉(Wg W tp vi fr ρ1 vr vl<|vc.drop A9.As.length++Br).τ)∨∃p,(W.τ++nw)[i]?=some p∧Ob (CW w h1 os) (HN W W' nw ex q ls) s'.heap p o:=by
 have O:=he.tp;obtain⟨o0,h0,rfl⟩:=PA.Jw _ _ _ ho;have h0:σ.obj i=some o0:=h0;obtain⟨p,hp,hb⟩:=B.I.obj i o0 h0;by_cases hi:i<18∧i≠1
 ·obtain⟨hi,Uy⟩:=hi;refine .inr ⟨p,Ah (Aps _ _) hp,?_⟩;by_cases hz:i=0
  ·subst hz;have eo:o0= .AE []:=Apr (h0.symm.trans sp);subst eo;obtain⟨p',BK,BO⟩:=B.I'.obj 0 _ (YQ _<|ApN _);rw[B.low O (by omega) (by omega) (by omega) hp] at BK;cases BK;exact Ob.cut (n:=OW) (k:=11) (B.cut O λp h=>(Ha p h).1) rfl BO
  by_cases h5:i<5
  ·have S:=B.sub.Bg (ex:=ex) Ha hq aX;have hv:σ'.Bq=(Lb A9 σ1 t1).Bq:=low (by omega) h5;have hin:∀a,a=p.1∨a=p.2->own ((Wg W tp vi fr ρ1 vr vl<|vc.drop A9.As.length++Br).τ.take (Lb A9 σ1 t1).low) a:=λa ha=>by
    refine⟨p,?_,ha⟩;have:(Cn W<|Cm tp vi fr)[i]?=some p:=BG (B5 (by rw[O.n0];omega)) (by rw[MH O hi n16 Uy];exact hp);exact AqC (i:=i) (by show((Cn W<|Cm tp vi fr).take 5)[i]?=_;rw[ArG,if_pos h5];exact this)
   obtain⟨⟨x1,e1,_⟩,x2,e2,_⟩:=B.I.live p (get_mem hp);have g1:=B.X.exact hv p.1 x1 e1 (.inr<|hin _<|.inl rfl);have g2:=B.X.exact hv p.2 x2 e2 (.inr<|hin _<|.inr rfl);exact(hb.Bg S (g1.trans e1.symm)<|g2.trans e2.symm).kill
  ·obtain⟨ot,mt⟩:=he.cover (by omega) hi n6 n9 n15 n16;have e0:σ.obj i=some ot:=DP _ mt;have eo:o0=ot:=Apr (h0.symm.trans e0);subst eo;obtain⟨b1,_,_⟩:=he.objs _ mt;rw[RT b1];obtain⟨p',BK,BO⟩:=B.I'.obj i o0 (YQ _<|ApO _<|rel.all _ mt (by omega));rw[B.low O hi n16 Uy hp] at BK;cases BK;exact Ob.cut (B.cut O λp h=>(Ha p h).1) b1 BO
 ·refine .inl ⟨o0,p,h0,rfl,hp,λm=>?_⟩;obtain⟨j,hj⟩:=Df (show p∈Cn W (Cm tp vi fr) from m);have jl:j<20:=by
   have:=(Ape.mp hj).1;have e:(Cn W<|Cm tp vi fr).length=20:=by unfold Cn Cm;rw[Ap2,Ap2,Arl,O.n0]
   omega
  have gj:∃r,W.τ[gi tp vi fr j]?=some r∧r=p:=by have hb:gi tp vi fr j<W.τ.length:=B.hl _ (AqC (i:=j)<|B5 (by rw[O.n0];omega));have e:=BG (B5 (tp:=tp) (vi:=vi) (fr:=fr) (i:=j) (by rw[O.n0];omega)) (Apk hb);rw[hj] at e;exact⟨_,Apk hb,(Apr e).symm⟩
  obtain⟨r,hr,rfl⟩:=gj;have Qx:gi tp vi fr j≠i:=by
   unfold gi;rw[O.n0];split
   ·split
    ·exact λe=>x9 e.symm
    ·split
     ·exact λe=>n18 e.symm
     ·omega
   ·split
    ·exact λe=>nv e.symm
    ·exact λe=>nf e.symm
  exact(B.I.apart _ _ _ _ hr hp Qx).1 rfl
end
end
section
variable{w:Ao7}{h1:Apn}{os:Aqz}
variable{σ:St}{W:Wd}{s:Ao5}
variable{tp A9:Bm}{vi fr:Nat}{ρ1:List Int}{vr vl vc Br:List Ao3}{σ1:St}{t1:AV}{σ':St}{W':Wd}{s':Ao5}
structure KU(A9:Bm)(l:Ap)(k:Nat)(σ':St):Prop where
 got:∃a v xl l' m,σ'.obj A9.call=some (.inst 385 a)∧BM a Bd .any=BM A9.Bz Bd .any∧A2 a Bd=some (.obj v)∧A9.n0+2≤v∧σ'.obj v=some (.list (some<|k+1) [.int xl] none)∧
  σ'.obj A9.cells=some (.mid A9.As (k+2) m)∧m.length≤1∧σ'.Bq=0∧isFrame A9 (σ'.obj<|A9.n0+1)=true∧CU ((0,.AE [])::A9.objs) σ'=true∧isZero (xl.sub l) σ' (λc _=>c)=true∧l'=l
theorem v3{l:Ap}{k:Nat}(h:kU A9 (.int l) k () σ'=true):KU A9 l k σ':=by
 unfold kU at h;dsimp only at h;split at h
 ·rename_i C a e1;obtain⟨c1,h⟩:=Ac h;obtain⟨c2,h⟩:=Ac h;split at h
  ·rename_i v e2;obtain⟨c3,h⟩:=Ac h;split at h
   ·rename_i p x e3;obtain⟨c4,h⟩:=Ac h;obtain⟨c5,h⟩:=Ac h;obtain⟨c6,c7⟩:=Ac h;obtain⟨c8,c6⟩:=Ac c6;obtain⟨c9,tB⟩:=Ac c6;unfold Iz at c5;split at c5
    ·rename_i l2 p2 m e4;obtain⟨d1,d⟩:=Ac c5;obtain⟨d2,d3⟩:=Ac d;rw[Ao6 c1] at e1;rw[Ao6 c4] at e3;rw[Ao6 d1,BN (λa b q=>B7 q) d2] at e4;exact⟨⟨a,v,x,l,m,e1,BN (λa b q=>Gx q) c2,e2,ApB c3,e3,e4,ApB d3,Ao6 c8,c9,tB,c7,rfl⟩⟩
    ·cases c5
   ·cases h
  ·cases h
 ·cases h
theorem eA{k:Nat}(h:J7 A9 k σ'=true):σ'.obj A9.work=some (.list (some k) [] none):=by
 unfold J7 at h;split at h
 ·rename_i p e;rw[e,Ao6 h]
 ·cases h
theorem Ey(h:isFrame tp o=true):∃e f,o=some (.frame [(Lv,.obj tp.run),(HB,.obj tp.call),(yH,e),(JN,f)]):=by
 unfold isFrame at h;split at h
 ·rename_i a r b c e u f v;obtain⟨h1,h2⟩:=Ac h;obtain⟨a1,a2⟩:=Ac h1;obtain⟨h3,h4⟩:=Ac h2;obtain⟨a3,a4⟩:=Ac h3;obtain⟨a5,a6⟩:=Ac h4;rw[Ao6 a1,Ao6 a2,Ao6 a3,Ao6 a4,Ao6 a5,Ao6 a6];exact⟨_,_,rfl⟩
 ·cases h
theorem Hh:∀{l m:List AV},DX f (l++m)=true->DX f l=true
 | [],_,_=>rfl
 |a::l,m,h=>by
  have h:(match f a with |true=>DX f (l++m)|false=>false)=true:=h;show(match f a with |true=>DX f l |false=>false)=true;split at h
  ·exact Hh h
  ·cases h
theorem d9{l:List (Nm×AV)}:l.length≤(BM l x v).length:=by
 induction l with
 |nil=>exact ArB _
 |cons p l ih=>
  show(p::l).length≤(bt (Ao9 x p.1) ((p.1,v)::l) (p::BM l x v)).length;cases Ao9 x p.1 with
  |true=>exact Aqc _
  |false=>exact Nat.succ_le_succ ih
theorem EJ.qA{C:Cx}{l:List (Nm×AV)}{v:AV}(N:EJ C W h l m)(hx:A2 l x=some v)(he:∀y,y≠x->A2 l' y=A2 l y)(hv:∀cv,VR C W h v cv->VR C W2 h v' cv)(hl:∀y u cv,y≠x->A2 l' y=some u->VR C W h u cv->VR C W2 h u cv):EJ C W2 h (BM l' x v') m:=by
 refine⟨λy u hu=>?_,λnm cv hm=>?_⟩
 ·rw[Bc] at hu;by_cases e:y=x
  ·rw[if_pos e] at hu;cases hu;obtain⟨nm,cv,a1,a2,a3⟩:=N.1 y v (by rw[e];exact hx);exact⟨nm,cv,a1,a2,hv cv a3⟩
  ·rw[if_neg e] at hu;obtain⟨nm,cv,a1,a2,a3⟩:=N.1 y u (by rw[←he y e];exact hu);exact⟨nm,cv,a1,a2,hl y u cv e hu a3⟩
 ·obtain⟨y,u,a1,a2⟩:=N.2 nm cv hm;by_cases e:y=x
  ·exact⟨y,v',a1,by rw[Bc,if_pos e]⟩
  ·exact⟨y,u,a1,by rw[Bc,if_neg e,he y e];exact a2⟩
theorem ZY{e:Int}(he:Gn tp e)(rel:Rel A9 tp)(B:Behind w h1 os σ W s tp A9 vi fr ρ1 vr vl vc Br σ1 t1 σ' W' s'){q:Nat}{x:Int}(hq:W.ρ[q+2]?=some x){l:Ap}(hl:l.ev ρ1=some x){rest lv:List AV}{Dc:Int}
  (jM:AM (CW w h1 os) W s.heap rest.reverse vr)(sI:AM (CW w h1 os) W s.heap lv vl)(Th:AM (CW w h1 os) W s.heap tp.As vc)(hh:(Br.length:Int)≤Dc)(DP:∀p∈tp.objs,σ.obj p.1=some p.2)(sp:σ.obj 0=some (.AE []))
  {pc pw pk pv pf p8 p9:Apc×Apc}(tc:W.τ[6]?=some pc)(tw:W.τ[15]?=some pw)(tk:W.τ[9]?=some pk)(tv:W.τ[vi]?=some pv)(tf:W.τ[fr]?=some pf)(t8:W.τ[18]?=some p8)(t9:W.τ[19]?=some p9)(t6:∃p,W.τ[16]?=some p)
  (hU:kU A9 (.int l) σ1.k () σ'=true)(hS:J7 A9 σ1.k σ'=true):
  ∃W2,Inv (CW w h1 os) W2 (Wr tp q vi fr rest lv Dc σ) s'∧Ext σ W s (Wr tp q vi fr rest lv Dc σ) W2 s':=by
 have O:=he.tp;obtain⟨a,v,xl,l',m,c1,c2,c3,c4,c5,c6,c7,c8,c9,tB,c11,_⟩:=(v3 hU).got;rw[rel.n0] at c4 c9;rw[rel.call] at c1;rw[rel.cells] at c6;have c0:=eA hS;rw[rel.work] at c0;obtain⟨fe,ft,c9⟩:=Ey c9;rw[rel.run,rel.call] at c9;obtain⟨pn,tn,en,vsn,vvn,ln,_,_,nn⟩:=B.I'.obj v _ c5;have Ha:∀p∈[pn],p∈W'.τ∧p∉W.τ:=λp hp=>by rw[Apu.mp hp];exact⟨get_mem tn,B.pH O (by omega) tn⟩
 obtain⟨pk',Ie,ek,jL,FJ,vv',vw',xO,lo',nk'⟩:=B.I'.obj 9 _ c6;rw[B.low O (by omega) (by omega) (by omega) tk] at Ie;cases Ie;have kρ:W.ρ.length=σ.k:=B.I.kρ;have sA:W'.ls (σ1.k+2)=vc.drop A9.As.length++Br:=by rw[B.X.ls _ (by show σ1.k+2<(ρ1++_).length;rw[Apd,B.k1];simp)];show QX ρ1.length _ _ _ _=_;unfold QX;rw[B.k1,if_neg (by omega),if_neg (by omega),if_pos rfl]
 have ls1:W'.ls (σ1.k+1)=vl:=by rw[B.X.ls _ (by show σ1.k+1<(ρ1++_).length;rw[Apd,B.k1];simp)];show QX ρ1.length _ _ _ _=_;unfold QX;rw[B.k1,if_neg (by omega),if_pos rfl]
 have ls0:W'.ls σ1.k=vr:=by rw[B.X.ls _ (by show σ1.k<(ρ1++_).length;rw[Apd,B.k1];simp)];show QX ρ1.length _ _ _ _=_;unfold QX;rw[B.k1,if_pos rfl]
 have lwm:FJ.length≤1:=by rw[vw'.length];exact c7
 have aX:∀a,a<W.ρ.length->(λa=>if a=W.ρ.length then Br++FJ else W.ls a) a=W.ls a:=λa ha=>if_neg (by omega)
 have S:=B.sub.Bg (ex:=[Api (Br++FJ).length]) (q:=W.q) Ha (λ_ _=>rfl) aX;have K:=B.cut O (nw:=[pn]) (ex:=[Api (Br++FJ).length]) (q:=W.q) (ls:=λa=>if a=W.ρ.length then Br++FJ else W.ls a) (λp h=>(Ha p h).1);have up:∀{l:List AV} {vs:List Ao3},AM (CW w h1 os) W s.heap l vs->AM (CW w h1 os) (HN W W' [pn] [Api (Br++FJ).length] W.q (λa=>if a=W.ρ.length then Br++FJ else W.ls a)) s'.heap l vs:=λh=>h.keep S.ρ S.τ S.q S.Ak
 have atk:((HN W W' [pn] [Api (Br++FJ).length] W.q (λa=>if a=W.ρ.length then Br++FJ else W.ls a))).ρ[σ.k]?=some (Api (Br++FJ).length):=by show(W.ρ++_)[σ.k]?=_;rw[←kρ];simp
 have atn:(W.τ++ [pn])[σ.n]?=some pn:=by rw[←B.I.nτ];simp
 have old:∀{i:Nat} {p:Apc×Apc},W.τ[i]?=some p->(W.τ++ [pn])[i]?=some p:=λh=>Ah (Aps _ _) h
 refine⟨_,B.sub.back (nw:=[pn]) (ex:=[Api (Br++FJ).length]) (q:=W.q) (ls:=λa=>if a=W.ρ.length then Br++FJ else W.ls a) ⟨Ha,by simp,λ_ _=>rfl,aX,rfl,rfl,⟨[(some 0,some<|Dc+1)],rfl,rfl,λi z hz=>?_⟩,rfl,rfl,rfl,rfl,λi o ho=>?_⟩⟩
 ·cases i with
  |zero=>cases hz;refine⟨λa e=>(by cases e;exact AqS _),λa e=>?_⟩;cases e;show((Br++FJ).length:Int)≤Dc+1;rw[Apd];omega
  |succ i=>cases hz
 ·have ho:(EF _ σ.objs.kill).get i=some o:=ho;rcases Dv ho with hm |⟨hk,Qx⟩
  ·rcases Apf.mp hm with z |hm
   ·obtain⟨rfl,rfl⟩:=ApK z;exact .inr ⟨p8,by rw[O.n0];exact old t8,trivial⟩
   rcases Apf.mp hm with z |hm
   ·obtain⟨rfl,rfl⟩:=ApK z;exact .inr ⟨p9,by rw[O.n0];exact old t9,trivial⟩
   rcases Apf.mp hm with z |hm
   ·obtain⟨rfl,rfl⟩:=ApK z;obtain⟨p6,t6⟩:=t6;exact .inr ⟨p6,by rw[O.vals];exact old t6,trivial⟩
   rcases Apf.mp hm with z |hm
   ·obtain⟨rfl,rfl⟩:=ApK z;exact .inr ⟨pv,old tv,trivial⟩
   rcases Apf.mp hm with z |hm
   ·obtain⟨rfl,rfl⟩:=ApK z;obtain⟨pf',z5,ep,m2,a2,N2⟩:=B.I'.obj 19 _ c9;rw[B.at_ (BG (B5 (by rw[O.n0];omega)) (by rw[(Jx O).2];exact tf))] at z5;cases z5;refine .inr ⟨pf,old tf,ep,m2,a2,?_⟩;rw[O.run,O.call];exact N2.mZ (λcv r=>VR.cut K 12 _ _ rfl r) (λcv r=>VR.cut K 12 _ _ rfl r)
   rcases Apf.mp hm with z |hm
   ·obtain⟨rfl,rfl⟩:=ApK z;obtain⟨pc',tc',⟨sl,o1⟩,es,n2,Cg,g1,g2,g3,N⟩:=B.I'.obj 6 _ c1;rw[B.low O (by omega) (by omega) (by omega) tc] at tc';cases tc';rw[rel.Bz] at c2;refine .inr ⟨pc,by rw[O.call];exact old tc,⟨sl,o1⟩,es,n2,Cg,g1,g2,?_,?_⟩
    ·rw[O.Bz,PH (v':=.any),←c2];exact AqT g3 d9
    ·rw[O.Bz];refine N.qA c3 (λy hy=>?_) (λcv r=>?_) (λy u cv ne hu r=>VR.cut K 12 u cv (Mj RQ (by rw[Bc,if_neg ne];exact hu)) r)
     ·have e1:A2 (BM a Bd .any) y=A2 a y:=by rw[Bc,if_neg hy]
      have e2:A2 (BM BC.Bz Bd .any) y=A2 BC.Bz y:=by rw[Bc,if_neg hy]
      rw[←e1,←e2,c2]
     ·cases r with
      |obj g=>rw[tn] at g;cases g;exact .obj atn
   rcases Apf.mp hm with z |hm
   ·obtain⟨rfl,rfl⟩:=ApK z;obtain⟨pw',tw',ew,vw,vvw,lw,_,_,nw⟩:=B.I'.obj 15 _ c0;rw[B.low O (by omega) (by omega) (by omega) tw] at tw';cases tw';cases vvw;refine .inr ⟨pw,by rw[O.work];exact old tw,ew,vr,up jM,?_,trivial,trivial,nw⟩;have lw:s'.heap.IsList pw.1 (W'.ls σ1.k++ []++ []).toArray:=lw;rw[ls0] at lw;simpa [Aq] using lw
   rcases Apf.mp hm with z |hm
   ·obtain⟨rfl,rfl⟩:=ApK z;obtain⟨n',aY⟩:=rel.As;have lvc:vc.length=8:=Th.length.trans O.len;have ed:vc.drop A9.As.length=vc.drop n'∧A9.As++tp.As.drop n'=tp.As:=by
     refine⟨?_,by rw[aY,Aqh]⟩;rw[aY,AqD,O.len];rcases Nat.le_total n' 8 with z |z
     ·rw[Nat.min_eq_left z]
     ·rw[Nat.min_eq_right z,AqK (by omega),AqK (by omega)]
    refine .inr ⟨pk,by rw[O.cells];exact old tk,ek,jL++vc.drop n',[],?_,.nil,?_,?_,nk'⟩
    ·rw[←ed.2];refine AM.app ?_<|up<|AM.drop n' Th;refine AM.map (f:=Ux OW 11) (λv cv=>VR.cut K 12 v cv) ?_ vv';have:DX (Ux OW 11) (A9.As++tp.As.drop n')=true:=by rw[ed.2];exact he.Qd
     exact Hh this
    ·show s'.heap.IsList pk.1 (jL++vc.drop n'++(if σ.k=W.ρ.length then Br++FJ else W.ls σ.k)++ []).toArray;rw[if_pos kρ.symm,Apj,ApQ,←ApQ (vc.drop n')];rw[sA,ed.1,ApQ] at xO;exact xO
    ·show(HN W W' [pn] _ _ _).ρ[σ.k]?=some (Api (if σ.k=W.ρ.length then Br++FJ else W.ls σ.k).length);rw[if_pos kρ.symm];exact atk
   rcases Apf.mp hm with z |hm
   ·obtain⟨rfl,rfl⟩:=ApK z;cases vvn with
    | @cons _ _ cx _ vx vvn=>
     cases vvn;have ln:s'.heap.IsList pn.1 (W'.ls (σ1.k+1)++ [cx]++ []).toArray:=ln;rw[ls1,Apj] at ln;refine .inr ⟨pn,atn,en,vl++ [cx],(up sI).app<|.cons ?_ .nil,by simpa [Aq] using ln,trivial,trivial,nn⟩;cases vx with
     | @int _ i t hx=>have Nz:l.ev W'.ρ=some x:=Ap.CZ B.X.ρ (Ap.CZ (Aps _ _) hl);obtain⟨_,_,d⟩:=Fo B.I' (Ap.Ea hx Nz) c11;have d:=of_decide_eq_true d;refine .int ?_;have:=Ah (S.ρ) hq;simp only[Ap.ev,Ap.at,CN,this,AqN];congr 1;omega
   ·cases hm
  ·have hn:∀j u,(j,u)∈[(tp.n0,AO.dead),(tp.n0+1,.dead),(tp.vals,.dead),(vi,.dead),(fr,EV tp),(tp.call,.inst 385<|BM tp.Bz Bd<|.obj σ.n),(tp.work,.list none rest.reverse none),(tp.cells,.mid tp.As σ.k []),(σ.n,.list none (lv++ [.int (.at (q+2))]) none)]->i≠j:=λj u hj e=>Qx _ hj e.symm
   refine B.rest he rel DP sp (DQ tB) Ha (λ_ _=>rfl) aX hk (λ_ _=>c8) ?_ ?_ ?_ ?_ ?_ ?_ ?_ ?_
   ·exact O.call▸hn tp.call _ (by repeat (first |exact ApN _ |apply ApO))
   ·exact O.cells▸hn tp.cells _ (by repeat (first |exact ApN _ |apply ApO))
   ·exact O.work▸hn tp.work _ (by repeat (first |exact ApN _ |apply ApO))
   ·exact O.vals▸hn tp.vals _ (by repeat (first |exact ApN _ |apply ApO))
   ·exact O.n0▸hn tp.n0 _ (by repeat (first |exact ApN _ |apply ApO))
   ·have:=hn (tp.n0+1) _ (by repeat (first |exact ApN _ |apply ApO));rw[O.n0] at this;exact this
   ·exact hn vi _ (by repeat (first |exact ApN _ |apply ApO))
   ·exact hn fr _ (by repeat (first |exact ApN _ |apply ApO))
end
section
variable{w:Ao7}{h1:Apn}{os:Aqz}
variable{σ:St}{W:Wd}{s:Ao5}
variable{tp A9:Bm}{vi fr:Nat}{ρ1:List Int}{vr vl vc Br:List Ao3}{σ1:St}{t1:AV}{σ':St}{W':Wd}{s':Ao5}
def Ra(v:AV):List (Nm×AV):=[(Xt,.str Dh),(Q3,.int ⟨0,[]⟩),(CP,.Ak [.str Gf,qE,v])]
structure KE(A9:Bm)(n k j:Nat)(σ':St):Prop where
 got:∃d x m,σ'.obj j=some (.old 114<|some d)∧A9.n0+2≤j∧A9.n0+2≤d∧j≠d∧σ'.obj d=some (.ed<|Ra<|.B4 x)∧Ff[n]?=some (.B4 x)∧
  σ'.obj A9.cells=some (.mid A9.As (k+2) m)∧m.length≤1∧isFrame A9 (σ'.obj<|A9.n0+1)=true∧CU ((0,.AE [])::A9.objs) σ'=true
theorem o6{n k j:Nat}(h:v8 A9 (.str n) k (.obj j) σ'=true):KE A9 n k j σ':=by
 unfold v8 at h;dsimp only at h;split at h
 ·rename_i C dd e1;obtain⟨c1,h⟩:=Ac h;obtain⟨c2,h⟩:=Ac h;obtain⟨c2,c3⟩:=Ac c2;obtain⟨c3,c4⟩:=Ac c3;split at h
  ·rename_i a b c z f g0 r x e2;obtain⟨d0,h⟩:=Ac h;obtain⟨d1,d⟩:=Ac d0;obtain⟨d2,d⟩:=Ac d;obtain⟨d3,d⟩:=Ac d;obtain⟨d4,d⟩:=Ac d;obtain⟨d5,d⟩:=Ac d;obtain⟨d6,d7⟩:=Ac d;obtain⟨c5,h⟩:=Ac h;obtain⟨c6,h⟩:=Ac h;obtain⟨c7,c8⟩:=Ac h;split at c5
   ·rename_i i ei;have tx:=PU ei;rw[Ao6 c5] at tx;unfold Iz at c6;split at c6
    ·rename_i l2 p2 m e4;obtain⟨g1,g⟩:=Ac c6;obtain⟨g2,g3⟩:=Ac g;rw[Ao6 c1] at e1;rw[Ao6 g1,BN (λa b q=>B7 q) g2] at e4;rw[Ao6 d1,Ao6 d2,Ao6 d3,Ap.eq_iff d4,Ao6 d5,Ao6 d6,B7 d7] at e2;have nj:j≠dd:=λe=>by
      subst e;rw[show Ao9 j j=true from ArD j] at c4;cases c4
     exact⟨⟨dd,x,m,e1,ApB c2,ApB c3,nj,e2,tx.2,e4,ApB g3,c7,c8⟩⟩
    ·cases c6
   ·cases c5
  ·cases h
 ·cases h
theorem EJ.pan{C:Cx}{W W2:Wd}{h:Apn}{u v:AV}{m:Str->Option Ao3}(N:EJ C W h (Ra u) m)(hv:∀cv,VR C W h (.Ak [.str Gf,qE,u]) cv->VR C W2 h (.Ak [.str Gf,qE,v]) cv):EJ C W2 h (Ra v) m:=by
 unfold Ra at N ⊢;refine⟨λx y hy=>?_,λnm cv hm=>?_⟩
 ·simp only[BE] at hy;split at hy
  ·rename_i e;cases hy;obtain⟨nm,cv,q1,q2,q3⟩:=N.1 x (.str Dh) (by simp only[BE,if_pos e]);exact⟨nm,cv,q1,q2,by cases q3 with |str e=>exact .str e⟩
  ·rename_i e1;split at hy
   ·rename_i e;cases hy;obtain⟨nm,cv,q1,q2,q3⟩:=N.1 x (.int ⟨0,[]⟩) (by simp only[BE,if_neg e1,if_pos e]);exact⟨nm,cv,q1,q2,by cases q3 with |int e=>exact .int e⟩
   ·rename_i e2;split at hy
    ·rename_i e;cases hy;obtain⟨nm,cv,q1,q2,q3⟩:=N.1 x (.Ak [.str Gf,qE,u]) (by simp only[BE,if_neg e1,if_neg e2,if_pos e]);exact⟨nm,cv,q1,q2,hv cv q3⟩
    ·cases hy
 ·obtain⟨y,u',a1,a2⟩:=N.2 nm cv hm;simp only[BE] at a2;split at a2
  ·rename_i e;exact⟨y,.str Dh,a1,by simp only[BE,if_pos e]⟩
  ·rename_i e1;split at a2
   ·rename_i e;exact⟨y,.int ⟨0,[]⟩,a1,by simp only[BE,if_neg e1,if_pos e]⟩
   ·rename_i e2;split at a2
    ·rename_i e;exact⟨y,.Ak [.str Gf,qE,v],a1,by simp only[BE,if_neg e1,if_neg e2,if_pos e]⟩
    ·cases a2
theorem ZX{e:Int}(he:Gn tp e)(rel:Rel A9 tp){j:Nat}{σp:St}{D:Nat}{ld:Option Nat}(B:Behind w h1 os σ W s tp A9 vi fr ρ1 vr vl vc Br σ1 t1 (σp.after j D ld) W' s'){q:Nat}{n:Nat}(hq:W.ρ[q+3]?=some (Api n)){rest lv:List AV}{Dc:Int}
  (Th:AM (CW w h1 os) W s.heap tp.As vc)(hh:(Br.length:Int)≤Dc)(DP:∀p∈tp.objs,σ.obj p.1=some p.2)(sp:σ.obj 0=some (.AE []))
  {pc pw pk pv pf p8 p9 pj:Apc×Apc}(tc:W.τ[6]?=some pc)(tw:W.τ[15]?=some pw)(tk:W.τ[9]?=some pk)(tv:W.τ[vi]?=some pv)(tf:W.τ[fr]?=some pf)(t8:W.τ[18]?=some p8)(t9:W.τ[19]?=some p9)(t6:∃p,W.τ[16]?=some p)(tl:∀i,i<5->∃p,W.τ[i]?=some p)
  (hU:v8 A9 (.str n) σ1.k (.obj j) σp=true)(hj:σp.obj j=some (.old D ld))(tj:W'.τ[j]?=some pj):
  ∃W2,W2.τ[σ.n+1]?=some pj∧Inv (CW w h1 os) W2 (Sn tp q vi fr Dc σ) s'∧Ext σ W s (Sn tp q vi fr Dc σ) W2 s':=by
 have O:=he.tp;obtain⟨d,x,m,c1,c2,c3,c4,c5,c6,c7,c8,c9,tB⟩:=(o6 hU).got;rw[rel.n0] at c2 c3 c9;rw[rel.cells] at c7;obtain⟨fe,ft,c9⟩:=Ey c9;rw[rel.run,rel.call] at c9;have a5:(σp.after j D ld).obj d=some (.ed<|Ra<|.B4 x):=St.Dl (ArQ c4) c5;have a7:(σp.after j D ld).obj 9=some (.mid A9.As (σ1.k+2) m):=St.Dl (by omega) c7;have a9:(σp.after j D ld).obj 19=some (.frame [(Lv,.obj 5),(HB,.obj 6),(yH,fe),(JN,ft)]):=St.Dl (by omega) c9;have a10:∀p∈(0,AO.AE [])::A9.objs,(σp.after j D ld).obj p.1=some p.2:=λp hp=>by
  have e0:=DQ tB p hp;rcases Apf.mp hp with rfl |hm
  ·exact St.Dl (show(0:Nat)≠j by omega) e0
  ·obtain⟨b1,b2,_⟩:=he.objs _ (rel.objs _ hm);have:=St.Dl (j:=j) (D:=D) (l:=ld) (show p.1≠j by omega) e0;rw[RT b1] at this;exact this
 have hE:=Apr (hj.symm.trans c1);obtain⟨rfl,rfl⟩:=AO.old.inj hE;have a1:(σp.after j 114<|some d).obj j=some (.old 114<|some d):=St.F2 c1;obtain⟨pd,td,ed,es,n2,Cg,g1,g2,g3,N⟩:=B.I'.obj d _ a5;obtain⟨pj',tj',ej,xc,dd,fs,sl,⟨q',tq,rfl⟩,hx⟩:=B.I'.obj j _ a1;rw[tj] at tj';cases tj';rw[td] at tq;cases tq;have Ha:∀p∈[pd,pj],p∈W'.τ∧p∉W.τ:=λp hp=>by
  rcases Apf.mp hp with rfl |hp
  ·exact⟨get_mem td,B.pH O (by omega) td⟩
  ·rw[Apu.mp hp];exact⟨get_mem tj,B.pH O (by omega) tj⟩
 have hdj:pd≠pj:=λe=>(B.I'.apart _ _ _ _ td tj<|ArQ c4).1 (congrArg Prod.fst e)
 obtain⟨pk',Ie,ek,jL,FJ,vv',vw',xO,lo',nk'⟩:=B.I'.obj 9 _ a7;rw[B.low O (by omega) (by omega) (by omega) tk] at Ie;cases Ie;have kρ:W.ρ.length=σ.k:=B.I.kρ;have sA:W'.ls (σ1.k+2)=vc.drop A9.As.length++Br:=by rw[B.X.ls _ (by show σ1.k+2<(ρ1++_).length;rw[Apd,B.k1];simp)];show QX ρ1.length _ _ _ _=_;unfold QX;rw[B.k1,if_neg (by omega),if_neg (by omega),if_pos rfl]
 have lwm:FJ.length≤1:=by rw[vw'.length];exact c8
 have aX:∀a,a<W.ρ.length->(λa=>if a=W.ρ.length then Br++FJ else W.ls a) a=W.ls a:=λa ha=>if_neg (by omega)
 have S:=B.sub.Bg (ex:=[Api (Br++FJ).length]) (q:=W.q) Ha (λ_ _=>rfl) aX;have K:=B.cut O (nw:=[pd,pj]) (ex:=[Api (Br++FJ).length]) (q:=W.q) (ls:=λa=>if a=W.ρ.length then Br++FJ else W.ls a) (λp h=>(Ha p h).1);have up:∀{l:List AV} {vs:List Ao3},AM (CW w h1 os) W s.heap l vs->AM (CW w h1 os) (HN W W' [pd,pj] [Api (Br++FJ).length] W.q (λa=>if a=W.ρ.length then Br++FJ else W.ls a)) s'.heap l vs:=λh=>h.keep S.ρ S.τ S.q S.Ak
 have atk:((HN W W' [pd,pj] [Api (Br++FJ).length] W.q (λa=>if a=W.ρ.length then Br++FJ else W.ls a))).ρ[σ.k]?=some (Api (Br++FJ).length):=by show(W.ρ++_)[σ.k]?=_;rw[←kρ];simp
 have atd:(W.τ++ [pd,pj])[σ.n]?=some pd:=by rw[←B.I.nτ];simp
 have atj:(W.τ++ [pd,pj])[σ.n+1]?=some pj:=by rw[←B.I.nτ];simp
 have old:∀{i:Nat} {p:Apc×Apc},W.τ[i]?=some p->(W.τ++ [pd,pj])[i]?=some p:=λh=>Ah (Aps _ _) h
 refine⟨_,atj,B.sub.back (nw:=[pd,pj]) (ex:=[Api (Br++FJ).length]) (q:=W.q) (ls:=λa=>if a=W.ρ.length then Br++FJ else W.ls a) ⟨Ha,by simp[hdj],λ_ _=>rfl,aX,rfl,rfl,⟨[(some 0,some<|Dc+1)],rfl,rfl,λi z hz=>?_⟩,rfl,rfl,rfl,rfl,λi o ho=>?_⟩⟩
 ·cases i with
  |zero=>cases hz;refine⟨λa e=>(by cases e;exact AqS _),λa e=>?_⟩;cases e;show((Br++FJ).length:Int)≤Dc+1;rw[Apd];omega
  |succ i=>cases hz
 ·have ho:(EF _ σ.objs.kill).get i=some o:=ho;rcases Dv ho with hm |⟨hk,Qx⟩
  ·rcases Apf.mp hm with z |hm
   ·obtain⟨rfl,rfl⟩:=ApK z;exact .inr ⟨p8,by rw[O.n0];exact old t8,trivial⟩
   rcases Apf.mp hm with z |hm
   ·obtain⟨rfl,rfl⟩:=ApK z;exact .inr ⟨p9,by rw[O.n0];exact old t9,trivial⟩
   rcases Apf.mp hm with z |hm
   ·obtain⟨rfl,rfl⟩:=ApK z;obtain⟨p6,t6⟩:=t6;exact .inr ⟨p6,by rw[O.vals];exact old t6,trivial⟩
   rcases Apf.mp hm with z |hm
   ·obtain⟨rfl,rfl⟩:=ApK z;exact .inr ⟨pv,old tv,trivial⟩
   rcases Apf.mp hm with z |hm
   ·obtain⟨rfl,rfl⟩:=ApK z;obtain⟨p2,t2⟩:=tl 2 (by omega);exact .inr ⟨p2,old t2,trivial⟩
   rcases Apf.mp hm with z |hm
   ·obtain⟨rfl,rfl⟩:=ApK z;obtain⟨p2,t2⟩:=tl 3 (by omega);exact .inr ⟨p2,old t2,trivial⟩
   rcases Apf.mp hm with z |hm
   ·obtain⟨rfl,rfl⟩:=ApK z;obtain⟨p2,t2⟩:=tl 4 (by omega);exact .inr ⟨p2,old t2,trivial⟩
   rcases Apf.mp hm with z |hm
   ·obtain⟨rfl,rfl⟩:=ApK z;obtain⟨pf',z5,ep,m2,a2,N2⟩:=B.I'.obj 19 _ a9;rw[B.at_ (BG (B5 (by rw[O.n0];omega)) (by rw[(Jx O).2];exact tf))] at z5;cases z5;refine .inr ⟨pf,old tf,ep,m2,a2,?_⟩;rw[O.run,O.call];exact N2.mZ (λcv r=>VR.cut K 12 _ _ rfl r) (λcv r=>VR.cut K 12 _ _ rfl r)
   rcases Apf.mp hm with z |hm
   ·obtain⟨rfl,rfl⟩:=ApK z;exact .inr ⟨pc,by rw[O.call];exact old tc,trivial⟩
   rcases Apf.mp hm with z |hm
   ·obtain⟨rfl,rfl⟩:=ApK z;exact .inr ⟨pw,by rw[O.work];exact old tw,trivial⟩
   rcases Apf.mp hm with z |hm
   ·obtain⟨rfl,rfl⟩:=ApK z;obtain⟨n',aY⟩:=rel.As;have lvc:vc.length=8:=Th.length.trans O.len;have ed:vc.drop A9.As.length=vc.drop n'∧A9.As++tp.As.drop n'=tp.As:=by
     refine⟨?_,by rw[aY,Aqh]⟩;rw[aY,AqD,O.len];rcases Nat.le_total n' 8 with z |z
     ·rw[Nat.min_eq_left z]
     ·rw[Nat.min_eq_right z,AqK (by omega),AqK (by omega)]
    refine .inr ⟨pk,by rw[O.cells];exact old tk,ek,jL++vc.drop n',[],?_,.nil,?_,?_,nk'⟩
    ·rw[←ed.2];refine AM.app ?_<|up<|AM.drop n' Th;refine AM.map (f:=Ux OW 11) (λv cv=>VR.cut K 12 v cv) ?_ vv';have:DX (Ux OW 11) (A9.As++tp.As.drop n')=true:=by rw[ed.2];exact he.Qd
     exact Hh this
    ·show s'.heap.IsList pk.1 (jL++vc.drop n'++(if σ.k=W.ρ.length then Br++FJ else W.ls σ.k)++ []).toArray;rw[if_pos kρ.symm,Apj,ApQ,←ApQ (vc.drop n')];rw[sA,ed.1,ApQ] at xO;exact xO
    ·show(HN W W' [pd,pj] _ _ _).ρ[σ.k]?=some (Api (if σ.k=W.ρ.length then Br++FJ else W.ls σ.k).length);rw[if_pos kρ.symm];exact atk
   rcases Apf.mp hm with z |hm
   ·obtain⟨rfl,rfl⟩:=ApK z;refine .inr ⟨pd,atd,ed,es,n2,Cg,g1,g2,g3,?_⟩;have N':EJ (CW w h1 os) _ s'.heap (Ra<|.sel (q+3) Ff) (Aro es):=N.pan (W2:=HN W W' [pd,pj] [Api (Br++FJ).length] W.q (λa=>if a=W.ρ.length then Br++FJ else W.ls a)) λcv r=>by
     cases r with
     |Ak a r=>
      refine .Ak (K.Ak _ _ a) ?_;cases r with
      |cons r1 r=>cases r with
       |cons r2 r=>cases r with
        |cons r3 r=>cases r;refine .cons (VR.cut K 12 _ _ rfl r1) (.cons (VR.cut K 12 _ _ rfl r2) (.cons ?_ .nil));exact .sel (Ah S.ρ hq) c6 (VR.cut K 12 _ _ rfl r3)
    exact N'
   rcases Apf.mp hm with z |hm
   ·obtain⟨rfl,rfl⟩:=ApK z;exact .inr ⟨pj,atj,ej,xc,_,fs,sl,⟨pd,atd,rfl⟩,hx⟩
   ·cases hm
  ·have hn:∀j u,(j,u)∈[(tp.n0,AO.dead),(tp.n0+1,.dead),(tp.vals,.dead),(vi,.dead),(2,.dead),(3,.dead),(4,.dead),(fr,EV tp),(tp.call,.dead),(tp.work,.dead),(tp.cells,.mid tp.As σ.k []),(σ.n,.ed<|Ra<|.sel (q+3) Ff),(σ.n+1,.old 114<|some σ.n)]->i≠j:=λj u hj e=>Qx _ hj e.symm
   refine B.rest he rel DP sp a10 Ha (λ_ _=>rfl) aX hk (λl2 l5=>?_) ?_ ?_ ?_ ?_ ?_ ?_ ?_ ?_
   ·have n2:=hn 2 _ (by repeat (first |exact ApN _ |apply ApO));have n3:=hn 3 _ (by repeat (first |exact ApN _ |apply ApO));have n4:=hn 4 _ (by repeat (first |exact ApN _ |apply ApO));omega
   ·exact O.call▸hn tp.call _ (by repeat (first |exact ApN _ |apply ApO))
   ·exact O.cells▸hn tp.cells _ (by repeat (first |exact ApN _ |apply ApO))
   ·exact O.work▸hn tp.work _ (by repeat (first |exact ApN _ |apply ApO))
   ·exact O.vals▸hn tp.vals _ (by repeat (first |exact ApN _ |apply ApO))
   ·exact O.n0▸hn tp.n0 _ (by repeat (first |exact ApN _ |apply ApO))
   ·have:=hn (tp.n0+1) _ (by repeat (first |exact ApN _ |apply ApO));rw[O.n0] at this;exact this
   ·exact hn vi _ (by repeat (first |exact ApN _ |apply ApO))
   ·exact hn fr _ (by repeat (first |exact ApN _ |apply ApO))
end
section
variable{w:Ao7}{h1:Apn}{os:Aqz}
variable{σ:St}{W:Wd}{s:Ao5}
theorem WG{n:Nat}(h:WE o n=true):o=some (.old 114<|some n):=by
 unfold WE at h;split at h
 ·obtain⟨a,b⟩:=Ac h;rw[Ao6 a,Ao6 b]
 ·cases h
theorem TM{tp:Bm}{Dc:Int}(I:Inv (CW w h1 os) W σ s)(h:hidden tp σ=some Dc):∃pk vc Br,W.τ[tp.cells]?=some pk∧pk.2=pk.1∧AM (CW w h1 os) W s.heap tp.As vc∧s.heap.IsList pk.1 (vc++Br).toArray∧Kq s.heap pk.1∧(Br.length:Int)≤Dc:=by
 unfold hidden at h;split at h
 ·rename_i l e;obtain⟨h0,h2⟩:=Mn h;rw[BN (λa b q=>B7 q) h0] at e;obtain⟨pk,tk,ek,vs,vv,il,_,_,nd⟩:=I.obj _ _ e;exact⟨pk,vs,[],tk,ek,vv,by simpa [Aq] using il,nd,by cases h2;simp⟩
 ·rename_i l p m e;cases hb:BV Hp l tp.As with
  |false=>rw[hb] at h;cases h
  |true=>
   rw[hb] at h;have h:upTo (σ.rg p) m.length=some Dc:=h;rw[BN (λa b q=>B7 q) hb] at e;obtain⟨pk,tk,ek,vs,ws,vv,vw,il,lo,nd⟩:=I.obj _ _ e;refine⟨pk,vs,W.ls p++ws,tk,ek,vv,by rw[←ApQ];exact il,nd,?_⟩;unfold upTo at h;split at h
   ·rename_i b eb;cases h;have:=(I.Bi p _ lo).2 b eb;rw[Apd,vw.length];have:(Api (W.ls p).length)≤b:=this;have:((W.ls p).length:Int)≤b:=this;show(((W.ls p).length+m.length:Nat):Int)≤b+(m.length:Int);omega
   ·cases h
 ·cases h
structure At(w:Ao7)(h1:Apn)(os:Aqz)(e:Int)(tp:Bm)(σ:St)(W:Wd)(s:Ao5)(vi fr:Nat)(Dc:Int)(lv:List AV):Prop where
 I:Inv (CW w h1 os) W σ s
 h9:W.ρ[9]?=some e
 v9:11≤W.ρ.length
 DP:∀p∈tp.objs,σ.obj p.1=some p.2
 sp:σ.obj 0=some (.AE [])
 x9:19<σ.n
 f19:19<fr
 fv:fr≠vi
 hv:vi=16∨19<vi
 call:σ.obj 6=some (.inst 385<|BM tp.Bz Bd<|.obj vi)
 vals:σ.obj vi=some (.list none lv none)
 lvf:lv.length≤4000
 Mp:∃pk vc Br,W.τ[tp.cells]?=some pk∧pk.2=pk.1∧AM (CW w h1 os) W s.heap tp.As vc∧s.heap.IsList pk.1 (vc++Br).toArray∧Kq s.heap pk.1∧(Br.length:Int)≤Dc
 u6:Dc≤1000
 fra:isFrame tp (σ.obj fr)=true
variable{e:Int}{tp:Bm}{vi fr:Nat}{Dc:Int}{lv:List AV}
theorem At.Kp(a:At w h1 os e tp σ W s vi fr Dc lv)(n:Bx (CW w h1 os) W s σ σ'):At w h1 os e tp σ' W s vi fr Dc lv:=
 ⟨n.1,a.h9,a.v9,λp hp=>(n.obj _).trans (a.DP p hp),(n.obj _).trans a.sp,by rw[n.2.2.2.1];exact a.x9,a.f19,a.fv,a.hv,(n.obj _).trans a.call,(n.obj _).trans a.vals,a.lvf,a.Mp,a.u6,by rw[n.obj];exact a.fra⟩
theorem At.run(RW:AP (CW w h1 os) (KF w) tt Gj)(he:Gn tp e)(a:At w h1 os e tp σ W s vi fr Dc lv){m:Nat}{A:Apg}(f:CJ (m+3+30) true A){E:Bo}{env:Env}(ev:A8 (CW w h1 os) A W KQ.scope E env)(hE:E.fr=fr){q:Nat}
  {pw:Apc×Apc}(tw:W.τ[15]?=some pw)(ew:pw.2=pw.1){vr:List Ao3}{cv:Ao3}(lw:s.heap.IsList pw.1 (vr++ [cv]).toArray)(nw:Kq s.heap pw.1)(br:vr.length≤5000)(rS:VR (CW w h1 os) W s.heap (.Ak [.str CP,.ED q]) cv):
  ∃A9 σ1 ρ1 t1 o1 o vl vc Br,Rel A9 tp∧Tn W.ρ q o∧mQ ρ1 o1 o∧AM (CW w h1 os) W s.heap lv vl∧AM (CW w h1 os) W s.heap tp.As vc∧(Br.length:Int)≤Dc∧∀(σn:St) (R:Aru->Ao5->Prop),Bx (CW w h1 os) W s σ σn->
   (∀σ' W' s',J7 A9 σ1.k σ'=true->kU A9 o1 σ1.k () σ'=true->Behind w h1 os σn W s tp A9 vi fr ρ1 vr vl vc Br σ1 t1 σ' W' s'->ApG (model (CW w h1 os).prog (CW w h1 os).w) A (.whileLoop Zu Zv [] env) R s')->
   (∀x j D ld σp W' p s',v8 A9 o1 σ1.k (.obj j) σp=true->σp.obj j=some (.old D ld)->W'.τ[j]?=some p->x= .ref p.1->Traced (CW w h1 os) s'.heap p.1->Behind w h1 os σn W s tp A9 vi fr ρ1 vr vl vc Br σ1 t1 (σp.after j D ld) W' s'->R (.error x) s')->
   ApG (model (CW w h1 os).prog (CW w h1 os).w) A (.whileLoop Zu Zv [] env) R s:=by
 have O:=he.tp;cases rS with
 |Ak ht Ww=>cases Ww with
  |cons hs Ww=>cases Ww with
   |cons ho Ww=>
    cases Ww;rename_i cs ct;cases ho with
    | @ED _ t _ hq1 hq2 hq3 hq4=>
     obtain⟨Afa,bA,_⟩:=hq3;obtain⟨e',he9,hw⟩:=Afa;have ee:e'=e:=Apr (he9.symm.trans a.h9);subst ee;have hT:Uu [tp,Dj] W.ρ t.1 t.2:=by
      rcases he with⟨rfl,rfl⟩|⟨rfl,rfl⟩
      ·rcases hw with⟨_,y⟩|⟨x,_⟩
       ·exact y
       ·cases x
      ·rcases hw with⟨x,_⟩|⟨_,y⟩
       ·cases x
       ·exact y
     obtain⟨A9,mem,σ1,ρ1,t1,o1,hρ,_,l1,F,hn,hc,vC⟩:=hT;have rel:=pW O mem;obtain⟨pk,vc,Br,tk,ek,Th,lk,nk,hh⟩:=a.Mp;obtain⟨pv,tv,tV,vl,sI,lvl,_,_,nv⟩:=a.I.obj _ _ a.vals;obtain⟨pc,tc,oc⟩:=a.I.obj _ _ a.call;obtain⟨fe,ft,ofr⟩:=Ey a.fra;rw[O.run,O.call] at ofr;obtain⟨pf,tf,obf⟩:=a.I.obj _ _ ofr;have hl:∀i∈Cm tp vi fr,i<W.τ.length:=by rw[a.I.nτ];exact bF (by rw[O.n0];exact a.x9) (by rw[←a.I.nτ];exact(Ape.mp tv).1) (by rw[←a.I.nτ];exact(Ape.mp tf).1)
     have oQ:(Cm tp vi fr).Nodup:=QD (by rw[O.vals,O.n0];omega) (by rw[O.vals];omega) (by rw[O.vals,O.n0];exact a.hv) (by rw[O.n0];exact a.f19) a.fv;refine⟨A9,σ1,ρ1,t1,o1,t.2,vl,vc,Br,rel,bA,vC,sI,Th,hh,λσn R Kp hk hR=>?_⟩;have an:=a.Kp Kp;obtain⟨n',aY⟩:=rel.As;rw[O.cells] at tk;have IG:=aF he rel an.I (ee:=fe) (tt_:=ft) hρ l1 F hc hl oQ an.DP an.sp (pc:=pc) (pw:=pw) (pv:=pv) (pk:=pk) (pf:=pf) tc oc tw ew lw nw (ait:=_) rfl ht hs hq4 br tv tV (by simpa [Aq] using lvl) nv (by rw[sI.length];exact AqT a.lvf (by omega)) tk ek lk nk Th (by have:=a.u6;omega) tf obf (n:=n') aY;have KA:Ih (CW w h1 os) AX:=RW.ag;have G:IU (CW w h1 os) ⟨TD Jl,Zn Jl⟩ (m+3+30):=RW.rL (Mq RW m Jl);have H0:∀tag,(λt=>Ao9 t 0) tag=true->∀b sc et bx,Hook (CW w h1 os) ⟨TD Jl,Zn Jl⟩ (m+3+30) b sc tag et bx:=rU λ_ _=>rfl
     have sB:SB (CW w h1 os) ⟨TD Jl,Zn Jl⟩ (m+3+30) true KQ.scope yS Zu:=(RM KA G 38).2.1 _ _ _ _ jG;have sL:SL (CW w h1 os) ⟨TD Jl,Zn Jl⟩ (m+3+30) true KQ.scope yR Zv:=DV (DW KA G H0 38 true _) jH;have evG:A8 (CW w h1 os) A (Wg W tp vi fr ρ1 vr vl<|vc.drop A9.As.length++Br) KQ.scope ⟨A9.n0+1,[]⟩ env:=by obtain⟨p,tp1,el⟩:=ev.fr;rw[hE] at tp1;refine⟨ev.scope,ev.kind,ev.glob,ev.bi,⟨p,?_,el⟩,λx j nm q=>(nomatch q),ev.full,ev.around⟩;show(Cn W<|Cm tp vi fr)[A9.n0+1]?=some p;rw[rel.n0];exact BG (B5 (by rw[O.n0];omega)) (by rw[(Jx O).2];exact tp1)
     refine PX sB sL f 40 _ _ s R IG evG hn (λσ' W' s' q0 q1 X' I'=>hk σ' W' s' q0 q1 ⟨an.I,X',I',hl,hρ,a.v9,F.k⟩) λx s' P=>?_
     obtain⟨⟨j,D,ld,σp,W',p,g1,_,g2,g3,g4,_,g5,g6⟩,y,hy,tr⟩:=P;subst g4;cases hy;exact hR _ j D ld σp W' p s' g1 g2 g3 rfl tr ⟨an.I,g5,g6,hl,hρ,a.v9,F.k⟩
end
section
variable{w:Ao7}{h1:Apn}{os:Aqz}
variable{σ:St}{W:Wd}{s:Ao5}
variable{e:Int}{tp:Bm}{vi fr:Nat}{Dc:Int}{lv:List AV}
theorem iM(RW:AP (CW w h1 os) (KF w) tt Gj)(he:Gn tp e)(a:At w h1 os e tp σ W s vi fr Dc lv){m:Nat}{A:Apg}(f:CJ (m+3+30) true A){E:Bo}{env:Env}(ev:A8 (CW w h1 os) A W KQ.scope E env)(hE:E.fr=fr){q:Nat}{rest:List AV}
  {pw:Apc×Apc}(tw:W.τ[15]?=some pw)(ew:pw.2=pw.1){vr:List Ao3}{cv:Ao3}(lw:s.heap.IsList pw.1 (vr++ [cv]).toArray)(nw:Kq s.heap pw.1)(br:vr.length≤5000)(jM:AM (CW w h1 os) W s.heap rest.reverse vr)(rS:VR (CW w h1 os) W s.heap (.Ak [.str CP,.ED q]) cv)
  {k:K Unit}{ke:K AV}{R:Aru->Ao5->Prop}(h:Qy tp q vi fr rest lv Dc σ k ke=true)
  (hk:∀σ' W' s',k () σ'=true->Ext σ W s σ' W' s'->Inv (CW w h1 os) W' σ' s'->ApG (model (CW w h1 os).prog (CW w h1 os).w) A (.whileLoop Zu Zv [] env) R s')(hR:∀e s',BD (CW w h1 os) ke σ W s e s'->R (.error e) s'):
  ApG (model (CW w h1 os).prog (CW w h1 os).w) A (.whileLoop Zu Zv [] env) R s:=by
 have O:=he.tp;have nτ:19<W.τ.length:=by rw[a.I.nτ];exact a.x9
 have pl:∀i,i≤19->∃p,W.τ[i]?=some p:=λi hi=>⟨_,Apk (by omega)⟩
 obtain⟨p8,t8⟩:=pl 18 (by omega);obtain⟨p9,t9⟩:=pl 19 (by omega);obtain⟨pk,tk⟩:=pl 9 (by omega);obtain⟨pv,tv,_⟩:=a.I.obj _ _ a.vals;obtain⟨pc,tc,_⟩:=a.I.obj _ _ a.call;obtain⟨fe,ft,ofr⟩:=Ey a.fra;obtain⟨pf,tf,_⟩:=a.I.obj _ _ ofr;obtain⟨A9,σ1,ρ1,t1,o1,o,vl,vc,Br,rel,bA,vC,sI,Th,hh,run⟩:=a.run RW he f ev hE tw ew lw nw br rS;obtain⟨hA,hB⟩:=Ac h;cases o1 with
 |int l=>
  obtain⟨x,hx,rfl⟩:=vC;obtain⟨x',MQ,r1,r2⟩:=bA;have ex:x=x':=Apr ((show(Ap.k x).ev W.ρ=some x from Ap.CY _).symm.trans MQ);subst ex;obtain⟨σn,Kp,aW⟩:=ID a.I r1 hA;have an:=a.Kp Kp;refine run σn R Kp (λσ' W' s' q0 q1 B=>?_) λy j D ld σp W' p s' g1 _ _ _ _ _=>?_
  ·obtain⟨W2,I2,X2⟩:=ZY he rel B r2 hx jM sI Th hh an.DP an.sp tc tw tk tv tf t8 t9 (pl 16 (by omega)) q1 q0;exact hk _ W2 s' aW (Kp.ext.trans X2) I2
  ·exact absurd (show false=true from g1) ApV
 |str n=>
  have eo:o= .str n:=vC;subst eo;obtain⟨r1,r2⟩:=bA;obtain⟨σn,Kp,aW⟩:=ID a.I r1 hB;have an:=a.Kp Kp;obtain⟨ho,hke⟩:=Ac aW;have ho:=WG ho;refine run σn R Kp (λσ' W' s' q0 q1 B=>?_) λy j D ld σp W' p s' g1 g2 g3 g4 g5 B=>?_
  ·exact absurd (show false=true from q1) ApV
  ·obtain⟨W2,tj,I2,X2⟩:=ZX he rel B r2 (rest:=rest) (lv:=lv) Th hh an.DP an.sp tc tw tk tv tf t8 t9 (pl 16 (by omega)) (λi hi=>pl i (by omega)) g1 g2 g3;obtain⟨I3,X3⟩:=I2.after ho;subst g4;refine hR _ _ ⟨⟨σn.n+1,114,some σn.n,_,W2,p,hke,?_,ho,tj,rfl,.inr g5,Kp.ext.trans<|X2.trans X3,I3⟩,_,rfl,g5⟩;show σ.Bq≤σn.Bq+1;rw[Kp.2.2.1];omega
 |_=>exact vC.elim
end
section
variable{w:Ao7}{h1:Apn}{os:Aqz}
variable{σ:St}{W:Wd}{s:Ao5}
variable{e:Int}{tp:Bm}{vi fr:Nat}{Dc:Int}{lv:List AV}
inductive NG(v:AV):Top->Prop
 |ED {q:Nat}:v= .Ak [.str CP,.ED q]->NG v (.ED q)
 |sel {a:Nat} {c:AV} {q:Nat}:v= .Ak [.str CP,.sel a [c,.ED q]]->NG v (.sel a c q)
theorem Mm{α:Type}{b:Bool}{x r:α}(h:bt b (some x) none=some r):b=true∧x=r:=by
 cases b with
 |true=>cases h;exact⟨rfl,rfl⟩
 |false=>cases h
theorem YV{t:Top}(h:Te v=some t):NG v t:=by
 unfold Te at h;split at h
 ·obtain⟨a,rfl⟩:=Mm h;rw[Ao6 a];exact .ED rfl
 ·obtain⟨a,rfl⟩:=Mm h;rw[Ao6 a];exact .sel rfl
 ·cases h
structure mO(tp:Bm)(σ:St)(fr:Nat)(t:Top)(vi:Nat)(rest lv:List AV)(Dc:Int):Prop where
 call:σ.obj tp.call=some (.inst 385<|BM tp.Bz Bd<|.obj vi)
 work:∃v,σ.obj tp.work=some (.list none (rest.reverse++ [v]) none)∧NG v t∧(rest.reverse++ [v]).length≤4000
 vals:σ.obj vi=some (.list none lv none)
 hdn:hidden tp σ=some Dc
 n:tp.n0+1<σ.n
 f:tp.n0+1<fr
 fv:fr≠vi
 hv:vi=tp.vals∨tp.n0+1<vi
 hb:Dc≤1000
 lvf:lv.length≤4000
 canon:canon tp σ=true
 DP:CU ((0,.AE [])::tp.objs) σ=true
theorem Qz{items:List AV}{t:Top}{r:List AV}(h:MN items=some (t,r)):∃v,items=r.reverse++ [v]∧NG v t:=by
 unfold MN at h;split at h
 ·rename_i v r' er;cases ht:Te v with
  |none=>rw[ht] at h;cases h
  |some t'=>rw[ht] at h;have h:some (t',r')=some (t,r):=h;cases h;refine⟨v,?_,YV ht⟩;have:=congrArg List.reverse er;rw[List.reverse_reverse,List.reverse_cons] at this;exact this
 ·cases h
theorem TP{t:Top}{rest:List AV}(h:hookAt tp σ fr=some (t,vi,rest,lv,Dc)):mO tp σ fr t vi rest lv Dc:=by
 unfold hookAt at h;split at h
 ·rename_i C a ec;split at h
  ·rename_i vi' ev;split at h
   ·rename_i items lv' ew el;split at h
    ·rename_i q r Ajq eq eh;obtain⟨hb,hx⟩:=Mm h;obtain⟨h1,h2⟩:=Ac hb;obtain⟨c1,h3⟩:=Ac h1;obtain⟨h3,c4⟩:=Ac h3;obtain⟨c2,c3⟩:=Ac h3;obtain⟨d1,h2⟩:=Ac h2;obtain⟨d2,h2⟩:=Ac h2;obtain⟨d3,h2⟩:=Ac h2;obtain⟨d4,h2⟩:=Ac h2;obtain⟨d5,h2⟩:=Ac h2;obtain⟨d6,d7⟩:=Ac h2;cases hx;rw[Ao6 d1,BN (λa b q=>Gx q) d2] at ec;obtain⟨v,ei,ht⟩:=Qz eq;rw[ei] at ew;refine⟨ec,⟨v,ew,ht,ei▸A5 d4⟩,el,eh,by simpa using c1,by simpa using c2,λz=>?_,?_,B1 d3,A5 d5,d6,d7⟩
     ·subst z;rw[show Ao9 fr fr=true from ArD fr] at c3;cases c3
     ·cases q:Ao9 vi tp.vals with
      |true=>exact .inl (Ao6 q)
      |false=>rw[q] at c4;exact .inr (by simpa using(show Aq0 (tp.n0+1) vi=true from c4))
    ·cases h
   ·cases h
  ·cases h
 ·cases h
theorem a8(RW:AP (CW w h1 os) (KF w) tt Gj)(he:Gn tp e){m fI:Nat}{cl:CL}:Hook (CW w h1 os) ⟨T1 tp fI,cl⟩ (m+3+30) true KQ.scope 1 Zu Zv:=by
 intro A σ W s E env r k ke R f I ev h hr hk hR;have O:=he.tp;have h:bt (both (Ao9 1 1)<|isFrame tp<|σ.obj E.fr) (OR none (λp=>some λk ke=>MM tp p.1 p.2.1 E.fr p.2.2.1 p.2.2.2.1 p.2.2.2.2 σ k ke)<|hookAt tp σ E.fr) none=some r:=h;cases hb:both (Ao9 1 1) (isFrame tp<|σ.obj E.fr) with
 |false=>rw[hb] at h;cases h
 |true=>
  rw[hb] at h;cases hp:hookAt tp σ E.fr with
  |none=>rw[hp] at h;cases h
  |some p=>
   rw[hp] at h;obtain⟨t,vi,rest,lv,Dc⟩:=p;have h:some (λ(k:K Unit) (ke:K AV)=>MM tp t vi E.fr rest lv Dc σ k ke)=some r:=h;cases h;have hr:MM tp t vi E.fr rest lv Dc σ k ke=true:=hr;have H:=TP hp;obtain⟨v,hw,ht,hf⟩:=H.work;have hs:=DQ H.DP;have a:At w h1 os e tp σ W s vi E.fr Dc lv:=⟨I,Iy I he H.canon,(ER I H.canon).1,λp hp=>hs p (ApO _ hp),hs _<|ApN _,by have:=H.n;rw[O.n0] at this;exact this,by have:=H.f;rw[O.n0] at this;exact this,H.fv,by have:=H.hv;rw[O.n0,O.vals] at this;exact this,by have:=H.call;rw[O.call] at this;exact this,H.vals,H.lvf,TM I H.hdn,H.hb,(Ac hb).2⟩;obtain⟨pw,tw,ew,vs,vvs,lw,_,_,nw⟩:=I.obj _ _ hw;obtain⟨vr,cv,rfl,jM,rS⟩:=AM.snoc vvs;have lw:s.heap.IsList pw.1 (vr++ [cv]).toArray:=by simpa [Aq] using lw
   have br:vr.length≤5000:=by rw[jM.length];rw[Apd] at hf;omega
   have qX:=tw;rw[O.work] at qX;cases ht with
   |ED tV=>subst tV;exact iM RW he a f ev rfl qX ew lw nw br jM rS hr hk hR
   | @sel aa c q tV=>
    subst tV;obtain⟨hA,hB⟩:=Ac hr;cases rS with
    |Ak ht Ww=>cases Ww with
     |cons Wt Ww=>cases Ww with
      |cons ho Ww=>
       cases Ww;cases ho with
       | @sel _ _ j v' _ r1 r2 r3=>
        match j,r2 with
        |0,r2=>cases r2;obtain⟨σn,Kp,aW⟩:=ID I (show W.ρ[aa]?=some 0 from r1) hA;obtain⟨I2,X2⟩:=Kp.1.put (i:=tp.work) (o:=.list none (rest.reverse++ [.Ak [.str CP,c]]) none) tw (λb x _ _ e=>e) (λ_=>⟨ew,vr++_,jM.app (.cons (.Ak ht (.cons Wt (.cons r3 .nil))) .nil),by simpa [Aq] using lw,trivial,trivial,nw⟩) (I.live pw (get_mem tw)).1 (I.live pw (get_mem tw)).2 (λa _ x e q=>⟨x,e,q⟩) rfl rfl;exact hk _ _ _ aW (Kp.ext.trans X2) I2
        |1,r2=>cases r2;obtain⟨σn,Kp,aW⟩:=ID I (show W.ρ[aa]?=some 1 from r1) hB;exact iM RW he (a.Kp Kp) f ev rfl qX ew lw nw br jM (.Ak ht (.cons Wt (.cons r3 .nil))) aW (λσ' W' s' q1 q2 q3=>hk σ' W' s' q1 (Kp.ext.trans q2) q3) λx s' P=>hR x s' (P.base Kp.ext)
        |_+2,r2=>cases r2
end
section
variable{w:Ao7}{h1:Apn}{os:Aqz}
variable{e:Int}{tp:Bm}
theorem vY(w:Ao7):keepIn (KF w) (.ref 2028)=true:=by kernel_rfl
theorem vX(w:Ao7):keepIn (KF w) (.ref 2014)=true:=by kernel_rfl
inductive Mf(tp:Bm)(a:Nat)(vs:List AV)(σ:St)(k:K AV)(r:Bool):Prop
 |dr:a=1967->Ka vs σ k=r->Mf tp a vs σ k r
 |num:a=2028->Kb tp vs σ k=r->Mf tp a vs σ k r
 |Af:a=2014->FE tp vs σ k=r->Mf tp a vs σ k r
theorem S8{a:Nat}{k:K AV}{r:Bool}(h:eD tp a vs σ k=some r):Mf tp a vs σ k r:=by
 unfold eD at h;cases q1:Ao9 a 1967 with
 |true=>rw[q1] at h;exact .dr (Ao6 q1) (Apr h)
 |false=>
  rw[q1] at h;have h:bt (Ao9 a 2028) (some<|Kb tp vs σ k) (bt (Ao9 a 2014) (some<|FE tp vs σ k) none)=some r:=h;cases q2:Ao9 a 2028 with
  |true=>rw[q2] at h;exact .num (Ao6 q2) (Apr h)
  |false=>rw[q2] at h;have h:bt (Ao9 a 2014) (some (FE tp vs σ k)) none=some r:=h;obtain⟨q3,q4⟩:=Ml h;exact .Af (Ao6 q3) q4
theorem eE(RW:AP (CW w h1 os) (KF w) tt Gj)(he:Gn tp e)(NK:FL tp){m fI n:Nat}(hn:m+3+30≤n):FN (CW w h1 os) (T1 tp fI) n:=λA σ W s a vs cvs k ke f I ar hv h=>by
 cases S8 (show eD tp a vs σ k=some true from h) with
 |dr e1 e2=>subst e1;exact N4 RW (m:=m) (f.le (by omega)) I ar hv e2
 |num e1 e2=>subst e1;exact Ug RW he NK (f.le hn) I ar hv e2
 |Af e1 e2=>subst e1;exact cG RW he NK (f.le hn) I ar hv e2
theorem nE(RW:AP (CW w h1 os) (KF w) tt Gj)(he:Gn tp e)(NK:FL tp)(m fI:Nat):Cp (CW w h1 os) (m+3+30+20) (Qf (T1 tp fI) Ex.get 20):=
 Ef RW.ok (m+3+30) (RW.call (MF RW (λE σ=>rfl) λn cl hn ok=>by
  obtain⟨d,rfl⟩:=Nat.exists_eq_add_of_le hn;have:=a8 RW he (m:=m+d) (fI:=fI) (cl:=cl);rw[show m+d+3+30=m+3+30+d from by omega] at this;exact this) λa vs σ k r h=>by
   cases S8 h with
   |dr e1 _=>subst e1;exact i5 w
   |num e1 _=>subst e1;exact vY w
   |Af e1 _=>subst e1;exact vX w) (S6 RW.sys) (λi=>eE RW he NK (m:=m) (by omega)) 20
end
section
variable{C:Cx}
structure Jn(W Wc:Wd)(f:List Nat)(g:List Ap)(h:Apn):Prop where
 τ:∀(i j:Nat) (p:Apc×Apc),f[i]?=some j->W.τ[j]?=some p->Wc.τ[i]?=some p
 ρ:∀(a:Nat) (l:Ap) (x:Int),g[a]?=some l->l.ev W.ρ=some x->Wc.ρ[a]?=some x
 ev:∀l∈g,∃x,l.ev W.ρ=some x
 Ak:Bb W Wc h h
 inj:f.Nodup
section
variable{W Wc:Wd}{f:List Nat}{g:List Ap}{h:Apn}
theorem LU(J:Jn W Wc f g h):∀{t:List (Nat×Int)} {l:Ap},Nj g t=some l->∃x,l.ev W.ρ=some x∧CN Wc.ρ t=some x
 | [],l,e=>by cases e;exact⟨0,rfl,rfl⟩
 |(a,k)::r,l,e=>by
  unfold Nj at e;split at e
  ·rename_i l1 m e1 e2;cases e;rw[AA] at e1;obtain⟨x,hx⟩:=J.ev l1 (AqC e1);obtain⟨y,hy,hz⟩:=LU J e2;refine⟨k*x+y,Ap.MC (Ap.Qo hx) hy,?_⟩;simp only[CN,J.ρ a l1 x e1 hx,hz]
  ·cases e
theorem LS(J:Jn W Wc f g h){z:Ap}(e:Ni g m=some z):∃x,z.ev W.ρ=some x∧m.ev Wc.ρ=some x:=by
 unfold Ni at e;split at e
 ·rename_i l el;cases e;obtain⟨x,hx,hy⟩:=LU J el;refine⟨m.c+x,?_,Ap.Bp.mpr ⟨x,hy,rfl⟩⟩;obtain⟨y,h1,h2⟩:=Ap.Bp.mp hx;exact Ap.Bp.mpr ⟨y,h1,by show m.c+x=Int.add m.c l.c+y;rw[h2];show m.c+(l.c+y)=(m.c+l.c)+y;omega⟩
 ·cases e
theorem AM.BV{fw:AV->AV->Bool}(ih:∀v w cv,fw v w=true->VR C W h v cv->VR C Wc h w cv):∀{l m:List AV} {vs:List Ao3},Mine.BV fw l m=true->AM C W h l vs->AM C Wc h m vs
 | [],[],_,_,.nil=>.nil
 |a::l,b::m,_,e,.cons x r=>by
  unfold Mine.BV at e;split at e
  ·exact .cons (ih _ _ _ (by assumption) x) (AM.BV ih e r)
  ·cases e
 | [],_::_,_,e,_=>by cases e
 |_::_,[],_,e,_=>by cases e
theorem Kl(J:Jn W Wc f g h):∀(d:Nat) (v w:AV) (cv:Ao3),eP f g d v w=true->VR C W h v cv->VR C Wc h w cv
 |0,_,_,_,e,_=>by cases e
 |d+1,v,w,cv,e,r=>by
  unfold eP at e;split at e
  ·exact .any
  ·rename_i a ws _;split at e
   ·rename_i j ej;split at e
    ·rename_i u eu;rw[AA] at ej eu;obtain⟨x,hx⟩:=J.ev _ (AqC ej);have:=Ap.FH rfl hx;subst this;exact .sel (J.ρ _ _ _ ej hx) eu (Kl J d _ _ _ e r)
    ·cases e
   ·cases e
  ·cases r;exact .A4
  ·cases r;rw[←beq_iff_eq.mp e];exact .bool
  ·split at e
   ·rename_i z ez;obtain⟨x,hx,hy⟩:=LS J ez;rw[Ap.eq_iff e] at hx;cases r with
    |int q=>rw[hx] at q;cases q;exact .int hy
   ·cases e
  ·rw[←Ao6 e];exact r.str_inv
  ·rw[←Ee e];exact r.RY
  ·obtain⟨a,vs,rfl,ht,vv⟩:=r.FF;exact .Ak (J.Ak _ _ ht) (AM.BV (λv w cv=>Kl J d v w cv) e vv)
  ·split at e
   ·rename_i j' ej;rw[AA] at ej;rw[←Ao6 e] at ej;cases r with
    |obj q=>exact .obj (J.τ _ _ _ ej q)
   ·cases e
  ·rw[←Oc e];cases r;exact .Au
  ·cases e
theorem Nv:∀{l m:List (Nm×AV)},Mine.BV (wkN f g) l m=true->∀x,(∀w,A2 m x=some w->∃v,A2 l x=some v∧eP f g 12 v w=true)∧(∀v,A2 l x=some v->∃w,A2 m x=some w)
 | [],[],_,x=>⟨λw q=>(by cases q),λv q=>(by cases q)⟩
 |a::l,b::m,e,x=>by
  unfold Mine.BV at e;split at e
  ·rename_i q;obtain⟨q1,q2⟩:=Ac q;have q1:=Ao6 q1;obtain⟨i1,i2⟩:=Nv e x;obtain⟨a1,a2⟩:=a;obtain⟨b1,b2⟩:=b;dsimp only at q1 q2;subst q1;simp only[BE];by_cases hx:x=a1
   ·rw[if_pos hx,if_pos hx];exact⟨λw q=>(by cases q;exact⟨_,rfl,q2⟩),λv q=>⟨_,rfl⟩⟩
   ·rw[if_neg hx,if_neg hx];exact⟨i1,i2⟩
  ·cases e
 | [],_::_,e,_=>by cases e
 |_::_,[],e,_=>by cases e
theorem Oa{α:Type}{fw:α->α->Bool}:∀{l m:List α},Mine.BV fw l m=true->l.length=m.length
 | [],[],_=>rfl
 |a::l,b::m,e=>by
  unfold Mine.BV at e;split at e
  ·rw[ApD,ApD,Oa e]
  ·cases e
 | [],_::_,e=>by cases e
 |_::_,[],e=>by cases e
theorem EJ.join(J:Jn W Wc f g h){l:List (Nm×AV)}{μ}(e:Mine.BV (wkN f g) l m=true)(N:EJ C W h l μ):EJ C Wc h m μ:=by
 refine⟨λx w hw=>?_,λnm cv hm=>?_⟩
 ·obtain⟨v,hv,q⟩:=(Nv e x).1 w hw;obtain⟨nm,cv,a1,a2,a3⟩:=N.1 x v hv;exact⟨nm,cv,a1,a2,Kl J 12 v w cv q a3⟩
 ·obtain⟨x,v,a1,a2⟩:=N.2 nm cv hm;obtain⟨w,hw⟩:=(Nv e x).2 v a2;exact⟨x,w,a1,hw⟩
theorem Gp.join(J:Jn W Wc f g h):∀{l m:List (AV×AV)} {Ci},Mine.BV (wkD f g) l m=true->Gp C W h l Ci->Gp C Wc h m Ci
 | [],[],_,_,.nil=>.nil
 |(k,v)::l,(k',v')::m,_,e,.cons a b r=>by
  unfold Mine.BV at e;split at e
  ·rename_i q;obtain⟨q1,q⟩:=Ac q;obtain⟨q2,q3⟩:=Ac q;refine .cons ?_ (Kl J 12 _ _ _ q3 b)<|Gp.join J e r;unfold keyOk at q1;split at q1
   ·rename_i n en;dsimp only at en q2;subst en;cases a with
    |str es=>rw[Ao6 (show Ao9 _ n=true from q2)] at es;exact .str es
    |int es=>cases q2
   ·rename_i n en;dsimp only at en q2;subst en;cases a with
    |str es=>cases q2
    | @int l0 i es=>
     have q2:(match Ni g n with |some z=>Ap.eq z l0 |none=>false)=true:=q2;split at q2
     ·rename_i z ez;obtain⟨x,hx,hy⟩:=LS J ez;rw[Ap.eq_iff q2,es] at hx;cases hx;exact .int hy
     ·cases q2
   ·cases q1
  ·cases e
 | [],_::_,_,e,_=>by cases e
 |_::_,[],_,e,_=>by cases e
theorem rC(J:Jn W Wc f g h)(e:sJ f g a b=true)(O:Ob C W h p a):Ob C Wc h p b:=by
 unfold sJ at e;split at e
 ·trivial
 ·obtain⟨ep,vs,v,il,_,_,nd⟩:=O;exact⟨ep,vs,AM.BV (λv w cv=>Kl J 12 v w cv) e v,il,trivial,trivial,nd⟩
 ·obtain⟨ep,Ci,v,r⟩:=O;exact⟨ep,Ci,v,r.join J e⟩
 ·obtain⟨e1,e2⟩:=Ac e;have e1:=Ao6 e1;subst e1;obtain⟨o,es,n,sl,h1,h2,h3,N⟩:=O;exact⟨o,es,n,sl,h1,h2,by rw[←Oa e2];exact h3,N.join J e2⟩
 ·obtain⟨ep,m,a,N⟩:=O;exact⟨ep,m,a,N.join J e⟩
 ·cases e
end
end
theorem FX:∀{l:List Nat},Gd l=true->l.Nodup
 | [],_=>AqY
 |a::l,h=>by
  obtain⟨h1,h2⟩:=Ac h;refine Aqx.mpr ⟨λm=>?_,FX h2⟩;have:∀{l:List Nat},a∈l->isIn a l=true:=by
   intro l
   induction l with
   |nil=>intro m;cases m
   |cons b l ih=>
    intro m;unfold isIn;split
    ·rfl
    ·rename_i q;rcases Apf.mp m with rfl |m
     ·rw[ArD] at q;cases q
     ·exact ih m
  rw[this m] at h1;cases h1
theorem NJ{n:Nat}:∀{l:List Nat},UM n l=true->∀i∈l,i<n
 | [],_,i,m=>by cases m
 |a::l,h,i,m=>by
  obtain⟨h1,h2⟩:=Ac h;rcases Apf.mp m with rfl |m
  ·simpa using h1
  ·exact NJ h2 i m
theorem Wa:∀{g:List Ap} {rs:List DB},gRg g rs σ=true->g.length=rs.length∧∀(a:Nat) (l:Ap) (r:DB),g[a]?=some l->rs[a]?=some r->PO (l.range σ) r=true
 | [],[],_=>⟨rfl,λa l r q=>(by cases q)⟩
 |l::g,r::rs,h=>by
  unfold gRg at h;obtain⟨h1,h2⟩:=Ac h;obtain⟨i1,i2⟩:=Wa h2;refine⟨by rw[ApD,ApD,i1],λa l' r' q1 q2=>?_⟩;cases a with
  |zero=>cases q1;cases q2;exact h1
  |succ a=>exact i2 a l' r' (by simpa using q1) (by simpa using q2)
 | [],_::_,h=>by cases h
 |_::_,[],h=>by cases h
theorem Od{ρ:List Int}:∀{t:List (Nat×Int)},UT ρ.length t=true->∃x,CN ρ t=some x
 | [],_=>⟨0,rfl⟩
 |(a,k)::r,h=>by
  unfold UT at h;split at h
  ·rename_i q;have q:a<ρ.length:=by simpa using q
   obtain⟨y,hy⟩:=Od h;exact⟨k*ρ[a]+y,by simp only[CN,Apk q,hy]⟩
  ·cases h
theorem Z5{ρ:List Int}{l:Ap}(h:UT ρ.length l.t=true):∃x,l.ev ρ=some x:=by obtain⟨y,hy⟩:=Od h;exact⟨_,Ap.Bp.mpr ⟨y,hy,rfl⟩⟩
def gv(ρ:List Int)(g:List Ap):List Int:=g.map λl=>(l.ev ρ).getD 0
theorem iN{g:List Ap}{a:Nat}{l:Ap}{x:Int}(hg:g[a]?=some l)(hx:l.ev ρ=some x):(gv ρ g)[a]?=some x:=by unfold gv;rw[List.getElem?_map,hg,AqN,hx];rfl
abbrev Wj(W:Wd)(f:List Nat)(g:List Ap)(ex:List Int):Wd:=⟨gv W.ρ g++ex,Cn W f,W.q,W.ls,W.fs,Ik W⟩
theorem XP{er:DB}:∀{a:Nat} {r:DB},(En er).reverse[a]?=some r->BB (En er) (10-a)=r
 |0,_,h=>by cases h;rfl
 |1,_,h=>by cases h;rfl
 |2,_,h=>by cases h;rfl
 |3,_,h=>by cases h;rfl
 |4,_,h=>by cases h;rfl
 |5,_,h=>by cases h;rfl
 |6,_,h=>by cases h;rfl
 |7,_,h=>by cases h;rfl
 |8,_,h=>by cases h;rfl
 |9,_,h=>by cases h;rfl
 |10,_,h=>by cases h;rfl
 |_+11,_,h=>by cases h
section
variable{w:Ao7}{h1:Apn}{os:Aqz}
variable{A:Apg}{σ:St}{W:Wd}{s:Ao5}
theorem RH{f:List Nat}{σ:St}:∀{l:List (Nat×AO)},LR true (λp _ ih=>both (match Bs f p.1 with |some j=>(match σ.obj j with |some o=>sJ f g o p.2 |none=>false)|none=>false) ih) l=true->∀p∈l,∃j o,f[p.1]?=some j∧σ.obj j=some o∧sJ f g o p.2=true
 | [],_,p,hp=>by cases hp
 |q::l,h,p,hp=>by
  have h:both (match Bs f q.1 with |some j=>(match σ.obj j with |some o=>sJ f g o q.2 |none=>false)|none=>false) (LR true _ l)=true:=h;obtain⟨h1,h2⟩:=Ac h;rcases Apf.mp hp with rfl |hp
  ·split at h1
   ·rename_i j ej;split at h1
    ·rename_i o eo;rw[AA] at ej;exact⟨j,o,ej,eo,h1⟩
    ·cases h1
   ·cases h1
  ·exact RH h2 p hp
theorem WJ{C:Cx}{tp:Bm}{f:List Nat}{g:List Ap}(I:Inv C W σ s)(aZ:tp.n0=18)(hj:MU tp f σ g=true)(hb:∀l∈g,UT σ.k l.t=true){p0:Apc×Apc}{x y:Int}{t u:Nat}(hp:W.τ[0]?=some p0)(ep:p0.2=p0.1)(il:s.heap.IsList p0.1 #[.int x t,.int y u])(so:Ij x y)(nd:Kq s.heap p0.1)
  {ex:List Int}{rg:List DB}{fut:List (Int×Nat)}(hl:rg.length=ex.length)(hr:∀i z,ex[i]?=some z->inR (BB rg<|ex.length-1-i) z)(hf:∀ρ:List Int,(∀i z,ex[i]?=some z->ρ[11+i]?=some z)->BU ρ x y fut):
  Inv C (Wj W f g ex) (Rn tp fut rg) s∧(∀p∈(Wj W f g ex).τ,p∈W.τ)∧(Cn W f)[0]?=some p0∧f[1]?=some 1:=by
 unfold MU at hj;obtain⟨j1,j2⟩:=Ac hj;obtain⟨a1,j1⟩:=Ac j1;obtain⟨a2,j1⟩:=Ac j1;obtain⟨a3,a4⟩:=Ac j1;obtain⟨b1,b2⟩:=Ac j2;have fl:f.length=19:=by rw[Ao6 a1,aZ]
 have fnd:=FX a2;have flt:∀i∈f,i<W.τ.length:=λi hi=>by rw[I.nτ];exact NJ a3 i hi
 obtain⟨g1,g2⟩:=Wa b1;have gl:g.length=11:=g1;have f01:f[0]?=some 0∧f[1]?=some 1:=by
  split at a4
  ·exact⟨rfl,rfl⟩
  ·cases a4
 have rY:(gv W.ρ g).length=11:=by unfold gv;rw[Ap2,gl]
 have evg:∀l∈g,∃x,l.ev W.ρ=some x:=λl hl=>Z5 (by rw[I.kρ];exact hb l hl)
 have J:Jn W (Wj W f g ex) f g s.heap:=⟨λi j p hi hjp=>BG hi hjp,λa l x hg hx=>Ah (Aps _ _) (iN hg hx),evg,λa items q=>⟨λ⟨r,hr,e⟩=>q.un ⟨r,El flt r hr,e⟩,Q5 q,q.Ak,q.nd⟩,fnd⟩;refine⟨I.pick (El flt) (JV I fnd flt) ?_ ?_ ?_ (λa x hx=>?_) (λp hp=>nomatch hp) (λp hp=>nomatch hp) I.Ik λi o ho=>?_,El flt,BG f01.1 hp,f01.2⟩
 ·show(Cn W f).length=tp.n0+1;unfold Cn;rw[Ap2,fl,aZ]
 ·show(gv W.ρ g++ex).length=11+rg.length;rw[Apd,rY,hl]
 ·show(rg++En tp.er).length=11+rg.length;rw[Apd,Nat.add_comm];rfl
 ·show inR (BB (rg++En tp.er)<|11+rg.length-1-a) x;have hx:(gv W.ρ g++ex)[a]?=some x:=hx;by_cases ha:a<11
  ·rw[Apz (by rw[rY];exact ha)] at hx;rw[Ro (by omega),show 11+rg.length-1-a-rg.length=10-a from by omega];have hg:=Apk (l:=g) (i:=a) (by omega);obtain⟨z,hz⟩:=evg _ (AqC hg);rw[iN hg hz] at hx;cases hx;have hrv:a<(En tp.er).reverse.length:=by rw[←g1];omega
   have hr2:=Apk hrv;have:=g2 a _ _ hg hr2;rw[XP hr2];exact PQ this (Dt I.Bi hz)
  ·rw[Apo (by rw[rY];omega),rY] at hx;have hxl:=(Ape.mp hx).1;have q:=hr _ _ hx;have e1:BB (rg++En tp.er) (11+rg.length-1-a)=BB rg (11+rg.length-1-a):=by
    unfold BB;rw[AA,AA,Apz (by omega)]
   rw[e1,show 11+rg.length-1-a=ex.length-1-(a-11) from by omega];exact q
 ·have ho:(EF ((0,.AE fut)::Xv tp)<|NZ<|tp.n0+1).get i=some o:=ho;rcases Dv ho with hm |⟨hd,_⟩
  ·rcases Apf.mp hm with q |hm
   ·obtain⟨rfl,rfl⟩:=ApK q;refine⟨p0,BG f01.1 hp,ep,x,y,t,u,il,so,hf _ λi z hz=>?_,nd⟩;show(gv W.ρ g++ex)[11+i]?=some z;rw[Apo (by rw[rY];omega),rY,show 11+i-11=i from by omega];exact hz
   ·obtain⟨j,o',h1,h2,h3⟩:=RH b2 _ hm;obtain⟨p,BK,vD⟩:=I.obj j o' h2;exact⟨p,BG h1 BK,rC J h3 vD⟩
  ·obtain⟨rfl,P0⟩:=Hn hd;have:i<(Cn W f).length:=by
    unfold Cn;rw[Ap2,fl];rw[aZ] at P0;exact P0
   exact⟨_,Apk this,trivial⟩
end
def Km:Int->Int->List Int->List Int
 |_,_,[]=>[] |x,y,m::r=>(AS x y m).1::Km (AS x y m).2.1 (AS x y m).2.2 r
def Ju:Nat->List Int->List (Int×Nat)
 |_,[]=>[] |k,m::r=>(m,k)::Ju (k+1) r
theorem V9{ρ:List Int}:∀{ms:List Int} {x y:Int} {k:Nat},(∀m∈ms,0<m)->(∀i z,(Km x y ms)[i]?=some z->ρ[k+i]?=some z)->BU ρ x y (Ju k ms)
 | [],_,_,_,_,_=>trivial
 |m::r,x,y,k,hm,h=>by
  refine(BU.cons<|hm m<|.head _).mpr ⟨h 0 _ rfl,V9 (λm q=>hm m (.tail _ q)) λi z q=>?_⟩;have:=h (i+1) z q
  rwa [show k+(i+1)=k+1+i from by omega] at this
theorem Jm:∀{ms:List Int} {x y:Int},Ij x y->(∀m∈ms,0<m)->∀(i:Nat) (m z:Int),ms[i]?=some m->(Km x y ms)[i]?=some z->0≤z∧z<m
 | [],_,_,_,_,i,m,z,e,_=>by cases e
 |m'::r,x,y,so,hm,i,m,z,e,q=>by
  have d:=DH (hm m'<|.head _) so;cases i with
  |zero=>cases e;cases q;exact d.2
  |succ i=>exact Jm d.1 (λm q=>hm m (.tail _ q)) i m z e q
theorem De:∀{ms:List Int} {x y:Int},(Km x y ms).length=ms.length
 | [],_,_=>rfl |_::r,_,_=>congrArg ArI De
def cL:List Int:=[5,3,12,5,3,12,8,10]
def cM:List Int:=[5,3,12,5,3,12,8,5,3,5,3,2,2,6]
theorem aC:Dw=Ju 11 cL:=rfl
theorem aD:GA=Ju 11 cM:=rfl
theorem pQ:∀m∈cL,0<m:=by decide
theorem pR:∀m∈cM,0<m:=by decide
theorem BH{m z:Int}(h:0≤z∧z<m):inR (R0 m) z:=XO h.1 h.2
theorem qC{x y:Int}(so:Ij x y){f:Nat}(h6:∀z,(Km x y cL)[6]?=some z->z<5)(h7:(Km x y cL)[7]?=some (Api f)):∀i z,(Km x y cL)[i]?=some z->inR (BB (Du f)<|(Km x y cL).length-1-i) z:=λi z hz=>by
 have b:=Jm so pQ i;rw[De]
 match i,hz with
 |0,hz=>exact BH (b 5 z rfl hz)
 |1,hz=>exact BH (b 3 z rfl hz)
 |2,hz=>exact BH (b 12 z rfl hz)
 |3,hz=>exact BH (b 5 z rfl hz)
 |4,hz=>exact BH (b 3 z rfl hz)
 |5,hz=>exact BH (b 12 z rfl hz)
 |6,hz=>exact BH (m:=5) ⟨(b 8 z rfl hz).1,h6 z hz⟩
 |7,hz=>rw[h7] at hz;cases hz;exact O8
 |i+8,hz=>have:=(Ape.mp hz).1;rw[De] at this;exact absurd this (by show¬(i+8<8);omega)
theorem qD{x y:Int}(so:Ij x y){f:Nat}(h6:∀z,(Km x y cM)[6]?=some z->5≤z)(h7:(Km x y cM)[13]?=some (Api f)):∀i z,(Km x y cM)[i]?=some z->inR (BB (Gh f)<|(Km x y cM).length-1-i) z:=λi z hz=>by
 have b:=Jm so pR i;rw[De]
 match i,hz with
 |0,hz=>exact BH (b 5 z rfl hz)
 |1,hz=>exact BH (b 3 z rfl hz)
 |2,hz=>exact BH (b 12 z rfl hz)
 |3,hz=>exact BH (b 5 z rfl hz)
 |4,hz=>exact BH (b 3 z rfl hz)
 |5,hz=>exact BH (b 12 z rfl hz)
 |6,hz=>have:=(b 8 z rfl hz).2;have:=h6 z hz;exact⟨λa e=>by cases e;omega,λa e=>by cases e;omega⟩
 |7,hz=>exact BH (b 5 z rfl hz)
 |8,hz=>exact BH (b 3 z rfl hz)
 |9,hz=>exact BH (b 5 z rfl hz)
 |10,hz=>exact BH (b 3 z rfl hz)
 |11,hz=>exact BH (b 2 z rfl hz)
 |12,hz=>exact BH (b 2 z rfl hz)
 |13,hz=>rw[h7] at hz;cases hz;exact O8
 |i+14,hz=>have:=(Ape.mp hz).1;rw[De] at this;exact absurd this (by show¬(i+14<14);omega)
def WI(σ:St):St:=match σ with
 |⟨n,_,k,Bi,neg,Ca,Bq,low⟩=>⟨n,.Ae (some (.AE [])) .nil .nil,k,Bi,neg,Ca,Bq+1,low⟩
def gBd(σ:St):Bool:=match σ.obj 1 with
 |some (.frame ((_,_)::(_,h)::_))=>(match gOf h with |some g=>LR true (λl _ ih=>both (UT σ.k l.t) ih) g |none=>false) |_=>false
def vQ(E:Bo):Bool:=both (Ao9 E.fr 1) (match E.cells with | []=>true |_=>false)
def rJ:Cs:=λX E σ k ke=>both (vQ E) (both (Sv BC BY fSs .next σ) (both (gBd σ) (k (.ret (.bool true)) (WI σ))))
theorem RG{α:Type}{f:α->Bool}:∀{l:List α},LR true (λp _ ih=>both (f p) ih) l=true->∀p∈l,f p=true
 | [],_,p,hp=>by cases hp
 |q::l,h,p,hp=>by
  have h:both (f q) (LR true (λp _ ih=>both (f p) ih) l)=true:=h;obtain⟨h1,h2⟩:=Ac h;rcases Apf.mp hp with rfl |hp
  ·exact h1
  ·exact RG h2 p hp
inductive UH(σ:St):Prop
 |mk (tp:Bm) (e:Int) (f:List Nat) (g:List Ap):Gn tp e->MU tp f σ g=true->(∀l∈g,UT σ.k l.t=true)->σ.obj 0=some (.AE [])->UH σ
theorem TV(h:Sv BC BY fSs .next σ=true)(hb:gBd σ=true):UH σ:=by
 unfold Sv at h;dsimp only at h;split at h
 ·rename_i x1 hh x2 h0 h1;unfold gBd at hb;rw[h1] at hb;dsimp only at hb;split at h
  ·rename_i g hg;rw[hg] at hb;dsimp only at hb;have hb:=RG hb;split at h
   ·rename_i e he;split at h
    ·rename_i f hf
     match e,hf with
     |0,hf=>exact .mk BC 0 f g (.inl ⟨rfl,rfl⟩) h hb h0
     |1,hf=>exact .mk BY 1 f g (.inr ⟨rfl,rfl⟩) h hb h0
     |e+2,hf=>exact absurd hf (by rw[AA];intro q;have:=(Ape.mp q).1;exact absurd this (by show¬(e+2<2);omega))
    ·cases h
   ·cases h
  ·cases h
 ·cases h
structure IX(tp:Bm):Prop where
 m:∀f,f<10->AF tp f Dw (Du f)=true
 t:∀f,f<6->AF tp f GA (Gh f)=true
def Qs:IS:=dT 238
def Hu:List Arw:=Qs.body.drop 2
def Og(i:Nat):Arw:=match Bs Qs.body i with |some s=>s |none=>.Pass ⟨0,0,0,0⟩
def Ks(i:Nat):CS:=match Bs Hi i with |some s=>s |none=>.pass
theorem uD:Qs.body=Og 0::Og 1::Hu:=by kernel_rfl
theorem uE:PZ AX (λt=>Ao9 t 0) 40 true Qs.scope (Ks 0) (Og 0)=true:=by kernel_rfl
theorem uF:PZ AX (λt=>Ao9 t 0) 40 true Qs.scope (Ks 1) (Og 1)=true:=by kernel_rfl
theorem uG:HP (PZ AX (λt=>Ao9 t 0) 40 true Qs.scope) (Hi.drop 2) Hu=true:=by kernel_rfl
theorem Lq{α β:Type}{f:α->β}:∀{l:List α} {n:Nat},(Ba f l).drop n=Ba f (l.drop n)
 | [],n=>by cases n<;>rfl
 |a::l,0=>rfl |a::l,n+1=>Lq (l:=l) (n:=n)
theorem XD:part2=B9 (Ba (cS 40)<|Hi.drop 2):=congrArg B9 Lq
theorem aB(w:Ao7):bodyOf (KF w) 2054=some (Qs.scope,Qs.body):=by kernel_rfl
section
variable{w:Ao7}{h1:Apn}{os:Aqz}
theorem dS(RW:AP (CW w h1 os) (KF w) tt Gj){tp:Bm}{e:Int}(he:Gn tp e)(NK:FL tp)(m fI:Nat):SL (CW w h1 os) ⟨T1 tp fI,Qf (T1 tp fI) Ex.get 20⟩ (m+3+30+20) true Qs.scope part2 Hu:=by rw[XD];exact DV (DW RW.ag (RW.rL<|nE RW he NK m fI) (rU λE σ=>rfl) 40 true Qs.scope) uG
theorem WK(h:bP fl σ=true):fl= .ret (.bool true)∧σ.obj 0=some (.AE []):=by
 unfold bP at h;split at h
 ·rename_i b;obtain⟨h1,h2⟩:=Ac h;subst h1;split at h2
  ·rename_i e;exact⟨rfl,e⟩
  ·cases h2
 ·cases h
theorem eR{tp:Bm}{e:Int}(he:Gn tp e){P:Bm->Prop}(h0:P BC)(h1:P BY):P tp:=by
 rcases he with⟨_,rfl⟩|⟨_,rfl⟩
 ·exact h0
 ·exact h1
theorem yQ(RW:AP (CW w h1 os) (KF w) tt Gj)(N0:FL BC)(N1:FL BY)(R0':IX BC)(R1':IX BY)(m:Nat):SL (CW w h1 os) X (m+3+30+20) true Qs.scope rJ Hu:=λA σ W s E env fit I e k ke q=>by
 have q':both (vQ E) (both (Sv BC BY fSs .next σ)<|both (gBd σ)<|k (.ret<|.bool true)<|WI σ)=true:=q;clear q;obtain⟨q1,q2⟩:=Ac q';obtain⟨q3,q4⟩:=Ac q2;obtain⟨q5,q6⟩:=Ac q4;clear q' q2 q4;obtain⟨e1,e2⟩:=Ac q1;have e1:=Ao6 e1;have ec:E.cells= []:=by
  split at e2
  ·assumption
  ·cases e2
 obtain⟨tp,ei,f,g,he,hj,hb,h0⟩:=TV q3 q5;clear q3 q5;have NK:FL tp:=eR he N0 N1;have RR:IX tp:=eR he R0' R1';obtain⟨p0,QA,ep,x,y,t,u,il,so,_,nd⟩:=I.obj 0 _ h0;have main:∀(ms:List Int) (rg:List DB) (fI:Nat),(∀m∈ms,0<m)->rg.length=ms.length->(∀i z,(Km x y ms)[i]?=some z->inR (BB rg<|(Km x y ms).length-1-i) z)->AF tp fI (Ju 11 ms) rg=true->
   Aph (model (CW w h1 os).prog (CW w h1 os).w) A (execs Hu env) (A7 (CW w h1 os) k σ W s<|RF<|CW w h1 os) (AG (CW w h1 os) ke σ W s) s:=by
  intro ms rg fI pos lr hr run;obtain⟨J,pick,z0,f1⟩:=WJ (ex:=Km x y ms) (rg:=rg) (fut:=Ju 11 ms) I he.tp.n0 hj hb QA ep il so nd (by rw[lr,De]) hr (λρ h=>V9 pos h);obtain⟨pf,hpf,AeU⟩:=e.fr;rw[e1] at hpf;have ev:A8 (CW w h1 os) A (Wj W f g<|Km x y ms) Qs.scope ⟨1,[]⟩ env:=⟨e.scope,e.kind,e.glob,e.bi,⟨pf,BG f1 hpf,AeU⟩,λx j nm h=>(nomatch h),e.full,e.around⟩;refine Apa (dS RW he NK m fI A _ _ s ⟨1,[]⟩ env fit J ev bP IK run) (λfl s' hp=>?_) λer s' hp=>hp.IK.elim
  obtain⟨a,σ',W',hk,X,I',r⟩:=hp;obtain⟨rfl,ho⟩:=WK hk;have B:Sub (CW w h1 os) σ W (Wj W f g<|Km x y ms) s (Rn tp (Ju 11 ms) rg) σ' W' s':=⟨I,X,I',pick,rfl⟩;have Wq:∀i o,(WI σ).obj i=some o->(∃o0 p,σ.obj i=some o0∧o=Cv o0∧W.τ[i]?=some p∧p∉(Wj W f g<|Km x y ms).τ)∨∃p,(W.τ++ [])[i]?=some p∧Ob (CW w h1 os) (HN W W' [] [] W.q W.ls) s'.heap p o:=λi o hi=>by obtain⟨rfl,rfl⟩:=Q9 (show(PA.Ae (some<|.AE []) .nil .nil).get i=some o from hi);obtain⟨p2,MP,Z0,x',y',t',u',Wy,so2,_,Xm⟩:=I'.obj 0 _ ho;have:=Ah X.τ z0;rw[MP] at this;cases this;exact .inr ⟨p0,by rw[Apj];exact QA,Z0,x',y',t',u',Wy,so2,trivial,Xm⟩
  obtain⟨I2,X2⟩:=B.back (nw:=[]) (ex:=[]) (q:=W.q) (ls:=W.ls) (σ2:=WI σ) ⟨λp hp=>(by cases hp),AqY,λ_ _=>rfl,λ_ _=>rfl,rfl,rfl,⟨[],rfl,rfl,λi x e=>(by cases e)⟩,rfl,rfl,rfl,rfl,Wq⟩;refine⟨.ret<|.bool true,WI σ,_,q6,X2,I2,?_⟩;cases r with
  |ret hv=>cases hv;exact .ret .bool
 obtain⟨d,hd⟩:∃z,(Km x y cL)[6]?=some z:=⟨_,Apk (by rw[De];decide)⟩;have Il:(Km x y cM)[6]?=some d:=hd;by_cases h5:d<5
 ·obtain⟨z,hz⟩:∃z,(Km x y cL)[7]?=some z:=⟨_,Apk (by rw[De];decide)⟩;obtain⟨b0,b1⟩:=Jm so pQ 7 10 z rfl hz;obtain⟨fI,rfl⟩:=Aqa b0;exact main cL (Du fI) fI pQ rfl (qC so (λz' q=>by rw[hd] at q;cases q;exact h5) hz) (by rw[←aC];exact RR.m fI (by omega))
 ·obtain⟨z,hz⟩:∃z,(Km x y cM)[13]?=some z:=⟨_,Apk (by rw[De];decide)⟩;obtain⟨b0,b1⟩:=Jm so pR 13 6 z rfl hz;obtain⟨fI,rfl⟩:=Aqa b0;exact main cM (Gh fI) fI pR rfl (qD so (λz' q=>by rw[Il] at q;cases q;omega) hz) (by rw[←aD];exact RR.t fI (by omega))
end
theorem XY:IF Dj 0=true:=by kernel_rfl
theorem XZ:IF Dj 1=true:=by kernel_rfl
theorem Ya:IF Dj 2=true:=by kernel_rfl
theorem Pb:AH Dj 0 0=true:=by kernel_rfl
theorem Pc:AH Dj 0 1=true:=by kernel_rfl
theorem Pd:AH Dj 0 2=true:=by kernel_rfl
theorem Rq:AH BC 0 3=true:=by kernel_rfl
theorem Rr:AH BY 0 3=true:=by kernel_rfl
theorem Pe:AH Dj 0 4=true:=by kernel_rfl
theorem Pf:AH Dj 0 5=true:=by kernel_rfl
theorem Pg:AH Dj 0 6=true:=by kernel_rfl
theorem Ph:AH Dj 0 7=true:=by kernel_rfl
theorem Pj:AH Dj 0 8=true:=by kernel_rfl
theorem Pk:AH Dj 0 9=true:=by kernel_rfl
theorem LG:AH Dj 0 10=true:=by kernel_rfl
theorem LJ:AH Dj 0 11=true:=by kernel_rfl
theorem Pl:AH Dj 1 0=true:=by kernel_rfl
theorem Pm:AH Dj 1 1=true:=by kernel_rfl
theorem Pn:AH Dj 1 2=true:=by kernel_rfl
theorem Rt:AH BC 1 3=true:=by kernel_rfl
theorem Ru:AH BY 1 3=true:=by kernel_rfl
theorem Po:AH Dj 1 4=true:=by kernel_rfl
theorem Pp:AH Dj 1 5=true:=by kernel_rfl
theorem Pq:AH Dj 1 6=true:=by kernel_rfl
theorem Pr:AH Dj 1 7=true:=by kernel_rfl
theorem Pt:AH Dj 1 8=true:=by kernel_rfl
theorem Pu:AH Dj 1 9=true:=by kernel_rfl
theorem LK:AH Dj 1 10=true:=by kernel_rfl
theorem LM:AH Dj 1 11=true:=by kernel_rfl
theorem Pw:AH Dj 2 0=true:=by kernel_rfl
theorem Px:AH Dj 2 1=true:=by kernel_rfl
theorem Py:AH Dj 2 2=true:=by kernel_rfl
theorem Rv:AH BC 2 3=true:=by kernel_rfl
theorem Rw:AH BY 2 3=true:=by kernel_rfl
theorem Pz:AH Dj 2 4=true:=by kernel_rfl
theorem PB:AH Dj 2 5=true:=by kernel_rfl
theorem PC:AH Dj 2 6=true:=by kernel_rfl
theorem PD:AH Dj 2 7=true:=by kernel_rfl
theorem PE:AH Dj 2 8=true:=by kernel_rfl
theorem PF:AH Dj 2 9=true:=by kernel_rfl
theorem LO:AH Dj 2 10=true:=by kernel_rfl
theorem LP:AH Dj 2 11=true:=by kernel_rfl
theorem Yb:AF BC 0 Dw (Du 0)=true:=by kernel_rfl
theorem Yc:AF BC 1 Dw (Du 1)=true:=by kernel_rfl
theorem Yd:AF BC 2 Dw (Du 2)=true:=by kernel_rfl
theorem Ye:AF BC 3 Dw (Du 3)=true:=by kernel_rfl
theorem Yf:AF BC 4 Dw (Du 4)=true:=by kernel_rfl
theorem Yg:AF BC 5 Dw (Du 5)=true:=by kernel_rfl
theorem Yh:AF BC 6 Dw (Du 6)=true:=by kernel_rfl
theorem Yi:AF BC 7 Dw (Du 7)=true:=by kernel_rfl
theorem Yj:AF BC 8 Dw (Du 8)=true:=by kernel_rfl
theorem Yk:AF BC 9 Dw (Du 9)=true:=by kernel_rfl
theorem Yv:AF BC 0 GA (Gh 0)=true:=by kernel_rfl
theorem Yw:AF BC 1 GA (Gh 1)=true:=by kernel_rfl
theorem Yx:AF BC 2 GA (Gh 2)=true:=by kernel_rfl
theorem Yy:AF BC 3 GA (Gh 3)=true:=by kernel_rfl
theorem Yz:AF BC 4 GA (Gh 4)=true:=by kernel_rfl
theorem YA:AF BC 5 GA (Gh 5)=true:=by kernel_rfl
theorem Yl:AF BY 0 Dw (Du 0)=true:=by kernel_rfl
theorem Ym:AF BY 1 Dw (Du 1)=true:=by kernel_rfl
theorem Yn:AF BY 2 Dw (Du 2)=true:=by kernel_rfl
theorem Yo:AF BY 3 Dw (Du 3)=true:=by kernel_rfl
theorem Yp:AF BY 4 Dw (Du 4)=true:=by kernel_rfl
theorem Yq:AF BY 5 Dw (Du 5)=true:=by kernel_rfl
theorem Yr:AF BY 6 Dw (Du 6)=true:=by kernel_rfl
theorem Ys:AF BY 7 Dw (Du 7)=true:=by kernel_rfl
theorem Yt:AF BY 8 Dw (Du 8)=true:=by kernel_rfl
theorem Yu:AF BY 9 Dw (Du 9)=true:=by kernel_rfl
theorem YB:AF BY 0 GA (Gh 0)=true:=by kernel_rfl
theorem YC:AF BY 1 GA (Gh 1)=true:=by kernel_rfl
theorem YD:AF BY 2 GA (Gh 2)=true:=by kernel_rfl
theorem YE:AF BY 3 GA (Gh 3)=true:=by kernel_rfl
theorem YF:AF BY 4 GA (Gh 4)=true:=by kernel_rfl
theorem YG:AF BY 5 GA (Gh 5)=true:=by kernel_rfl
theorem pN:FL BC:=by
 refine⟨λb c hb hc=>?_,λb hb=>?_⟩
 ·match b,hb with
  |0,_=>match c,hc with
   |0,_=>exact Pb
   |1,_=>exact Pc
   |2,_=>exact Pd
   |3,_=>exact Rq
   |4,_=>exact Pe
   |5,_=>exact Pf
   |6,_=>exact Pg
   |7,_=>exact Ph
   |8,_=>exact Pj
   |9,_=>exact Pk
   |10,_=>exact LG
   |11,_=>exact LJ
  |1,_=>match c,hc with
   |0,_=>exact Pl
   |1,_=>exact Pm
   |2,_=>exact Pn
   |3,_=>exact Rt
   |4,_=>exact Po
   |5,_=>exact Pp
   |6,_=>exact Pq
   |7,_=>exact Pr
   |8,_=>exact Pt
   |9,_=>exact Pu
   |10,_=>exact LK
   |11,_=>exact LM
  |2,_=>match c,hc with
   |0,_=>exact Pw
   |1,_=>exact Px
   |2,_=>exact Py
   |3,_=>exact Rv
   |4,_=>exact Pz
   |5,_=>exact PB
   |6,_=>exact PC
   |7,_=>exact PD
   |8,_=>exact PE
   |9,_=>exact PF
   |10,_=>exact LO
   |11,_=>exact LP
 ·match b,hb with
  |0,_=>exact XY
  |1,_=>exact XZ
  |2,_=>exact Ya
theorem pO:FL BY:=by
 refine⟨λb c hb hc=>?_,λb hb=>?_⟩
 ·match b,hb with
  |0,_=>match c,hc with
   |0,_=>exact Pb
   |1,_=>exact Pc
   |2,_=>exact Pd
   |3,_=>exact Rr
   |4,_=>exact Pe
   |5,_=>exact Pf
   |6,_=>exact Pg
   |7,_=>exact Ph
   |8,_=>exact Pj
   |9,_=>exact Pk
   |10,_=>exact LG
   |11,_=>exact LJ
  |1,_=>match c,hc with
   |0,_=>exact Pl
   |1,_=>exact Pm
   |2,_=>exact Pn
   |3,_=>exact Ru
   |4,_=>exact Po
   |5,_=>exact Pp
   |6,_=>exact Pq
   |7,_=>exact Pr
   |8,_=>exact Pt
   |9,_=>exact Pu
   |10,_=>exact LK
   |11,_=>exact LM
  |2,_=>match c,hc with
   |0,_=>exact Pw
   |1,_=>exact Px
   |2,_=>exact Py
   |3,_=>exact Rw
   |4,_=>exact Pz
   |5,_=>exact PB
   |6,_=>exact PC
   |7,_=>exact PD
   |8,_=>exact PE
   |9,_=>exact PF
   |10,_=>exact LO
   |11,_=>exact LP
 ·match b,hb with
  |0,_=>exact XY
  |1,_=>exact XZ
  |2,_=>exact Ya
def cFR:Cs:=Ir (cS 40 (Ks 0)) (Ir (cS 40 (Ks 1)) rJ)
def Vu:CF:=⟨[(326,false)],[],[],cFR⟩
def kSp:K AV:=λv σ=>match v with
 | .bool b=>both b (match σ.obj 0 with |some (.AE [])=>true |_=>false) |_=>false
def spS:St:=⟨1,.Ae (some (.AE [])) .nil .nil,0,[],[],[],0,0⟩
theorem nZ:qF (TD Jl) (Zn Jl) Vu [((326,false),.obj 0)] spS kSp IK=true:=by kernel_rfl
theorem nY(w:Ao7):Ga AX (KF w) 2054 Vu=true:=by kernel_rfl
theorem vZ(w:Ao7):keepIn (KF w) (.ref 2054)=true:=by kernel_rfl
theorem dY:IX BC:=⟨λf h=>by
  match f,h with
  |0,_=>exact Yb
  |1,_=>exact Yc
  |2,_=>exact Yd
  |3,_=>exact Ye
  |4,_=>exact Yf
  |5,_=>exact Yg
  |6,_=>exact Yh
  |7,_=>exact Yi
  |8,_=>exact Yj
  |9,_=>exact Yk,λf h=>by
  match f,h with
  |0,_=>exact Yv
  |1,_=>exact Yw
  |2,_=>exact Yx
  |3,_=>exact Yy
  |4,_=>exact Yz
  |5,_=>exact YA⟩
theorem dZ:IX BY:=⟨λf h=>by
  match f,h with
  |0,_=>exact Yl
  |1,_=>exact Ym
  |2,_=>exact Yn
  |3,_=>exact Yo
  |4,_=>exact Yp
  |5,_=>exact Yq
  |6,_=>exact Yr
  |7,_=>exact Ys
  |8,_=>exact Yt
  |9,_=>exact Yu,λf h=>by
  match f,h with
  |0,_=>exact YB
  |1,_=>exact YC
  |2,_=>exact YD
  |3,_=>exact YE
  |4,_=>exact YF
  |5,_=>exact YG⟩
theorem bQ(h:kSp v σ=true):v= .bool true∧σ.obj 0=some (.AE []):=by
 unfold kSp at h;split at h
 ·rename_i b;obtain⟨h1,h2⟩:=Ac h;subst h1;split at h2
  ·rename_i e;exact⟨rfl,e⟩
  ·cases h2
 ·cases h
def LV(vs:List AV)(σ:St)(k:K AV):Bool:=match vs with
 | [.obj j]=>(match σ.obj j with
  |some (.AE [])=>k (.bool true) (σ.E5.Gi j (.AE []))
  |_=>bad "form right: spool")
 |_=>bad "form right: arguments"
section
variable{w:Ao7}{h1:Apn}{os:Aqz}
variable{A:Apg}{σ:St}{W:Wd}{s:Ao5}
theorem uB(RW:AP (CW w h1 os) (KF w) tt Gj)(m:Nat)(ok:Cp (CW w h1 os) (m+3+30+20) cl):SL (CW w h1 os) ⟨TD Jl,cl⟩ (m+3+30+20) true Qs.scope (Ir (cS 40<|Ks 0)<|Ir (cS 40<|Ks 1) rJ) (Og 0::Og 1::Hu):=
 SL.cons (DW RW.ag (RW.rL (sum:=qJ) (loop:=OO) (dc:=Jl) ok) (rU λE σ=>rfl) 40 true Qs.scope (Ks 0) (Og 0) uE) (SL.cons (DW RW.ag (RW.rL (sum:=qJ) (loop:=OO) (dc:=Jl) ok) (rU λE σ=>rfl) 40 true Qs.scope (Ks 1) (Og 1) uF)<|yQ RW pN pO dY dZ m)
theorem uC:Vu.body=Ir (cS 40<|Ks 0) (Ir (cS 40<|Ks 1) rJ):=by unfold Vu cFR;with_reducible rfl
theorem uH(RW:AP (CW w h1 os) (KF w) tt Gj)(m:Nat):Mb (CW w h1 os) (TD Jl) (m+3+30+20) Vu 2054:=
 Jt RW.ag RW.hK (nY w) λsc b hb cl ok=>by rw[aB] at hb;cases hb;rw[uD,uC];exact uB RW m ok
theorem aA(RW:AP (CW w h1 os) (KF w) tt Gj){m:Nat}(f:CJ (m+3+30+20+1) true A)(I:Inv (CW w h1 os) W σ s)(ar:AW A W)(hv:AM (CW w h1 os) W s.heap vs cvs){k:K AV}(h:LV vs σ k=true):
  ApG (model (CW w h1 os).prog (CW w h1 os).w) A (.call (.ref 2054) ⟨cvs,[]⟩) (Cq (CW w h1 os) k ke σ W s) s:=by
 unfold LV at h;split at h
 ·rename_i j;cases hv with
  |cons v1 hv=>
   cases hv;cases v1 with
   | @obj _ p hj=>
    split at h
    ·rename_i of;obtain⟨p',BK,ep,x,y,t,u,il,so,_,nd⟩:=I.obj _ _ of;rw[hj] at BK;cases BK;have pick:∀q∈[p],q∈W.τ:=λq hq=>by rw[Apu.mp hq];exact get_mem hj
     have Ig:Inv (CW w h1 os) ⟨[],[p],W.q,W.ls,W.fs,W.fo⟩ spS s:=by
      refine I.pick pick (by simp) rfl rfl rfl (λa x e=>by cases e) (λp hp=>by cases hp) (λp hp=>by cases hp) I.fo λi o ho=>?_
      obtain⟨rfl,rfl⟩:=Q9 (show(PA.Ae (some<|.AE []) .nil .nil).get i=some o from ho);exact⟨p,rfl,ep,x,y,t,u,il,so,trivial,nd⟩
     have ok:Cp (CW w h1 os) (m+3+30+20) (Zn Jl):=by
      have:=Mq RW (m+20) Jl
      rwa [show m+20+3+30=m+3+30+20 from by omega] at this
     refine Arn (K3 RW.ok RW.lim (uH RW m) ok f Ig (ar.fs rfl) (vs:=[.obj 0]) (cvs:=[.ref p.1]) (.cons (.obj (i:=0) (p:=p) rfl) .nil) (bs:=[((326,false),.obj 0)]) rfl (ke:=IK) nZ) λr s' q=>?_
     cases r with
     |error e=>exact(AG.IK q).elim
     |ok fl=>
      cases fl with
      |next=>exact q.elim
      |brk=>exact q.elim
      |cont=>exact q.elim
      |ret v=>
       obtain⟨av,σ',W',hk,X,I',r⟩:=q;obtain⟨rfl,ho⟩:=bQ hk;have B:Sub (CW w h1 os) σ W ⟨[],[p],W.q,W.ls,W.fs,W.fo⟩ s spS σ' W' s':=⟨I,X,I',pick,rfl⟩;obtain⟨p2,MP,Z0,x',y',t',u',Wy,so2,_,Xm⟩:=I'.obj 0 _ ho;have QA:W'.τ[0]?=some p:=Ah X.τ (show([p]:List (Apc×Apc))[0]?=some p from rfl);rw[QA] at MP;cases MP;obtain⟨J,Y⟩:=B.back (nw:=[]) (ex:=[]) (q:=W.q) (ls:=W.ls) (σ2:=σ.E5.Gi j (.AE [])) ⟨λp hp=>(by cases hp),AqY,λ_ _=>rfl,λ_ _=>rfl,rfl,rfl,⟨[],rfl,rfl,λi x e=>(by cases e)⟩,rfl,rfl,rfl,rfl,
        US I hj rfl (λi o' ho=>(St.GY ho).imp id λ⟨a,b⟩=>⟨a,b⟩) ⟨Z0,x',y',t',u',Wy,so2,trivial,Xm⟩⟩
       cases r;exact⟨_,_,_,h,Y,J,.bool⟩
    ·cases h
 ·cases h
end
def eH(a:Nat)(vs:List AV)(σ:St)(k:K AV):Option Bool:=bt (Ao9 a 2007) (some (Ta vs σ k)) (bt (Ao9 a 1960) (some (PT vs σ k)) (bt (Ao9 a 2054) (some (LV vs σ k)) none))
def TL:Tab:=tt.tab eH OO Jl
theorem b9:Qf TL Ex.get 2 (.Au<|.ref 2061) [.Au (.ref BX)] e0 isTrue IK=true:=by kernel_rfl
theorem vW(w:Ao7):keepIn (KF w) (.ref 2007)=true:=by kernel_rfl
theorem vV(w:Ao7):keepIn (KF w) (.ref 1960)=true:=by kernel_rfl
theorem t5(w:Ao7):fnIn (KF w) 2061=true:=by kernel_rfl
inductive Mg(a:Nat)(vs:List AV)(σ:St)(k:K AV)(r:Bool):Prop
 |tr:a=2007->Ta vs σ k=r->Mg a vs σ k r
 |sp:a=1960->PT vs σ k=r->Mg a vs σ k r
 |fr:a=2054->LV vs σ k=r->Mg a vs σ k r
theorem S9{a:Nat}{k:K AV}{r:Bool}(h:eH a vs σ k=some r):Mg a vs σ k r:=by
 unfold eH at h;cases q1:Ao9 a 2007 with
 |true=>rw[q1] at h;exact .tr (Ao6 q1) (Apr h)
 |false=>
  rw[q1] at h;have h:bt (Ao9 a 1960) (some<|PT vs σ k) (bt (Ao9 a 2054) (some<|LV vs σ k) none)=some r:=h;cases q2:Ao9 a 1960 with
  |true=>rw[q2] at h;exact .sp (Ao6 q2) (Apr h)
  |false=>rw[q2] at h;have h:bt (Ao9 a 2054) (some (LV vs σ k)) none=some r:=h;obtain⟨q3,q4⟩:=Ml h;exact .fr (Ao6 q3) q4
section
variable{w:Ao7}{h0 h1:Apn}{os:Aqz}
theorem eI(RW:AP (CW w h1 os) (KF w) tt Gj)(R0:AP (CW w h0 os) (KF w) tt Gj)(Im:∀b o,h0.get? b=some o->h1.get? b=some o){items:List Ao3}(hn:h0.get? BX=none)(ho:h1.get? BX=some {cls:=.type "list",data:=.seq items.toArray})(hlen:items.length≤63)
  (Wo:∀v∈items,∃i t,v= .int i t){n:Nat}(hn2:60≤n):FN (CW w h1 os) TL n:=λA σ W s a vs cvs k ke f I ar hv h=>by
 cases S9 (show eH a vs σ k=some true from h) with
 |tr e1 e2=>subst e1;exact eJ RW (m:=0) (f.le (by omega)) I ar hv e2
 |sp e1 e2=>subst e1;exact YO R0 Im hn ho hlen Wo (m:=0) (f.le (by omega)) I ar hv e2
 |fr e1 e2=>subst e1;exact aA RW (m:=0) (f.le (by omega)) I ar hv e2
theorem nF(RW:AP (CW w h1 os) (KF w) tt Gj)(R0:AP (CW w h0 os) (KF w) tt Gj)(Im:∀b o,h0.get? b=some o->h1.get? b=some o){items:List Ao3}(hn:h0.get? BX=none)(ho:h1.get? BX=some {cls:=.type "list",data:=.seq items.toArray})(hlen:items.length≤63)
  (Wo:∀v∈items,∃i t,v= .int i t):Cp (CW w h1 os) (60+2) (Qf TL Ex.get 2):=
 Ef RW.ok 60 (RW.call (MF RW (λE σ=>rfl) λn cl hn ok=>Hook.none λ_ _=>rfl) λa vs σ k r h=>by
  cases S9 h with
  |tr e1 _=>subst e1;exact vW w
  |sp e1 _=>subst e1;exact vV w
  |fr e1 _=>subst e1;exact vZ w) (S6 RW.sys) (λi=>eI RW R0 Im hn ho hlen Wo (by omega)) 2
end
theorem QH(h:isTrue v σ=true):v= .bool true:=by
 unfold isTrue at h;split at h
 ·rw[h]
 ·cases h
theorem ZI(w:Ao7)(s s₁:Ao5)(args:List WData)(vs:List Ao3)(as:List Apc)(D:Cr (K1 w) 2062 3501 s)(hg:s.gens= #[])(TQ:OL.row.toRowW.claim.pre args=true)(oN:WData.layableAll args=true)(L:Laid [] w s s₁ args vs as):
  Aph (model OL.prog w) callerA (PySem.call (.ref 2061) vs) (λv s'=>GoodWG OL.row.toRowW.claim (classAt s.heap) (Ar9 s.heap) args s₁ (.ok<|.ret v) s')
   (λe s'=>GoodWG OL.row.toRowW.claim (classAt s.heap) (Ar9 s.heap) args s₁ (.error e) s') s₁:=by
 obtain⟨a,items,S⟩:=Un TQ L;have ea:a=BX:=S.at_.trans D.size;subst ea;rw[S.vs];have RW:AP (CW w s₁.heap s₁.os) (KF w) tt Gj:=XS λa o h=>L.keeps _ _ (D.here a o h)
 have R0:AP (CW w s.heap s₁.os) (KF w) tt Gj:=XS D.here;have I:Inv (CW w s₁.heap s₁.os) ⟨[],[],λ_=>(.A4,.A4),λ_=>[],[],[]⟩ e0 s₁:=
  ⟨rfl,rfl,rfl,λa x h=>(nomatch h),λp h=>(nomatch h),λp h=>(nomatch h),λi o h=>(nomatch h),λi j p q h=>(nomatch h),λp h=>(nomatch h),λp h=>(nomatch h),λa h=>(nomatch h),λa o h=>h,L.gens,rfl,λa h=>(nomatch h)⟩
 have ar:AW callerA ⟨[],[],λ_=>(.A4,.A4),λ_=>[],[],[]⟩:=⟨[],rfl,λe h=>(nomatch h)⟩;have ft:CJ 62 true callerA:=by
  refine⟨?_,?_,λ_=>rfl⟩
  ·decide
  ·decide
 have ok:=nF RW R0 L.keeps S.new S.obj S.len S.nums;have run:=Cq.sp (ok.code callerA e0 _ s₁ 2061 [.Au (.ref BX)] [.ref BX] isTrue IK ft I ar (Fi RW<|t5 w) (.cons .Au .nil) b9);refine Apa run (λv s' q=>?_) λe s' q=>(AG.IK q).elim
 obtain⟨av,σ',W',hk,X,I',r⟩:=q;rw[QH hk] at r;cases r;exact aH I'.base I'.os (I'.gens)
theorem holds(Rx:OL.wellSaid=true):OL.Holds:=head Rx ZI
end
end Mine
theorem PySem.Challenge.cw_xw0060_01_holds : PySem.Challenge.rw_xw0060_01.Holds :=
  Mine.holds Mine.Rx
