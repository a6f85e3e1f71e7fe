import PyProof.Rows.All
import Wide.All
import OpenK.AllK
import Wide.FinOn
import PySem.Challenge.RW_np0217_02
set_option tactic.hygienic false
set_option genInjectivity false
set_option genSizeOf false
set_option genSizeOfSpec false
set_option bootstrap.genMatcherCode false
set_option maxRecDepth 100000
set_option genCtorIdx false
set_option linter.unusedVariables false
set_option Elab.async false
open Nat renaming le_trans → ak, lt_of_le_of_lt → aA, lt_trans → aG, lt_of_lt_of_le → aK, le_of_eq → aR, add_le_add_left → aZ, le_refl → bf, le_add_right → bh, le_of_lt → bH, succ_le_succ → bI, add_le_add_right → bU, le_of_ble_eq_true → cA, ne_of_lt → cB, zero_le → cL, add_right_comm → cN, lt_succ_of_lt → cU, le_of_lt_succ → cX, le_succ → dw, add_sub_cancel' → dD, beq → dF, lt_succ_of_le → dM, succ_add_eq_add_succ → eF, eq_of_beq_eq_true → eV, add_comm → fB, lt_succ_self → fG, le_succ_of_le → fJ, zero_add → fU, add_le_add → fY, lt_irrefl → f9, ne_of_gt → gq, lt_of_succ_lt → gC, not_lt → gK, le_of_not_lt → gP, lt_add_of_pos_right → iG, not_succ_le_self → iH, succ_pos → iQ, sub_le → jF, add_assoc → jU, lt_of_le_of_ne → jY, add_lt_add_of_lt_of_le → jZ, not_lt_zero → kW, mul_comm → lq, mod_lt → mH, ne_of_beq_eq_false → mJ, min_le_left → mW, le_add_left → mX, add_lt_add_of_le_of_lt → nY, sub_self → oK, succ_lt_succ → oO, mul_le_mul_left → o8, add_lt_add_left → pA, add_zero → qQ, le_total → qR, sub_eq_zero_of_le → q7, min_eq_right → rO, sub_le_of_le_add → sY, blt → uc, mul_div_cancel → uX, max_eq_right → xW, lt_min → yU, lt_or_ge → yW, le_antisymm → zG, min_eq_left → zH, max_eq_left → zK, mul_add → Bv
open PySem renaming wpAny_bind → aq, Value → au, Shared → aB, Addr → aH, wpAny_pure → aJ, wpAny → bD, wpAny_of_eq → bJ, builtinLookup_eq_fast → bO, wpAny_mono → cj, Heap → cD, Around → cI, typeLookup_type → cP, wpAny_specialOf → cQ, World → cY, Expr → cZ, bm_if_false → dI, Program → dO, Builtin → dW, wpAny_holding → gO, wpAny_loadPart_at → gZ, FuncData → g8, NameKind → jy, Model → jC, Scope → jD, wpAny_setState_of → jE, wpAny_ite_split → jH, isSubtype_type → j7, wpAny_newObj_type → lC, wpAny_isSubtype_exc → lM, wpAny_isInstance → lV, wpAny_call_entry → lW, Result → mQ, wpAny_load → mR, pushCells_keeps → mY, wpAny_truthy_bool → nF, wpAny_field → ou, ExceptHandler → pH, codeAny_of_tree → pK, codeAny_builtin → pL, wpAny_rule → pZ, wpAny_callSpecial?_slot → qt, wpAny_newTuple → qW, wpAny_askSetting → rR, codeAny → rZ, wpAny_standAt → su, plainId_quiet → sy, wpAny_newList → sE, codeAny_call_builtin → tu, Stmt → uf, Arguments → uq, Flow → uY, wpAny_setField_rec → u0, wpAny_alloc → vU, OsState → vV, wpAny_attempt → wN, entryFor_of_tree → xZ, exec_Return_some → yd, wpAny_execs_cons → yh, wpAny_typeOf → za, entryFor_alias → Bx, arm_eval_Tuple → BJ, wpAny_setField → BK, wpAny_layCells → BL, TriplesOk → CV, ClassData → Dc
open Option.some renaming inj → aC
open List renaming length_append → aF, lookup_cons → aM, mem_singleton → aN, length_map → aQ, getD_eq_getElem?_getD → aV, mem_cons → aY, append_assoc → bw, all_eq_true → bx, toArray → bA, getElem?_eq_getElem → bF, append_nil → bN, replicate → bQ, getElem?_eq_some_iff → bW, map_append → cu, forall_mem_nil → cF, length_range → cM, getElem?_eq_none → cR, mem_append_right → cT, nodup_cons → dj, not_mem_nil → dK, filter_cons → dY, getElem?_toArray → eU, range' → eX, length_replicate → eY, range → fD, map_cons → fH, eq_nil_of_length_eq_zero → fL, mem_map → fX, mem_append → fZ, length_filter_le → gj, map_map → gw, getElem?_append_right → gJ, getElem?_append_left → gU, mem_map_of_mem → gV, filter_eq_self → iW, lookup → jd, length_drop → jk, pairwise_cons → jl, isEmpty_iff → jo, getElem?_map → jB, mem_filter → jG, append_toArray → jM, take_of_length_le → jR, range_eq_range' → lu, filterMap_cons_some → lE, map_congr_left → lJ, length_take_le → lK, length_cons → lO, lt_irrefl → lU, length → mC, contains_cons → mG, filter_append → mK, contains_iff_mem → nu, nodup_append → nD, getElem?_set_ne → nR, pairwise_append → nU, mem_append_left → nW, all_map → oM, mem_of_find?_eq_some → oW, filter_sublist → pq, forIn_cons → pJ, zip_cons_cons → pR, length_range' → pY, map_id → qg, pairwise_singleton → qj, mem_range → qM, nodup_nil → qN, drop_zero → qP, drop_of_length_le → qT, set_set → qU, cons_append → rN, length_take_le' → sZ, foldl_cons → tG, filterMap_cons → tV, findIdx?_cons → uT, getElem?_drop → uV, forIn_nil → uW, flatten_cons → vM, filter_congr → vO, any_cons → wL, length_take → xP, map → xQ, getElem_mem → xT, any_eq_true → xU, take_length → xV, find?_cons → zF, filter_map → zJ, drop_take → Bu
open Bool renaming and_eq_true → aL, false_ne_true → bC, and_eq_true_iff → cg, not_eq_true' → gB, or_eq_false_iff → lA, eq_false_iff → qO, noConfusion → rK, or_false → rY, or_eq_true → tH, or_eq_true_iff → tU, true_or → tY, or_true → yV, and_false → Br
open Int renaming natCast_nonneg → aO, toNat_natCast → cH, not_lt → dh, ofNat_lt → fu, le_trans → fW, ofNat_le → jQ, le_of_lt → lg, toNat_of_nonneg → lH, eq_ofNat_of_zero_le → lQ, not_le → nT, natAbs_natCast → pW, emod_lt_of_pos → pX, max_eq_right → rM, max_eq_left → tK, emod_nonneg → tL, zero_add → tX, lt_of_le_of_lt → uQ, lt_irrefl → wK
open PySem.Heap renaming get?_push_of_some → aW, get?_push_size → bK, SameBut → dZ, lt_size → d8, size_push → d9, get?_update_self → jf, get?_update_ne → pB, FlyingW → ud, HeldW → yX
open Option renaming isSome_iff_exists → cV, map_eq_some_iff → gQ, isNone_iff_eq_none → oX, none → Bt
open PySem.W renaming any_some → eO, boot_heap → gG, Frag → lZ, boot_drawn → u6, kas_rev → vQ, Looks → yc, boot_toks → yj, kas_descPart → zc, looks_keep → zp, kas_place → CZ, SharedT → Dd
open Array renaming getElem?_eq_getElem → fO, getElem?_eq_none → jP, getElem?_toList → q8, getD_eq_getD_getElem? → tZ, getElem?_eq_some_iff → uU, toList_inj → xR, mk → Bw
open List.cons renaming inj → gb
open PySem.W.KBw renaming IsBytesIter → ig, pyIter_bytes → yg
open PySem.Builtin.Bytes renaming slotIsOwn → iJ, ownRelease → ju, buffer? → j8, exported → mO, sameRef → nA, checkResize → oY, payload → rm, decodersThatHold → rP, takeBufferQuiet? → rQ, write → tW
open PySem.F renaming excBase_Exception → iZ
open Nat.succ renaming inj → jt
open PySem.Around renaming under_plainId → jx, frames_deeper → jz, under_of_weight → jT
open PySem.Builtin.Int renaming intBits → jN
open PySem.Heap.SameBut renaming update → jO
open PySem.Builtin.SmallTypes renaming nextOf → kI
open PySem.Value renaming ref → kY, none → n7, isStr → qp
open PySem.StrLaws renaming sliceText → lB
open PySem.SetTable renaming below → lX, fill → wO
open PySem.Code renaming quiet_builtin → mU
open PySem.NameKind renaming cell → m8, free → m9
open PySem.Calls renaming Name_function_global → n8, spliced_cons → ug, spliced_nil → vW
open PySem.W.WData renaming bool → oA, int → qw, weightAll → zL
open PySem.Obj renaming data_mapFields → qb, mapBytearray → xY, mapSeq → zj
open PyProof.Rows.F renaming plain_set_update_loop → qu
open PySem.W.FB renaming slot_bytes_getitem → q9
open PySem.W.WShape renaming hasItems → tM
open PySem.Builtin.List renaming listLengthHint → uh
open PySem.Value.type renaming inj → uZ
open PySem.Sem renaming wp_mono → vP
open PyProof.Rows renaming tail_any → xX
open PySem.Str renaming ofString → yZ
open PySem.W.Looks renaming here → zq
open PySem.Txt renaming slice → CW, split → CX
namespace Mine.Internal
section
set_option genCtorIdx true in
inductive V where
 | none | bool (b:Bool) | int (i:Int) | str (l:List Nat) | bytes (l:List UInt8)
 | tup (l:List V) | lst (l:List V) | ref (i:Nat)
noncomputable instance:Inhabited V:=⟨.none⟩
set_option genCtorIdx false
inductive O where
 | inst (c:Nat) (fs:List (Nat×V)) | dict (l:List (V×V)) | list (l:List V) | ba (l:List UInt8)
abbrev St:=List O
abbrev Fm:=List (Nat×V)
noncomputable def gH:List (Nat×V)->Nat->Option V
 | [],_=>.none
 | (j,w)::r,k=>if j=k then some w else gH r k
noncomputable def pC:List (Nat×V)->Nat->V->List (Nat×V)
 | [],k,v=>[(k,v)]
 | (j,w)::r,k,v=>if j=k then(k,v)::r else(j,w)::pC r k v
noncomputable def ok{α:Type}(o:Option α)(Q:α->Prop):Prop:=match o with | some a=>Q a | .none=>False
theorem rA{α:Type}{o:Option α}{Q:α->Prop}{P:Prop}(h:ok o Q)(k:∀ a,o=some a->Q a->P):P:=by
 cases o with | none=>exact h.elim | some a=>exact k a rfl h
set_option genCtorIdx true in
inductive Bop | add | sub | mul | fdiv | mod | pow | shl | shr | band
set_option genCtorIdx true in
inductive Cop | eq | ne | lt | le | gt | ge | is | Kq | inn | Ja
set_option genCtorIdx true in
inductive Bi | len | sum | bytes | ord | chr | all | sorted | max | min | int | str | list | isStr | qd
set_option genCtorIdx true in
inductive Bm | append | extend | Xg | Oi | pop | split | join | Kr
inductive Pt | v (k:Nat) | t (l:List Pt)
set_option genCtorIdx true in
inductive Sk | plain | range | enum | zip
inductive ME where
 | aj (v:V)
 | aD (k:Nat)
 | bR (o:ME) (f:Nat)
 | bin (op:Bop) (a b:ME)
 | neg (a:ME) | not (a:ME)
 | bool (oR:Bool) (l:List ME)
 | cmp (a:ME) (op:Cop) (b:ME)
 | z8 (a:ME) (op1:Cop) (b:ME) (op2:Cop) (c:ME)
 | ite (c a b:ME)
 | tup (l:List ME) | jJ (l:List ME) | Fg (l:List ME) | dict
 | qy (a i:ME) | slice (a:ME) (lo hi:Option ME)
 | comp (pt:Pt) (k:Sk) (src:List ME) (cond:Option ME) (elt:ME)
 | call (f:Nat) (args:List ME) | bk (nm:Nat) (o:ME) (args:List ME)
 | new (C f:Nat) (args:List ME)
 | bi (b:Bi) (args:List ME)
 | Ub
 | bm (m:Bm) (o:ME) (args:List ME)
 | heard (f:Nat) (sG:V) (hs:List (Nat×V)) (body:ME)
inductive Tg | v (k:Nat) | t (l:List Tg) | at (o:ME) (f:Nat) | sub (o i:ME)
inductive MS where
 | expr (e:ME) | pass | cont | ret (e:Option ME) | eG (t:Tg) (e:ME)
 | ite (c:ME) (a b:List MS) | while (c:ME) (body:List MS)
 | for (pt:Pt) (k:Sk) (src:List ME) (body:List MS) | raise (C:Nat) (arg:ME)
inductive Fl | next | cont | ret (v:V)
structure MF where
 np:Nat
 df:List V
 body:List MS
structure Pg where
 fn:Nat->Option MF
 has:Nat->Nat->Bool
 me:Nat->Nat->Option Nat
section
variable{α β:Type}
theorem nn{a:α}{P:Prop}(h:(.none:Option α)=some a):P:=nomatch h
theorem ff{P:Prop}(e:false=true):P:=nomatch e
noncomputable def gd(c:Prop)[Decidable c](a:α):Option α:=if c then some a else .none
theorem Ks{c:Prop}[Decidable c]{a b:α}(h:gd c a=some b):c/\a=b:=by
 unfold gd at h
 by_cases q:c
 ·rw[if_pos q] at h; exact⟨q,aC h⟩
 ·rw[if_neg q] at h; exact nn h
@[elab_as_elim] theorem nH{motive:α->Prop}{c:Prop}[Decidable c]{a b:α}(h:gd c a=some b)(k:c->motive a):motive b:=(Ks h).2▸k (Ks h).1
@[elab_as_elim] theorem bV{motive:α->Prop}{a b:α}(h:some a=some b)(k:motive a):motive b:=aC h▸k
noncomputable def bnd(o:Option α)(f:α->Option β):Option β:=match o with | some a=>f a | .none=>.none
theorem gR{o:Option α}{f:α->Option β}{b:β}{P:Prop}(h:bnd o f=some b)(k:∀ a,o=some a->f a=some b->P):P:=by
 cases o with | none=>exact nn h | some a=>exact k a rfl h
theorem Uc{c:Prop}[Decidable c]{u:Unit}{f:Unit->Option α}{b:α}{P:Prop}(h:bnd (gd c u) f=some b)(k:c->f u=some b->P):P:=by
 by_cases q:c
 ·exact k q (by rw[show gd c u=some u from if_pos q] at h; exact h)
 ·rw[show gd c u=.none from if_neg q] at h; exact nn h
noncomputable def iB(f:Bool->Option α):V->Option α | .bool i=>f i | _=>.none
noncomputable def iI(f:Int->Option α):V->Option α | .int i=>f i | _=>.none
noncomputable def iS(f:List Nat->Option α):V->Option α | .str i=>f i | _=>.none
noncomputable def iY(f:List UInt8->Option α):V->Option α | .bytes i=>f i | _=>.none
noncomputable def iT(f:List V->Option α):V->Option α | .tup i=>f i | _=>.none
noncomputable def iL(f:List V->Option α):V->Option α | .lst i=>f i | _=>.none
noncomputable def iR(f:Nat->Option α):V->Option α | .ref i=>f i | _=>.none
noncomputable def isN:V->Bool | .none=>true | _=>false
@[elab_as_elim] theorem aqk{P:V->Prop}{f:Bool->Option α}{v:V}{a:α}(h:iB f v=some a)(k:∀ i,f i=some a->P (.bool i)):P v:=by cases v <;> first | exact k _ h | exact nn h
@[elab_as_elim] theorem Xh{P:V->Prop}{f:Int->Option α}{v:V}{a:α}(h:iI f v=some a)(k:∀ i,f i=some a->P (.int i)):P v:=by cases v <;> first | exact k _ h | exact nn h
@[elab_as_elim] theorem aql{P:V->Prop}{f:List Nat->Option α}{v:V}{a:α}(h:iS f v=some a)(k:∀ i,f i=some a->P (.str i)):P v:=by cases v <;> first | exact k _ h | exact nn h
@[elab_as_elim] theorem amU{P:V->Prop}{f:List UInt8->Option α}{v:V}{a:α}(h:iY f v=some a)(k:∀ i,f i=some a->P (.bytes i)):P v:=by cases v <;> first | exact k _ h | exact nn h
@[elab_as_elim] theorem akr{P:V->Prop}{f:List V->Option α}{v:V}{a:α}(h:iT f v=some a)(k:∀ i,f i=some a->P (.tup i)):P v:=by cases v <;> first | exact k _ h | exact nn h
@[elab_as_elim] theorem aqm{P:V->Prop}{f:List V->Option α}{v:V}{a:α}(h:iL f v=some a)(k:∀ i,f i=some a->P (.lst i)):P v:=by cases v <;> first | exact k _ h | exact nn h
@[elab_as_elim] theorem aks{P:V->Prop}{f:Nat->Option α}{v:V}{a:α}(h:iR f v=some a)(k:∀ i,f i=some a->P (.ref i)):P v:=by cases v <;> first | exact k _ h | exact nn h
@[elab_as_elim] theorem ajw{P:V->Prop}{v:V}(h:isN v=true)(k:P .none):P v:=by cases v <;> first | exact k | exact ff h
noncomputable def one(f:V->Option α):List V->Option α
 | []=>.none
 | v::r=>match r with | []=>f v | _::_=>.none
noncomputable def two(f:V->V->Option α):List V->Option α
 | []=>.none
 | v::r=>one (f v) r
@[elab_as_elim] theorem Z0{P:List V->Prop}{f:V->Option α}{l:List V}{a:α}(h:one f l=some a)(k:∀ v,f v=some a->P [v]):P l:=by
 cases l with
 | nil=>exact nn h
 | cons v r=>cases r with | nil=>exact k v h | cons=>exact nn h
@[elab_as_elim] theorem amV{P:List V->Prop}{f:V->V->Option α}{l:List V}{a:α}(h:two f l=some a)(k:∀ v w,f v w=some a->P [v,w]):P l:=by
 cases l with
 | nil=>exact nn h
 | cons v r=>exact Z0 (P:=fun r=>P (v::r)) h (k v)
end
noncomputable def lim:Nat:=4194304
noncomputable def ac9:O->Option (List V) | .list l=>some l | _=>.none
noncomputable def Z1:O->Option (List (V×V)) | .dict l=>some l | _=>.none
noncomputable def baO:O->Option (List UInt8) | .ba l=>some l | _=>.none
noncomputable def ajx:O->Option (Nat×List (Nat×V)) | .inst c fs=>some (c,fs) | _=>.none
@[elab_as_elim] theorem ahh{P:O->Prop}{o:O}{l}(h:ac9 o=some l)(k:P (.list l)):P o:=by cases o <;> first | (cases h; exact k) | exact nn h
@[elab_as_elim] theorem ahi{P:O->Prop}{o:O}{l}(h:Z1 o=some l)(k:P (.dict l)):P o:=by cases o <;> first | (cases h; exact k) | exact nn h
@[elab_as_elim] theorem amW{P:O->Prop}{o:O}{l}(h:baO o=some l)(k:P (.ba l)):P o:=by cases o <;> first | (cases h; exact k) | exact nn h
@[elab_as_elim] theorem ahj{P:O->Prop}{o:O}{p}(h:ajx o=some p)(k:P (.inst p.1 p.2)):P o:=by cases o <;> first | (cases h; exact k) | exact nn h
noncomputable def tD(st:St)(i:Nat):Option (List V):=bnd st[i]? ac9
noncomputable def dictAt(st:St)(i:Nat):Option (List (V×V)):=bnd st[i]? Z1
noncomputable def ada(st:St)(i:Nat):Option (List UInt8):=bnd st[i]? baO
noncomputable def ur(st:St)(i:Nat):Option (Nat×List (Nat×V)):=bnd st[i]? ajx
theorem BP{st:St}{i:Nat}{l}(h:tD st i=some l):st[i]?=some (.list l):=gR h fun J e h=>ahh (P:=fun o=>st[i]?=some o->_) h id e
theorem wQ{st:St}{i:Nat}{l}(h:dictAt st i=some l):st[i]?=some (.dict l):=gR h fun J e h=>ahi (P:=fun o=>st[i]?=some o->_) h id e
theorem Q8{st:St}{i:Nat}{l}(h:ada st i=some l):st[i]?=some (.ba l):=gR h fun J e h=>amW (P:=fun o=>st[i]?=some o->_) h id e
theorem aa7{st:St}{i:Nat}{p}(h:ur st i=some p):st[i]?=some (.inst p.1 p.2):=gR h fun J e h=>ahj (P:=fun o=>st[i]?=some o->_) h id e
noncomputable def iw(st:St):V->Option (List V)
 | .lst l=>some l
 | .ref i=>tD st i
 | _=>.none
noncomputable def oZ(st:St):V->Option (List (V×V)):=iR (dictAt st)
noncomputable def Q9(st:St)(v:V)(f:Nat):Option V:=iR (fun i=>bnd (ur st i) fun p=>gH p.2 f) v
noncomputable def jA(a b:V):Bool:=match a with
 | .int x=>(match b with | .int y=>decide (x=y) | _=>false)
 | .str x=>(match b with | .str y=>decide (x=y) | _=>false)
 | _=>false
noncomputable def Jb:V->Bool
 | .int _=>true
 | .str _=>true
 | _=>false
noncomputable def u9:List (V×V)->V->Option V
 | [],_=>.none
 | p::r,x=>if jA p.1 x then some p.2 else u9 r x
noncomputable def pD:List (V×V)->V->V->List (V×V)
 | [],x,v=>[(x,v)]
 | p::r,x,v=>if jA p.1 x then(p.1,v)::r else p::pD r x v
noncomputable def qY:List (V×V)->V->List (V×V)
 | [],_=>[]
 | p::r,x=>if jA p.1 x then qY r x else p::qY r x
noncomputable def isI:V->Bool | .int _=>true | _=>false
noncomputable def isS:V->Bool | .str _=>true | _=>false
noncomputable def Ud(a b:V):Bool:=(isI a && isI b) || (isS a && isS b)
noncomputable def mD(l:List (V×V))(x:V):Bool:=l.all fun p=>Ud p.1 x
noncomputable def G7:Option Bool->Option Bool->Option Bool
 | some a,o=>bnd o fun b=>some (a && b)
 | .none,_=>.none
noncomputable def vX(f:V->V->Option Bool):List V->List V->Option Bool
 | [],m=>(match m with | []=>some true | _::_=>.none)
 | a::l,m=>(match m with | []=>.none | b::m=>G7 (f a b) (vX f l m))
noncomputable def Xi(f:List V->List V->Option Bool)(a b:V):Option Bool:=match a with
 | .none=>if isN b then some true else .none
 | .bool x=>iB (fun y=>some (x==y)) b
 | .int x=>iI (fun y=>some (decide (x=y))) b
 | .str x=>iS (fun y=>some (decide (x=y))) b
 | .bytes x=>iY (fun y=>some (decide (x=y))) b
 | .tup l=>iT (fun m=>f l m) b
 | .lst l=>iL (fun m=>if l.length=m.length then f l m else some false) b
 | .ref _=>.none
noncomputable def eqv:Nat->V->V->Option Bool
 | 0=>Xi fun J J=>.none
 | n + 1=>Xi (vX (eqv n))
noncomputable def eqh(st:St)(a b:V):Option Bool:=if((oZ st a).isSome || (oZ st b).isSome)=true then .none else match iw st a with
 | some l=>bnd (iw st b) fun m=>if l.length=m.length then vX (eqv 3) l m else some false
 | .none=>if(iw st b).isSome=true then .none else eqv 4 a b
noncomputable def aqn:List V->Bool | [a,b]=>isS a && isI b | _=>false
noncomputable def isP:V->Bool | .tup l=>aqn l | _=>false
noncomputable def jK(l:List V):Bool:=l.all isI || l.all isS || l.all isP
noncomputable def iOf:V->Int | .int i=>i | _=>0
noncomputable def sOf:V->List Nat | .str s=>s | _=>[]
noncomputable def pOf:List V->List Nat×Int | [a,b]=>(sOf a,iOf b) | _=>([],0)
noncomputable def adb:V->List Nat×Int | .int i=>([],i) | .str s=>(s,0) | .tup l=>pOf l | _=>([],0)
noncomputable def ltK(a b:List Nat×Int):Bool:=decide (a.1 < b.1) || (decide (a.1=b.1) && decide (a.2 < b.2))
noncomputable def ltB(a b:V):Bool:=ltK (adb a) (adb b)
noncomputable def z9(x:V):List V->List V
 | []=>[x]
 | y::r=>if ltB x y then x::y::r else y::z9 x r
noncomputable def sH(l:List V):List V:=l.foldl (fun a x=>z9 x a) []
noncomputable def qz(i:Int):Bool:=decide (i.natAbs.log2 < 1048576)
noncomputable def ii(f:Int->Int->Option V)(a b:V):Option V:=iI (fun x=>iI (f x) b) a
noncomputable def amX(st:St)(a b:V):Option V:=bnd (iw st a) fun l=>bnd (iw st b) fun m=>gd (l.length + m.length<=lim) (.lst (l++m))
noncomputable def amY(st:St)(a b:V):Option V:=match a with
 | .int x=>iI (fun y=>some (.int (x + y))) b
 | .str x=>iS (fun y=>gd (x.length + y.length<=lim) (.str (x++y))) b
 | .bytes x=>iY (fun y=>gd (x.length + y.length<=lim) (.bytes (x++y))) b
 | a=>amX st a b
noncomputable def amZ(st:St)(a b:V):Option V:=iI (fun n=>match a with
 | .int x=>gd (qz x=true/\qz n=true) (.int (x * n))
 | .str x=>gd (x.length<=16/\0<=n/\n<=1000) (.str ((bQ n.toNat x).flatten))
 | a=>bnd (iw st a) fun l=>gd (0<=n/\n<=256/\l.length * n.toNat<=256) (.lst ((bQ n.toNat l).flatten))) b
noncomputable def Oj(st:St)(op:Bop)(a b:V):Option V:=match op with
 | .add=>amY st a b
 | .sub=>ii (fun x y=>some (.int (x - y))) a b
 | .mul=>amZ st a b
 | .fdiv=>ii (fun x y=>gd (0 < y/\y < 18446744073709551616) (.int (x / y))) a b
 | .mod=>ii (fun x y=>gd (0 < y) (.int (x % y))) a b
 | .pow=>ii (fun x y=>gd (0<=x/\x<=256/\0<=y/\y<=64) (.int (x ^ y.toNat))) a b
 | .shl=>ii (fun x y=>gd (0<=y/\y<=4096/\x.natAbs < 18446744073709551616) (.int (x * 2 ^ y.toNat))) a b
 | .shr=>ii (fun x y=>gd (0<=y) (.int (x / 2 ^ y.toNat))) a b
 | .band=>ii (fun x y=>gd (0<=x/\0<=y) (.int ((x.toNat &&& y.toNat:Nat):Int))) a b
noncomputable def isv(a b:V):Option Bool:=if isN a then some (isN b) else if isN b then some false else iR (fun i=>iR (fun j=>some (i==j)) b) a
noncomputable def ahk(x:V):List V->Option Bool
 | []=>some false
 | y::r=>bnd (eqv 0 y x) fun a=>bnd (ahk x r) fun b=>some (a || b)
noncomputable def inv(st:St)(x y:V):Option Bool:=match oZ st y with
 | some l=>gd (Jb x=true/\mD l x=true) (u9 l x).isSome
 | .none=>iT (ahk x) y
noncomputable def ci(f:Int->Int->Bool)(a b:V):Option Bool:=iI (fun x=>iI (fun y=>some (f x y)) b) a
noncomputable def cop(st:St)(op:Cop)(a b:V):Option Bool:=match op with
 | .eq=>eqh st a b
 | .ne=>bnd (eqh st a b) fun x=>some (!x)
 | .is=>isv a b
 | .Kq=>bnd (isv a b) fun x=>some (!x)
 | .inn=>inv st a b
 | .Ja=>bnd (inv st a b) fun x=>some (!x)
 | .lt=>ci (fun x y=>decide (x < y)) a b
 | .le=>ci (fun x y=>decide (x<=y)) a b
 | .gt=>ci (fun x y=>decide (x > y)) a b
 | .ge=>ci (fun x y=>decide (x ≥ y)) a b
noncomputable def nth{α:Type}(l:List α)(i:Int):Option α:=
 if 0<=i then l[i.toNat]? else if 0<=i + l.length then l[(i + l.length).toNat]? else .none
noncomputable def ahl(st:St)(j:Nat)(i:V):Option V:=bnd (dictAt st j) fun l=>bnd (gd (Jb i=true/\mD l i=true) ()) fun J=>u9 l i
noncomputable def aku(st:St)(j:Nat)(i:V):Option V:=match tD st j with | some l=>iI (nth l) i | .none=>ahl st j i
noncomputable def Fi(st:St)(a i:V):Option V:=match a with
 | .tup l=>iI (fun k=>bnd (gd (l.length<=lim) ()) fun J=>nth l k) i
 | .lst l=>iI (nth l) i
 | .bytes l=>iI (fun k=>bnd (gd (0<=k/\l.length<=lim) ()) fun J=>bnd l[k.toNat]? fun b=>some (.int b.toNat)) i
 | .ref j=>aku st j i
 | _=>.none
noncomputable def yp(n:Nat)(i:Int):Nat:=if i < 0 then n - (-i).toNat else min i.toNat n
noncomputable def am0(n:Nat):Option Int->Nat | some i=>yp n i | .none=>0
noncomputable def am1(n:Nat):Option Int->Nat | some i=>yp n i | .none=>n
noncomputable def cut{α:Type}(l:List α)(lo hi:Option Int):List α:=(l.take (am1 l.length hi)).drop (am0 l.length lo)
noncomputable def Xj:Option V->Option (Option Int)
 | .none=>some .none
 | some v=>iI (fun i=>some (some i)) v
noncomputable def ade(l:List Nat):Option Int->Option Int->Option V
 | .none,hi=>bnd hi fun j=>gd (0<=j) (.str (l.take j.toNat))
 | some i,hi=>if hi.isNone then gd (0<=i/\i<=l.length) (.str (l.drop i.toNat)) else .none
noncomputable def uw(st:St)(a:V)(lo hi:Option V):Option V:=bnd (Xj lo) fun lo=>bnd (Xj hi) fun hi=>match a with
 | .bytes l=>gd (l.length<=lim) (.bytes (cut l lo hi))
 | .str l=>bnd (gd (l.length<=lim) ()) fun J=>ade l lo hi
 | a=>bnd (iw st a) fun l=>some (.lst (cut l lo hi))
noncomputable def Px{α:Type}(f:V->Option α):List V->Option (List α)
 | []=>some []
 | v::r=>bnd (f v) fun a=>bnd (Px f r) fun l=>some (a::l)
noncomputable def Xk:List V->Option (List Int):=Px (iI some)
noncomputable def Z2:List V->Option (List Bool):=Px (iB some)
noncomputable def adf:List V->Option (List (List Nat)):=Px (iS some)
noncomputable def Aa(n:Nat):List Nat:=(toString n).toList.map Char.toNat
noncomputable def tO(sep:List Nat):List (List Nat)->List Nat
 | []=>[]
 | x::r=>(match r with | []=>x | _::_=>x++sep++tO sep r)
noncomputable def hd1(x:Nat):List (List Nat)->List (List Nat) | []=>[[x]] | y::t=>(x::y)::t
noncomputable def jg(c:Nat):List Nat->List (List Nat)
 | []=>[[]]
 | x::r=>if x=c then []::jg c r else hd1 x (jg c r)
noncomputable def zu:List V->List V
 | []=>[]
 | x::r=>if r.any (jA x) then zu r else x::zu r
noncomputable def am2(st:St):V->Option V
 | .bytes l=>gd (l.length<=lim) (.int l.length)
 | .str l=>gd (l.length<=lim) (.int l.length)
 | .tup l=>gd (l.length<=lim) (.int l.length)
 | v=>bnd (iw st v) fun l=>some (.int l.length)
noncomputable def am3(st:St)(v:V):Option V:=bnd (iw st v) fun l=>bnd (Xk l) fun ns=>some (.int ns.sum)
noncomputable def Z4(i:Int):UInt8:=UInt8.ofNat i.toNat
noncomputable def adg(st:St):V->Option V
 | .int n=>gd (0<=n/\n<=lim) (.bytes (bQ n.toNat 0))
 | .bytes l=>some (.bytes l)
 | .lst l=>bnd (Xk l) fun ns=>gd ((ns.all fun i=>decide (0<=i/\i < 256))=true) (.bytes (ns.map Z4))
 | .ref i=>bnd (ada st i) fun l=>some (.bytes l)
 | _=>.none
noncomputable def aqo:List Nat->Option V | []=>.none | c::r=>(match r with | []=>some (.int c) | _::_=>.none)
noncomputable def am4:V->Option V:=iS aqo
noncomputable def am5:V->Option V:=iI fun i=>gd (0<=i/\i < 256) (.str [i.toNat])
noncomputable def am6(st:St)(v:V):Option V:=bnd (iw st v) fun l=>bnd (Z2 l) fun bs=>some (.bool (bs.all id))
noncomputable def rT(l:List V):Option V:=gd (jK l=true/\l.length < 64) (.lst (sH l))
noncomputable def yq(st:St)(v:V):Option V:=match oZ st v with
 | some l=>rT (l.map (·.1))
 | .none=>bnd (iw st v) rT
noncomputable def Ra:V->Option Int:=iI fun i=>gd (0<=i/\i < 16) i
noncomputable def Ku(st:St)(v:V):Option V:=bnd (iw st v) (two fun a b=>bnd (Ra a) fun J=>bnd (Ra b) fun J=>rT (zu [a,b]))
noncomputable def aa8:V->Option V:=iI fun i=>gd (0<=i/\i < 1000000) (.str (Aa i.toNat))
noncomputable def am7(st:St)(v:V):Option V:=bnd (iw st v) fun l=>some (.lst l)
noncomputable def akv(st:St):V->Option V
 | .str _=>some (.bool true)
 | v=>bnd (oZ st v) fun J=>some (.bool false)
noncomputable def JH(st:St)(b:Bi)(args:List V):Option V:=match b with
 | .len=>one (am2 st) args
 | .sum=>one (am3 st) args
 | .bytes=>one (adg st) args
 | .ord=>one am4 args
 | .chr=>one am5 args
 | .all=>one (am6 st) args
 | .sorted=>one (yq st) args
 | .qd=>one (Ku st) args
 | .max=>two (ii fun a b=>some (.int (max a b))) args
 | .min=>two (ii fun a b=>some (.int (min a b))) args
 | .int=>one (iB fun b=>some (.int (if b then 1 else 0))) args
 | .str=>one aa8 args
 | .list=>one (am7 st) args
 | .isStr=>one (akv st) args
noncomputable def Z5(st:St)(o v:V):Option (V×St):=iR (fun i=>bnd (tD st i) fun l=>gd (l.length < lim) (.none,st.set i (.list (l++[v])))) o
noncomputable def ahm(st:St)(o v:V):Option (V×St):=iR (fun i=>bnd (tD st i) fun l=>bnd (iw st v) fun m=>gd (l.length + m.length < lim) (.none,st.set i (.list (l++m)))) o
noncomputable def ajy(st:St)(o v:V):Option (V×St):=iR (fun i=>iY (fun m=>bnd (ada st i) fun l=>gd (l.length + m.length < lim) (.none,st.set i (.ba (l++m)))) v) o
noncomputable def Z6(st:St)(o k d:V):Option (V×St):=bnd (oZ st o) fun l=>gd (Jb k=true/\mD l k=true) ((u9 l k).getD d,st)
noncomputable def am8(st:St)(o k:V):Option (V×St):=iR (fun i=>bnd (dictAt st i) fun l=>bnd (gd (Jb k=true/\mD l k=true) ()) fun J=>bnd (u9 l k) fun v=>some (v,st.set i (.dict (qY l k)))) o
noncomputable def akx(st:St)(s:List Nat):List Nat->Option (V×St) | []=>.none | c::r=>(match r with | []=>gd (s.length + 2<=lim) (.lst ((jg c s).map .str),st) | _::_=>.none)
noncomputable def adh(st:St)(o v:V):Option (V×St):=iS (fun s=>iS (akx st s) v) o
noncomputable def ajz(st:St)(o v:V):Option (V×St):=iS (fun s=>bnd (iw st v) fun l=>bnd (adf l) fun ps=>gd ((ps.map mC).sum + ps.length<=1048576/\s.length<=16) (.str (tO s ps),st)) o
noncomputable def Z7(st:St)(m:Bm)(o:V)(args:List V):Option (V×St):=match m with
 | .append=>one (Z5 st o) args
 | .extend=>one (ahm st o) args
 | .Kr=>one (ajy st o) args
 | .Xg=>one (fun k=>Z6 st o k .none) args
 | .Oi=>two (Z6 st o) args
 | .pop=>one (am8 st o) args
 | .split=>one (adh st o) args
 | .join=>one (ajz st o) args
noncomputable def Jc(f:Nat->Bool):V->Bool | .ref i=>f i | _=>false
noncomputable def bmk(st:St)(m:Bm)(v:V):Bool:=match m with
 | .append=>Jc (fun i=>(tD st i).isSome) v
 | .extend=>Jc (fun i=>(tD st i).isSome) v
 | .Kr=>Jc (fun i=>(ada st i).isSome) v
 | .Xg=>Jc (fun i=>(dictAt st i).isSome) v
 | .Oi=>Jc (fun i=>(dictAt st i).isSome) v
 | .pop=>Jc (fun i=>(dictAt st i).isSome) v
 | .split=>isS v
 | .join=>isS v
noncomputable def Ab(st:St)(o i v:V):Option St:=iR (fun j=>bnd (dictAt st j) fun l=>gd (Jb i=true/\mD l i=true/\l.length < lim) (st.set j (.dict (pD l i v)))) o
noncomputable def Ac(has:Nat->Nat->Bool)(st:St)(o:V)(f:Nat)(v:V):Option St:=iR (fun j=>bnd (ur st j) fun p=>gd (p.2.length < 100/\has p.1 f=true) (st.set j (.inst p.1 (pC p.2 f v)))) o
noncomputable def Xl(st:St):V->Option (List V)
 | .tup l=>some l
 | .bytes l=>some (l.map fun b=>.int b.toNat)
 | .str l=>some (l.map fun c=>.str [c])
 | v=>iw st v
noncomputable def lF(st:St)(k:Sk)(vs:List V):Option (List V):=match k with
 | .plain=>one (Xl st) vs
 | .range=>one (iI fun n=>gd (0<=n/\n<=lim) ((fD n.toNat).map fun(i:Nat)=>.int i)) vs
 | .enum=>one (iY fun l=>some ((fD l.length).zip l |>.map fun p=>.tup [.int p.1,.int p.2.toNat])) vs
 | .zip=>two (fun a b=>bnd (iw st a) fun l=>bnd (iw st b) fun m=>some ((l.zip m).map fun p=>.tup [p.1,p.2])) vs
noncomputable def ux(st:St)(k:Sk)(vs:List V)(l:List V):Prop:=lF st k vs=some l
mutual
noncomputable def Fj:Pt->V->Fm->Option Fm
 | .v k,v,fr=>some (pC fr k v)
 | .t ps,v,fr=>iT (fun vs=>Dz ps vs fr) v
noncomputable def Dz:List Pt->List V->Fm->Option Fm
 | [],vs,fr=>(match vs with | []=>some fr | _::_=>.none)
 | p::ps,vs,fr=>(match vs with | []=>.none | v::vs=>bnd (Fj p v fr) fun fr=>Dz ps vs fr)
end
abbrev Po:=V->St->Prop
abbrev Ex:=Nat->St->Prop
structure Rec where
 e:ME->Fm->St->Po->Ex->Prop
 t:ME->Fm->St->(Bool->St->Prop)->Ex->Prop
 a:Tg->V->Fm->St->(Fm->St->Prop)->Ex->Prop
 s:MS->Fm->St->(Fl->Fm->St->Prop)->Ex->Prop
 c:Nat->List V->St->Po->Ex->Prop
noncomputable def vI(f:Int->Prop):V->Prop | .int i=>f i | _=>False
noncomputable def vB(f:Bool->Prop):V->Prop | .bool i=>f i | _=>False
noncomputable def vR(f:Nat->Prop):V->Prop | .ref i=>f i | _=>False
noncomputable def vT(f:List V->Prop):V->Prop | .tup i=>f i | _=>False
noncomputable def vN(p:Prop):V->Prop | .none=>p | _=>False
@[elab_as_elim] theorem aqp{P:V->Prop}{f:Int->Prop}{v:V}(h:vI f v)(k:∀ i,f i->P (.int i)):P v:=by cases v <;> first | exact k _ h | exact h.elim
@[elab_as_elim] theorem aqq{P:V->Prop}{f:Bool->Prop}{v:V}(h:vB f v)(k:∀ i,f i->P (.bool i)):P v:=by cases v <;> first | exact k _ h | exact h.elim
@[elab_as_elim] theorem aqr{P:V->Prop}{f:Nat->Prop}{v:V}(h:vR f v)(k:∀ i,f i->P (.ref i)):P v:=by cases v <;> first | exact k _ h | exact h.elim
@[elab_as_elim] theorem am9{P:V->Prop}{f:List V->Prop}{v:V}(h:vT f v)(k:∀ i,f i->P (.tup i)):P v:=by cases v <;> first | exact k _ h | exact h.elim
@[elab_as_elim] theorem aqs{P:V->Prop}{p:Prop}{v:V}(h:vN p v)(k:p->P .none):P v:=by cases v <;> first | exact k h | exact h.elim
noncomputable def nx(A:Fm->St->Prop)(Q:Fl->Fm->St->Prop):Fl->Fm->St->Prop | .next=>A | .cont=>Q .cont | .ret v=>Q (.ret v)
noncomputable def nr(A:Fm->St->Prop)(Q:Fl->Fm->St->Prop):Fl->Fm->St->Prop | .next=>A | .cont=>A | .ret v=>Q (.ret v)
section
variable(r:Rec)
noncomputable def Ue:List ME->Fm->St->(List V->St->Prop)->Ex->Prop
 | [],_,st,Q,_=>Q [] st
 | m::l,fr,st,Q,X=>r.e m fr st (fun v st=>Ue l fr st (fun vs st=>Q (v::vs) st) X) X
noncomputable def Z8(oR:Bool):List ME->Fm->St->Po->Ex->Prop
 | [],_,_,_,_=>False
 | m::l,fr,st,Q,X=>(match l with
  | []=>r.e m fr st Q X
  | _::_=>r.e m fr st (fun v st=>vB (fun b=>if b=oR then Z8 oR l fr st Q X else Q (.bool b) st) v) X)
noncomputable def Z9(oR:Bool):List ME->Fm->St->(Bool->St->Prop)->Ex->Prop
 | [],_,st,Q,_=>Q oR st
 | m::l,fr,st,Q,X=>r.t m fr st (fun b st=>if b=oR then Z9 oR l fr st Q X else Q b st) X
noncomputable def Xm:Option ME->Fm->St->(Option V->St->Prop)->Ex->Prop
 | .none,_,st,Q,_=>Q .none st
 | some m,fr,st,Q,X=>r.e m fr st (fun v st=>Q (some v) st) X
noncomputable def aac:Option ME->Fm->St->(Bool->St->Prop)->Prop
 | .none,_,st,Q=>Q true st
 | some m,fr,st,Q=>r.t m fr st Q (fun J J=>False)
noncomputable def ssW:List MS->Fm->St->(Fl->Fm->St->Prop)->Ex->Prop
 | [],fr,st,Q,_=>Q .next fr st
 | m::l,fr,st,Q,X=>r.s m fr st (nx (fun fr st=>ssW l fr st Q X) Q) X
noncomputable def aa9:List Tg->List V->Fm->St->(Fm->St->Prop)->Ex->Prop
 | [],vs,fr,st,Q,_=>(match vs with | []=>Q fr st | _::_=>False)
 | t::ts,vs,fr,st,Q,X=>(match vs with | []=>False | v::vs=>r.a t v fr st (fun fr st=>aa9 ts vs fr st Q X) X)
noncomputable def Py(pt:Pt)(cond:Option ME)(elt:ME)(fr:Fm)(live:St->Prop):List V->List V->St->(List V->St->Prop)->Prop
 | [],acc,st,Q=>live st/\Q acc st
 | x::l,acc,st,Q=>live st/\acc.length < lim/\ok (Fj pt x fr) fun fr'=>aac r cond fr' st fun b st=>
  if b=true then r.e elt fr' st (fun v st=>Py pt cond elt fr live l (acc++[v]) st Q) (fun J J=>False)
  else Py pt cond elt fr live l acc st Q
noncomputable def Rb(pt:Pt)(body:List MS)(live:St->Prop):List V->Fm->St->(Fl->Fm->St->Prop)->Ex->Prop
 | [],fr,st,Q,_=>live st/\Q .next fr st
 | x::l,fr,st,Q,X=>live st/\ok (Fj pt x fr) fun fr=>ssW r body fr st (nr (fun fr st=>Rb pt body live l fr st Q X) Q) X
end
noncomputable def qe:Fl->V | .ret v=>v | _=>.none
noncomputable def aad(df:List V)(np:Nat)(args:List V):Option Fm:=
 let all:=args++df.drop (df.length - (np - args.length))
 gd (args.length<=np/\all.length=np) ((fD np).zip all)
noncomputable def step(P:Pg)(r:Rec):Rec where
 e:=fun m fr st Q X=>match m with
  | .aj v=>Q v st
  | .aD k=>ok (gH fr k) fun v=>Q v st
  | .bR o f=>r.e o fr st (fun v st=>ok (Q9 st v f) fun x=>Q x st) X
  | .bin op a b=>r.e a fr st (fun va st=>r.e b fr st (fun vb st=>ok (Oj st op va vb) fun x=>Q x st) X) X
  | .neg a=>r.e a fr st (fun v st=>vI (fun i=>Q (.int (-i)) st) v) X
  | .not a=>r.e a fr st (fun v st=>vB (fun b=>Q (.bool (!b)) st) v) X
  | .bool oR l=>Z8 r oR l fr st Q X
  | .cmp a op b=>r.e a fr st (fun va st=>r.e b fr st (fun vb st=>ok (cop st op va vb) fun x=>Q (.bool x) st) X) X
  | .z8 a op1 b op2 c=>r.e a fr st (fun va st=>r.e b fr st (fun vb st=>ok (cop st op1 va vb) fun x=>
    if x=true then r.e c fr st (fun vc st=>ok (cop st op2 vb vc) fun y=>Q (.bool y) st) X else Q (.bool false) st) X) X
  | .ite c a b=>r.t c fr st (fun t st=>if t=true then r.e a fr st Q X else r.e b fr st Q X) X
  | .tup l=>Ue r l fr st (fun vs st=>Q (.tup vs) st) X
  | .jJ l=>Ue r l fr st (fun vs st=>Q (.lst vs) st) X
  | .Fg l=>Ue r l fr st (fun vs st=>Q (.ref st.length) (st++[.list vs])) X
  | .dict=>Q (.ref st.length) (st++[.dict []])
  | .qy a i=>r.e a fr st (fun va st=>r.e i fr st (fun vi st=>ok (Fi st va vi) fun x=>Q x st) X) X
  | .slice a lo hi=>r.e a fr st (fun va st=>Xm r lo fr st (fun vl st=>Xm r hi fr st (fun vh st=>ok (uw st va vl vh) fun x=>Q x st) X) X) X
  | .comp pt k src cond elt=>Ue r src fr st (fun vs st=>ok (lF st k vs) fun l=>Py r pt cond elt fr (fun st=>ux st k vs l) l [] st (fun acc st=>Q (.lst acc) st)) X
  | .call f args=>Ue r args fr st (fun vs st=>r.c f vs st Q X) X
  | .bk nm o args=>r.e o fr st (fun v st=>vR (fun i=>ok (ur st i) fun p=>gH p.2 nm=.none/\ok (P.me p.1 nm) fun f=>Ue r args fr st (fun vs st=>r.c f (.ref i::vs) st Q X) X) v) X
  | .new C f args=>Ue r args fr st (fun vs st=>r.c f (.ref st.length::vs) (st++[.inst C []]) (fun v st'=>vN (Q (.ref st.length) st') v) (fun J J=>False)) X
  | .bi b args=>Ue r args fr st (fun vs st=>ok (JH st b vs) fun x=>Q x st) X
  | .Ub=>Q (.ref st.length) (st++[.ba []])
  | .bm m o args=>r.e o fr st (fun v st=>bmk st m v=true/\Ue r args fr st (fun vs st=>ok (Z7 st m v vs) fun x=>Q x.1 x.2) X) X
  | .heard _ sG hs body=>r.e body fr st (fun v st=>Q (.tup [sG,v]) st) (fun C st=>ok (hs.lookup C) fun x=>Q x st)
 t:=fun m fr st Q X=>match m with
  | .not a=>r.t a fr st (fun b st=>Q (!b) st) X
  | .bool oR l=>Z9 r oR l fr st Q X
  | .ite c a b=>r.t c fr st (fun t st=>if t=true then r.t a fr st Q X else r.t b fr st Q X) X
  | m=>r.e m fr st (fun v st=>vB (fun b=>Q b st) v) X
 a:=fun t v fr st Q X=>match t with
  | .v k=>Q (pC fr k v) st
  | .t l=>vT (fun vs=>l.length=vs.length/\aa9 r l vs fr st Q X) v
  | .at o f=>r.e o fr st (fun vo st=>ok (Ac P.has st vo f v) fun st=>Q fr st) X
  | .sub o i=>r.e o fr st (fun vo st=>r.e i fr st (fun vi st=>ok (Ab st vo vi v) fun st=>Q fr st) X) X
 s:=fun m fr st Q X=>match m with
  | .expr e=>r.e e fr st (fun J st=>Q .next fr st) X
  | .pass=>Q .next fr st
  | .cont=>Q .cont fr st
  | .ret e=>Xm r e fr st (fun v st=>Q (.ret (v.getD .none)) fr st) X
  | .eG t e=>r.e e fr st (fun v st=>r.a t v fr st (fun fr st=>Q .next fr st) X) X
  | .ite c a b=>r.t c fr st (fun t st=>if t=true then ssW r a fr st Q X else ssW r b fr st Q X) X
  | .while c body=>∃ (I:Nat->Fm->St->Prop) (n:Nat),I n fr st/\∀ n fr st,I n fr st->
    r.t c fr st (fun b st=>if b=true then ssW r body fr st (nr (fun fr st=>∃ m,m < n/\I m fr st) Q) X else Q .next fr st) X
  | .for pt k src body=>Ue r src fr st (fun vs st=>ok (lF st k vs) fun l=>Rb r pt body (fun st=>ux st k vs l) l fr st Q X) X
  | .raise C arg=>r.e arg fr st (fun J st=>X C st) X
 c:=fun f args st Q X=>ok (P.fn f) fun mf=>ok (aad mf.df mf.np args) fun fr=>ssW r mf.body fr st (fun fl J st=>Q (qe fl) st) X
noncomputable def bot:Rec:=⟨fun J J J J J=>False,fun J J J J J=>False,fun J J J J J J=>False,fun J J J J J=>False,fun J J J J J=>False⟩
noncomputable def W(P:Pg):Nat->Rec
 | 0=>bot
 | n + 1=>step P (W P n)
end
noncomputable def ana:List (Nat×Nat):=[(226,0),(276,0),(276,2),(467,12),(467,13),(467,14),(467,15),(467,16),(467,17),(467,18),(467,19),(467,20),(467,21),(467,22),(607,27),(607,28),(607,29),(607,30),(607,31),(607,32),(607,33),(757,36),(757,37),(933,39),(933,40),(933,41),(933,42),(933,43),(954,52),(954,8),(954,53),(954,34),(1053,23),(1053,16),(1053,0),(1053,54)]
noncomputable def meL:List (Nat×Nat×Nat):=[(226,1,202),(226,6,216),(226,5,223),(276,3,252),(276,4,259),(276,1,266),(276,6,273),(757,38,699),(757,59,707),(757,0,714),(757,7,721),(757,57,728),(757,58,733),(933,46,790),(933,45,797),(933,44,804),(933,47,811),(933,63,818),(933,64,825),(933,56,832),(933,48,846),(933,25,853),(933,62,860),(933,65,867),(933,51,874),(933,67,881),(933,60,916),(933,61,923),(933,68,930),(1053,66,986),(1053,9,993),(1053,29,1000),(1053,7,1007),(1053,24,1015),(1053,50,1022),(1053,35,1029),(1053,55,1036),(1053,25,1043),(1053,49,1050)]
noncomputable def anb:List (Nat×Nat):=[(226,195),(276,245),(467,464),(607,597),(757,691),(933,782),(954,951),(1053,972)]
noncomputable def Xn:List Nat:=[51,63,75,87,99,111,123,135,147,159]
noncomputable def eE:V:=.str [116,111,108,100]
noncomputable def vY:List (Nat×V):=[(87,.tup [.str [69,120,105,115,116,115],.none]),(123,.tup [.str [73,110,118,97,108,105,100,80,97,116,104],.none]),(147,.tup [.str [73,115,70,111,108,100,101,114],.none]),(159,.tup [.str [76,111,111,112,115],.none]),(99,.tup [.str [77,105,115,117,115,101,100],.none]),(75,.tup [.str [77,105,115,115,105,110,103],.none]),(135,.tup [.str [78,111,116,70,111,108,100,101,114],.none])]
noncomputable def anc:List (Nat×V×List (Nat×V)):=[(1071,eE,vY)]
noncomputable def J1:List Nat:=[34,35,37,38,50,51,62,63,74,75,86,87,98,99,110,111,122,123,134,135,146,147,158,159,165,166,170,171,175,176,180,181,194,195,201,202,215,216,222,223,225,226,238,244,245,251,252,258,259,265,266,272,273,275,276,286,287,307,308,314,315,321,322,328,329,370,371,417,418,441,442,448,449,457,463,464,466,467,477,478,491,492,496,497,501,502,549,550,556,557,563,564,570,571,577,578,582,583,596,597,606,607,617,618,624,625,631,632,638,639,643,644,648,649,655,656,662,663,669,670,676,677,690,691,692,698,699,700,706,707,713,714,720,721,727,728,732,733,756,757,767,768,781,782,783,789,790,796,797,803,804,810,811,817,818,824,825,831,832,845,846,852,853,859,860,866,867,873,874,880,881,915,916,922,923,929,930,932,933,950,951,953,954,971,972,985,986,992,993,999,1000,1006,1007,1008,1014,1015,1021,1022,1028,1029,1035,1036,1042,1043,1049,1050,1052,1053,1063,1064,1070,1071,1075,1076,1080,1081,1085,1086,1090,1091,1095,1096]
noncomputable def bad:MS:=.expr (.neg (.aj .none))
noncomputable def Rc:MF:=⟨1,[],
[.ret (some (.bi .sum [(.comp (.t [(.v 1),(.v 2)]) .enum [(.aD 0)] .none (.bin .shl (.aD 2) (.bin .mul (.aj (.int 8)) (.aD 1))))]))]⟩
noncomputable def Rf:MF:=⟨2,[],
[.ite (.not (.z8 (.aj (.int 0)) .le (.aD 0) .lt (.bin .pow (.aj (.int 256)) (.aD 1)))) [.raise 99 (.aj (.str [97,32,110,117,109,98,101,114,32,116,104,97,116,32,100,111,101,115,32,110,111,116,32,102,105,116]))] [],
 .ret (some (.bi .bytes [(.comp (.v 2) .range [(.aD 1)] .none (.bin .band (.bin .shr (.aD 0) (.bin .mul (.aj (.int 8)) (.aD 2))) (.aj (.int 255))))]))]⟩
noncomputable def Kv:MF:=⟨1,[],
[.eG (.v 1) (.comp (.v 2) .plain [(.aD 0)] .none (.bi .ord [(.aD 2)])),
 .ite (.not (.bi .all [(.comp (.v 2) .plain [(.aD 1)] .none (.z8 (.aj (.int 32)) .le (.aD 2) .lt (.aj (.int 127))))])) [.raise 99 (.aj (.str [97,32,115,105,103,110,32,116,104,97,116,32,110,111,32,116,101,120,116,32,104,97,115]))] [],
 .ret (some (.bi .bytes [(.aD 1)]))]⟩
noncomputable def Kw:MF:=⟨1,[],
[.ite (.not (.bi .all [(.comp (.v 1) .plain [(.aD 0)] .none (.z8 (.aj (.int 32)) .le (.aD 1) .lt (.aj (.int 127))))])) [.raise 51 (.aj (.str [110,111,32,116,101,120,116]))] [],
 .ret (some (.bm .join (.aj (.str [])) [(.comp (.v 1) .plain [(.aD 0)] .none (.bi .chr [(.aD 1)]))]))]⟩
noncomputable def Rg:MF:=⟨1,[],
[.eG (.at (.aD 0) 0) .Ub]⟩
noncomputable def Ky:MF:=⟨3,[],
[.expr (.bm .Kr (.bR (.aD 0) 0) [(.call 171 [(.aD 1),(.aD 2)])])]⟩
noncomputable def Rh:MF:=⟨2,[],
[.eG (.v 2) (.call 176 [(.aD 1)]),
 .expr (.bk 1 (.aD 0) [(.bi .len [(.aD 2)]),(.aj (.int 1))]),
 .expr (.bm .Kr (.bR (.aD 0) 0) [(.aD 2)])]⟩
noncomputable def Ol:MF:=⟨1,[],
[.ret (some (.bi .bytes [(.bR (.aD 0) 0)]))]⟩
noncomputable def Kz:MF:=⟨3,[.int 0],
[.eG (.at (.aD 0) 0) (.aD 1),
 .eG (.at (.aD 0) 2) (.aD 2)]⟩
noncomputable def KC:MF:=⟨1,[],
[.ret (some (.bin .sub (.bi .len [(.bR (.aD 0) 0)]) (.bR (.aD 0) 2)))]⟩
noncomputable def KD:MF:=⟨2,[],
[.ite (.cmp (.aD 1) .gt (.bk 3 (.aD 0) [])) [.raise 51 (.aj (.str [116,111,111,32,115,104,111,114,116]))] [],
 .eG (.v 2) (.bi .bytes [(.slice (.bR (.aD 0) 0) (some (.bR (.aD 0) 2)) (some (.bin .add (.bR (.aD 0) 2) (.aD 1))))]),
 .eG (.at (.aD 0) 2) (.bin .add (.bR (.aD 0) 2) (.aD 1)),
 .ret (some (.aD 2))]⟩
noncomputable def G8:MF:=⟨2,[],
[.ret (some (.call 166 [(.bk 4 (.aD 0) [(.aD 1)])]))]⟩
noncomputable def KH:MF:=⟨1,[],
[.ret (some (.call 181 [(.bk 4 (.aD 0) [(.bk 1 (.aD 0) [(.aj (.int 1))])])]))]⟩
noncomputable def abb:MF:=⟨2,[],
[.ite (.cmp (.bi .len [(.aD 0)]) .gt (.aD 1)) [.raise 99 (.aj (.str [109,111,114,101,32,111,99,116,101,116,115,32,116,104,97,110,32,116,104,101,114,101,32,105,115,32,114,111,111,109,32,102,111,114]))] [],
 .ret (some (.bin .add (.bi .bytes [(.aD 0)]) (.bi .bytes [(.bin .sub (.aD 1) (.bi .len [(.aD 0)]))])))]⟩
noncomputable def Xo:MF:=⟨1,[],
[.ret (some (.bin .mod (.bin .add (.bin .mul (.aD 0) (.aj (.int 2654435761))) (.aj (.int 40503))) (.bin .pow (.aj (.int 2)) (.aj (.int 32)))))]⟩
noncomputable def Ug:MF:=⟨2,[],
[.ite (.not (.z8 (.aj (.int 0)) .lt (.bi .len [(.call 176 [(.aD 0)])]) .le (.aj (.int 28)))) [.raise 99 (.aj (.str [97,32,110,97,109,101,32,116,104,97,116,32,110,111,32,100,105,114,101,99,116,111,114,121,32,104,97,115]))] [],
 .ite (.not (.z8 (.aj (.int 0)) .le (.aD 1) .lt (.bin .pow (.aj (.int 256)) (.aj (.int 8))))) [.raise 99 (.aj (.str [97,32,110,117,109,98,101,114,32,116,104,97,116,32,110,111,32,100,105,114,101,99,116,111,114,121,32,104,97,115]))] []]⟩
noncomputable def JK:MF:=⟨3,[],
[.eG (.v 3) (.new 226 195 []),
 .expr (.bk 1 (.aD 3) [(.aj (.int 1)),(.aj (.int 1))]),
 .expr (.bk 1 (.aD 3) [(.aD 0),(.aj (.int 4))]),
 .expr (.bk 1 (.aD 3) [(.bi .len [(.aD 1)]),(.aj (.int 2))]),
 .for (.t [(.v 4),(.v 5)]) .plain [(.aD 1)] [.expr (.bk 6 (.aD 3) [(.aD 4)]),
  .expr (.bk 1 (.aD 3) [(.aD 5),(.aj (.int 8))])],
 .eG (.v 6) (.bk 5 (.aD 3) []),
 .ret (some (.ite (.cmp (.bi .len [(.aD 6)]) .le (.aD 2)) (.call 287 [(.aD 6),(.aD 2)]) (.aj .none)))]⟩
noncomputable def Om:MF:=⟨1,[],
[.eG (.t [(.v 1),(.v 2)]) (.tup [(.new 276 245 [(.aD 0),(.aj (.int 7))]),(.Fg [])]),
 .for (.v 3) .range [(.call 166 [(.slice (.aD 0) (some (.aj (.int 5))) (some (.aj (.int 7))))])] [.eG (.v 4) (.bk 6 (.aD 1) []),
  .expr (.bm .append (.aD 2) [(.tup [(.aD 4),(.bk 1 (.aD 1) [(.aj (.int 8))])])])],
 .ret (some (.aD 2))]⟩
noncomputable def Xp:MF:=⟨1,[],
[.ite (.cmp (.qy (.aD 0) (.aj (.int 0))) .Ja (.tup [(.aj (.int 1)),(.aj (.int 2))])) [.raise 51 (.aj (.str [110,111,32,100,105,114,101,99,116,111,114,121]))] [],
 .ret (some (.qy (.aD 0) (.aj (.int 0))))]⟩
noncomputable def KJ:MF:=⟨2,[],
[.ret (some (.bk 7 (.aD 0) [(.aD 1),(.aj (.int 0)),(.bR (.bk 9 (.aD 0) [(.aD 1)]) 8)]))]⟩
noncomputable def Uh:MF:=⟨3,[],
[.eG (.v 3) (.call 418 [(.aD 0),(.aD 1)]),
 .ite (.cmp (.call 371 [(.aD 3)]) .eq (.aj (.int 1))) [.eG (.v 4) (.comp (.t [(.v 8),(.v 9)]) .plain [(.call 329 [(.aD 3)])] (some (.cmp (.aD 8) .eq (.aD 2))) (.aD 9)),
  .ret (some (.ite (.cmp (.aD 4) .ne (.jJ [])) (.qy (.aD 4) (.aj (.int 0))) (.aj .none)))] [],
 bad,
 bad,
 bad,
 bad]⟩
noncomputable def Xq:MF:=⟨2,[],
[.eG (.v 2) (.call 418 [(.aD 0),(.aD 1)]),
 .ite (.cmp (.call 371 [(.aD 2)]) .eq (.aj (.int 1))) [.ret (some (.bi .sorted [(.call 329 [(.aD 2)])]))] [],
 .eG (.t [(.v 3),(.v 4)]) (.tup [(.jJ []),(.bi .len [(.aD 2)])]),
 bad,
 .ret (some (.bi .sorted [(.aD 3)]))]⟩
noncomputable def Oo:MF:=⟨12,[.int 16,.int 32,.int 32,.int 4,.int 4,.int 4,.int 2,.int 128,.int 192,.int 160,.int 128],
[.eG (.at (.aD 0) 12) (.aD 1),
 .eG (.at (.aD 0) 13) (.aD 2),
 .eG (.at (.aD 0) 14) (.aD 3),
 .eG (.at (.aD 0) 15) (.aD 4),
 .eG (.at (.aD 0) 16) (.aD 5),
 .eG (.at (.aD 0) 17) (.aD 6),
 .eG (.at (.aD 0) 18) (.aD 7),
 .eG (.at (.aD 0) 19) (.aD 8),
 .eG (.at (.aD 0) 20) (.aD 9),
 .eG (.at (.aD 0) 21) (.aD 10),
 .eG (.at (.aD 0) 22) (.aD 11)]⟩
noncomputable def Ui:MF:=⟨2,[],
[.ret (some (.bin .mul (.bin .fdiv (.bin .sub (.bin .add (.aD 0) (.aD 1)) (.aj (.int 1))) (.aD 1)) (.aD 1)))]⟩
noncomputable def Xr:MF:=⟨2,[],
[.eG (.v 2) (.bR (.bR (.aD 0) 23) 22),
 .eG (.v 3) (.bk 24 (.aD 0) [(.aD 1),(.aD 2)]),
 .expr (.bk 25 (.aD 0) [(.aD 3),(.aj (.int 0)),(.call 322 [(.call 308 [(.aD 3)]),(.jJ []),(.aD 2)])]),
 .ret (some (.aD 3))]⟩
noncomputable def Xu:MF:=⟨4,[],
[.expr (.call 315 [(.aD 2),(.aD 3)]),
 .eG (.v 4) (.call 418 [(.aD 0),(.aD 1)]),
 .ite (.cmp (.call 371 [(.aD 4)]) .ne (.aj (.int 1))) [bad,
  .ret .none] [],
 .eG (.v 5) (.bi .sorted [(.bin .add (.comp (.v 9) .plain [(.call 329 [(.aD 4)])] (some (.cmp (.qy (.aD 9) (.aj (.int 0))) .ne (.aD 2))) (.aD 9)) (.jJ [(.tup [(.aD 2),(.aD 3)])]))]),
 .eG (.v 6) (.call 322 [(.call 308 [(.aD 1)]),(.aD 5),(.bi .len [(.aD 4)])]),
 .ite (.cmp (.aD 6) .Kq (.aj .none)) [.expr (.bk 25 (.aD 0) [(.aD 1),(.aj (.int 0)),(.aD 6)])] [bad,
  .for (.t [(.v 7),(.v 8)]) .plain [(.aD 5)] [bad]]]⟩
noncomputable def Uj:MF:=⟨3,[],
[.ite (.cmp (.call 442 [(.aD 0),(.aD 1),(.aD 2)]) .is (.aj .none)) [.raise 75 (.aj (.str [110,111,32,115,117,99,104,32,110,97,109,101]))] [],
 .eG (.v 3) (.call 418 [(.aD 0),(.aD 1)]),
 .ite (.cmp (.call 371 [(.aD 3)]) .eq (.aj (.int 1))) [.eG (.v 4) (.comp (.v 8) .plain [(.call 329 [(.aD 3)])] (some (.cmp (.qy (.aD 8) (.aj (.int 0))) .ne (.aD 2))) (.aD 8)),
  .expr (.bk 25 (.aD 0) [(.aD 1),(.aj (.int 0)),(.call 322 [(.call 308 [(.aD 1)]),(.aD 4),(.bi .len [(.aD 3)])])]),
  .ret .none] [],
 bad,
 bad,
 bad,
 bad,
 .eG (.at (.aD 5) 26) (.bin .sub (.bR (.aD 5) 26) (.aj (.int 1))),
 bad]⟩
noncomputable def G9:MF:=⟨1,[],
[.ite (.bool false [(.not (.z8 (.aj (.int 1)) .le (.bi .len [(.aD 0)]) .le (.aj (.int 28)))),(.cmp (.aD 0) .inn (.tup [(.aj (.str [46])),(.aj (.str [46,46]))]))]) [.ret (some (.aj (.bool false)))] [],
 .ret (some (.bi .all [(.comp (.v 1) .plain [(.aD 0)] .none (.bool true [(.z8 (.aj (.int 32)) .le (.bi .ord [(.aD 1)]) .lt (.aj (.int 127))),(.cmp (.aD 1) .ne (.aj (.str [47])))]))]))]⟩
noncomputable def DG:MF:=⟨1,[],
[.ite (.not (.call 550 [(.aD 0)])) [.raise 111 (.bin .add (.aj (.str [110,111,32,110,97,109,101,58,32])) (.aD 0))] []]⟩
noncomputable def Xv:MF:=⟨3,[],
[.eG (.v 3) (.ite (.call 550 [(.aD 2)]) (.call 442 [(.aD 0),(.aD 1),(.aD 2)]) (.aj .none)),
 .ret (some (.ite (.cmp (.aD 3) .is (.aj .none)) (.aj .none) (.tup [(.bin .fdiv (.aD 3) (.aj (.int 4))),(.bin .mod (.aD 3) (.aj (.int 4)))])))]⟩
noncomputable def Ri:MF:=⟨5,[],
[.expr (.call 557 [(.aD 2)]),
 .expr (.call 497 [(.aD 0),(.aD 1),(.aD 2),(.bin .add (.bin .mul (.aD 3) (.aj (.int 4))) (.aD 4))])]⟩
noncomputable def Oq:MF:=⟨3,[],
[.eG (.v 3) (.call 564 [(.aD 0),(.aD 1),(.aD 2)]),
 .ite (.cmp (.aD 3) .is (.aj .none)) [.raise 75 (.bin .add (.aj (.str [110,111,32,115,117,99,104,32,110,97,109,101,58,32])) (.aD 2))] [],
 .expr (.call 502 [(.aD 0),(.aD 1),(.aD 2)]),
 .ret (some (.aD 3))]⟩
noncomputable def Xw:MF:=⟨2,[],
[.ret (some (.comp (.t [(.v 2),(.v 3)]) .plain [(.call 449 [(.aD 0),(.aD 1)])] .none (.tup [(.aD 2),(.bin .fdiv (.aD 3) (.aj (.int 4))),(.bin .mod (.aD 3) (.aj (.int 4)))])))]⟩
noncomputable def Ot:MF:=⟨8,[],
[.eG (.at (.aD 0) 27) (.aD 1),
 .eG (.at (.aD 0) 28) (.aD 2),
 .eG (.at (.aD 0) 29) (.aD 3),
 .eG (.at (.aD 0) 30) (.aD 4),
 .eG (.at (.aD 0) 31) (.aD 5),
 .eG (.at (.aD 0) 32) (.aD 6),
 .eG (.at (.aD 0) 33) (.aD 7)]⟩
noncomputable def JL:MF:=⟨1,[],
[.eG (.v 1) (.new 226 195 []),
 .expr (.bk 1 (.aD 1) [(.bR (.aD 0) 27),(.aj (.int 1))]),
 .expr (.bk 1 (.aD 1) [(.bR (.aD 0) 28),(.aj (.int 2))]),
 .expr (.bk 1 (.aD 1) [(.bR (.aD 0) 29),(.aj (.int 4))]),
 .expr (.bk 1 (.aD 1) [(.bR (.aD 0) 30),(.aj (.int 2))]),
 .expr (.bk 1 (.aD 1) [(.bR (.aD 0) 31),(.aj (.int 4))]),
 .expr (.bk 1 (.aD 1) [(.bR (.aD 0) 32),(.aj (.int 4))]),
 .expr (.bk 1 (.aD 1) [(.bR (.aD 0) 33),(.aj (.int 4))]),
 .ret (some (.bk 5 (.aD 1) []))]⟩
noncomputable def Uk:MF:=⟨1,[],
[.ite (.cmp (.bi .len [(.aD 0)]) .ne (.aj (.int 21))) [.raise 51 (.aj (.str [110,111,32,102,105,108,101,32,97,110,100,32,110,111,32,102,111,108,100,101,114]))] [],
 .eG (.v 1) (.new 276 245 [(.aD 0)]),
 .eG (.t [(.v 2),(.v 3),(.v 4)]) (.tup [(.bk 1 (.aD 1) [(.aj (.int 1))]),(.bk 1 (.aD 1) [(.aj (.int 2))]),(.bk 1 (.aD 1) [(.aj (.int 4))])]),
 .eG (.t [(.v 5),(.v 6),(.v 7),(.v 8)]) (.tup [(.bk 1 (.aD 1) [(.aj (.int 2))]),(.bk 1 (.aD 1) [(.aj (.int 4))]),(.bk 1 (.aD 1) [(.aj (.int 4))]),(.bk 1 (.aD 1) [(.aj (.int 4))])]),
 .ite (.cmp (.aD 2) .gt (.aj (.int 2))) [.raise 51 (.aj (.str [110,111,32,102,105,108,101,32,97,110,100,32,110,111,32,102,111,108,100,101,114]))] [],
 .ret (some (.new 607 597 [(.aD 2),(.aD 3),(.aD 4),(.aD 5),(.aD 6),(.aD 7),(.aD 8)]))]⟩
noncomputable def Ou:MF:=⟨2,[],
[.ret (some (.call 625 [(.bR (.bk 9 (.aD 0) [(.aD 1)]) 34)]))]⟩
noncomputable def KN:MF:=⟨3,[],
[.expr (.bk 35 (.aD 0) [(.aD 1),(.call 618 [(.aD 2)])])]⟩
noncomputable def Ul:MF:=⟨1,[],
[.ret (some (.comp (.v 1) .plain [(.bm .split (.aD 0) [(.aj (.str [47]))])] (some (.cmp (.aD 1) .ne (.aj (.str [])))) (.aD 1)))]⟩
noncomputable def KQ:MF:=⟨2,[],
[.eG (.v 2) (.bk 7 (.aD 0) [(.aD 1),(.aj (.int 0)),(.bR (.call 632 [(.aD 0),(.aD 1)]) 29)]),
 .ret (some (.bm .join (.aj (.str [])) [(.comp (.v 3) .plain [(.aD 2)] .none (.bi .chr [(.aD 3)]))]))]⟩
noncomputable def KY:MF:=⟨3,[],
[.ite (.cmp (.bR (.call 632 [(.aD 0),(.aD 1)]) 27) .ne (.aj (.int 1))) [.raise 135 (.bin .add (.aj (.str [110,111,32,102,111,108,100,101,114,32,111,110,32,116,104,101,32,119,97,121,58,32])) (.aD 2))] []]⟩
noncomputable def Um:MF:=⟨3,[],
[.ret (some (.ite (.cmp (.slice (.aD 2) .none (some (.aj (.int 1)))) .eq (.aj (.str [47]))) (.aD 0) (.aD 1)))]⟩
noncomputable def abd:MF:=⟨4,[],
[.eG (.t [(.v 4),(.v 5),(.v 6)]) (.tup [(.aD 1),(.call 644 [(.aD 2)]),(.aj (.int 0))]),
 .while (.cmp (.aD 5) .ne (.jJ [])) [.eG (.t [(.v 7),(.v 5)]) (.tup [(.qy (.aD 5) (.aj (.int 0))),(.slice (.aD 5) (some (.aj (.int 1))) .none)]),
  .expr (.call 656 [(.aD 0),(.aD 4),(.aD 2)]),
  .ite (.cmp (.aD 7) .eq (.aj (.str [46]))) [.cont] [],
  .ite (.cmp (.aD 7) .eq (.aj (.str [46,46]))) [.eG (.v 4) (.bR (.call 632 [(.aD 0),(.aD 4)]) 31),
   .cont] [],
  .eG (.v 8) (.call 564 [(.aD 0),(.aD 4),(.aD 7)]),
  .ite (.cmp (.aD 8) .is (.aj .none)) [.raise 75 (.bin .add (.aj (.str [110,111,32,115,117,99,104,32,116,104,105,110,103,58,32])) (.aD 2))] [],
  .ite (.bool true [(.cmp (.qy (.aD 8) (.aj (.int 1))) .eq (.aj (.int 2))),(.bool false [(.cmp (.aD 5) .ne (.jJ [])),(.aD 3)])]) [.eG (.v 6) (.bin .add (.aD 6) (.aj (.int 1))),
   .ite (.cmp (.aD 6) .gt (.aj (.int 8))) [.raise 159 (.bin .add (.aj (.str [116,111,111,32,109,97,110,121,32,108,105,110,107,115,58,32])) (.aD 2))] [],
   .eG (.v 9) (.call 649 [(.aD 0),(.qy (.aD 8) (.aj (.int 0)))]),
   .eG (.t [(.v 4),(.v 5)]) (.tup [(.call 663 [(.aD 1),(.aD 4),(.aD 9)]),(.bin .add (.call 644 [(.aD 9)]) (.aD 5))])] [.eG (.v 4) (.qy (.aD 8) (.aj (.int 0)))]],
 .ret (some (.aD 4))]⟩
noncomputable def Un:MF:=⟨3,[],
[.eG (.v 3) (.call 644 [(.aD 2)]),
 .ite (.bool false [(.cmp (.aD 3) .eq (.jJ [])),(.cmp (.qy (.aD 3) (.neg (.aj (.int 1)))) .inn (.tup [(.aj (.str [46])),(.aj (.str [46,46]))]))]) [.raise 123 (.bin .add (.aj (.str [110,111,32,110,97,109,101,32,97,116,32,116,104,101,32,101,110,100,58,32])) (.aD 2))] [],
 .eG (.v 4) (.call 670 [(.aD 0),(.aD 1),(.bm .join (.aj (.str [47])) [(.slice (.aD 3) .none (some (.neg (.aj (.int 1)))))]),(.aj (.bool true))]),
 .expr (.call 656 [(.aD 0),(.aD 4),(.aD 2)]),
 .ret (some (.tup [(.aD 4),(.qy (.aD 3) (.neg (.aj (.int 1))))]))]⟩
noncomputable def Hf:MF:=⟨2,[],
[.eG (.at (.aD 0) 36) (.aD 1),
 .eG (.at (.aD 0) 37) (.call 442 [(.aD 1),(.aj (.int 1)),(.aj (.str [114,111,111,116]))])]⟩
noncomputable def Hg:MF:=⟨3,[.bool true],
[.ret (some (.call 670 [(.bR (.aD 0) 36),(.bR (.aD 0) 37),(.aD 1),(.aD 2)]))]⟩
noncomputable def Hh:MF:=⟨3,[.bool true],
[.ret (some (.call 632 [(.bR (.aD 0) 36),(.bk 38 (.aD 0) [(.aD 1),(.aD 2)])]))]⟩
noncomputable def DN:MF:=⟨4,[],
[.ite (.bool false [(.cmp (.aD 2) .lt (.aj (.int 0))),(.cmp (.aD 3) .lt (.aj (.int 0)))]) [.raise 99 (.aj (.str [97,32,112,108,97,99,101,32,98,101,108,111,119,32,48]))] [],
 .eG (.v 4) (.bR (.call 632 [(.bR (.aD 0) 36),(.aD 1)]) 29),
 .ret (some (.bk 7 (.bR (.aD 0) 36) [(.aD 1),(.aD 2),(.bi .max [(.aj (.int 0)),(.bi .min [(.aD 3),(.bin .sub (.aD 4) (.aD 2))])])]))]⟩
noncomputable def Hi:MF:=⟨4,[],
[.eG (.v 4) (.bk 38 (.aD 0) [(.aD 1)]),
 .ite (.cmp (.bR (.call 632 [(.bR (.aD 0) 36),(.aD 4)]) 27) .eq (.aj (.int 1))) [.raise 147 (.bin .add (.aj (.str [97,32,102,111,108,100,101,114,32,104,97,115,32,110,111,32,111,99,116,101,116,115,58,32])) (.aD 1))] [],
 .ret (some (.bk 0 (.aD 0) [(.aD 4),(.aD 2),(.aD 3)]))]⟩
noncomputable def DP:MF:=⟨2,[],
[.eG (.v 2) (.bk 38 (.aD 0) [(.aD 1),(.aj (.bool false))]),
 .ite (.cmp (.bR (.call 632 [(.bR (.aD 0) 36),(.aD 2)]) 27) .ne (.aj (.int 2))) [.raise 99 (.bin .add (.aj (.str [110,111,32,108,105,110,107,58,32])) (.aD 1))] [],
 .ret (some (.call 649 [(.bR (.aD 0) 36),(.aD 2)]))]⟩
noncomputable def Fo:MF:=⟨2,[],
[.eG (.v 2) (.bk 38 (.aD 0) [(.aD 1)]),
 .ite (.cmp (.bR (.call 632 [(.bR (.aD 0) 36),(.aD 2)]) 27) .ne (.aj (.int 1))) [.raise 135 (.bin .add (.aj (.str [110,111,32,102,111,108,100,101,114,58,32])) (.aD 1))] [],
 .ret (some (.comp (.t [(.v 3),(.v 4),(.v 5)]) .plain [(.call 583 [(.bR (.aD 0) 36),(.aD 2)])] .none (.aD 3)))]⟩
noncomputable def Rj:MF:=⟨2,[],
[.ite (.cmp (.call 492 [(.aD 0),(.aj (.int 14))]) .ne (.aj (.int 1))) [.raise 99 (.aj (.str [97,110,32,111,98,106,101,99,116,32,115,101,116,32,116,104,97,116,32,104,97,115,32,115,111,109,101,116,104,105,110,103,32,105,110,32,105,116]))] [],
 .eG (.v 2) (.call 492 [(.aD 0),(.aj (.int 9))]),
 .expr (.call 639 [(.aD 0),(.aD 2),(.new 607 597 [(.aj (.int 1)),(.aj (.int 0)),(.aj (.int 0)),(.aj (.int 2)),(.aD 2),(.aD 1),(.aD 1)])]),
 .expr (.call 497 [(.aD 0),(.aj (.int 1)),(.aj (.str [114,111,111,116])),(.aD 2)]),
 .expr (.call 497 [(.aD 0),(.aj (.int 1)),(.aj (.str [117,110,108,105,110,107,101,100])),(.call 492 [(.aD 0),(.aj (.int 15))])]),
 .ret (some (.new 933 782 [(.aD 0),(.aD 1)]))]⟩
noncomputable def Hj:MF:=⟨3,[],
[.eG (.at (.aD 0) 39) (.aD 1),
 .eG (.at (.aD 0) 40) (.aD 2),
 .eG (.at (.aD 0) 41) (.new 757 691 [(.aD 1)]),
 .eG (.at (.aD 0) 42) (.call 442 [(.aD 1),(.aj (.int 1)),(.aj (.str [117,110,108,105,110,107,101,100]))]),
 .eG (.at (.aD 0) 43) .dict]⟩
noncomputable def uy:MF:=⟨4,[.none],
[.eG (.v 4) (.call 632 [(.bR (.aD 0) 39),(.aD 1)]),
 .eG (.at (.aD 4) 30) (.bin .add (.bR (.aD 4) 30) (.aD 2)),
 .eG (.at (.aD 4) 29) (.ite (.cmp (.aD 3) .is (.aj .none)) (.bR (.aD 4) 29) (.aD 3)),
 .eG (.at (.aD 4) 33) (.bR (.aD 0) 40),
 .expr (.call 639 [(.bR (.aD 0) 39),(.aD 1),(.aD 4)]),
 .ret (some (.aD 4))]⟩
noncomputable def zM:MF:=⟨2,[],
[.eG (.t [(.v 2),(.v 3)]) (.call 677 [(.bR (.aD 0) 39),(.bR (.bR (.aD 0) 41) 37),(.aD 1)]),
 .expr (.call 557 [(.aD 3)]),
 .ite (.cmp (.call 564 [(.bR (.aD 0) 39),(.aD 2),(.aD 3)]) .Kq (.aj .none)) [.raise 87 (.bin .add (.aj (.str [116,104,101,114,101,32,105,115,32,111,110,101,32,97,108,114,101,97,100,121,58,32])) (.aD 1))] [],
 .ret (some (.tup [(.aD 2),(.aD 3)]))]⟩
noncomputable def zO:MF:=⟨2,[],
[.ite (.not (.z8 (.aj (.int 0)) .le (.aD 1) .le (.aj (.int 65535)))) [.raise 99 (.aj (.str [110,111,32,109,111,100,101]))] []]⟩
noncomputable def Ae:MF:=⟨4,[],
[.expr (.bk 44 (.aD 0) [(.aD 3)]),
 .eG (.t [(.v 4),(.v 5)]) (.bk 45 (.aD 0) [(.aD 1)]),
 .eG (.v 6) (.new 607 597 [(.aD 2),(.aD 3),(.aj (.int 0)),(.aj (.int 1)),(.aD 4),(.bR (.aD 0) 40),(.bR (.aD 0) 40)]),
 .eG (.v 7) (.bk 24 (.bR (.aD 0) 39) [(.aj (.int 8)),(.bR (.bR (.bR (.aD 0) 39) 23) 14),(.call 618 [(.aD 6)])]),
 .expr (.call 571 [(.bR (.aD 0) 39),(.aD 4),(.aD 5),(.aD 7),(.aD 2)]),
 .expr (.bk 46 (.aD 0) [(.aD 4),(.aj (.int 0))]),
 .ret (some (.aD 7))]⟩
noncomputable def DQ:MF:=⟨3,[],
[.ret (some (.bk 47 (.aD 0) [(.aD 1),(.aj (.int 0)),(.aD 2)]))]⟩
noncomputable def Af:MF:=⟨3,[],
[.expr (.bk 44 (.aD 0) [(.aD 2)]),
 .eG (.t [(.v 3),(.v 4)]) (.bk 45 (.aD 0) [(.aD 1)]),
 .eG (.v 5) (.call 492 [(.bR (.aD 0) 39),(.aj (.int 9))]),
 .expr (.call 639 [(.bR (.aD 0) 39),(.aD 5),(.new 607 597 [(.aj (.int 1)),(.aD 2),(.aj (.int 0)),(.aj (.int 2)),(.aD 3),(.bR (.aD 0) 40),(.bR (.aD 0) 40)])]),
 .expr (.call 571 [(.bR (.aD 0) 39),(.aD 3),(.aD 4),(.aD 5),(.aj (.int 1))]),
 .expr (.bk 46 (.aD 0) [(.aD 3),(.aj (.int 1))]),
 .ret (some (.aD 5))]⟩
noncomputable def Df:MF:=⟨3,[],
[.eG (.v 3) (.call 176 [(.aD 2)]),
 .ite (.cmp (.aD 3) .eq (.aj (.bytes []))) [.raise 123 (.aj (.str [97,32,108,105,110,107,32,116,104,97,116,32,108,101,97,100,115,32,110,111,119,104,101,114,101]))] [],
 .eG (.v 4) (.bk 47 (.aD 0) [(.aD 1),(.aj (.int 2)),(.aj (.int 0))]),
 .expr (.bk 25 (.bR (.aD 0) 39) [(.aD 4),(.aj (.int 0)),(.aD 3)]),
 .expr (.bk 46 (.aD 0) [(.aD 4),(.aj (.int 0)),(.bi .len [(.aD 3)])]),
 .ret (some (.aD 4))]⟩
noncomputable def Dg:MF:=⟨2,[],
[.eG (.v 2) (.bk 38 (.bR (.aD 0) 41) [(.aD 1)]),
 .ite (.cmp (.bR (.call 632 [(.bR (.aD 0) 39),(.aD 2)]) 27) .eq (.aj (.int 1))) [.raise 147 (.bin .add (.aj (.str [97,32,102,111,108,100,101,114,32,104,97,115,32,110,111,32,111,99,116,101,116,115,58,32])) (.aD 1))] [],
 .ret (some (.aD 2))]⟩
noncomputable def Fp:MF:=⟨4,[],
[.eG (.v 4) (.bk 48 (.aD 0) [(.aD 1)]),
 .ite (.bool false [(.cmp (.aD 2) .lt (.aj (.int 0))),(.cmp (.bin .add (.aD 2) (.bi .len [(.aD 3)])) .gt (.aj (.int 4294967295)))]) [.raise 99 (.aj (.str [97,32,112,108,97,99,101,32,98,101,121,111,110,100,32,97,108,108,32,102,105,108,101,115]))] [],
 .ite (.cmp (.bi .len [(.aD 3)]) .gt (.aj (.int 0))) [.expr (.bk 25 (.bR (.aD 0) 39) [(.aD 4),(.aD 2),(.aD 3)]),
  .expr (.bk 46 (.aD 0) [(.aD 4),(.aj (.int 0)),(.bi .max [(.bR (.call 632 [(.bR (.aD 0) 39),(.aD 4)]) 29),(.bin .add (.aD 2) (.bi .len [(.aD 3)]))])])] []]⟩
noncomputable def Ag:MF:=⟨3,[],
[.eG (.v 3) (.bk 48 (.aD 0) [(.aD 1)]),
 .ite (.not (.z8 (.aj (.int 0)) .le (.aD 2) .le (.aj (.int 4294967295)))) [.raise 99 (.aj (.str [110,111,32,115,105,122,101,32,111,102,32,97,32,102,105,108,101]))] [],
 .ite (.cmp (.aD 2) .lt (.bR (.call 632 [(.bR (.aD 0) 39),(.aD 3)]) 29)) [.expr (.bk 49 (.bR (.aD 0) 39) [(.aD 3),(.aD 2)])] [],
 .expr (.bk 46 (.aD 0) [(.aD 3),(.aj (.int 0)),(.aD 2)])]⟩
noncomputable def Ah:MF:=⟨3,[],
[.expr (.bk 44 (.aD 0) [(.aD 2)]),
 .eG (.v 3) (.bk 38 (.bR (.aD 0) 41) [(.aD 1)]),
 .eG (.v 4) (.call 632 [(.bR (.aD 0) 39),(.aD 3)]),
 .eG (.t [(.at (.aD 4) 28),(.at (.aD 4) 33)]) (.tup [(.aD 2),(.bR (.aD 0) 40)]),
 .expr (.call 639 [(.bR (.aD 0) 39),(.aD 3),(.aD 4)])]⟩
noncomputable def zP:MF:=⟨2,[],
[.ite (.cmp (.bR (.bk 46 (.aD 0) [(.aD 1),(.neg (.aj (.int 1)))]) 30) .gt (.aj (.int 0))) [.ret .none] [],
 .ite (.cmp (.aD 1) .inn (.bR (.aD 0) 43)) [.expr (.call 497 [(.bR (.aD 0) 39),(.bR (.aD 0) 42),(.bi .str [(.aD 1)]),(.aD 1)])] [.expr (.bk 50 (.bR (.aD 0) 39) [(.aD 1)])]]⟩
noncomputable def DW:MF:=⟨2,[],
[.eG (.t [(.v 2),(.v 3)]) (.call 677 [(.bR (.aD 0) 39),(.bR (.bR (.aD 0) 41) 37),(.aD 1)]),
 .ite (.cmp (.bR (.call 632 [(.bR (.aD 0) 39),(.bk 38 (.bR (.aD 0) 41) [(.aD 1),(.aj (.bool false))])]) 27) .eq (.aj (.int 1))) [.raise 147 (.bin .add (.aj (.str [97,32,102,111,108,100,101,114,32,115,116,97,110,100,115,32,116,104,101,114,101,58,32])) (.aD 1))] [],
 .eG (.t [(.v 4),(.v 5)]) (.call 578 [(.bR (.aD 0) 39),(.aD 2),(.aD 3)]),
 .expr (.bk 46 (.aD 0) [(.aD 2),(.aj (.int 0))]),
 .expr (.bk 51 (.aD 0) [(.aD 4)])]⟩
noncomputable def zQ:MF:=⟨2,[],
[.eG (.v 2) (.bk 48 (.aD 0) [(.aD 1)]),
 .eG (.sub (.bR (.aD 0) 43) (.aD 2)) (.bin .add (.bm .Oi (.bR (.aD 0) 43) [(.aD 2),(.aj (.int 0))]) (.aj (.int 1))),
 .ret (some (.aD 2))]⟩
noncomputable def zR:MF:=⟨2,[],
[.ite (.cmp (.aD 1) .Ja (.bR (.aD 0) 43)) [.raise 99 (.aj (.str [97,32,102,105,108,101,32,116,104,97,116,32,105,115,32,110,111,116,32,111,112,101,110]))] [],
 .eG (.sub (.bR (.aD 0) 43) (.aD 1)) (.bin .sub (.qy (.bR (.aD 0) 43) (.aD 1)) (.aj (.int 1))),
 .ite (.cmp (.qy (.bR (.aD 0) 43) (.aD 1)) .eq (.aj (.int 0))) [.expr (.bm .pop (.bR (.aD 0) 43) [(.aD 1)]),
  .ite (.cmp (.call 442 [(.bR (.aD 0) 39),(.bR (.aD 0) 42),(.bi .str [(.aD 1)])]) .Kq (.aj .none)) [.expr (.call 502 [(.bR (.aD 0) 39),(.bR (.aD 0) 42),(.bi .str [(.aD 1)])]),
   .expr (.bk 50 (.bR (.aD 0) 39) [(.aD 1)])] []] []]⟩
noncomputable def uz:MF:=⟨1,[],
[.eG (.v 1) (.call 449 [(.bR (.aD 0) 39),(.bR (.aD 0) 42)]),
 .for (.t [(.v 2),(.v 3)]) .plain [(.aD 1)] [.expr (.call 502 [(.bR (.aD 0) 39),(.bR (.aD 0) 42),(.aD 2)]),
  .expr (.bk 50 (.bR (.aD 0) 39) [(.aD 3)])],
 .ret (some (.bi .len [(.aD 1)]))]⟩
noncomputable def Hl:MF:=⟨4,[],
[.eG (.at (.aD 0) 52) (.aD 1),
 .eG (.at (.aD 0) 8) (.aD 2),
 .eG (.at (.aD 0) 53) (.neg (.aj (.int 1))),
 .eG (.at (.aD 0) 34) (.aD 3)]⟩
noncomputable def KZ:MF:=⟨2,[],
[.eG (.at (.aD 0) 23) (.aD 1),
 .eG (.at (.aD 0) 16) .dict,
 .eG (.at (.aD 0) 0) .dict,
 .eG (.at (.aD 0) 54) (.aj (.int 0))]⟩
noncomputable def Fq:MF:=⟨1,[],
[.ret (some (.bi .sorted [(.bR (.aD 0) 16)]))]⟩
noncomputable def JM:MF:=⟨2,[],
[.ite (.cmp (.aD 1) .Ja (.bR (.aD 0) 16)) [.raise 75 (.aj (.str [110,111,32,115,117,99,104,32,111,98,106,101,99,116]))] [],
 .ret (some (.qy (.bR (.aD 0) 16) (.aD 1)))]⟩
noncomputable def K4:MF:=⟨2,[],
[.expr (.bk 9 (.aD 0) [(.aD 1)]),
 .ret (some (.bi .len [(.qy (.bR (.aD 0) 0) (.aD 1))]))]⟩
noncomputable def K5:MF:=⟨4,[],
[.expr (.bk 9 (.aD 0) [(.aD 1)]),
 .ite (.bool false [(.cmp (.aD 2) .lt (.aj (.int 0))),(.cmp (.aD 3) .lt (.aj (.int 0)))]) [.raise 99 (.aj (.str [97,32,112,108,97,99,101,32,98,101,108,111,119,32,48]))] [],
 .eG (.v 4) (.bi .bytes [(.slice (.qy (.bR (.aD 0) 0) (.aD 1)) (some (.aD 2)) (some (.bin .add (.aD 2) (.aD 3))))]),
 .ret (some (.bin .add (.aD 4) (.bi .bytes [(.bin .sub (.aD 3) (.bi .len [(.aD 4)]))])))]⟩
noncomputable def Ov:MF:=⟨4,[.bytes []],
[.ite (.bool false [(.cmp (.aD 1) .lt (.aj (.int 1))),(.cmp (.aD 2) .lt (.aj (.int 1)))]) [.raise 99 (.aj (.str [110,111,32,115,117,99,104,32,111,98,106,101,99,116,32,99,97,110,32,98,101]))] [],
 .eG (.at (.aD 0) 54) (.bin .add (.bR (.aD 0) 54) (.aj (.int 1))),
 .eG (.sub (.bR (.aD 0) 16) (.bR (.aD 0) 54)) (.new 954 951 [(.aD 1),(.aD 2),(.bi .bytes [(.aD 3)])]),
 .eG (.sub (.bR (.aD 0) 0) (.bR (.aD 0) 54)) (.aj (.bytes [])),
 .ret (some (.bR (.aD 0) 54))]⟩
noncomputable def K6:MF:=⟨2,[],
[.expr (.bk 9 (.aD 0) [(.aD 1)]),
 .expr (.bm .pop (.bR (.aD 0) 16) [(.aD 1)]),
 .expr (.bm .pop (.bR (.aD 0) 0) [(.aD 1)])]⟩
noncomputable def Dh:MF:=⟨3,[],
[.eG (.at (.bk 9 (.aD 0) [(.aD 1)]) 34) (.bi .bytes [(.aD 2)])]⟩
noncomputable def Ow:MF:=⟨3,[],
[.eG (.v 3) (.bk 9 (.aD 0) [(.aD 1)]),
 .eG (.v 4) (.call 478 [(.bi .len [(.aD 2)]),(.bR (.aD 3) 8)]),
 .eG (.sub (.bR (.aD 0) 0) (.aD 1)) (.bin .add (.aD 2) (.bi .bytes [(.bin .sub (.aD 4) (.bi .len [(.aD 2)]))])),
 .eG (.at (.aD 3) 53) (.bin .sub (.bin .fdiv (.aD 4) (.bR (.aD 3) 8)) (.aj (.int 1)))]⟩
noncomputable def JN:MF:=⟨4,[],
[.expr (.bk 9 (.aD 0) [(.aD 1)]),
 .ite (.cmp (.aD 2) .lt (.aj (.int 0))) [.raise 99 (.aj (.str [97,32,112,108,97,99,101,32,98,101,108,111,119,32,48]))] [],
 .ite (.cmp (.bi .len [(.aD 3)]) .gt (.aj (.int 0))) [.eG (.v 4) (.bin .add (.qy (.bR (.aD 0) 0) (.aD 1)) (.bi .bytes [(.bi .max [(.aj (.int 0)),(.bin .sub (.aD 2) (.bi .len [(.qy (.bR (.aD 0) 0) (.aD 1))]))])])),
  .expr (.bk 55 (.aD 0) [(.aD 1),(.bin .add (.bin .add (.slice (.aD 4) .none (some (.aD 2))) (.bi .bytes [(.aD 3)])) (.slice (.aD 4) (some (.bin .add (.aD 2) (.bi .len [(.aD 3)]))) .none))])] []]⟩
noncomputable def Ox:MF:=⟨3,[],
[.ite (.cmp (.aD 2) .lt (.aj (.int 0))) [.raise 99 (.aj (.str [97,32,112,108,97,99,101,32,98,101,108,111,119,32,48]))] [],
 .expr (.bk 9 (.aD 0) [(.aD 1)]),
 .ite (.cmp (.aD 2) .lt (.bi .len [(.qy (.bR (.aD 0) 0) (.aD 1))])) [.expr (.bk 55 (.aD 0) [(.aD 1),(.slice (.qy (.bR (.aD 0) 0) (.aD 1)) .none (some (.aD 2)))])] []]⟩
noncomputable def Rk:MF:=⟨2,[],
[.ret (some (.ite (.cmp (.aD 1) .lt (.bi .len [(.aD 0)])) (.qy (.aD 0) (.aD 1)) (.aj (.int 0))))]⟩
noncomputable def DX:MF:=⟨4,[],
[.eG (.v 4) (.jJ [(.aj (.str [47,102])),(.aj (.str [47,100])),(.aj (.str [47,110,111,110,101])),(.aj (.str [47,108,48]))]),
 .for (.v 5) .range [(.aD 2)] [.expr (.bk 56 (.aD 0) [(.bin .add (.aj (.str [47,108])) (.bi .str [(.aD 5)])),(.ite (.cmp (.aD 5) .eq (.aj (.int 0))) (.qy (.aD 4) (.aD 3)) (.bin .add (.bin .add (.qy (.jJ [(.aj (.str [47])),(.aj (.str [46,47])),(.aj (.str []))]) (.bin .mod (.aD 5) (.aj (.int 3)))) (.aj (.str [108]))) (.bi .str [(.bin .sub (.aD 5) (.aj (.int 1)))])))])],
 .for (.v 5) .plain [(.ite (.cmp (.aD 2) .gt (.aj (.int 0))) (.bi .qd [(.jJ [(.bin .sub (.aD 2) (.aj (.int 1))),(.bin .mod (.bi .len [(.aD 1)]) (.bi .max [(.aj (.int 1)),(.aD 2)]))])]) (.jJ []))] [.eG (.t [(.v 13),(.v 6)]) (.tup [(.bin .add (.aj (.str [47,108])) (.bi .str [(.aD 5)])),(.bool false [(.cmp (.aD 5) .gt (.aj (.int 7))),(.cmp (.aD 3) .eq (.aj (.int 3)))])]),
  .eG (.t [(.v 7),(.v 8),(.v 9)]) (.tup [(.qy (.jJ [(.tup [(.aj (.str [116,111,108,100])),(.aD 1)]),(.tup [(.aj (.str [73,115,70,111,108,100,101,114])),(.aj .none)]),(.tup [(.aj (.str [77,105,115,115,105,110,103])),(.aj .none)])]) (.bin .mod (.aD 3) (.aj (.int 3)))),(.aj (.str [78,111,116,70,111,108,100,101,114])),(.aj (.str [78,111,116,70,111,108,100,101,114]))]),
  .ite (.cmp (.aD 3) .eq (.aj (.int 1))) [.eG (.t [(.v 8),(.v 9)]) (.tup [(.aj (.str [116,111,108,100])),(.aj (.str [116,111,108,100]))])] [],
  .eG (.v 10) (.ite (.aD 6) (.bin .mul (.jJ [(.aj (.str [76,111,111,112,115]))]) (.aj (.int 3))) (.ite (.cmp (.aD 3) .eq (.aj (.int 2))) (.bin .mul (.jJ [(.aj (.str [77,105,115,115,105,110,103]))]) (.aj (.int 3))) (.jJ [(.qy (.aD 7) (.aj (.int 0))),(.aD 8),(.aD 9)]))),
  .eG (.v 11) (.Fg [(.heard 1071 eE vY (.bk 7 (.bR (.aD 0) 41) [(.aD 13),(.aj (.int 0)),(.aj (.int 99))])),(.heard 1071 eE vY (.bk 58 (.bR (.aD 0) 41) [(.aD 13)]))]),
  .expr (.bm .append (.aD 11) [(.heard 1071 eE vY (.bk 59 (.bR (.aD 0) 41) [(.bin .add (.aD 13) (.aj (.str [47,103])))]))]),
  .ite (.bool false [(.cmp (.comp (.v 14) .plain [(.aD 11)] .none (.qy (.aD 14) (.aj (.int 0)))) .ne (.aD 10)),(.bool true [(.not (.aD 6)),(.cmp (.aD 3) .eq (.aj (.int 0))),(.cmp (.qy (.aD 11) (.aj (.int 0))) .ne (.aD 7))])]) [.ret (some (.aj (.bool false)))] [],
  .eG (.v 12) (.ite (.cmp (.aD 5) .eq (.aj (.int 0))) (.qy (.aD 4) (.aD 3)) (.bin .add (.bin .add (.qy (.jJ [(.aj (.str [47])),(.aj (.str [46,47])),(.aj (.str []))]) (.bin .mod (.aD 5) (.aj (.int 3)))) (.aj (.str [108]))) (.bi .str [(.bin .sub (.aD 5) (.aj (.int 1)))]))),
  .ite (.bool false [(.cmp (.bk 57 (.bR (.aD 0) 41) [(.aD 13)]) .ne (.aD 12)),(.cmp (.bR (.bk 59 (.bR (.aD 0) 41) [(.aD 13),(.aj (.bool false))]) 27) .ne (.aj (.int 2)))]) [.ret (some (.aj (.bool false)))] []],
 .ret (some (.aj (.bool true)))]⟩
noncomputable def DY:MF:=⟨3,[],
[.eG (.t [(.v 5),(.v 6)]) (.tup [(.qy (.jJ [(.neg (.aj (.int 1))),(.aj (.int 0)),(.aj (.int 1)),(.bi .len [(.aD 1)]),(.bin .add (.bi .len [(.aD 1)]) (.aj (.int 1))),(.aj (.int 5))]) (.bin .mod (.aD 2) (.aj (.int 6)))),(.qy (.jJ [(.neg (.aj (.int 1))),(.aj (.int 0)),(.aj (.int 1)),(.bi .len [(.aD 1)]),(.aj (.int 200))]) (.bin .mod (.bin .fdiv (.aD 2) (.aj (.int 6))) (.aj (.int 5))))]),
 .eG (.v 3) (.heard 1071 eE vY (.bk 7 (.bR (.aD 0) 41) [(.aj (.str [47,102])),(.aD 5),(.aD 6)])),
 .ite (.cmp (.aD 3) .ne (.ite (.bool false [(.cmp (.aD 5) .lt (.aj (.int 0))),(.cmp (.aD 6) .lt (.aj (.int 0)))]) (.tup [(.aj (.str [77,105,115,117,115,101,100])),(.aj .none)]) (.tup [(.aj (.str [116,111,108,100])),(.slice (.aD 1) (some (.aD 5)) (some (.bin .add (.aD 5) (.aD 6))))]))) [.ret (some (.aj (.bool false)))] [],
 .eG (.v 3) (.Fg [(.heard 1071 eE vY (.bk 7 (.bR (.aD 0) 41) [(.aj (.str [47,100])),(.aj (.int 0)),(.aj (.int 1))])),(.heard 1071 eE vY (.bk 58 (.bR (.aD 0) 41) [(.aj (.str [47,102]))]))]),
 .expr (.bm .append (.aD 3) [(.heard 1071 eE vY (.bk 57 (.bR (.aD 0) 41) [(.aj (.str [47,102]))]))]),
 .expr (.bm .append (.aD 3) [(.heard 1071 eE vY (.bk 57 (.bR (.aD 0) 41) [(.aj (.str [47,100,47,110,111,110,101]))]))]),
 .expr (.bm .append (.aD 3) [(.heard 1071 eE vY (.bk 60 (.aD 0) [(.aj (.str [47,100]))]))]),
 .expr (.bm .append (.aD 3) [(.heard 1071 eE vY (.bk 61 (.aD 0) [(.aj (.int 1))]))]),
 .expr (.bm .append (.aD 3) [(.heard 1071 eE vY (.bk 56 (.aD 0) [(.aj (.str [47,101,109,112,116,121])),(.aj (.str []))]))]),
 .expr (.bm .append (.aD 3) [(.heard 1071 eE vY (.bk 56 (.aD 0) [(.aj (.str [47,102])),(.aj (.str [120]))]))]),
 .eG (.v 4) (.jJ [(.aj (.str [73,115,70,111,108,100,101,114])),(.aj (.str [78,111,116,70,111,108,100,101,114])),(.aj (.str [77,105,115,117,115,101,100])),(.aj (.str [77,105,115,115,105,110,103])),(.aj (.str [73,115,70,111,108,100,101,114])),(.aj (.str [77,105,115,117,115,101,100])),(.aj (.str [73,110,118,97,108,105,100,80,97,116,104])),(.aj (.str [69,120,105,115,116,115]))]),
 .ret (some (.cmp (.aD 3) .eq (.comp (.v 7) .plain [(.aD 4)] .none (.tup [(.aD 7),(.aj .none)]))))]⟩
noncomputable def Ft:MF:=⟨3,[],
[.eG (.t [(.v 7),(.v 8)]) (.tup [(.qy (.jJ [(.neg (.aj (.int 1))),(.aj (.int 0)),(.aj (.int 65535)),(.aj (.int 65536))]) (.bin .mod (.aD 2) (.aj (.int 4)))),(.qy (.jJ [(.neg (.aj (.int 1))),(.aj (.int 0)),(.bin .sub (.bin .pow (.aj (.int 2)) (.aj (.int 32))) (.aj (.int 1))),(.bin .pow (.aj (.int 2)) (.aj (.int 32))),(.aj (.int 7))]) (.bin .mod (.bin .fdiv (.aD 2) (.aj (.int 4))) (.aj (.int 5))))]),
 .eG (.v 3) (.ite (.z8 (.aj (.int 0)) .le (.aD 7) .le (.aj (.int 65535))) (.aj (.str [116,111,108,100])) (.aj (.str [77,105,115,117,115,101,100]))),
 .eG (.v 4) (.Fg [(.heard 1071 eE vY (.bk 63 (.aD 0) [(.aj (.str [47,109])),(.aD 7)])),(.heard 1071 eE vY (.bk 64 (.aD 0) [(.aj (.str [47,110])),(.aD 7)]))]),
 .expr (.bm .append (.aD 4) [(.heard 1071 eE vY (.bk 65 (.aD 0) [(.aj (.str [47,100])),(.aD 7)]))]),
 .ite (.cmp (.comp (.v 9) .plain [(.aD 4)] .none (.qy (.aD 9) (.aj (.int 0)))) .ne (.bin .mul (.jJ [(.aD 3)]) (.aj (.int 3)))) [.ret (some (.aj (.bool false)))] [],
 .eG (.v 5) (.comp (.v 9) .plain [(.tup [(.aj (.str [47,109])),(.aj (.str [47,110])),(.aj (.str [47,100]))])] .none (.heard 1071 eE vY (.bR (.bk 59 (.bR (.aD 0) 41) [(.aD 9)]) 28))),
 .ite (.cmp (.aD 5) .ne (.ite (.cmp (.aD 3) .eq (.aj (.str [116,111,108,100]))) (.bin .mul (.jJ [(.tup [(.aj (.str [116,111,108,100])),(.aD 7)])]) (.aj (.int 3))) (.bin .add (.bin .mul (.jJ [(.tup [(.aj (.str [77,105,115,115,105,110,103])),(.aj .none)])]) (.aj (.int 2))) (.jJ [(.tup [(.aj (.str [116,111,108,100])),(.aj (.int 8))])])))) [.ret (some (.aj (.bool false)))] [],
 .eG (.v 3) (.ite (.z8 (.aj (.int 0)) .le (.aD 8) .lt (.bin .pow (.aj (.int 2)) (.aj (.int 32)))) (.aj (.str [116,111,108,100])) (.aj (.str [77,105,115,117,115,101,100]))),
 .ite (.cmp (.qy (.heard 1071 eE vY (.bk 62 (.aD 0) [(.aj (.str [47,102])),(.aD 8)])) (.aj (.int 0))) .ne (.aD 3)) [.ret (some (.aj (.bool false)))] [],
 .ite (.cmp (.bR (.bk 59 (.bR (.aD 0) 41) [(.aj (.str [47,102]))]) 29) .ne (.ite (.cmp (.aD 3) .eq (.aj (.str [116,111,108,100]))) (.aD 8) (.bi .len [(.aD 1)]))) [.ret (some (.aj (.bool false)))] [],
 .expr (.bk 62 (.aD 0) [(.aj (.str [47,102])),(.aj (.int 3))]),
 .eG (.v 3) (.ite (.cmp (.aD 3) .eq (.aj (.str [116,111,108,100]))) (.slice (.aD 1) .none (some (.bi .min [(.aj (.int 3)),(.aD 8)]))) (.slice (.aD 1) .none (some (.aj (.int 3))))),
 .eG (.v 6) (.qy (.jJ [(.neg (.aj (.int 1))),(.bin .sub (.bin .pow (.aj (.int 2)) (.aj (.int 32))) (.aj (.int 1))),(.bin .pow (.aj (.int 2)) (.aj (.int 32)))]) (.bin .mod (.bin .fdiv (.aD 2) (.aj (.int 20))) (.aj (.int 3)))),
 .ite (.cmp (.qy (.heard 1071 eE vY (.bk 25 (.aD 0) [(.aj (.str [47,102])),(.aD 6),(.aj (.bytes [120,121]))])) (.aj (.int 0))) .ne (.aj (.str [77,105,115,117,115,101,100]))) [.ret (some (.aj (.bool false)))] [],
 .ret (some (.cmp (.bk 7 (.bR (.aD 0) 41) [(.aj (.str [47,102])),(.aj (.int 0)),(.aj (.int 9))]) .eq (.bin .add (.aD 3) (.bi .bytes [(.bin .sub (.aj (.int 3)) (.bi .len [(.aD 3)]))]))))]⟩
noncomputable def Fv:MF:=⟨3,[],
[.eG (.t [(.v 3),(.v 4)]) (.tup [(.bk 66 (.aD 0) []),(.Fg [])]),
 .for (.v 5) .range [(.bin .mod (.aD 2) (.aj (.int 5)))] [.expr (.bm .append (.aD 4) [(.tup [(.bk 63 (.aD 1) [(.bin .add (.aj (.str [47,111])) (.bi .str [(.aD 5)])),(.aj (.int 0))]),(.cmp (.bin .mod (.bin .fdiv (.bin .fdiv (.aD 2) (.aj (.int 5))) (.bin .pow (.aj (.int 2)) (.aD 5))) (.aj (.int 2))) .eq (.aj (.int 1)))])]),
  .expr (.bk 25 (.aD 1) [(.bin .add (.aj (.str [47,111])) (.bi .str [(.aD 5)])),(.aj (.int 0)),(.aj (.bytes [111,99,116,101,116,115]))]),
  .expr (.bk 60 (.aD 1) [(.bin .add (.aj (.str [47,111])) (.bi .str [(.aD 5)]))]),
  .expr (.bk 67 (.aD 1) [(.bin .add (.aj (.str [47,111])) (.bi .str [(.aD 5)]))])],
 .for (.t [(.v 6),(.v 7)]) .plain [(.aD 4)] [.ite (.cmp (.bk 0 (.bR (.aD 1) 41) [(.aD 6),(.aj (.int 1)),(.aj (.int 4))]) .ne (.aj (.bytes [99,116,101,116]))) [.ret (some (.aj (.bool false)))] [],
  .ite (.aD 7) [.expr (.bk 61 (.aD 1) [(.aD 6)])] []],
 .eG (.v 8) (.comp (.t [(.v 10),(.v 11)]) .plain [(.aD 4)] (some (.not (.aD 11))) (.aD 10)),
 .ite (.cmp (.bk 66 (.aD 0) []) .ne (.bi .sorted [(.bin .add (.aD 3) (.aD 8))])) [.ret (some (.aj (.bool false)))] [],
 .eG (.v 9) (.new 933 782 [(.aD 0),(.aj (.int 9))]),
 .ret (some (.bool true [(.cmp (.bk 68 (.aD 9) []) .eq (.bi .len [(.aD 8)])),(.cmp (.bk 66 (.aD 0) []) .eq (.aD 3)),(.cmp (.bk 68 (.aD 9) []) .eq (.aj (.int 0)))]))]⟩
noncomputable def aky:MF:=⟨1,[],
[.eG (.v 0) (.slice (.aD 0) .none (some (.aj (.int 63)))),
 .eG (.v 1) (.new 1053 972 [(.new 467 464 [(.aj (.int 16)),(.aj (.int 32)),(.aj (.int 32)),(.aj (.int 4)),(.aj (.int 4)),(.aj (.int 4)),(.aj (.int 2)),(.aj (.int 128)),(.aj (.int 192)),(.aj (.int 160)),(.aj (.int 512))])]),
 .eG (.v 2) (.call 768 [(.aD 1),(.aj (.int 1))]),
 .eG (.v 3) (.bi .bytes [(.comp (.v 4) .range [(.bin .mod (.call 1064 [(.aD 0),(.aj (.int 2))]) (.aj (.int 41)))] .none (.bin .add (.aj (.int 1)) (.bin .mod (.bin .mul (.aD 4) (.call 1064 [(.aD 0),(.aj (.int 1))])) (.aj (.int 255)))))]),
 .expr (.bk 64 (.aD 2) [(.aj (.str [47,100])),(.aj (.int 8))]),
 .expr (.bk 63 (.aD 2) [(.aj (.str [47,100,47,103])),(.aj (.int 1))]),
 .expr (.bk 63 (.aD 2) [(.aj (.str [47,102])),(.aj (.int 1))]),
 .expr (.bk 25 (.aD 2) [(.aj (.str [47,102])),(.aj (.int 0)),(.aD 3)]),
 .ite (.not (.call 1076 [(.aD 2),(.aD 3),(.bin .mod (.call 1064 [(.aD 0),(.aj (.int 0))]) (.aj (.int 12))),(.bin .mod (.call 1064 [(.aD 0),(.aj (.int 3))]) (.aj (.int 4)))])) [.ret (some (.aj (.bool false)))] [],
 .ite (.bool false [(.not (.call 1081 [(.aD 2),(.aD 3),(.call 1064 [(.aD 0),(.aj (.int 4))])])),(.not (.call 1091 [(.aD 1),(.aD 2),(.call 1064 [(.aD 0),(.aj (.int 5))])]))]) [.ret (some (.aj (.bool false)))] [],
 .ret (some (.call 1086 [(.aD 2),(.aD 3),(.call 1064 [(.aD 0),(.aj (.int 6))])]))]⟩
noncomputable def Xc:List (Nat×MF):=(166,Rc)::(171,Rf)::(176,Kv)::(181,Kw)::(195,Rg)::(202,Ky)::(216,Rh)::(223,Ol)::(245,Kz)::(252,KC)::(259,KD)::(266,G8)::(273,KH)::(287,abb)::(308,Xo)::(315,Ug)::(322,JK)::(329,Om)::(371,Xp)::(418,KJ)::(442,Uh)::(449,Xq)::(464,Oo)::(478,Ui)::(492,Xr)::(497,Xu)::(502,Uj)::(550,G9)::(557,DG)::(564,Xv)::(571,Ri)::(578,Oq)::(583,Xw)::(597,Ot)::(618,JL)::(625,Uk)::(632,Ou)::(639,KN)::(644,Ul)::(649,KQ)::(656,KY)::(663,Um)::(670,abd)::(677,Un)::(691,Hf)::(699,Hg)::(707,Hh)::(714,DN)::(721,Hi)::(728,DP)::(733,Fo)::(768,Rj)::(782,Hj)::(790,uy)::(797,zM)::(804,zO)::(811,Ae)::(818,DQ)::(825,Af)::(832,Df)::(846,Dg)::(853,Fp)::(860,Ag)::(867,Ah)::(874,zP)::(881,DW)::(916,zQ)::(923,zR)::(930,uz)::(951,Hl)::(972,KZ)::(986,Fq)::(993,JM)::(1000,K4)::(1007,K5)::(1015,Ov)::(1022,K6)::(1029,Dh)::(1036,Ow)::(1043,JN)::(1050,Ox)::(1064,Rk)::(1076,DX)::(1081,DY)::(1086,Ft)::(1091,Fv)::(1096,aky)::[]
noncomputable def gF:Pg:=⟨fun f=>Xc.lookup f,fun C f=>ana.any fun p=>dF p.1 C && dF p.2 f,fun C nm=>(meL.find? fun p=>dF p.1 C && dF p.2.1 nm).map (·.2.2)⟩
section
open PySem PySem.W PySem.Calls PyProof.Rows
section
open Sem (wp)
noncomputable def Nd(c:Code):Prop:=∀(M:jC) (self:au) (p:Pos) (s:aB),wp M ⟨c,none,none,[],none⟩ (mO self) (fun b J J=>b=false) (fun J J J=>False) p s
structure Pz(Γ:Ctx):Prop where
 now:Nd Γ.code
 under:∀ x∈Γ.below,Nd x.1
theorem Pz.enter{Γ:Ctx}(h:Pz Γ){c:Code}(hc:Nd c)(hd:Option au)(p:Pos):Pz (Γ.enter c hd p):=
 ⟨hc,fun x hx=>by
  rcases aY.mp hx with rfl | hx
  ·exact h.now
  ·exact h.under x hx⟩
noncomputable def je{α:Type}(M:jC)(A:cI)(t:Sem α)(Q:α->aB->Prop)(E:au->aB->Prop)(s:aB):Prop:=
 ∀ Γ p,Γ.In A->Pz Γ->wp M Γ t (fun a J s'=>Q a s') (fun e J s'=>E e s') p s
noncomputable def mj(M:jC)(A:cI)(c:Code)(R:mQ->aB->Prop)(s:aB):Prop:=
 ∀ Γ p,Γ.code=c->Γ.Below A->Pz Γ->wpCode M Γ R p s
section
variable{α β:Type}{M:jC}{A:cI}{E:au->aB->Prop}{s:aB}
theorem je.of{t:Sem α}{Q:α->aB->Prop}(h:bD M A t Q E s):je M A t Q E s:=fun Γ p i J=>h Γ p i
theorem mj.of{c:Code}{R:mQ->aB->Prop}(h:rZ M A c R s):mj M A c R s:=fun Γ p e i J=>h Γ p e i
theorem bL{a:α}{Q:α->aB->Prop}(h:Q a s):je M A (pure a) Q E s:=.of (aJ h)
theorem bT{t:Sem α}{Q Q':α->aB->Prop}{E':au->aB->Prop}(h:je M A t Q E s)(hQ:∀ a s,Q a s->Q' a s)(hE:∀ e s,E e s->E' e s):je M A t Q' E' s:=
 fun Γ p i c=>vP M Γ t (fun a J s=>hQ a s) (fun e J s=>hE e s) p s (h Γ p i c)
theorem aP{m:Sem α}{f:α->Sem β}{Q:β->aB->Prop}(h:je M A m (fun a s'=>je M A (f a) Q E s') E s):je M A (m >>= f) Q E s:=fun Γ p i c=>by
 rw[Sem.wp_bind']
 exact vP M Γ m (fun a p' s' h'=>h' Γ p' i c) (fun J J J h'=>h') p s (h Γ p i c)
theorem bY{m:Sem α}{f:α->Sem β}{Q:β->aB->Prop}(h:bD M A m (fun a s'=>je M A (f a) Q E s') E s):je M A (m >>= f) Q E s:=aP (.of h)
theorem mq{m:Sem α}{k:au->Sem Unit}{Q:α->aB->Prop}(h:je M A m Q (fun e s'=>je M A (k e) (fun J s''=>E e s'') E s') s):je M A (m.onRaise k) Q E s:=fun Γ p i c=>by
 rw[Sem.wp_onRaise]
 exact vP M Γ m (fun J J J h'=>h') (fun e p' s' h'=>h' Γ p' i c) p s (h Γ p i c)
theorem Jd{m:Sem α}{Q:Except au α->aB->Prop}(h:je M A m (fun a=>Q (.ok a)) (fun e=>Q (.error e)) s):je M A m.attempt Q E s:=fun Γ p i c=>by
 rw[Sem.wp_attempt]; exact h Γ p i c
theorem cO{vs:List au}{m:Sem α}{Q:α->aB->Prop}(h:je M A m Q E s):je M A (holding vs m) Q E s:=fun Γ p i c=>by rw[Sem.wp_holding]; exact h Γ p i c
theorem Uo{vs:List au}{m:Sem au}{Q:au->aB->Prop}(h:je M A m Q E s):je M A (operate vs m) Q E s:=fun Γ p i c=>by rw[Sem.wp_operate]; exact h Γ p i c
theorem gW{pos:Pos}{Q:Unit->aB->Prop}(h:Q () s):je M A (standAt pos) Q E s:=.of (su h)
theorem wR{Q:Unit->aB->Prop}(h:Q () s):je M A point Q E s:=.of (wpAny_point h)
theorem Fw{tag:String}{Q:Unit->aB->Prop}(h:Q () s):je M A (rule tag) Q E s:=.of (pZ h)
theorem Ho{t t':Sem α}{Q:α->aB->Prop}(e:t=t')(h:je M A t' Q E s):je M A t Q E s:=e▸h
theorem aae{c:Code}{h:Option au}{Q:uY->aB->Prop}(hd:Nd c)
  (hc:mj M (A.mark h) c (fun r s'=>match r with | .ok f=>Q f s' | .error e=>E e s') s)(hnb:h≠some byPass:=by intro x; cases x):je M A (run c h) Q E s:=
 fun Γ p i cl=>by rw[Sem.wp_run]; exact hc _ p rfl (i.enter c h p hnb) (cl.enter hd _ _)
theorem Rm{c:Code}{Q:au->aB->Prop}(hd:Nd c)
  (hc:mj M A c (fun r s'=>match r with | .ok (.ret v)=>Q v s' | .ok _=>False | .error e=>E e s') s):je M A (runValue c) Q E s:=
 fun Γ p i cl=>by rw[Sem.wp_runValue]; exact hc _ p rfl (i.enter c none p (by intro x; cases x)) (cl.enter hd _ _)
theorem pF{f:au}{pos:List au}{kw:List (Str×au)}{Q:au->aB->Prop}
  (hc:mj M A (.call f ⟨pos,kw⟩) (fun r s'=>match r with | .ok (.ret v)=>Q v s' | .ok _=>False | .error e=>E e s') s):je M A (call f pos kw) Q E s:=Rm (fun J J J J=>rfl) hc
theorem Ea{c:Code}{R R':mQ->aB->Prop}(h:mj M A c R s)(hR:∀ r s,R r s->R' r s):mj M A c R' s:=fun Γ p e i cl=>wpCode_mono hR (h Γ p e i cl)
theorem gM{c:Code}{R:mQ->aB->Prop}
  (h:je M (A.under c) (M.den c) (fun fin s'=>match fin with | .done f=>R (.ok f) s' | .again c'=>c'.quiet=true/\Nd c'/\mj M A c' R s') (fun e s'=>R (.error e) s') s):mj M A c R s:=fun Γ p hc hΓ cl=>by
 rw[wpCode_iff_wp,hc]
 refine vP M Γ _ (fun fin p' s' h'=>?_) (fun J J J h'=>h') p s (h Γ p (hc▸hΓ.in) cl)
 cases fin with
 | done f=>exact h'
 | again c'=>exact⟨h'.1,h'.2.2 (Γ.goto c') p' rfl (hΓ.goto c') ⟨h'.2.1,cl.under⟩⟩
theorem vZ{prog:dO}{w:cY}{id:String}{args:Args}{b:dW}{R:mQ->aB->Prop}(hb:entryFor table id=some b)
  (h:je (model prog w) (A.under (.builtin id args)) (b args) (fun fin s'=>match fin with | .done f=>R (.ok f) s' | .again c'=>c'.quiet=true/\Nd c'/\mj (model prog w) A c' R s') (fun e s'=>R (.error e) s') s):mj (model prog w) A (.builtin id args) R s:=by
 refine gM ?_
 have e:(model prog w).den (.builtin id args)=b args:=by
  show(match entryFor table id with | some b=>b args | none=>unsupported ((withoutEnding? id "#data").getD id))=_
  rw[hb]
 rw[e]; exact h
theorem uD{prog:dO}{w:cY}{id:String}{args:Args}{b:dW}{R:mQ->aB->Prop}(hq:plainId id=true)(hd:Nd (.builtin id args))(hb:entryFor table id=some b)
  (h:je (model prog w) A.in1 (checkBuiltinCall id args) (fun J c7=>je (model prog w) A.in1 (b args)
   (fun fin s'=>match fin with | .done f=>R (.ok f) s' | .again c'=>c'.quiet=true/\Nd c'/\mj (model prog w) A c' R s') (fun e s'=>R (.error e) s') c7)
   (fun e s'=>R (.error e) s') s):mj (model prog w) A (.call (.builtin id) args) R s:=by
 refine gM ?_
 show je _ A.in1 (do checkBuiltinCall id args; again (.builtin id args)) _ _ s
 refine aP (bT h (fun J s1 h1=>?_) fun J J q=>q)
 refine bL ⟨sy hq args,hd,vZ hb ?_⟩
 rw[jx hq args]
 exact h1
theorem pN{α:Type}{c:Bool}{a b:Sem α}{Q:α->aB->Prop}(ht:c=true->je M A a Q E s)(hf:c=false->je M A b Q E s):je M A (if c=true then a else b) Q E s:=by
 cases c with
 | true=>exact ht rfl
 | false=>exact hf rfl
theorem abe{Q:List (Code×Pos)->aB->Prop}
  (h:∀ st:List (Code×Pos),(∀ g,A.guards=some g->guardsOf st=g)->(∀ x∈st,Nd x.1)->Q st s):je M A stack Q E s:=fun Γ p i c=>by
 show Q ((Γ.code,p)::Γ.below) s
 refine h _ (fun g hg=>by rw[guardsOf_cons]; exact i.2.2.2.1 g hg) fun x hx=>?_
 rcases aY.mp hx with rfl | hx
 ·exact c.now
 ·exact c.under x hx
end
end
section
structure G where
 v:List (aH×Option aH)
 hid:List aH
inductive Ad(p:aH×Option aH)(a:aH):Prop
 | a (e:p.1=a)
 | d (e:p.2=some a)
inductive own(g:G)(a:aH):Prop
 | at {i:Nat} {p} (e:g.v[i]?=some p) (h:Ad p a)
 | hid (h:a∈g.hid)
inductive zT(g:G)(a:aH):Prop
 | mk {i:Nat} {p} (e:g.v[i]?=some p) (h:Ad p a)
theorem zT.own{g a}(o:zT g a):own g a:=by cases o with | mk e h=>exact .at e h
structure Ext(g g':G)(h:cD):Prop where
 at_:∀ {i:Nat} {p},g.v[i]?=some p->g'.v[i]?=some p
 hid:g'.hid=g.hid
 nw:∀ {a},zT g' a->zT g a∨h.get? a=none
theorem Ext.refl{g h}:Ext g g h:=⟨id,rfl,.inl⟩
theorem Ext.nwo{g g' h a}(x:Ext g g' h)(o:own g' a):own g a∨h.get? a=none:=by
 cases o with
 | «at» e q=>exact(x.nw (.mk e q)).imp zT.own id
 | hid q=>exact .inl (.hid (x.hid▸q))
noncomputable def Xx(h h':cD):Prop:=∀ {a o},h.get? a=some o->∃ o',h'.get? a=some o'
theorem cW{α:Type}{o:Option α}{a:α}{P:Prop}(e:o=none)(e':o=some a):P:=nomatch e.symm.trans e'
theorem vg{h h':cD}{a}(l:Xx h h')(e:h'.get? a=none):h.get? a=none:=by
 cases q:h.get? a with
 | none=>rfl
 | some o=>exact(l q).elim fun J r=>cW e r
theorem Ext.trans{g g' g'' h h'}(x:Ext g g' h)(l:Xx h h')(y:Ext g' g'' h'):Ext g g'' h:=
 ⟨fun e=>y.at_ (x.at_ e),y.hid.trans x.hid,fun o=>(y.nw o).elim x.nw fun e=>.inr (vg l e)⟩
structure Bs where
 prog:dO
 w:cY
 hb:cD
 nms:List Str
 mg:Str->Option au
 L:aH
 ms:Str->Option au
 tabs:List (aH×aH×Str)
 K:lZ
 pg:Pg
 gt:List (Str×au)
 gn:List Str
 ini:Nat->Option Nat
 exs:List Nat
 cats:List (Nat×V×List (Nat×V))
noncomputable def Bs.tp(B:Bs):List aH:=B.L::B.tabs.map (·.2.1)
noncomputable def Bs.nm(B:Bs)(f:Nat):Str:=B.nms.getD f Str.empty
abbrev Mo(B:Bs):jC:=model B.prog B.w
theorem Je{B:Bs}:B.L∈B.tp:=.head _
noncomputable def yr(ps:Array au):Obj:={cls:=.none,data:=.fields ps}
structure Inv(B:Bs)(h:cD):Prop where
 gl:h.Ns mainGlobals B.mg
 sl:h.Ns B.L B.ms
 ll:B.L < mainGlobals
 tb:∀ t∈B.tabs,∃ ps,h.get? t.2.1=some (yr ps)/\CV ps.toList/\∀ pos cv,codeAmong pos ps.toList=some cv->h.CodeRec cv t.2.2
 tx:∀ t∈B.tabs,∀ ps,h.get? t.2.1=some (yr ps)->∃ vs0 more,B.hb.get? t.2.1=some (yr vs0)/\ps=vs0++more
theorem iK{h h':cD}{a:aH}{m}(x:h.Ns a m)(k:∀ {o},h.get? a=some o->h'.get? a=some o):h'.Ns a m:=
 x.elim fun o x=>x.elim fun es x=>x.elim fun ep x=>⟨o,es,ep,k x.1,x.2⟩
noncomputable def wU(h:cD)(a:aH):Prop:=∀ {o},h.get? a=some o->∀ vs n,o.data≠.seq vs n
noncomputable def Ai(h:cD)(a:aH):Prop:=∀ {o},h.get? a=some o->∀ vs,o.data≠.fields vs
section
variable{h:cD}{m:Str->Option au}
theorem jq{a}(hn:h.Ns a m):∃ o es ep,h.get? a=some o/\o.data=.dict es ep:=hn.elim fun o q=>q.elim fun es q=>q.elim fun ep q=>⟨o,es,ep,q.1,q.2.1⟩
theorem Fy{a o}(e:h.get? a=some o)(d:∀ vs n,o.data≠.seq vs n):wU h a:=fun e'=>aC (e.symm.trans e')▸d
theorem wV{a o}(e:h.get? a=some o)(d:∀ vs,o.data≠.fields vs):Ai h a:=fun e'=>aC (e.symm.trans e')▸d
theorem uE{d:Data}{es ep}(q:d=.dict es ep)(vs n):d≠.seq vs n:=fun r=>nomatch q.symm.trans r
theorem K7{d:Data}{v}(q:d=.cell v)(vs n):d≠.seq vs n:=fun r=>nomatch q.symm.trans r
theorem jW{d:Data}{es ep}(q:d=.dict es ep)(vs):d≠.fields vs:=fun r=>nomatch q.symm.trans r
theorem Eb{d:Data}{v}(q:d=.cell v)(vs):d≠.fields vs:=fun r=>nomatch q.symm.trans r
theorem uF{a}(hn:h.Ns a m):wU h a:=(jq hn).elim fun J q=>q.elim fun J q=>q.elim fun J q=>Fy q.1 (uE q.2)
theorem K8{a}(hn:h.Ns a m):Ai h a:=(jq hn).elim fun J q=>q.elim fun J q=>q.elim fun J q=>wV q.1 (jW q.2)
end
noncomputable def Sm(s s':aB):Prop:=s'={s with heap:=s'.heap,toks:=s'.toks}
theorem Sm.trans{s s' s''}(x:Sm s s')(y:Sm s' s''):Sm s s'':=Eq.trans y (congrArg (fun q:aB=>{q with heap:=s''.heap,toks:=s''.toks}) x)
theorem Sm.mk{s:aB}(h:cD)(t:Nat):Sm s {s with heap:=h,toks:=t}:=rfl
structure Kx(z:aH->Prop)(s s':aB):Prop where
 sm:Sm s s'
 keep:∀ {a o},¬ z a->s.heap.get? a=some o->s'.heap.get? a=some o
 live:Xx s.heap s'.heap
noncomputable def pO:aH->Prop:=fun J=>False
noncomputable def is1(a:aH):aH->Prop:=fun b=>b=a
abbrev Kp(s s':aB):Prop:=Kx pO s s'
section
variable{z z':aH->Prop}{s s' s'':aB}
theorem Kp.mk'(sm:Sm s s')(k:∀ b o,s.heap.get? b=some o->s'.heap.get? b=some o):Kp s s':=⟨sm,fun J e=>k _ _ e,fun e=>⟨_,k _ _ e⟩⟩
theorem Kx.at (k:Kp s s'){a o}(e:s.heap.get? a=some o):s'.heap.get? a=some o:=k.keep id e
theorem Kx.refl:Kx z s s:=⟨rfl,fun J e=>e,fun e=>⟨_,e⟩⟩
theorem Kx.trans(x:Kx z s s')(y:Kx z s' s''):Kx z s s'':=⟨x.sm.trans y.sm,fun n e=>y.keep n (x.keep n e),fun e=>(x.live e).elim fun J q=>y.live q⟩
theorem Kx.weaken(x:Kx z s s')(h:∀ {a},z a->z' a):Kx z' s s':=⟨x.sm,fun n e=>x.keep (fun q=>n (h q)) e,x.live⟩
theorem Kx.of(x:Kp s s'):Kx z s s':=x.weaken fun q=>q.elim
theorem Kp.tok{t:Nat}:Kp s {s with toks:=t}:=⟨rfl,fun J e=>e,fun e=>⟨_,e⟩⟩
theorem Kp.push{o:Obj}:Kp s {s with heap:=s.heap.push o}:=⟨rfl,fun J e=>aW _ e,fun e=>⟨_,aW _ e⟩⟩
theorem Kx.one{a:aH}{h':cD}{t:Nat}(hs:∀ b,b≠a->h'.get? b=s.heap.get? b)(hl:∃ o,h'.get? a=some o):Kx (is1 a) s {s with heap:=h',toks:=t}:=
 ⟨rfl,fun n e=>(hs _ n).trans e,fun {b o} e=>by
  by_cases q:b=a
  ·exact q▸hl
  ·exact⟨o,(hs b q).trans e⟩⟩
end
theorem Inv.kx{B:Bs}{z:aH->Prop}{s s':aB}(x:Inv B s.heap)(k:Kx z s s')(nf:∀ {a},z a->Ai s.heap a)(hm:¬ z mainGlobals)(hl:s'.heap.Ns B.L B.ms):Inv B s'.heap:=by
 have f:∀ {a o vs},s.heap.get? a=some o->o.data=.fields vs->s'.heap.get? a=some o:=fun e d=>k.keep (fun q=>nf q e _ d) e
 refine⟨iK x.gl (k.keep hm),hl,x.ll,fun t ht=>?_,fun t ht ps e=>?_⟩
 ·obtain⟨ps,e,ok,r⟩:=x.tb t ht
  refine⟨ps,f e rfl,ok,fun pos cv q=>?_⟩
  obtain⟨c,oc,vs,t',h1,h2,h3,h4⟩:=r pos cv q
  exact⟨c,oc,vs,t',h1,f h2 h3,h3,h4⟩
 ·obtain⟨ps',e',_⟩:=x.tb t ht
  exact x.tx t ht ps (aC ((f e' rfl).symm.trans e)▸e')
noncomputable def txt(l:List Nat):Str:=⟨l.toArray⟩
theorem J2{a b:List Nat}:txt a=txt b↔a=b:=⟨fun h=>congrArg (fun x:Str=>x.cps.toList) h,congrArg txt⟩
section
variable(B:Bs)(g:G)(h:cD)
mutual
inductive VR:V->au->Prop
 | none:VR .none .none
 | bool (b):VR (.bool b) (.bool b)
 | int (i t):VR (.int i) (.int i t)
 | str (l t):VR (.str l) (.str (txt l) t)
 | bytes (l t):VR (.bytes l) (.bytes l.toArray t)
 | ref {i p}:g.v[i]?=some p->VR (.ref i) (.ref p.1)
 | tup {l a o n vs}:h.get? a=some o->o.cls=.type "tuple"->o.data=.seq (bA vs) n->¬ own g a->a∉B.tp->jV l vs->VR (.tup l) (.ref a)
 | lst {l a o n vs}:h.get? a=some o->o.cls=.type "list"->o.data=.seq (bA vs) n->¬ own g a->a∉B.tp->l.length<=lim->jV l vs->VR (.lst l) (.ref a)
inductive jV:List V->List au->Prop
 | nil:jV [] []
 | cons {v r l m}:VR v r->jV l m->jV (v::l) (r::m)
end
inductive Sq(c:String)(l:List V)(r:au):Prop
 | mk {a o n vs} (e:r=.ref a) (q:h.get? a=some o) (k:o.cls=.type c) (d:o.data=.seq (bA vs) n) (no:¬ own g a) (nt:a∉B.tp) (ll:c="list"->l.length<=lim) (rs:jV B g h l vs)
noncomputable def VI:V->au->Prop
 | .none,r=>r=.none
 | .bool b,r=>r=.bool b
 | .int i,r=>∃ t,r=.int i t
 | .str l,r=>∃ t,r=.str (txt l) t
 | .bytes l,r=>∃ t,r=.bytes l.toArray t
 | .ref i,r=>∃ p,g.v[i]?=some p/\r=.ref p.1
 | .tup l,r=>Sq B g h "tuple" l r
 | .lst l,r=>Sq B g h "list" l r
noncomputable def VIs:List V->List au->Prop
 | [],m=>m=[]
 | v::l,m=>∃ r n,m=r::n/\VR B g h v r/\jV B g h l n
end
section
variable{B:Bs}{g g':G}{h h':cD}{v:V}{r:au}
theorem VR.inv(x:VR B g h v r):VI B g h v r:=by
 cases x with
 | none=>exact rfl
 | bool=>exact rfl
 | int _ t=>exact⟨t,rfl⟩
 | str _ t=>exact⟨t,rfl⟩
 | bytes _ t=>exact⟨t,rfl⟩
 | ref e=>exact⟨_,e,rfl⟩
 | tup e c d n t r=>exact⟨rfl,e,c,d,n,t,nofun,r⟩
 | lst e c d n t q r=>exact⟨rfl,e,c,d,n,t,fun J=>q,r⟩
theorem jV.inv{l m}(x:jV B g h l m):VIs B g h l m:=by
 cases x with
 | nil=>exact rfl
 | cons a b=>exact⟨_,_,rfl,a,b⟩
section
variable{P:au->Prop}
@[elab_as_elim] theorem VR.ajC(x:VR B g h .none r)(k:P .none):P r:=(show r=_ from x.inv)▸k
@[elab_as_elim] theorem VR.adi{b}(x:VR B g h (.bool b) r)(k:P (.bool b)):P r:=(show r=_ from x.inv)▸k
@[elab_as_elim] theorem VR.Hp{i}(x:VR B g h (.int i) r)(k:∀ t,P (.int i t)):P r:=(show ∃ _,r=_ from x.inv).elim fun t e=>e▸k t
@[elab_as_elim] theorem VR.Hq{l}(x:VR B g h (.str l) r)(k:∀ t,P (.str (txt l) t)):P r:=(show ∃ _,r=_ from x.inv).elim fun t e=>e▸k t
@[elab_as_elim] theorem VR.yt{l}(x:VR B g h (.bytes l) r)(k:∀ t,P (.bytes l.toArray t)):P r:=(show ∃ _,r=_ from x.inv).elim fun t e=>e▸k t
@[elab_as_elim] theorem VR.Xy{i}(x:VR B g h (.ref i) r)(k:∀ p,g.v[i]?=some p->P (.ref p.1)):P r:=(show ∃ p:aH×Option aH,g.v[i]?=some p/\r=.ref p.1 from x.inv).elim fun p q=>q.2▸k p q.1
@[elab_as_elim] theorem jV.Fz{P:List au->Prop}{m}(x:jV B g h [] m)(k:P []):P m:=(show m=_ from x.inv)▸k
@[elab_as_elim] theorem jV.uG{P:List au->Prop}{v l m}(x:jV B g h (v::l) m)(k:∀ r n,VR B g h v r->jV B g h l n->P (r::n)):P m:=(show ∃ r n,m=r::n/\VR B g h v r/\jV B g h l n from x.inv).elim fun r q=>q.elim fun n q=>q.1▸k r n q.2.1 q.2.2
@[elab_as_elim] theorem jV.ahn{P:List au->Prop}{v m}(x:jV B g h [v] m)(k:∀ r,VR B g h v r->P [r]):P m:=x.uG fun r J a b=>jV.Fz (P:=fun n=>P (r::n)) b (k r a)
@[elab_as_elim] theorem jV.ane{P:List au->Prop}{v w m}(x:jV B g h [v,w] m)(k:∀ r r',VR B g h v r->VR B g h w r'->P [r,r']):P m:=x.uG fun r J a b=>jV.ahn (P:=fun n=>P (r::n)) b (k r · a)
end
theorem FN{c:au}{a b:String}{P:Prop}(e:c=.type a)(e':c=.type b)(n:a≠b:=by decide):P:=absurd (uZ (e.symm.trans e')) n
structure Tr(B:Bs)(g:G)(h:cD)(g':G)(h':cD):Prop where
 at_:∀ {i:Nat} {p},g.v[i]?=some p->g'.v[i]?=some p
 sq:∀ {a o vs n},h.get? a=some o->o.data=.seq vs n->o.cls≠.type "frame"->a∉B.tp->¬ own g a->h'.get? a=some o/\¬ own g' a
theorem VR.tr(k:Tr B g h g' h'){v r}(x:VR B g h v r):VR B g' h' v r:=
 VR.rec (motive_1:=fun v r J=>VR B g' h' v r) (motive_2:=fun l m J=>jV B g' h' l m) .none .bool .int .str .bytes (fun e=>.ref (k.at_ e))
  (fun e c d n t J r=>have q:=k.sq e d (fun f=>FN c f) t n; .tup q.1 c d q.2 t r) (fun e c d n t q J r=>have w:=k.sq e d (fun f=>FN c f) t n; .lst w.1 c d w.2 t q r) .nil (fun J J=>.cons) x
theorem jV.tr(k:Tr B g h g' h'){l m}(x:jV B g h l m):jV B g' h' l m:=by
 induction l generalizing m with
 | nil=>exact x.Fz .nil
 | cons v l ih=>exact x.uG fun J J a b=>.cons (a.tr k) (ih b)
theorem jV.length{l m}(x:jV B g h l m):l.length=m.length:=by
 induction l generalizing m with
 | nil=>exact x.Fz rfl
 | cons v l ih=>exact x.uG fun J J J b=>congrArg (· + 1) (ih b)
theorem jV.append{l m l' m'}(x:jV B g h l m)(y:jV B g h l' m'):jV B g h (l++l') (m++m'):=by
 induction l generalizing m with
 | nil=>exact x.Fz y
 | cons v l ih=>exact x.uG fun J J a b=>.cons a (ih b)
theorem jV.get{l m}(x:jV B g h l m){i:Nat}{v:V}(e:l[i]?=some v):∃ r,m[i]?=some r/\VR B g h v r:=by
 induction l generalizing m i with
 | nil=>exact cW rfl e
 | cons w l ih=>
  refine x.uG fun r n a b=>?_
  cases i with
  | zero=>exact⟨r,rfl,aC e▸a⟩
  | succ i=>exact ih b e
theorem jV.take(n:Nat){l m}(x:jV B g h l m):jV B g h (l.take n) (m.take n):=by
 induction n generalizing l m with
 | zero=>exact .nil
 | succ n ih=>
  cases l with
  | nil=>exact x.Fz .nil
  | cons v l=>exact x.uG fun J J a b=>.cons a (ih b)
theorem jV.drop(n:Nat){l m}(x:jV B g h l m):jV B g h (l.drop n) (m.drop n):=by
 induction n generalizing l m with
 | zero=>exact x
 | succ n ih=>
  cases l with
  | nil=>exact x.Fz .nil
  | cons v l=>exact x.uG fun J J J b=>ih b
theorem jV.replicate{l:List V}{vs:List au}(r:jV B g h l vs):∀ n,jV B g h (bQ n l).flatten (bQ n vs).flatten
 | 0=>.nil
 | n + 1=>r.append (r.replicate n)
end
section
variable(B:Bs)(g:G)(h:cD)
inductive FR:List (Nat×V)->List DictEntry->Prop
 | nil:FR [] []
 | cons {f v t rv fs es}:VR B g h v rv->FR fs es->FR ((f,v)::fs) (⟨PyData.keyHash B.w.params (B.nm f),.str (B.nm f) t,rv⟩::es)
inductive KR{κ:Type}(k:κ->V):List (V×V)->List (κ×au)->Prop
 | nil:KR k [] []
 | cons {x v rv l m}:VR B g h v rv->KR k l m->KR k ((k x,v)::l) ((x,rv)::m)
inductive DO(l:List (V×V))(a:aH):Prop
 | i {kvs} (d:h.DictOf (PySem.intKind B.prog B.w) a kvs) (r:KR B g h V.int l kvs)
 | s {kvs} (d:h.DictOf (PySem.strKind B.prog B.w) a kvs) (r:KR B g h (fun x:Str=>V.str x.cps.toList) l kvs)
noncomputable def aho(es:List DictEntry)(n:Nat):Obj:={cls:=.type "dict",data:=.dict (bA es) n}
noncomputable def nC(vs:List au)(n:Nat):Obj:={cls:=.type "list",data:=.seq (bA vs) n}
noncomputable def anf(l:List UInt8):Obj:={cls:=.type "bytearray",data:=.bytearray l.toArray 0}
inductive OI(c:Nat)(fs:List (Nat×V))(p:aH×Option aH):Prop
 | mk {dx es n} (e:p.2=some dx) (o:h.get? p.1=some (instObj c dx)) (d:h.get? dx=some (aho es n)) (fr:FR B g h fs es) (len:fs.length<=100) (has:∀ q∈fs,B.pg.has c q.1=true)
inductive OL(l:List V)(p:aH×Option aH):Prop
 | mk {vs n} (e:p.2=none) (o:h.get? p.1=some (nC vs n)) (r:jV B g h l vs) (len:l.length<=lim)
structure OD(l:List (V×V))(p:aH×Option aH):Prop where
 e:p.2=none
 d:DO B g h l p.1
 len:l.length<=lim
structure OB(l:List UInt8)(p:aH×Option aH):Prop where
 e:p.2=none
 o:h.get? p.1=some (anf l)
 len:l.length<=lim
noncomputable def OR:O->aH×Option aH->Prop
 | .inst c fs,p=>OI B g h c fs p
 | .dict l,p=>OD B g h l p
 | .list l,p=>OL B g h l p
 | .ba l,p=>OB h l p
structure SR(st:St):Prop where
 len:g.v.length=st.length
 nd:∀ {i j:Nat} {p q a},g.v[i]?=some p->g.v[j]?=some q->Ad p a->Ad q a->i=j
 nh:∀ {i:Nat} {p a},g.v[i]?=some p->Ad p a->a∉g.hid
 fresh:∀ {a},own g a->B.hb.get? a=none
 hl:∀ a∈g.hid,∃ o,h.get? a=some o
 obj:∀ {i:Nat} {o p},st[i]?=some o->g.v[i]?=some p->OR B g h o p
end
structure fK where
 g:G
 st:St
 s:aB
inductive Ro(B:Bs)(o:Obj)(h':cD)(a:aH):Prop
 | eq (e:h'.get? a=some o)
 | fr (b:B.hb.get? a=none) (c:o.cls=.type "frame") (sl) (e:h'.get? a=some {o with slots:=sl})
structure Ev(B:Bs)(z:aH->Prop)(x y:fK):Prop where
 sm:Sm x.s y.s
 live:Xx x.s.heap y.s.heap
 ext:Ext x.g y.g x.s.heap
 evv:∀ {a o},x.s.heap.get? a=some o->a∉B.tp->¬ zT x.g a->¬ z a->Ro B o y.s.heap a
structure Ec(B:Bs)(h:cD):Prop where
 glob:B.hb.get? mainGlobals≠none
 adk:B.hb.get? sysModules≠none
 stat:B.hb.get? B.L≠none
 keep:∀ {a o},B.hb.get? a=some o->a∉B.tp->h.get? a=some o
 live:Xx B.hb h
noncomputable def yu(B:Bs):Prop:=∀ a∈B.tp,∃ o,B.hb.get? a=some o
theorem pP{B:Bs}(T:yu B){a}(e:B.hb.get? a=none):a∉B.tp:=fun q=>(T a q).elim fun J r=>cW e r
structure Wd(B:Bs)(x:fK):Prop where
 tab:yu B
 stay:Ec B x.s.heap
 inv:Inv B x.s.heap
 sr:SR B x.g x.s.heap x.st
abbrev VX(B:Bs)(x:fK)(v:V)(r:au):Prop:=VR B x.g x.s.heap v r
abbrev yw(B:Bs)(x:fK)(v:List V)(r:List au):Prop:=jV B x.g x.s.heap v r
section
variable{B:Bs}{z z':aH->Prop}{x y y':fK}{g g':G}{h h':cD}{s':aB}{st:St}
theorem Ro.trans{o a}(x:Ro B o h a)(y:∀ {o'},h.get? a=some o'->Ro B o' h' a):Ro B o h' a:=by
 cases x with
 | eq e=>exact y e
 | fr b c sl e=>cases y e with
  | eq e=>exact .fr b c sl e
  | fr _ _ sl e=>exact .fr b c sl e
theorem Ev.refl:Ev B z x x:=⟨rfl,fun e=>⟨_,e⟩,.refl,fun e J J J=>.eq e⟩
theorem Ev.own(E:Ev B z x y){a o}(e:x.s.heap.get? a=some o)(n:¬ Mine.Internal.own x.g a):¬ Mine.Internal.own y.g a:=fun q=>(E.ext.nwo q).elim n fun r=>cW r e
theorem Ev.zT(E:Ev B z x y){a o}(e:x.s.heap.get? a=some o)(n:¬ Mine.Internal.zT x.g a):¬ Mine.Internal.zT y.g a:=fun q=>(E.ext.nw q).elim n fun r=>cW r e
theorem Ev.Fd(E:Ev B z x y){a o}(e:x.s.heap.get? a=some o)(t:a∉B.tp)(n:¬ Mine.Internal.own x.g a)(q:¬ z a):Ro B o y.s.heap a:=E.evv e t (fun r=>n r.own) q
theorem Ev.trans(X:Ev B z x y)(Y:Ev B z y y'):Ev B z x y':=
 ⟨X.sm.trans Y.sm,fun e=>(X.live e).elim fun J q=>Y.live q,X.ext.trans X.live Y.ext,fun e t n q=>(X.evv e t n q).trans fun r=>Y.evv r t (X.zT e n) q⟩
theorem Ev.drop(E:Ev B z x y)(hz:∀ {a},z a->z' a∨x.s.heap.get? a=none):Ev B z' x y:=
 ⟨E.sm,E.live,E.ext,fun e t o q=>E.evv e t o fun r=>(hz r).elim q fun r=>cW r e⟩
theorem Ev.weaken(E:Ev B z x y)(hz:∀ {a},z a->z' a):Ev B z' x y:=E.drop fun q=>.inl (hz q)
theorem Ev.of(E:Ev B pO x y):Ev B z x y:=E.weaken fun q=>q.elim
theorem Kx.ev(k:Kx z x.s s'){st}:Ev B z x ⟨x.g,st,s'⟩:=⟨k.sm,k.live,.refl,fun e J J q=>.eq (k.keep q e)⟩
theorem Ev.tr(E:Ev B z x y)(hz:∀ {a},z a->wU x.s.heap a):Tr B x.g x.s.heap y.g y.s.heap:=
 ⟨E.ext.at_,fun e d c t n=>⟨by
  cases E.Fd e t n fun q=>hz q e _ _ d with
  | eq e=>exact e
  | fr _ f=>exact absurd f c,E.own e n⟩⟩
theorem VR.up{v r}(E:Ev B z x y)(hz:∀ {a},z a->wU x.s.heap a)(q:VX B x v r):VX B y v r:=q.tr (E.tr hz)
theorem jV.up{v r}(E:Ev B z x y)(hz:∀ {a},z a->wU x.s.heap a)(q:yw B x v r):yw B y v r:=q.tr (E.tr hz)
theorem VR.go{v r}(E:Ev B pO x y)(q:VX B x v r):VX B y v r:=q.up E fun e=>e.elim
theorem jV.go{v r}(E:Ev B pO x y)(q:yw B x v r):yw B y v r:=q.up E fun e=>e.elim
theorem Tr.kx(k:Kx z x.s s')(hz:∀ {a},z a->wU x.s.heap a):Tr B x.g x.s.heap x.g s'.heap:=⟨id,fun e d J J n=>⟨k.keep (fun q=>hz q e _ _ d) e,n⟩⟩
theorem VR.kp{v r}{s s':aB}(k:Kp s s')(q:VR B g s.heap v r):VR B g s'.heap v r:=q.tr ⟨id,fun e J J J n=>⟨k.at e,n⟩⟩
theorem jV.kp{v r}{s s':aB}(k:Kp s s')(q:jV B g s.heap v r):jV B g s'.heap v r:=q.tr ⟨id,fun e J J J n=>⟨k.at e,n⟩⟩
theorem FR.tr(k:Tr B g h g' h'){l m}(x:FR B g h l m):FR B g' h' l m:=by
 induction x with
 | nil=>exact .nil
 | cons a _ ih=>exact .cons (a.tr k) ih
theorem KR.tr{κ:Type}{f:κ->V}(k:Tr B g h g' h'){l m}(x:KR B g h f l m):KR B g' h' f l m:=by
 induction x with
 | nil=>exact .nil
 | cons a _ ih=>exact .cons (a.tr k) ih
theorem Jf{prog:dO}{w:cY}{κ:Type}[DecidableEq κ]{knd:KeyKind prog w κ}{a:aH}{kvs}(x:h.DictOf knd a kvs)(k:∀ {o},h.get? a=some o->h'.get? a=some o):h'.DictOf knd a kvs:=
 x.elim fun o x=>x.elim fun es x=>x.elim fun ep x=>⟨o,es,ep,k x.1,x.2⟩
theorem vm{prog:dO}{w:cY}{κ:Type}[DecidableEq κ]{knd:KeyKind prog w κ}{a:aH}{kvs}(x:h.DictOf knd a kvs):∃ o,h.get? a=some o:=
 x.elim fun o x=>x.elim fun J x=>x.elim fun J x=>⟨o,x.1⟩
theorem DO.live{l a}(x:DO B g h l a):∃ o,h.get? a=some o:=by
 cases x with
 | i d=>exact vm d
 | s d=>exact vm d
theorem DO.tr{l a}(k:Tr B g h g' h')(q:∀ {o},h.get? a=some o->h'.get? a=some o)(x:DO B g h l a):DO B g' h' l a:=by
 cases x with
 | i d r=>exact .i (Jf d q) (r.tr k)
 | s d r=>exact .s (Jf d q) (r.tr k)
theorem OR.tr{o p}(k:Tr B g h g' h')(q:∀ {a o},Ad p a->h.get? a=some o->h'.get? a=some o)(x:OR B g h o p):OR B g' h' o p:=by
 cases o with
 | inst c fs=>cases x with | mk e o d fr l m=>exact .mk e (q (.a rfl) o) (q (.d e) d) (fr.tr k) l m
 | dict l=>exact⟨x.e,x.d.tr k (q (.a rfl)),x.len⟩
 | list l=>cases x with | mk e o r m=>exact .mk e (q (.a rfl) o) (r.tr k) m
 | ba l=>exact⟨x.e,q (.a rfl) x.o,x.len⟩
theorem Ad.one{p:aH×Option aH}{a}(x:Ad p a)(e:p.2=none):p.1=a:=by
 cases x with
 | a e=>exact e
 | d q=>exact cW e q
theorem OR.live{o p a}(x:OR B g h o p)(q:Ad p a):∃ o,h.get? a=some o:=by
 cases o with
 | inst c fs=>cases x with | mk e o d=>cases q with
  | a q=>exact⟨_,q▸o⟩
  | d q=>exact⟨_,aC (e.symm.trans q)▸d⟩
 | dict l=>exact q.one x.e▸x.d.live
 | list l=>cases x with | mk e o=>exact⟨_,q.one e▸o⟩
 | ba l=>exact⟨_,q.one x.e▸x.o⟩
theorem SR.here(R:SR B g h st){i:Nat}{p}(e:g.v[i]?=some p):∃ o,st[i]?=some o:=
 ⟨_,bF (R.len▸(bW.mp e).1)⟩
theorem SR.live(R:SR B g h st){a}(x:own g a):∃ o,h.get? a=some o:=by
 cases x with
 | «at» e q=>exact let⟨_,e'⟩:=R.here e; (R.obj e' e).live q
 | hid q=>exact R.hl a q
theorem SR.tr(R:SR B g h st)(k:Tr B g h g h')(q:∀ {a o},own g a->h.get? a=some o->h'.get? a=some o):SR B g h' st:=
 ⟨R.len,R.nd,R.nh,R.fresh,fun a e=>(R.hl a e).elim fun o r=>⟨o,q (.hid e) r⟩,fun e e'=>(R.obj e e').tr k fun a r=>q (.at e' a) r⟩
theorem SR.no(R:SR B g h st){a}(e:h.get? a=none):¬ own g a:=fun q=>(R.live q).elim fun J r=>cW e r
theorem Ec.fresh(S:Ec B h){a}(e:h.get? a=none):B.hb.get? a=none:=vg S.live e
theorem Wd.new(w:Wd B x){a}(e:x.s.heap.get? a=none):¬ own x.g a/\a∉B.tp/\B.hb.get? a=none:=
 have q:=w.stay.fresh e; ⟨w.sr.no e,pP w.tab q,q⟩
theorem Ec.kx(S:Ec B x.s.heap)(k:Kx z x.s s')(hz:∀ {a},z a->B.hb.get? a=none∨a∈B.tp):Ec B s'.heap:=
 ⟨S.glob,S.adk,S.stat,fun e t=>k.keep (fun q=>(hz q).elim (fun r=>cW r e) t) (S.keep e t),fun e=>(S.live e).elim fun J q=>k.live q⟩
theorem Wd.kx(w:Wd B x)(k:Kx z x.s s')(hn:∀ {a},z a->¬ own x.g a)(hs:∀ {a},z a->wU x.s.heap a)(hb:∀ {a},z a->B.hb.get? a=none∨a∈B.tp)(i:Inv B s'.heap):Wd B ⟨x.g,x.st,s'⟩:=
 ⟨w.tab,w.stay.kx k hb,i,w.sr.tr (.kx k hs) fun o e=>k.keep (fun q=>hn q o) e⟩
theorem Wd.kp(w:Wd B x)(k:Kp x.s s'):Wd B ⟨x.g,x.st,s'⟩:=
 w.kx k (fun q=>q.elim) (fun q=>q.elim) (fun q=>q.elim) (w.inv.kx k (fun q=>q.elim) id (iK w.inv.sl k.at))
theorem Inv.one(w:Wd B x){a}(k:Kx (is1 a) x.s s')(nf:Ai x.s.heap a)(hb:B.hb.get? a=none):Inv B s'.heap:=
 w.inv.kx k (fun q=>q▸nf) (fun q=>w.stay.glob (q▸hb)) (iK w.inv.sl (k.keep fun q=>w.stay.stat (q▸hb)))
theorem Wd.one(w:Wd B x){a o}(k:Kx (is1 a) x.s s')(e:x.s.heap.get? a=some o)(nf:∀ vs,o.data≠.fields vs)(ns:∀ vs n,o.data≠.seq vs n)(hb:B.hb.get? a=none)(no:¬ own x.g a):Wd B ⟨x.g,x.st,s'⟩:=
 w.kx k (fun q=>q▸no) (fun q J e'=>by cases q; exact aC (e.symm.trans e')▸ns) (fun q=>.inl (q▸hb)) (.one w k (fun e'=>aC (e.symm.trans e')▸nf) hb)
theorem Wd.ang(w:Wd B x){i:Nat}{p a o'}(hi:x.g.v[i]?=some p)(ha:Ad p a)(k:Kx (fun b=>b=a∨b=B.L) x.s s')(gl:s'.heap.Ns B.L B.ms)(nl:Ai x.s.heap B.L)(sl:wU x.s.heap B.L)(nf:Ai x.s.heap a)
  (ho:Tr B x.g x.s.heap x.g s'.heap->OR B x.g s'.heap o' p):Wd B ⟨x.g,x.st.set i o',s'⟩/\Ev B pO x ⟨x.g,x.st.set i o',s'⟩:=by
 have oa:=own.at hi ha
 have hb:=w.sr.fresh oa
 have nL:∀ {b},own x.g b->b≠B.L:=fun q e=>pP w.tab (w.sr.fresh q) (e▸Je)
 have t:Tr B x.g x.s.heap x.g s'.heap:=⟨id,fun e J J t n=>⟨k.keep (fun q=>q.elim (fun q=>n (q▸oa)) fun q=>t (q▸Je)) e,n⟩⟩
 refine⟨⟨w.tab,w.stay.kx k (fun {b} q=>q.imp (fun(q:b=a)=>q▸hb) fun(q:b=B.L)=>q▸Je),w.inv.kx k (fun q=>q.elim (fun q=>q▸nf) fun q=>q▸nl) (fun q=>q.elim (fun q=>w.stay.glob (q▸hb)) fun q=>f9 _ (q▸w.inv.ll:B.L < B.L)) gl,
  ⟨by rw[List.length_set]; exact w.sr.len,w.sr.nd,w.sr.nh,w.sr.fresh,fun b q=>(w.sr.hl b q).elim fun J e=>k.live e,fun {j o q} ej eq=>?_⟩⟩,
  k.sm,k.live,.refl,fun e t n J=>.eq (k.keep (fun q=>q.elim (fun q=>n (q▸.mk hi ha)) fun q=>t (q▸Je)) e)⟩
 by_cases ij:i=j
 ·subst ij
  cases hi.symm.trans eq
  rw[List.getElem?_set_self (bW.mp (w.sr.here hi).choose_spec).1] at ej
  exact aC ej▸ho t
 ·rw[nR ij] at ej
  exact(w.sr.obj ej eq).tr t fun hb e=>k.keep (fun r=>r.elim (fun r=>ij (w.sr.nd hi eq ha (r▸hb))) (nL (.at eq hb))) e
theorem Wd.set(w:Wd B x){i:Nat}{p a o'}(hi:x.g.v[i]?=some p)(ha:Ad p a)(k:Kx (is1 a) x.s s')(nf:Ai x.s.heap a)
  (ho:Tr B x.g x.s.heap x.g s'.heap->OR B x.g s'.heap o' p):Wd B ⟨x.g,x.st.set i o',s'⟩/\Ev B pO x ⟨x.g,x.st.set i o',s'⟩:=
 w.ang hi ha (k.weaken .inl) (iK w.inv.sl (k.keep fun q=>w.stay.stat (q▸w.sr.fresh (.at hi ha)))) (K8 w.inv.sl) (uF w.inv.sl) nf ho
theorem Wd.push(w:Wd B x){p o}(k:Kp x.s s')(h1:x.s.heap.get? p.1=none)(h2:∀ {d},p.2=some d->x.s.heap.get? d=none)
  (ho:Tr B x.g x.s.heap ⟨x.g.v++[p],x.g.hid⟩ s'.heap->OR B ⟨x.g.v++[p],x.g.hid⟩ s'.heap o p):
  Wd B ⟨⟨x.g.v++[p],x.g.hid⟩,x.st++[o],s'⟩/\Ev B pO x ⟨⟨x.g.v++[p],x.g.hid⟩,x.st++[o],s'⟩:=by
 have fr:∀ {a},Ad p a->x.s.heap.get? a=none:=fun {a} q=>by
  cases q with
  | a e=>exact e▸h1
  | d e=>exact h2 e
 have old:∀ {i:Nat} {q},x.g.v[i]?=some q->(x.g.v++[p])[i]?=some q:=fun e=>by rw[gU (bW.mp e).1]; exact e
 have at_:∀ {i:Nat} {q},(x.g.v++[p])[i]?=some q->x.g.v[i]?=some q∨(i=x.g.v.length/\q=p):=fun {i q} e=>by
  rcases Nat.lt_trichotomy i x.g.v.length with l | l | l
  ·exact .inl (gU l▸e)
  ·subst l
   rw[gJ (bf _),oK] at e
   exact .inr ⟨rfl,(aC e).symm⟩
  ·rw[cR (by rw[aF]; exact l)] at e
   exact nn e
 have ex:Ext x.g ⟨x.g.v++[p],x.g.hid⟩ x.s.heap:=⟨old,rfl,fun q=>by
  cases q with | mk e q=>
  rcases at_ e with e | ⟨_,e⟩
  ·exact .inl (.mk e q)
  ·exact .inr (fr (e▸q))⟩
 have E:Ev B pO x ⟨⟨x.g.v++[p],x.g.hid⟩,x.st++[o],s'⟩:=⟨k.sm,k.live,ex,fun e J J q=>.eq (k.keep q e)⟩
 have t:Tr B x.g x.s.heap ⟨x.g.v++[p],x.g.hid⟩ s'.heap:=E.tr fun q=>q.elim
 have no:∀ {a} {i:Nat} {q},x.g.v[i]?=some q->Ad q a->Ad p a->False:=fun e q r=>w.sr.no (fr r) (.at e q)
 refine⟨⟨w.tab,(w.kp k).stay,(w.kp k).inv,⟨by rw[aF,aF,w.sr.len]; rfl,fun e e' q r=>?_,fun e q m=>?_,fun q=>?_,fun b q=>(w.sr.hl b q).elim fun J e=>k.live e,fun {i o' q} e e'=>?_⟩⟩,E⟩
 ·rcases at_ e with e | ⟨i1,e1⟩ <;> rcases at_ e' with e' | ⟨i2,e2⟩
  ·exact w.sr.nd e e' q r
  ·exact(no e q (e2▸r)).elim
  ·exact(no e' r (e1▸q)).elim
  ·exact i1.trans i2.symm
 ·rcases at_ e with e | ⟨_,e⟩
  ·exact w.sr.nh e q m
  ·exact w.sr.no (fr (e▸q)) (.hid m)
 ·exact(ex.nwo q).elim w.sr.fresh w.stay.fresh
 ·rcases at_ e' with e' | ⟨i2,e2⟩
  ·have l:i < x.st.length:=w.sr.len▸(bW.mp e').1
   exact(w.sr.obj (gU l▸e) e').tr t fun J r=>k.at r
  ·subst i2 e2
   rw[w.sr.len,gJ (bf _),oK] at e
   exact aC e▸ho t
end
end
section
structure Sc where
 vs:List (Str×Nat)
 wn:List Str
 gl:List Str
 cl:List Str
 lam:Option (aH×aH×Str)
structure Pl where
 B:Bs
 A:cI
 env:Env
 sc:Sc
inductive tE(h:cD)(c:aH):Prop
 | mk {o v} (e:h.get? c=some o) (d:o.data=.cell v)
inductive Rd(B:Bs)(x:fK)(env:Env)(m:Str->Option au)(n:Str)(v:V):Prop
 | l {rv} (k:env.kindOf n=some .local) (e:m n=some rv) (r:VX B x v rv)
 | c {c o rv} (k:env.kindOf n=some .cell∨env.kindOf n=some .free) (l:env.cells.lookup n=some c) (e:x.s.heap.get? c=some o) (d:o.data=.cell (some rv)) (r:VX B x v rv)
structure ES(p:Pl):Prop where
 kind:p.env.scope.kind=.function
 glob:p.env.globals=mainGlobals
 blt:p.env.builtins=builtinsNs
 lam:∀ t,p.sc.lam=some t->p.env.code=.ref t.1/\p.env.qual++("<lambda>":Str)=t.2.2
 Xz:p.B.hb.get? p.env.locals=none
 wr:∀ x∈p.sc.wn,p.env.kindOf x=some .local∨(p.env.kindOf x=some .cell/\∃ c,p.env.cells.lookup x=some c)
 gn:∀ x∈p.sc.gl,p.env.kindOf x=some .globalImplicit
 cn:∀ x∈p.sc.cl,(p.env.kindOf x=some .cell∨p.env.kindOf x=some .free)/\∃ c,p.env.cells.lookup x=some c
 inj:∀ {x y k},p.sc.vs.lookup x=some k->p.sc.vs.lookup y=some k->x=y
 cb:∀ {x c},p.env.cells.lookup x=some c->p.B.hb.get? c=none
 apart:∀ {x y c},p.env.cells.lookup x=some c->p.env.cells.lookup y=some c->x=y
structure ER(p:Pl)(x:fK)(fr:Fm)(m:Str->Option au):Prop where
 es:ES p
 ns:x.s.heap.Ns p.env.locals m
 Aj:¬ own x.g p.env.locals
 vars:∀ {n k v},p.sc.vs.lookup n=some k->gH fr k=some v->Rd p.B x p.env m n v
 cells:∀ {n c},p.env.cells.lookup n=some c->¬ own x.g c/\tE x.s.heap c
inductive zof(env:Env)(xs:List Str)(a:aH):Prop
 | l (e:a=env.locals)
 | c {x} (h:x∈xs) (e:env.cells.lookup x=some a)
noncomputable def LK(env:Env)(s s':aB):Prop:=∀ {o},s.heap.get? env.locals=some o->∃ o',s'.heap.get? env.locals=some o'/\o'.cls=o.cls
theorem LK.refl{env s}:LK env s s:=fun e=>⟨_,e,rfl⟩
theorem LK.trans{env s s1 s2}(x:LK env s s1)(y:LK env s1 s2):LK env s s2:=fun e=>(x e).elim fun J q=>(y q.1).elim fun o r=>⟨o,r.1,r.2.trans q.2⟩
section
variable{p:Pl}{z:aH->Prop}{x y:fK}{s s':aB}{h:cD}{fr:Fm}{m m':Str->Option au}{M:jC}{A:cI}{E:au->aB->Prop}
theorem tE.PJ{c}(k:tE h c):wU h c:=by cases k with | mk e d=>exact Fy e (K7 d)
theorem Hr{a b}(k:tE h b)(hn:h.Ns a m):b≠a:=fun q=>by
 cases k with | mk e d=>exact(jq hn).elim fun J q'=>q'.elim fun J q'=>q'.elim fun J q'=>
  nomatch ((congrArg Obj.data (aC ((q▸e).symm.trans q'.1))).symm.trans d).symm.trans q'.2
theorem Ro.at_{B o a}(k:Ro B o h a):∃ o',h.get? a=some o'/\o'.data=o.data/\o'.cls=o.cls:=by
 cases k with
 | eq e=>exact⟨o,e,rfl,rfl⟩
 | fr _ _ sl e=>exact⟨_,e,rfl,rfl⟩
theorem ER.up(T:yu p.B)(F:ER p x fr m)(E:Ev p.B z x y)(hz:∀ {a},z a->wU x.s.heap a/\a≠p.env.locals/\∀ n,p.env.cells.lookup n≠some a):ER p y fr m:=by
 have t:=E.tr fun q=>(hz q).1
 have hc:∀ {n c o},p.env.cells.lookup n=some c->x.s.heap.get? c=some o->∃ o',y.s.heap.get? c=some o'/\o'.data=o.data/\o'.cls=o.cls:=fun e e'=>
  (E.Fd e' (pP T (F.es.cb e)) (F.cells e).1 fun q=>(hz q).2.2 _ e).at_
 refine⟨F.es,?_,(jq F.ns).elim fun J q=>q.elim fun J q=>q.elim fun J q=>E.own q.1 F.Aj,fun e e'=>?_,fun e=>?_⟩
 ·obtain⟨o,es,ep,e,d,r⟩:=F.ns
  obtain⟨o',e',d',_⟩:=(E.Fd e (pP T F.es.Xz) F.Aj fun q=>(hz q).2.1 rfl).at_
  exact⟨o',es,ep,e',d'.trans d,r⟩
 ·cases F.vars e e' with
  | l k e r=>exact .l k e (r.tr t)
  | c k l e d r=>obtain⟨o',q,d',_⟩:=hc l e; exact .c k l q (d'.trans d) (r.tr t)
 ·obtain⟨n,c⟩:=F.cells e
  cases c with | mk e' d=>obtain⟨o',q,d',_⟩:=hc e e'; exact⟨E.own e' n,.mk q (d'.trans d)⟩
theorem pG{fr:Fm}{k j:Nat}{v:V}:gH (pC fr k v) j=if k=j then some v else gH fr j:=by
 induction fr with
 | nil=>rfl
 | cons q r ih=>
  show gH (if q.1=k then(k,v)::r else q::pC r k v) j=if k=j then some v else if q.1=j then some q.2 else gH r j
  by_cases h:q.1=k
  ·rw[if_pos h]
   show(if k=j then some v else gH r j)=_
   by_cases h':k=j
   ·rw[if_pos h',if_pos h']
   ·rw[if_neg h',if_neg h',if_neg fun e=>h' (h.symm.trans e)]
  ·rw[if_neg h]
   show(if q.1=j then some q.2 else gH (pC r k v) j)=_
   rw[ih]
   by_cases h':q.1=j
   ·rw[if_pos h',if_pos h',if_neg fun e=>h (h'.trans e.symm)]
   ·rw[if_neg h',if_neg h']
theorem XC{h:cD}{a:aH}{f:Obj->Obj}{o ob:Obj}(e:h.get? a=some o)(q:(h.update a f).get? a=some ob):f o=ob:=by
 have q1:=(Heap.get?_some_iff.mp q).1
 have e1:=(Heap.get?_some_iff.mp e).1
 cases h; simp only[Heap.update,Array.getElem?_modify,if_true] at q1 e1
 rw[e1] at q1; exact aC q1
theorem Uq{n:Str}{i:Int}{k v:au}{o:Obj}:(Obj.putName n i k v o).cls=o.cls:=by
 rw[Obj.putName_eq]
 unfold Obj.putNameByArray
 split
 ·split <;> rfl
 ·rfl
theorem PK{a:aH}{name:Str}{v:au}{Q:Unit->aB->Prop}(hn:s.heap.Ns a m)
  (h:∀ h',h'.Ns a (fun x=>if x=name then some v else m x)->dZ a s.heap h'->(∀ {o},s.heap.get? a=some o->∃ o',h'.get? a=some o'/\o'.cls=o.cls)->Q () {s with heap:=h',toks:=s.toks + 1}):
  bD M A (nsSet a name v) Q E s:=fun Γ p hΓ=>by
 obtain⟨o,es,ep,ho,hd,hk,hm⟩:=id hn
 have hany:es.any (·.refKey)=false:=by
  rw[Array.any_eq_false']; intro e he; obtain⟨n,t,h⟩:=hk e he; simp [DictEntry.refKey,h]
 have run:∃ hash,∀ Q',Sem.wp M Γ (nsSet a name v) Q' (fun e J s'=>E e s') p s=((s.heap.get? a).isSome=true/\Q' () p {s with heap:=s.heap.update a (Obj.putName name hash (.str name s.toks) v),toks:=s.toks + 1}):=⟨_,fun Q'=>by
  simp only[nsSet,strHash,Sem.wp_bind',Sem.wp_cmd_ask,Sem.wp_pure',Sem.wp_cmd_mkText]
  rw[Sem.wp_loadPart_of M Γ _ p {s with toks:=s.toks + 1} (o:=o) _ ho]
  simp only[hd,aRefKeyMayBeTheName_eq,aRefKeyMayBeTheNameByArray,hany,Br,Bool.false_eq_true,if_false,Sem.wp_cmd_updatePart]
  rfl⟩
 obtain⟨f,run⟩:=run
 have k:=Sem.wp_nsSet M Γ (fun e J s'=>E e s') p s hn name v (fun J J s'=>s'.heap.Ns a (fun x=>if x=name then some v else m x)/\dZ a s.heap s'.heap) (fun h' x y=>⟨x,y⟩)
 rw[run] at k ⊢
 obtain⟨ob,_,_,hb,_⟩:=k.2.1
 exact⟨k.1,h _ k.2.1 k.2.2 fun e=>⟨ob,hb,XC e hb▸Uq⟩⟩
theorem abf(F:ER p x fr m){n:Str}{k:Nat}{v:V}(hx:p.sc.vs.lookup n=some k)(hv:gH fr k=some v)(hn:(n==("__classdict__":Str))=false){Q:au->aB->Prop}
  (h:∀ rv,VX p.B x v rv->Q rv x.s):bD M A (loadName p.env n) Q E x.s:=by
 cases F.vars hx hv with
 | l k e r=>exact wpAny_loadName_local F.es.kind k F.ns e (h _ r)
 | c k l e d r=>
  rcases k with k | k
  ·exact wpAny_loadName_cell F.es.kind k l ⟨_,e,d⟩ (h _ r)
  ·exact wpAny_loadName_free F.es.kind k l ⟨_,e,d⟩ (h _ r) hn
theorem ER.PJ(F:ER p x fr m){xs a}(q:zof p.env xs a):wU x.s.heap a:=by
 cases q with
 | l e=>exact e▸uF F.ns
 | c _ e=>exact(F.cells e).2.PJ
theorem Rd.keep{n:Str}{v:V}{a:aH}(R:Rd p.B x p.env m n v)(t:Tr p.B x.g x.s.heap x.g s'.heap)(k:Kx (is1 a) x.s s')(hm:p.env.kindOf n=some .local->m' n=m n)(hc:∀ {c},p.env.cells.lookup n=some c->c≠a):Rd p.B ⟨x.g,x.st,s'⟩ p.env m' n v:=by
 cases R with
 | l q e r=>exact .l q ((hm q).trans e) (r.tr t)
 | c q l e d r=>exact .c q l (k.keep (hc l) e) d (r.tr t)
theorem K9(w:Wd p.B x)(F:ER p x fr m){n:Str}{k:Nat}{v:V}{rv:au}(hx:p.sc.vs.lookup n=some k)(hw:n∈p.sc.wn)(hv:VX p.B x v rv){Q:Unit->aB->Prop}
  (h:∀ s' m',Ev p.B (zof p.env [n]) x ⟨x.g,x.st,s'⟩->Wd p.B ⟨x.g,x.st,s'⟩->ER p ⟨x.g,x.st,s'⟩ (pC fr k v) m'->LK p.env x.s s'->Q () s'):bD M A (storeName p.env n rv) Q E x.s:=by
 have fin:∀ {s' m' a},zof p.env [n] a->Kx (is1 a) x.s s'->Wd p.B ⟨x.g,x.st,s'⟩->s'.heap.Ns p.env.locals m'->(∀ {y},y≠n->p.env.kindOf y=some .local->m' y=m y)->(∀ {y c},y≠n->p.env.cells.lookup y=some c->c≠a)->Rd p.B ⟨x.g,x.st,s'⟩ p.env m' n v->(∀ {c},tE x.s.heap c->tE s'.heap c)->LK p.env x.s s'->Q () s':=fun z q w' hn hm hc r cl lk=>
  have t:=Tr.kx q fun z'=>z'▸F.PJ z
  h _ _ (q.ev.weaken fun e=>e▸z) w' ⟨F.es,hn,F.Aj,fun {y j u} e e'=>by
   rw[pG] at e'
   by_cases j1:k=j
   ·rw[if_pos j1] at e'
    exact F.es.inj hx (j1▸e)▸aC e'▸r
   ·rw[if_neg j1] at e'
    have ny:y≠n:=fun q=>j1 (aC (hx.symm.trans (q▸e)))
    exact(F.vars e e').keep t q (hm ny) (hc ny),fun e=>⟨(F.cells e).1,cl (F.cells e).2⟩⟩ lk
 rcases F.es.wr n hw with h1 | ⟨h1,c,hc⟩
 ·rw[storeName_local h1 (by rw[F.es.kind]; rfl)]
  refine PK F.ns fun h' hn hs hcl=>?_
  obtain⟨o,es,ep,e,d⟩:=jq F.ns
  have K:Kx (is1 p.env.locals) x.s {x.s with heap:=h',toks:=x.s.toks + 1}:=.one hs.2 ((hcl e).elim fun o q=>⟨o,q.1⟩)
  have cl:∀ {c},tE x.s.heap c->tE h' c:=fun q=>by have ne:=Hr q F.ns; cases q with | mk e d=>exact .mk (K.keep ne e) d
  exact fin (.l rfl) K (w.one K e (jW d) (uE d) F.es.Xz F.Aj) hn (fun ny J=>if_neg ny) (fun J e=>Hr (F.cells e).2 F.ns) (.l h1 (if_pos rfl) (hv.tr (.kx K fun z=>z▸uF F.ns))) cl hcl
 ·obtain⟨nc,cc⟩:=F.cells hc
  have nl:=Hr cc F.ns
  have ns:wU x.s.heap c:=cc.PJ
  cases cc with | mk ce cd=>
  refine wpAny_storeName_cell F.es.kind h1 hc ⟨_,ce,cd⟩ fun h' hv' hs=>?_
  obtain⟨on,n1,n2⟩:=hv'
  have K:Kx (is1 c) x.s {x.s with heap:=h'}:=.one hs.2 ⟨on,n1⟩
  exact fin (.c (.head _) hc) K (w.one K ce (Eb cd) (K7 cd) (F.es.cb hc) nc) (iK F.ns (K.keep nl.symm)) (fun J J=>rfl) (fun ny e q=>ny (F.es.apart e (q▸hc)))
   (.c (.inl h1) hc n1 n2 (hv.tr (.kx K fun z=>z▸ns))) (fun {c'} q=>by
    by_cases e:c'=c
    ·exact e▸.mk n1 n2
    ·cases q with | mk e' d=>exact .mk (K.keep e e') d) fun e=>⟨_,K.keep nl.symm e,rfl⟩
end
end
section
noncomputable def zZ(l:List Env):List aH:=l.filterMap (·.frame)
inductive Hs(x:fK)(a:aH):Prop
 | mk {o es n} (no:¬ own x.g a) (e:x.s.heap.get? a=some o) (c:o.cls=.type "frame") (d:o.data=.dict es n)
inductive uH(p:Pl)(x:fK)(l:List Env):Prop
 | mk {fe outer L} (e:l=fe::outer) (f1:fe.frame=some L) (f2:p.env.frame=some L) (ff:x.s.heap.FunFrames p.B.hb l) (al:∀ a∈zZ l,Hs x a)
structure AR(p:Pl)(x:fK)(n:Nat):Prop where
 hand:p.A.handled=none
 depth:p.A.depth + 2 * n<=990
 units:p.A.units + 16 * n<=9000
 chain:∃ l,p.A.frames=some l/\uH p x l
structure Cx(p:Pl)(n:Nat)(fr:Fm)(x:fK):Prop where
 wd:Wd p.B x
 ar:AR p x n
 er:∃ m,ER p x fr m
inductive anh(hB:cD)(l:List Env)(ea:aH)(cls a0:au)(h:cD):Prop
 | mk {oe vs} (st:hB.StaysIn h) (nw:hB.get? ea=none) (ff:h.FunFrames hB l) (e:h.get? ea=some oe) (c:oe.cls=cls) (d:oe.data=.fields vs) (v0:vs[0]?=some a0) (v1:vs[1]?=some .none)
inductive Fly(hB:cD)(l:List Env)(ea:aH)(cls a0:au)(h:cD):Prop
 | fresh (x:anh hB l ea cls a0 h)
 | fly (x:ud hB l ea cls a0 h)
 | held {L} (e:(l.head?.bind (·.frame))=some L) (x:yX hB l ea cls a0 L h)
noncomputable def adl(s':aB)(o:Obj)(a:aH):Prop:=∃ sl,s'.heap.get? a=some {o with slots:=sl}
noncomputable def aaf(s':aB)(o:Obj)(a:aH):Prop:=∃ o',s'.heap.get? a=some o'/\o'.cls=o.cls
inductive XRp(B:Bs)(z:aH->Prop)(l:List Env)(x:fK)(e:au)(st':St)(s':aB)(F:cD->aH->au->cD->Prop):Prop
 | mk {ea g' hB a0} (e1:e=.ref ea) (sm:Sm x.s s') (ext:Ext x.g g' x.s.heap) (sr:SR B g' hB st') (stay:Ec B hB) (inv:Inv B hB)
  (Fd:∀ {a o},x.s.heap.get? a=some o->a∉B.tp->¬ zT x.g a->a∉zZ l->¬ z a->Ro B o hB a)
  (live:∀ {a o},x.s.heap.get? a=some o->a∉zZ l->∃ o',hB.get? a=some o')
  (frs:∀ {a o},x.s.heap.get? a=some o->a∈zZ l->(¬ z a->adl s' o a)/\aaf s' o a)
  (no:∀ a∈zZ l,¬ own g' a) (fly:F hB ea a0 s'.heap)
abbrev XR(B:Bs)(z:aH->Prop)(l:List Env)(x:fK)(e:au)(C:Nat)(st':St)(s':aB):Prop:=XRp B z l x e st' s' fun hB ea a0 h=>Fly hB l ea (.ref C) a0 h
inductive QT{β:Type}(p:Pl)(z:aH->Prop)(x:fK)(P:β->fK->Prop)(r:β)(s':aB):Prop
 | mk {g' st'} (ev:Ev p.B z x ⟨g',st',s'⟩) (wd:Wd p.B ⟨g',st',s'⟩) (lk:LK p.env x.s s') (q:P r ⟨g',st',s'⟩)
inductive QX(p:Pl)(z:aH->Prop)(x:fK)(X:Ex)(e:au)(s':aB):Prop
 | mk {l C st'} (fr:p.A.frames=some l) (xr:XR p.B z l x e C st' s') (q:X C st')
noncomputable def PV(B:Bs)(Q:Po):au->fK->Prop:=fun r y=>∃ v,VX B y v r/\Q v y.st
noncomputable def PB(Q:Bool->St->Prop):Bool->fK->Prop:=fun b y=>Q b y.st
noncomputable def PL(B:Bs)(Q:List V->St->Prop):List au->fK->Prop:=fun rs y=>∃ vs,yw B y vs rs/\Q vs y.st
noncomputable def WT{β:Type}(p:Pl)(z:aH->Prop)(x:fK)(t:Sem β)(P:β->fK->Prop)(X:Ex):Prop:=je (Mo p.B) p.A t (QT p z x P) (QX p z x X) x.s
abbrev WG{β:Type}(p:Pl)(x:fK)(t:Sem β)(P:β->fK->Prop)(X:Ex):Prop:=WT p pO x t P X
noncomputable def zE(p:Pl):aH->Prop:=zof p.env p.sc.wn
abbrev WZ{β:Type}(p:Pl)(x:fK)(t:Sem β)(P:β->fK->Prop)(X:Ex):Prop:=WT p (zE p) x t P X
section
variable{p:Pl}{z z':aH->Prop}{x y y':fK}{n:Nat}{fr fr':Fm}{l:List Env}{X:Ex}{β γ:Type}{P P':β->fK->Prop}{P2:γ->fK->Prop}{s s':aB}{m:Str->Option au}
theorem ahq{h h' hb:cD}{l:List Env}(hl:h.FunFrames hb l)(k:∀ a∈zZ l,∃ o,h'.get? a=some o/\∀ vs,o.data≠.fields vs):h'.FunFrames hb l:=by
 induction l with
 | nil=>trivial
 | cons e r ih=>
  obtain⟨x1,⟨L,o,x2,x3,x4,x5⟩,x6⟩:=hl
  have q:zZ (e::r)=L::zZ r:=lE x2
  rw[q] at k
  exact⟨x1,(k L (.head _)).elim fun o' q'=>⟨L,o',x2,x3,q'.1,q'.2⟩,ih x6 fun a ha=>k a (.tail _ ha)⟩
theorem uH.new(c:uH p x l){a}(h:a∈zZ l):p.B.hb.get? a=none:=by cases c with | mk _ _ _ ff=>exact(ff.mem h).1
theorem uH.at_(c:uH p x l){a}(h:a∈zZ l):Hs x a:=by cases c with | mk _ _ _ _ al=>exact al a h
theorem Hs.no{a}(f:Hs x a):¬ own x.g a:=by cases f with | mk no=>exact no
theorem Hs.plain{a}(f:Hs x a):∃ o,x.s.heap.get? a=some o/\∀ vs,o.data≠.fields vs:=by cases f with | mk _ e _ d=>exact⟨_,e,jW d⟩
theorem uH.keep(c:uH p x l)(k:∀ {a},a∈zZ l->Hs x a->Hs y a):uH p y l:=by
 cases c with | mk e f1 f2 ff al=>
 have q:=fun a ha=>k ha (al a ha)
 exact .mk e f1 f2 (ahq ff fun a ha=>(q a ha).plain) q
theorem Hs.up{a}(T:yu p.B)(f:Hs x a)(E:Ev p.B z x y)(hb:p.B.hb.get? a=none)(nz:¬ z a):Hs y a:=by
 cases f with | mk no e c d=>
 obtain⟨o',e',d',c'⟩:=(E.Fd e (pP T hb) no nz).at_
 exact .mk (E.own e no) e' (c'.trans c) (d'.trans d)
theorem AR.keep(a:AR p x n)(k:∀ {l},p.A.frames=some l->uH p x l->uH p y l):AR p y n:=⟨a.hand,a.depth,a.units,a.chain.elim fun l q=>⟨l,q.1,k q.1 q.2⟩⟩
theorem AR.dn(a:AR p x (n + 1)):AR p x n:=⟨a.hand,ak (aZ (o8 2 (dw n)) _) a.depth,ak (aZ (o8 16 (dw n)) _) a.units,a.chain⟩
theorem Cx.dn(C:Cx p (n + 1) fr x):Cx p n fr x:=⟨C.wd,C.ar.dn,C.er⟩
theorem Cx.up(C:Cx p n fr x)(E:Ev p.B pO x y)(w:Wd p.B y):Cx p n fr y:=
 ⟨w,C.ar.keep fun J c=>c.keep fun h f=>f.up C.wd.tab E (c.new h) id,C.er.elim fun m F=>⟨m,F.up C.wd.tab E fun q=>q.elim⟩⟩
theorem Cx.lk(C:Cx p n fr x)(E:Ev p.B pO x y):LK p.env x.s y.s:=fun {o} e=>by
 obtain⟨m,F⟩:=C.er
 obtain⟨o',e',_,c⟩:=(E.Fd e (pP C.wd.tab F.es.Xz) F.Aj id).at_
 exact⟨o',e',c⟩
theorem Cx.zfr(C:Cx p n fr x)(hl:p.A.frames=some l){a:aH}(ha:a∈zZ l)(hz:zE p a):a=p.env.locals:=by
 obtain⟨l',e,c⟩:=C.ar.chain
 cases aC (hl.symm.trans e)
 cases hz with
 | l e=>exact e
 | c _ e=>
  obtain⟨m,F⟩:=C.er
  cases c.at_ ha with | mk _ e1 _ d1=>cases(F.cells e).2 with | mk e2 d2=>
  cases aC (e1.symm.trans e2)
  exact nomatch d1.symm.trans d2
theorem Cx.upZ(C:Cx p n fr x)(E:Ev p.B (zE p) x y)(w:Wd p.B y)(K:LK p.env x.s y.s)(F:ER p y fr' m):Cx p n fr' y:=
 ⟨w,C.ar.keep fun hl c=>c.keep fun {a} h f=>by
  by_cases hz:zE p a
  ·cases C.zfr hl h hz
   cases f with | mk no e c d=>
   obtain⟨o',e',c'⟩:=K e
   obtain⟨oL,es,k,hL,hd⟩:=jq F.ns
   exact .mk (E.own e no) e' (c'.trans c) ((congrArg Obj.data (aC (e'.symm.trans hL))).trans hd)
  ·exact f.up C.wd.tab E (c.new h) hz,m,F⟩
theorem XR.start{e:au}{C:Nat}{st':St}(T:yu p.B)(c:uH p x l)(E:Ev p.B z x y)(hc:∀ {a o},a∈zZ l->z a->x.s.heap.get? a=some o->∃ o',y.s.heap.get? a=some o'/\o'.cls=o.cls)
  (q:XR p.B z l y e C st' s'):XR p.B z l x e C st' s':=by
 cases q with | mk e1 sm ext sr stay inv Fd live frs no fly=>
 refine .mk e1 (E.sm.trans sm) (E.ext.trans E.live ext) sr stay inv (fun e t n f q=>(E.evv e t n q).trans fun r=>Fd r t (E.zT e n) f q) (fun e f=>(E.live e).elim fun J r=>live r f) (fun {a o} e f=>?_) no fly
 by_cases hz:z a
 ·obtain⟨o1,q,qc⟩:=hc f hz e
  obtain⟨o2,r,rc⟩:=(frs q f).2
  exact⟨fun n=>absurd hz n,o2,r,rc.trans qc⟩
 ·cases E.Fd e (pP T (c.new f)) (c.at_ f).no hz with
  | eq q=>exact frs q f
  | fr _ _ _ q=>exact⟨fun n=>(frs q f).1 n,(frs q f).2⟩
theorem XRp.weaken{B:Bs}{e:au}{st':St}{F}(hz:∀ {a},z a->z' a)(q:XRp B z l x e st' s' F):XRp B z' l x e st' s' F:=by
 cases q with | mk e1 sm ext sr stay inv Fd live frs no fly=>
 exact .mk e1 sm ext sr stay inv (fun e t n f q=>Fd e t n f fun r=>q (hz r)) live (fun e f=>⟨fun n=>(frs e f).1 fun r=>n (hz r),(frs e f).2⟩) no fly
theorem QX.weaken{e:au}(hz:∀ {a},z a->z' a)(q:QX p z x X e s'):QX p z' x X e s':=by cases q with | mk a b c=>exact .mk a (b.weaken hz) c
theorem QX.of{e:au}(q:QX p pO x X e s'):QX p z x X e s':=q.weaken fun h=>h.elim
theorem QX.yx{e:au}(C:Cx p n fr x)(E:Ev p.B z x y)(hz:∀ {a},z a->zE p a)(K:LK p.env x.s y.s)(q:QX p z y X e s'):QX p z x X e s':=by
 cases q with | mk hl b q=>
 obtain⟨l',e,c⟩:=C.ar.chain
 cases aC (hl.symm.trans e)
 exact .mk hl (b.start C.wd.tab c E fun h r e=>by cases C.zfr hl h (hz r); exact K e) q
theorem QT.start{r:β}(E:Ev p.B z x y)(K:LK p.env x.s y.s)(q:QT p z y P r s'):QT p z x P r s':=by cases q with | mk ev wd lk q=>exact .mk (E.trans ev) wd (K.trans lk) q
theorem QT.mono{r:β}(q:QT p z x P r s')(h:∀ {y},P r y->P' r y):QT p z x P' r s':=by cases q with | mk ev wd lk q=>exact .mk ev wd lk (h q)
theorem WT.mono{t:Sem β}{X':Ex}(h:WT p z x t P X)(hP:∀ {r y},P r y->P' r y)(hX:∀ {c st},X c st->X' c st):WT p z x t P' X':=
 bT h (fun J J q=>q.mono hP) fun J J q=>by cases q with | mk a b c=>exact .mk a b (hX c)
theorem WT.post{t:Sem β}(h:WT p z x t P X)(hP:∀ {r y},P r y->P' r y):WT p z x t P' X:=h.mono hP id
theorem WT.eq{t t':Sem β}(e:t=t')(h:WT p z x t' P X):WT p z x t P X:=e▸h
structure Zk(p:Pl)(z:aH->Prop):Prop where
 h:∀ {a},z a->zE p a
theorem Zk.no:Zk p pO:=⟨fun h=>h.elim⟩
theorem Zk.all:Zk p (zE p):=⟨fun h=>h⟩
theorem WT.bind{t:Sem β}{f:β->Sem γ}(C:Cx p n fr x)(hz:Zk p z)(h:WG p x t P X)(k:∀ {r y},Ev p.B pO x y->Cx p n fr y->P r y->WT p z y (f r) P2 X):WT p z x (t >>= f) P2 X:=
 aP (bT h (fun r s1 q=>by
  cases q with | mk ev wd lk q=>
  exact bT (k ev (C.up ev wd) q) (fun J J q=>q.start ev.of lk) fun J J q=>q.yx C ev.of hz.h lk) fun J J q=>q.of)
theorem WG.bind{t:Sem β}{f:β->Sem γ}(C:Cx p n fr x)(h:WG p x t P X)(k:∀ {r y},Ev p.B pO x y->Cx p n fr y->P r y->WG p y (f r) P2 X):WG p x (t >>= f) P2 X:=WT.bind C .no h k
theorem WZ.bind{t:Sem β}{f:β->Sem γ}(C:Cx p n fr x)(h:WZ p x t P X)(k:∀ {r y},Ev p.B (zE p) x y->(∀ {vp m1},ER p y vp m1->Cx p n vp y)->P r y->WZ p y (f r) P2 X):WZ p x (t >>= f) P2 X:=
 aP (bT h (fun r s1 q=>by
  cases q with | mk ev wd lk q=>
  exact bT (k ev (C.upZ ev wd lk) q) (fun J J q=>q.start ev lk) fun J J q=>q.yx C ev (fun q=>q) lk) fun J J q=>q)
theorem WT.pure{r:β}(C:Cx p n fr x)(h:P r x):WT p z x (pure r) P X:=bL (.mk .refl C.wd LK.refl h)
theorem WT.of{t:Sem β}(h:WG p x t P X):WT p z x t P X:=
 bT h (fun J J q=>by cases q with | mk ev wd lk q=>exact .mk ev.of wd lk q) fun J J q=>q.of
theorem WT.hold{vs:List au}{t:Sem β}(h:WT p z x t P X):WT p z x (holding vs t) P X:=cO h
theorem WT.akz{vs:List au}{t:Sem au}{P:au->fK->Prop}(h:WT p z x t P X):WT p z x (operate vs t) P X:=Uo h
theorem WT.stand{pos:Pos}{t:Sem β}(h:WT p z x t P X):WT p z x (standAt pos >>= fun J=>t) P X:=aP (gW h)
theorem Dl{vs k:List au}{M:jC}{A:cI}{E}{Q:Unit->aB->Prop}(h:Q () s):bD M A (release vs k) Q E s:=fun Γ p J=>by
 rw[Sem.wp_release]; exact h
end
structure K3(B:Bs)(s s':aB):Prop where
 k:Kx (is1 B.L) s s'
 gl:s'.heap.Ns B.L B.ms
noncomputable def wW(L:aH)(h:cD):cD:=⟨h.objs.extract 0 L,h.life⟩
noncomputable def T7(L:aH)(h:cD):List (aH×Obj):=(fD h.objs.size).filterMap fun a=>if a > L then(h.get? a).map fun o=>(a,o) else .none
theorem wX{L:aH}{h:cD}{a:aH}:(wW L h).get? a=if a < L then h.get? a else .none:=by
 have e:(h.objs.extract 0 L)[a]?=if a < L then h.objs[a]? else .none:=by
  rw[Array.getElem?_extract,Nat.sub_zero,fU]
  by_cases q:a < L
  ·rw[if_pos q]
   by_cases r:a < h.objs.size
   ·rw[if_pos (yU.mpr ⟨q,r⟩)]
   ·rw[if_neg fun x=>r (aK x (Nat.min_le_right _ _)),jP (gP r)]
  ·rw[if_neg q,if_neg fun x=>q (aK x (mW _ _))]
 unfold wW Heap.get?
 rw[e]
 by_cases q:a < L
 ·rw[if_pos q,if_pos q]
 ·rw[if_neg q,if_neg q]
theorem FP{L:aH}{h:cD}{p:aH×Obj}:p∈T7 L h↔p.1 > L/\h.get? p.1=some p.2:=by
 refine List.mem_filterMap.trans ⟨fun⟨b,_,e⟩=>?_,fun q=>⟨p.1,qM.mpr (d8 q.2),by rw[if_pos q.1,q.2]; rfl⟩⟩
 by_cases q:b > L
 ·rw[if_pos q] at e
  obtain⟨o',e',e2⟩:=gQ.mp e
  exact e2▸⟨q,e'⟩
 ·rw[if_neg q] at e; exact nn e
section
variable{B:Bs}{A:cI}{z:aH->Prop}{x y:fK}{s s' s'':aB}{h h':cD}{t:Nat}
theorem fF(I:Inv B h):Fr (wW B.L h) B.L h B.ms:=⟨I.sl,fun b o e=>by
 rw[wX] at e
 by_cases q:b < B.L
 ·rw[if_pos q] at e; exact e
 ·rw[if_neg q] at e; exact nn e,by
 show(h.objs.extract 0 B.L).size<=_
 rw[Array.size_extract]
 exact ak (jF _ _) (mW _ _)⟩
theorem fN:News (wW B.L h) B.L h (T7 B.L h):=fun p hp=>have q:=FP.mp hp; ⟨q.2,gq q.1,wX.trans (if_neg (gK.mpr (bH q.1)))⟩
theorem K3.mk'(sm:Sm s s')(k:∀ {b o},b≠B.L->s.heap.get? b=some o->s'.heap.get? b=some o)(g:s'.heap.Ns B.L B.ms):K3 B s s':=
 ⟨⟨sm,k,fun {a o} e=>by
  by_cases q:a=B.L
  ·exact(jq g).elim fun o' r=>r.elim fun J r=>r.elim fun J r=>⟨o',q▸r.1⟩
  ·exact⟨o,k q e⟩⟩,g⟩
theorem K3.of{n:List (aH×Obj)}(F:Fr (wW B.L s.heap) B.L h' B.ms)(N:News (wW B.L s.heap) B.L h' (n++T7 B.L s.heap)):K3 B s {s with heap:=h',toks:=t}:=
 .mk' rfl (fun {b o} q e=>by
  by_cases r:b < B.L
  ·exact F.keep b o (wX.trans ((if_pos r).trans e))
  ·exact(N (b,o) (cT _ (FP.mpr ⟨jY (gP r) (Ne.symm q),e⟩))).1) F.ns
theorem K3.of0(F:Fr (wW B.L s.heap) B.L h' B.ms)(N:News (wW B.L s.heap) B.L h' (T7 B.L s.heap)):K3 B s {s with heap:=h',toks:=t}:=K3.of (n:=[]) F N
theorem K3.of1{p:aH×Obj}(F:Fr (wW B.L s.heap) B.L h' B.ms)(N:News (wW B.L s.heap) B.L h' (p::T7 B.L s.heap)):K3 B s {s with heap:=h',toks:=t}:=K3.of (n:=[p]) F N
theorem K3.kp(I:Inv B s.heap)(k:Kp s s'):K3 B s s':=⟨k.of,iK I.sl k.at⟩
theorem K3.tok(I:Inv B s.heap):K3 B s {s with toks:=t}:=.kp I .tok
theorem K3.self(I:Inv B s.heap):K3 B s s:=.kp I .refl
theorem K3.inv(I:Inv B s.heap)(k:K3 B s s'):Inv B s'.heap:=I.kx k.k (fun q=>q▸K8 I.sl) (fun q=>f9 _ (q▸I.ll:B.L < B.L)) k.gl
theorem K3.ev(k:K3 B x.s s'):Ev B z x ⟨x.g,x.st,s'⟩:=⟨k.k.sm,k.k.live,.refl,fun e t J J=>.eq (k.k.keep (fun q=>t (q▸Je)) e)⟩
theorem K3.tr(I:Inv B x.s.heap)(k:K3 B x.s s'):Tr B x.g x.s.heap x.g s'.heap:=.kx k.k fun q=>q▸uF I.sl
theorem K3.wd(w:Wd B x)(k:K3 B x.s s'):Wd B ⟨x.g,x.st,s'⟩:=
 w.kx k.k (fun q o=>pP w.tab (w.sr.fresh o) (q▸Je)) (fun q=>q▸uF w.inv.sl) (fun q=>.inr (q▸Je)) (k.inv w.inv)
structure Ok(B:Bs)(A:cI)(x:fK):Prop where
 wd:Wd B x
 hand:A.handled=none
 units:A.units < 9000
structure LV(B:Bs)(x:fK)(v:V)(r:au)(s':aB):Prop where
 k:K3 B x.s s'
 r:VR B x.g s'.heap v r
abbrev WL(B:Bs)(A:cI)(x:fK)(t:Sem au)(v:V):Prop:=bD (Mo B) A t (LV B x v) (fun J J=>False) x.s
structure LA{β:Type}(B:Bs)(s:aB)(a r:β)(s':aB):Prop where
 k:K3 B s s'
 e:r=a
theorem LV.tok(I:Inv B x.s.heap){v r}(h:VX B x v r):LV B x v r {x.s with toks:=t}:=⟨.tok I,h.kp .tok⟩
theorem LV.self(I:Inv B x.s.heap){v r}(h:VX B x v r):LV B x v r x.s:=⟨.self I,h⟩
theorem fM:h.get? h.objs.size=none:=by
 cases e:h.get? h.objs.size with
 | none=>rfl
 | some o=>exact absurd (d8 e) (f9 _)
theorem La{D:aH}{o:Obj}(N:News (wW B.L s.heap) B.L h' ((D,o)::T7 B.L s.heap))(l:∀ p∈T7 B.L s.heap,p.1 < D):s.heap.get? D=none:=by
 obtain⟨_,n1,n2⟩:=N _ (.head _)
 cases e:s.heap.get? D with
 | none=>rfl
 | some o'=>
  rcases Nat.lt_trichotomy D B.L with q | q | q
  ·exact cW n2 (wX.trans ((if_pos q).trans e))
  ·exact absurd q n1
  ·exact absurd (l (D,o') (FP.mpr ⟨q,e⟩)) (f9 D)
theorem LV.list{l:List V}{vs:List au}{a:aH}{n:Nat}(w:Wd B x)(k:K3 B x.s s')(hn:x.s.heap.get? a=Bt)(h:s'.heap.get? a=some (nC vs n))(hl:l.length<=lim)(r:yw B x l vs):LV B x (.lst l) (.ref a) s':=
 have q:=w.new hn; ⟨k,.lst h rfl rfl q.1 q.2.1 hl (r.tr (k.tr w.inv))⟩
end
section
variable{p:Pl}{z:aH->Prop}{x:fK}{n:Nat}{fr:Fm}{X:Ex}{Q:Po}{γ β:Type}{P:β->fK->Prop}{P2:γ->fK->Prop}
theorem Cx.ok(C:Cx p (n + 1) fr x):Ok p.B p.A x:=⟨C.wd,C.ar.hand,aK (iG (Nat.mul_pos (by decide) (iQ n))) C.ar.units⟩
theorem WT.k3{t:Sem β}(C:Cx p n fr x)(h:bD (Mo p.B) p.A t (fun r s'=>K3 p.B x.s s'/\P r ⟨x.g,x.st,s'⟩) (fun J J=>False) x.s):WT p z x t P X:=
 je.of (cj h (fun J J q=>.mk q.1.ev (q.1.wd C.wd) (C.lk (y:=⟨x.g,x.st,_⟩) q.1.ev) q.2) fun J J e=>e.elim)
theorem WT.leaf{t:Sem au}{v:V}(C:Cx p n fr x)(h:WL p.B p.A x t v)(q:Q v x.st):WT p z x t (PV p.B Q) X:=
 .k3 C (cj h (fun J J l=>⟨l.k,v,l.r,q⟩) fun J J e=>e)
theorem WT.ans{t:Sem β}{a:β}(C:Cx p n fr x)(h:bD (Mo p.B) p.A t (LA p.B x.s a) (fun J J=>False) x.s)(q:∀ {s'},P a ⟨x.g,x.st,s'⟩):WT p z x t P X:=
 .k3 C (cj h (fun J J l=>⟨l.k,l.e▸q⟩) fun J J e=>e)
theorem WT.look{t:Sem γ}{f:γ->Sem β}{r:γ}(h:bD (Mo p.B) p.A t (fun r' s'=>r'=r/\s'=x.s) (fun J J=>False) x.s)(k:WT p z x (f r) P X):WT p z x (t >>= f) P X:=
 bY (cj h (fun J J q=>q.1▸q.2▸k) fun J J e=>e.elim)
end
end
section
open PySem.SeqAt
noncomputable def anj:Bop->Operator
 | .add=>.Add | .sub=>.Sub | .mul=>.Mult | .fdiv=>.FloorDiv | .mod=>.Mod | .pow=>.Pow | .shl=>.LShift | .shr=>.RShift | .band=>.BitAnd
section
variable{B:Bs}{A:cI}{x:fK}{g:G}{h:cD}{a b v:V}{ra rb r:au}{t:Nat}
theorem Sq.list{l}(q:Sq B g h "list" l r):∃ a vs,r=.ref a/\h.IsList a (bA vs)/\jV B g h l vs/\l.length<=lim:=by
 cases q with | mk e q k d _ _ ll rs=>exact⟨_,_,e,⟨_,q,k,_,d⟩,rs,ll rfl⟩
theorem um(w:Wd B x){l:List V}(r:VX B x v ra)(e:iw x.st v=some l):∃ a vs,ra=.ref a/\x.s.heap.IsList a (bA vs)/\yw B x l vs/\l.length<=lim:=by
 cases v with
 | lst=>exact bV (motive:=fun l=>∃ a vs,ra=.ref a/\x.s.heap.IsList a (bA vs)/\yw B x l vs/\l.length<=lim) e (Sq.list r.inv)
 | ref i=>exact r.Xy fun p hp=>by cases w.sr.obj (BP e) hp with | mk _ o rs len=>exact⟨_,_,rfl,⟨_,o,rfl,_,rfl⟩,rs,len⟩
 | _=>exact nn e
@[elab_as_elim] theorem wg{motive:au->Prop}(w:Wd B x){l:List V}(r:VX B x v ra)(e:iw x.st v=some l)(k:∀ a vs,x.s.heap.IsList a (bA vs)->yw B x l vs->l.length<=lim->motive (.ref a)):motive ra:=
 (um w r e).elim fun a q=>q.elim fun vs q=>q.1▸k a vs q.2.1 q.2.2.1 q.2.2.2
theorem jw:lim<=sizeLine:=by decide
theorem PX{a b:Nat}(h:a + b<=lim):a + b<=sizeLine:=ak h jw
theorem Ur{a b:Int}(h:0 < b):Int.fdiv a b=a / b:=Int.fdiv_eq_ediv_of_nonneg _ (lg h)
theorem ado{a b:Int}(h:0 < b):Int.fmod a b=a % b:=Int.fmod_eq_emod_of_nonneg _ (lg h)
theorem Ed{a b:List Nat}:txt a++txt b=txt (a++b):=congrArg Str.mk (jM a b)
theorem rB{a:List Nat}:(txt a).length=a.length:=rfl
theorem Lb{x:Int}(h:qz x=true):jN x<=1048576:=by
 have:=of_decide_eq_true h
 unfold jN
 by_cases q:(x==0)=true
 ·rw[if_pos q]; decide
 ·rw[if_neg q]; exact this
theorem Us{x y:Int}(h:qz x=true/\qz y=true):IntMulOk x y:=by
 have q:Builtin.Int.intTooBig (jN x + jN y)=false:=decide_eq_false (dh.mpr (jQ.mpr (ak (fY (Lb h.1) (Lb h.2)) (by decide:1048576 + 1048576<=bitsLine))))
 unfold IntMulOk
 rw[q]; simp
theorem ahr{x y:Int}(h:0<=x/\0<=y):Builtin.bitAnd x y=((x.toNat &&& y.toNat:Nat):Int):=by
 unfold Builtin.bitAnd
 rw[decide_eq_true h.1,decide_eq_true h.2]
theorem ahs{x:List Nat}(k:Nat)(acc:Array Nat):(bQ k (txt x).cps).foldl (·++·) acc=acc++(bQ k x).flatten.toArray:=by
 induction k generalizing acc with
 | zero=>exact(Array.append_empty ..).symm
 | succ k ih=>rw[List.replicate_succ,tG,ih,List.replicate_succ,vM,← jM,← Array.append_assoc]; rfl
theorem aht{x:List Nat}{n:Int}(h0:0<=n):Txt.mul (txt x) n=txt ((bQ n.toNat x).flatten):=by
 have k:Str.mk ((bQ n.toNat (txt x).cps).foldl (·++·) #[])=txt ((bQ n.toNat x).flatten):=congrArg Str.mk ((ahs n.toNat #[]).trans (Array.empty_append ..))
 unfold Txt.mul
 by_cases q:n < 1
 ·rw[if_pos q,show n=0 from Int.le_antisymm (Int.lt_add_one_iff.mp q) h0]; rfl
 ·rw[if_neg q]
  by_cases q:(n==1 || (txt x).length==0)=true
  ·rw[if_pos q]
   rw[tH,beq_iff_eq,beq_iff_eq] at q
   rcases q with q | q
   ·rw[q]; exact congrArg txt (bN x).symm
   ·rw[fL (show x.length=0 from q)]
    exact congrArg txt (List.flatten_replicate_nil).symm
  ·rw[if_neg q]; exact k
theorem LV.int(I:Inv B x.s.heap){i k}:LV B x (.int i) (.int i k) {x.s with toks:=t}:=.tok I (.int i k)
section
variable{α:Type}{motive:au->Prop}{c:α}
@[elab_as_elim] theorem FQ{f:Int->Option α}(e:iI f v=some c)(q:VR B g h v r)(k:∀ i t,f i=some c->motive (.int i t)):motive r:= @Xh _ (fun v=>VR B g h v r->motive r) f v c e (fun i e q=>q.Hp fun t=>k i t e) q
@[elab_as_elim] theorem akA{f:Bool->Option α}(e:iB f v=some c)(q:VR B g h v r)(k:∀ i,f i=some c->motive (.bool i)):motive r:= @aqk _ (fun v=>VR B g h v r->motive r) f v c e (fun i e q=>q.adi (k i e)) q
@[elab_as_elim] theorem XD{f:List Nat->Option α}(e:iS f v=some c)(q:VR B g h v r)(k:∀ i t,f i=some c->motive (.str (txt i) t)):motive r:= @aql _ (fun v=>VR B g h v r->motive r) f v c e (fun i e q=>q.Hq fun t=>k i t e) q
@[elab_as_elim] theorem akB{f:List UInt8->Option α}(e:iY f v=some c)(q:VR B g h v r)(k:∀ i t,f i=some c->motive (.bytes i.toArray t)):motive r:= @amU _ (fun v=>VR B g h v r->motive r) f v c e (fun i e q=>q.yt fun t=>k i t e) q
@[elab_as_elim] theorem abg{f:Nat->Option α}(e:iR f v=some c)(q:VR B g h v r)(k:∀ i p,g.v[i]?=some p->f i=some c->motive (.ref p.1)):motive r:= @aks _ (fun v=>VR B g h v r->motive r) f v c e (fun i e q=>q.Xy fun p hp=>k i p hp e) q
theorem akC{P:Prop}{f:List V->Option α}(e:iT f v=some c)(q:VR B g h v r)(k:∀ l,Sq B g h "tuple" l r->f l=some c->P):P:= @akr _ (fun v=>VR B g h v r->P) f v c e (fun l e q=>k l q.inv e) q
theorem aqu{P:Prop}{f:List V->Option α}(e:iL f v=some c)(q:VR B g h v r)(k:∀ l,Sq B g h "list" l r->f l=some c->P):P:= @aqm _ (fun v=>VR B g h v r->P) f v c e (fun l e q=>k l q.inv e) q
end
@[elab_as_elim] theorem Rp{motive:au->au->Prop}{f:Int->Int->Option V}(e:ii f a b=some v)(ha:VX B x a ra)(hb:VX B x b rb)(k:∀ i j t u,f i j=some v->motive (.int i t) (.int j u)):motive ra rb:=
 @FQ B x.g x.s.heap a ra V (fun ra=>motive ra rb) v _ e ha fun i t e=>FQ e hb fun j u e=>k i j t u e
theorem abh(w:Wd B x)(ha:VX B x a ra)(hb:VX B x b rb)(e:amX x.st a b=some v):WL B A x (binaryOp .Add ra rb) v:=
 gR e fun l hl e=>gR e fun m hm e=>nH e fun q=>wg w ha hl fun y vs h1 h2 J=>wg w hb hm fun z ws k1 k2 J=>
  add_arrays (fF w.inv) fN h1 k1 (fun h' F' N'=>.list w (n:=0) (.of1 F' N') fM (N' _ (.head _)).1 (by rw[aF]; exact q) (h2.append k2))
   (PX (by rw[List.size_toArray,List.size_toArray,← h2.length,← k2.length]; exact q))
theorem adp(w:Wd B x)(ha:VX B x a ra)(hb:VX B x b rb)(e:amY x.st a b=some v):WL B A x (binaryOp .Add ra rb) v:=by
 cases a with
 | int=>exact FQ e hb fun i J e=>bV e (ha.Hp fun J=>add_int (.int w.inv))
 | str=>exact XD e hb fun i J e=>nH e fun q=>ha.Hq fun J=>SBL.add (fun t' k J=>Ed▸.tok w.inv (.str _ _)) (PX q)
 | bytes=>exact akB e hb fun i J e=>nH e fun q=>ha.yt fun J=>KBy.add_bytes (ak q (by decide:lim<=16777216)) fun t' k=>jM .. ▸.tok w.inv (.bytes _ _)
 | _=>exact abh w ha hb e
theorem abj(w:Wd B x){n:Int}{u:Tok}(ha:VX B x a ra)(e:(bnd (iw x.st a) fun l=>gd (0<=n/\n<=256/\l.length * n.toNat<=256) (V.lst ((bQ n.toNat l).flatten)))=some v):WL B A x (binaryOp .Mult ra (.int n u)) v:=
 gR e fun l hl e=>nH e fun q=>wg w ha hl fun y vs h1 h2 J=>
  KMa.mul (fF w.inv) fN h1 (fW (by decide) q.1) (uQ q.2.1 (by decide)) (h2.length▸q.2.2) rfl fun D h' F' N' l1=>
   .list w (.of1 F' N') (La N' l1) (N' _ (.head _)).1 (by
    rw[List.length_flatten,List.map_replicate,List.sum_replicate_nat,lq]; exact ak q.2.2 (by decide)) (h2.replicate _)
theorem adq(w:Wd B x)(ha:VX B x a ra)(hb:VX B x b rb)(e:amZ x.st a b=some v):WL B A x (binaryOp .Mult ra rb) v:=
 FQ e hb fun n u e=>by
  cases a with
  | int=>exact nH e fun q=>ha.Hp fun J=>mul_int (.int w.inv) (Us q)
  | str=>exact nH e fun q=>ha.Hq fun J=>KXi.mul rB q.1 (fW (by decide) q.2.1) (fW q.2.2 (by decide)) fun t' k J J=>aht q.2.1▸.tok w.inv (.str _ _)
  | _=>exact abj w ha e
theorem aag{y:Int}(h:y.natAbs < 18446744073709551616):Nat.log2 y.natAbs < 64:=by
 by_cases q:y.natAbs=0
 ·rw[q]; decide
 ·exact(Nat.log2_lt q).mpr h
theorem adt(w:Wd B x){op:Bop}(ha:VX B x a ra)(hb:VX B x b rb)(e:Oj x.st op a b=some v):WL B A x (binaryOp (anj op) ra rb) v:=by
 cases op with
 | add=>exact adp w ha hb e
 | mul=>exact adq w ha hb e
 | sub=>exact Rp e ha hb fun i j t u e=>bV e (sub_int (.int w.inv))
 | fdiv=>exact Rp e ha hb fun i j t u e=>nH e fun q=>floordiv_int (fun z=>wK 0 (z▸q.1:(0:Int) < 0)) (Ur q.1▸.int w.inv) (.inl (PyProof.noPylong_of_log2 (aG (aag (fu.mp (by rw[Int.natAbs_of_nonneg (lg q.1)]; exact q.2))) (by decide))))
 | mod=>exact Rp e ha hb fun i j t u e=>nH e fun q=>mod_int' (fun z=>wK 0 (z▸q:(0:Int) < 0)) (ado q▸.int w.inv)
 | pow=>exact Rp e ha hb fun i j t u e=>nH e fun q=>pow_int_small q.2.2.1 (fW q.2.2.2 (by decide)) (fu.mp (by rw[Int.natAbs_of_nonneg q.1]; exact uQ q.2.1 (by decide))) (.int w.inv)
 | shl=>exact Rp e ha hb fun i j t u e=>nH e fun q=>lshift_int_small q.1 (fW q.2.1 (by decide)) q.2.2 (.int w.inv)
 | shr=>exact Rp e ha hb fun i j t u e=>nH e fun q=>rshift_int q (Ur (Int.pow_pos (by decide:(0:Int) < 2))▸.int w.inv)
 | band=>exact Rp e ha hb fun i j t u e=>nH e fun q=>and_int (ahr q▸.int w.inv)
end
end
section
open PySem.SeqAt
section
variable{B:Bs}{A:cI}{x:fK}{s:aB}{g:G}{h:cD}{a b v:V}{ra rb r:au}{t:Nat}
inductive XJ(B:Bs)(g:G)(h:cD)(a:aH):V->Prop
 | own {i p} (e:g.v[i]?=some p) (q:p.1=a):XJ B g h a (.ref i)
 | tup {l} (q:Sq B g h "tuple" l (.ref a)):XJ B g h a (.tup l)
 | lst {l} (q:Sq B g h "list" l (.ref a)):XJ B g h a (.lst l)
noncomputable def VJ(B:Bs)(g:G)(h:cD)(w:V):au->Prop
 | .none=>w=.none
 | .bool b=>w=.bool b
 | .int i _=>w=.int i
 | .str s _=>w=.str s.cps.toList
 | .bytes s _=>w=.bytes s.toList
 | .ref a=>XJ B g h a w
 | _=>False
theorem VR.rv(q:VR B g h v r):VJ B g h v r:=by
 cases q with
 | ref e=>exact .own e rfl
 | tup e c d n t r=>exact .tup ⟨rfl,e,c,d,n,t,nofun,r⟩
 | lst e c d n t q r=>exact .lst ⟨rfl,e,c,d,n,t,fun J=>q,r⟩
 | _=>exact rfl
theorem ahu{d:Data}{vs ws:List au}{n m:Nat}(e:d=.seq (bA vs) n)(e':d=.seq (bA ws) m):vs=ws:=congrArg Array.toList (Data.seq.inj (e.symm.trans e')).1
theorem Sq.other{c c'}{a:aH}{m:List V}{o n vs}(q:Sq B g h c' m (.ref a))(e:h.get? a=some o)(k:o.cls=.type c)(d:o.data=.seq (bA vs) n):c=c'/\jV B g h m vs:=by
 cases q with | mk e' q' k' d' _ _ _ rs'=>
 cases e'
 cases aC (e.symm.trans q')
 exact⟨uZ (k.symm.trans k'),ahu d' d▸rs'⟩
theorem Sq.own{c l}{i:Nat}{p:aH×Option aH}{a:aH}(q:Sq B g h c l (.ref a))(e:g.v[i]?=some p)(ea:p.1=a):False:=by
 cases q with | mk e' _ _ _ no=>
 cases e'
 exact no (.at e (.a ea))
theorem VR.uniq{st}(R:SR B g h st){w:V}(q:VR B g h v r)(q':VR B g h w r):v=w:=
 VR.rec (motive_1:=fun v r J=>∀ {w},VR B g h w r->v=w) (motive_2:=fun l m J=>∀ {l'},jV B g h l' m->l=l')
  (fun {_} q=>(show VJ B g h _ _ from VR.rv q).symm) (fun _ {_} q=>(show VJ B g h _ _ from VR.rv q).symm) (fun _ _ {_} q=>(show VJ B g h _ _ from VR.rv q).symm) (fun _ _ {_} q=>(show VJ B g h _ _ from VR.rv q).symm) (fun _ _ {_} q=>(show VJ B g h _ _ from VR.rv q).symm)
  (fun {i p} e {w} q=>by
   have k:XJ B g h p.1 w:=VR.rv q
   clear q
   cases k with
   | own e' y=>exact congrArg V.ref (R.nd e e' (.a rfl) (.a y))
   | tup y=>exact(y.own e rfl).elim
   | lst y=>exact(y.own e rfl).elim)
  (fun {l a o n vs} e c d no nt rs ih {w} q=>by
   have k:XJ B g h a w:=VR.rv q
   clear q
   cases k with
   | own e' y=>exact(no (.at e' (.a y))).elim
   | tup y=>exact congrArg V.tup (ih (y.other e c d).2)
   | lst y=>exact absurd (y.other e c d).1 (by decide))
  (fun {l a o n vs} e c d no nt ll rs ih {w} q=>by
   have k:XJ B g h a w:=VR.rv q
   clear q
   cases k with
   | own e' y=>exact(no (.at e' (.a y))).elim
   | lst y=>exact congrArg V.lst (ih (y.other e c d).2)
   | tup y=>exact absurd (y.other e c d).1 (by decide))
  (fun {l'} q=>(fL q.length).symm)
  (fun {v r l m} _ _ i1 i2 {l'} q=>by
   cases l' with
   | nil=>exact absurd q.length nofun
   | cons w l'=>
    obtain⟨r',n',e,a,b⟩:=(show ∃ r' n',r::m=r'::n'/\VR B g h w r'/\jV B g h l' n' from q.inv)
    exact congr (congrArg List.cons (i1 ((gb e).1▸a))) (i2 ((gb e).2▸b))) q q'
structure Eq3(A:cI)(s:aB)(a b:au)(r:Bool):Prop where
 rc:RcAt A s a b r
 ne:RcNeAt A s a b (!r)
 eq:EqAt A s a b r
noncomputable def itm(f:V->V->Option Bool)(l m:List V)(j:Nat):Bool:=(f (l.getD j .none) (m.getD j .none)).getD false
theorem adu{o o':Option Bool}{r:Bool}{P:Prop}(e:G7 o o'=some r)(k:∀ y z,o=some y->o'=some z->(y && z)=r->P):P:=by
 cases o with
 | none=>exact nn e
 | some y=>exact gR e fun z e1 e2=>k y z rfl e1 (aC e2)
theorem Ht{f:V->V->Option Bool}{l m:List V}{r:Bool}(e:vX f l m=some r):
  l.length=m.length/\(∀ j,j < l.length->∃ y,f (l.getD j .none) (m.getD j .none)=some y)/\(fD l.length).all (itm f l m)=r:=by
 induction l generalizing m r with
 | nil=>cases m with
  | nil=>exact⟨rfl,fun j h=>absurd h (kW j),aC e⟩
  | cons=>exact nn e
 | cons a l ih=>cases m with
  | nil=>exact nn e
  | cons b m=>
   refine adu (show G7 (f a b) (vX f l m)=some r from e) fun y z q e1 e2=>?_
   obtain⟨h1,h2,h3⟩:=ih e1
   refine⟨congrArg (· + 1) h1,fun j hj=>?_,?_⟩
   ·cases j with
    | zero=>exact⟨y,q⟩
    | succ j=>exact h2 j (Nat.lt_of_succ_lt_succ hj)
   ·rw[lO,List.range_succ_eq_map,List.all_cons,oM]
    exact(congr (congrArg and (show itm f (a::l) (b::m) 0=y by show(f a b).getD false=y; rw[q]; rfl)) h3).trans e2
theorem db{α:Type}[BEq α][LawfulBEq α][DecidableEq α](a b:α):decide (a=b)=(a==b):=by
 by_cases h:a=b
 ·rw[decide_eq_true h,beq_iff_eq.mpr h]
 ·rw[decide_eq_false h,beq_eq_false_iff_ne.mpr h]
theorem jV.anm{l:List V}{vs:List au}(r:jV B g h l vs){j:Nat}(hj:j < (bA vs).size):VR B g h (l.getD j .none) (bA vs)[j]:=by
 have hl:j < l.length:=r.length▸hj
 obtain⟨rv,e,q⟩:=r.get (bF hl)
 rw[aV,bF hl]
 exact(show(bA vs)[j]=rv from(bW.mp e).2)▸q
theorem abk(a b:List UInt8)(t u:Tok):Eq3 A s (.bytes a.toArray t) (.bytes b.toArray u) (decide (a=b)):=by
 have h1:RcAt A s (.bytes a.toArray t) (.bytes b.toArray u) (decide (a=b)):=fun prog w E Q h=>eq_bytes (by rw[db] at h; exact h)
 refine⟨h1,fun prog w E Q h=>ne_bytes (by rw[db] at h; exact h),fun prog w E Q h=>?_⟩
 unfold eqBool
 refine gO (jH (fun hab=>?_) fun J=>aq (h1 prog w E _ (nF h)))
 exact aq (pZ (aJ (decide_eq_true (show a=b from congrArg Array.toList (Value.bytes.inj (eq_of_beq hab)).1)▸h)))
theorem abl{f:V->V->Option Bool}(hf:∀ {v r},f v v=some r->r=true){l:List V}{r:Bool}(e:vX f l l=some r):r=true:=by
 induction l generalizing r with
 | nil=>exact(aC e).symm
 | cons a l ih=>
  exact adu (show G7 (f a a) (vX f l l)=some r from e) fun y z q e1 e2=>e2.symm.trans (by rw[hf q,ih e1]; rfl)
theorem adv{α:Type}[DecidableEq α]{a:α}{r:Bool}(e:some (decide (a=a))=some r):r=true:=(aC e).symm.trans (decide_eq_true rfl)
theorem P0{f:List V->List V->Option Bool}(hf:∀ {l r},f l l=some r->r=true){v:V}{r:Bool}(e:Xi f v v=some r):r=true:=by
 cases v with
 | none=>exact(aC e).symm
 | bool b=>exact(aC e).symm.trans BEq.rfl
 | tup=>exact hf e
 | lst l=>exact hf (show f l l=some r by rw[← e]; exact(if_pos rfl).symm)
 | ref=>exact nn e
 | _=>exact adv e
theorem Le:∀(n:Nat) {v:V} {r:Bool},eqv n v v=some r->r=true
 | 0,_,_,e=>P0 (fun e=>nn e) e
 | n + 1,_,_,e=>P0 (abl (Le n)) e
theorem adw{y z:aH}{r:Bool}(hr:y=z->r=true)(R1:RcAt A s (.ref y) (.ref z) r)(R2:RcNeAt A s (.ref y) (.ref z) (!r)):Eq3 A s (.ref y) (.ref z) r:=
 ⟨R1,R2,by
  by_cases q:y=z
  ·exact hr q▸q▸EqAt.same _
  ·exact EqAt.of_refs q R1⟩
noncomputable def abm(B:Bs)(x:fK)(f:V->V->Option Bool)(A:cI):Prop:=∀ {a b:V} {ra rb:au} {r:Bool},VX B x a ra->VX B x b rb->f a b=some r->EqAt A.in1 x.s ra rb r
theorem FT{f:V->V->Option Bool}(ih:abm B x f A){l m:List V}{vs ws:List au}{r:Bool}(hl:yw B x l vs)(hm:yw B x m ws)(e:vX f l m=some r)
  (j:Nat)(h1:j < (bA vs).size)(h2:j < (bA ws).size):EqAt A.in1 x.s (bA vs)[j] (bA ws)[j] (itm f l m j):=by
 obtain⟨y,q⟩:=(Ht e).2.1 j (hl.length▸h1)
 have:=ih (hl.anm h1) (hm.anm h2) q
 unfold itm
 rw[q]; exact this
theorem Qa{f:V->V->Option Bool}(ih:abm B x f A){l m:List V}{vs ws:List au}{y z:aH}{r:Bool}(hx:x.s.heap.IsList y (bA vs))(hl:yw B x l vs)(hy:x.s.heap.IsList z (bA ws))(hm:yw B x m ws)(hu:A.units < cLine)
  (e:(if l.length=m.length then vX f l m else some false)=some r):RcAt A x.s (.ref y) (.ref z) r/\RcNeAt A x.s (.ref y) (.ref z) (!r):=by
 by_cases q:l.length=m.length
 ·rw[if_pos q] at e
  have k:=(Ht e).2.2
  rw[hl.length] at k
  have sz:(bA vs).size=(bA ws).size:=hl.length.symm.trans (q.trans hm.length)
  exact k▸⟨RcAt.lists hx hy sz hu (FT ih hl hm e),RcNeAt.lists hx hy sz hu (FT ih hl hm e)⟩
 ·rw[if_neg q] at e
  have sz:((bA vs).size != (bA ws).size)=true:=bne_iff_ne.mpr fun z=>q (hl.length.trans (z.trans hm.length.symm))
  exact bV e ⟨RcAt.lists_lengths hx hy sz hu,RcNeAt.lists_lengths hx hy sz hu⟩
theorem Ut{f:V->V->Option Bool}(ih:abm B x f A){l m:List V}{r:Bool}(ql:Sq B x.g x.s.heap "list" l ra)(qm:Sq B x.g x.s.heap "list" m rb)(hu:A.units < cLine)
  (e:(if l.length=m.length then vX f l m else some false)=some r):RcAt A x.s ra rb r/\RcNeAt A x.s ra rb (!r):=by
 obtain⟨y,vs,rfl,hx,hl,_⟩:=ql.list
 obtain⟨z,ws,rfl,hy,hm,_⟩:=qm.list
 exact Qa ih hx hl hy hm hu e
theorem abn{f:V->V->Option Bool}(ih:abm B x f A){l m:List V}{r:Bool}(ql:Sq B x.g x.s.heap "tuple" l ra)(qm:Sq B x.g x.s.heap "tuple" m rb)(hu:A.units < cLine)(e:vX f l m=some r):
  RcAt A x.s ra rb r/\RcNeAt A x.s ra rb (!r):=by
 cases ql with | @mk y1 o1 n1 vs e1 h1 h2 h3 _ _ _ hl=>cases qm with | @mk y2 o2 n2 ws e2 k1 k2 k3 _ _ _ hm=>
 cases e1; cases e2
 obtain⟨q,_,k⟩:=Ht e
 have sz:(bA vs).size=(bA ws).size:=hl.length.symm.trans (q.trans hm.length)
 rw[hl.length] at k
 have fin:((fD (min (bA vs).size (bA ws).size)).all (itm f l m) && (bA vs).size==(bA ws).size)=r:=by
  rw[← sz,Nat.min_self,BEq.rfl,Bool.and_true]; exact k
 exact fin▸⟨RcAt.tuples ⟨_,h1,h2,_,h3⟩ ⟨_,k1,k2,_,k3⟩ hu (FT ih hl hm e),RcNeAt.tuples ⟨_,h1,h2,_,h3⟩ ⟨_,k1,k2,_,k3⟩ hu (FT ih hl hm e)⟩
theorem Rq{c l}(q:Sq B g h c l r):∃ a,r=.ref a:=by cases q with | mk e=>exact⟨_,e⟩
theorem Qc{f:List V->List V->Option Bool}{st}(R:SR B x.g x.s.heap st)(self:∀ {v r},Xi f v v=some r->r=true)(tl:∀ {l m ra rb r},Sq B x.g x.s.heap "tuple" l ra->Sq B x.g x.s.heap "tuple" m rb->f l m=some r->RcAt A x.s ra rb r/\RcNeAt A x.s ra rb (!r))
  (ll:∀ {l m ra rb r},Sq B x.g x.s.heap "list" l ra->Sq B x.g x.s.heap "list" m rb->(if l.length=m.length then f l m else some false)=some r->RcAt A x.s ra rb r/\RcNeAt A x.s ra rb (!r))
  {r:Bool}(ha:VX B x a ra)(hb:VX B x b rb)(e:Xi f a b=some r):Eq3 A x.s ra rb r:=by
 have refs:(∃ y,ra=.ref y)->(∃ z,rb=.ref z)->RcAt A x.s ra rb r/\RcNeAt A x.s ra rb (!r)->Eq3 A x.s ra rb r:=fun⟨y,e1⟩ ⟨z,e2⟩ q=>by
  subst e1 e2
  exact adw (fun yz=>self (v:=b) ((VR.uniq R ha (yz▸hb):a=b)▸e)) q.1 q.2
 cases a with
 | none=>
  by_cases q:isN b=true
  ·rw[show Xi f .none b=some true from if_pos q] at e
   have hn:rb=.none:= @ajw (fun b=>VX B x b rb->rb=.none) b q (fun hb=>hb.inv) hb
   subst hn
   exact bV e (ha.ajC ⟨RcAt.none_none,RcNeAt.none_none,EqAt.same _⟩)
  ·exact nn ((show Xi f .none b=.none from if_neg q).symm.trans e)
 | bool=>exact akA e hb fun j e=>bV e (ha.adi ⟨RcAt.bool_bool _ _,RcNeAt.bool_bool _ _,EqAt.bool_bool _ _⟩)
 | int i=>
  refine FQ e hb fun j J e=>bV e (ha.Hp fun J=>?_)
  rw[db i j]
  exact⟨RcAt.int_int _ _ _ _,RcNeAt.int_int _ _ _ _,EqAt.int_int _ _ _ _⟩
 | str l=>
  refine XD e hb fun m J e=>bV e (ha.Hq fun J=>?_)
  rw[show decide (l=m)=(txt l==txt m) from(decide_eq_decide.mpr J2.symm).trans (db _ _)]
  exact⟨RcAt.str_str _ _ _ _,RcNeAt.str_str _ _ _ _,EqAt.str_str _ _ _ _⟩
 | bytes=>exact akB e hb fun m J e=>bV e (ha.yt fun J=>abk _ _ _ _)
 | tup=>exact akC e hb fun m q e=>refs (Rq ha.inv) (Rq q) (tl ha.inv q e)
 | lst=>exact aqu e hb fun m q e=>refs (Rq ha.inv) (Rq q) (ll ha.inv q e)
 | ref=>exact nn e
theorem Uu{k:Nat}(h:A.units + (k + 1) < cLine):A.in1.units + k < cLine:=by rw[show A.in1.units + k=A.units + (k + 1) from(jU ..).trans (congrArg _ (fB 1 k))]; exact h
theorem Lf{st}(R:SR B x.g x.s.heap st)(n:Nat){A:cI}{a b:V}{ra rb:au}{r:Bool}(hu:A.units + n < cLine)(ha:VX B x a ra)(hb:VX B x b rb)(e:eqv n a b=some r):Eq3 A x.s ra rb r:=by
 induction n generalizing A a b ra rb r with
 | zero=>exact Qc R (fun e=>Le 0 e) (fun J J e=>nn e) (fun {l m _ _ r} ql qm e=>by
   by_cases q:l.length=m.length
   ·rw[if_pos q] at e; exact nn e
   ·exact Ut (f:=fun J J=>.none) (fun J J e=>nn e) ql qm hu ((if_neg q).trans ((if_neg q).symm.trans e))) ha hb e
 | succ n ih=>
  have k:abm B x (eqv n) A:=fun ha hb e=>(ih (Uu hu) ha hb e).eq
  have hu':=aA (bh _ _) hu
  exact Qc R (fun e=>Le (n + 1) e) (fun ql qm e=>abn k ql qm hu' e) (fun ql qm e=>Ut k ql qm hu' e) ha hb e
end
end
section
open PySem.SeqAt
noncomputable def ajD:Cop->CmpOp
 | .eq=>.Eq | .ne=>.NotEq | .lt=>.Lt | .le=>.LtE | .gt=>.Gt | .ge=>.GtE | .is=>.Is | .Kq=>.IsNot | .inn=>.In | .Ja=>.NotIn
abbrev WA(B:Bs)(A:cI)(x:fK){β:Type}(t:Sem β)(a:β):Prop:=bD (Mo B) A t (LA B x.s a) (fun J J=>False) x.s
section
variable{B:Bs}{A:cI}{x:fK}{s s':aB}{g:G}{h:cD}{a b v ky:V}{ra rb r rk:au}{t:Nat}{l:List (V×V)}{c:Bool}
theorem LA.self{β:Type}(I:Inv B x.s.heap){a:β}:LA B x.s a a x.s:=⟨.self I,rfl⟩
theorem LA.tok{β:Type}(I:Inv B x.s.heap){a:β}:LA B x.s a a {x.s with toks:=t}:=⟨.tok I,rfl⟩
noncomputable def kS(x:Str):V:=.str x.cps.toList
inductive DK(B:Bs)(g:G)(h:cD)(l:List (V×V))(a:aH)(key:V)(rk:au):Prop
 | mk {κ:Type} [DecidableEq κ] {knd:PySem.KeyKind B.prog B.w κ} {f:κ->V} {kvs} {j:κ} (e:key=f j) (d:h.DictOf knd a kvs) (r:KR B g h f l kvs) (is:knd.is j rk=true) (inj:∀ a b,jA (f a) (f b)=decide (a=b)) (kp:(PySem.keyPart rk).isSome=true)
  (back:∀ {g' h' l' kvs'},h'.DictOf knd a kvs'->KR B g' h' f l' kvs'->DO B g' h' l' a)
theorem Lg{K K':Type}[DecidableEq K][DecidableEq K']{prog:dO}{w:cY}{knd:PySem.KeyKind prog w K}{knd':PySem.KeyKind prog w K'}{a:aH}(x:h.DictOf knd a []):h.DictOf knd' a []:=by
 obtain⟨o,es,ep,ho,hc,hd,hk,hp,hn⟩:=x
 have e:es=#[]:=congrArg bA (fL hp.length:es.toList=[])
 exact⟨o,#[],ep,ho,hc,e▸hd,fun J he=>absurd he (Array.not_mem_empty _),.nil,qN⟩
theorem ano{P:Prop}(q:Jb ky=true)(i:∀ k,ky=.int k->P)(s:∀ k,ky=.str k->P):P:=by
 cases ky with
 | int k=>exact i k rfl
 | str k=>exact s k rfl
 | _=>exact absurd q bC
theorem DO.keyed{a:aH}(d:DO B g h l a)(q:Jb ky=true/\mD l ky=true)(hk:VR B g h ky rk):DK B g h l a ky rk:=by
 refine ano q.1 (fun k e=>?_) fun k e=>?_
 ·subst e
  have fin:∀ {kvs},h.DictOf (PySem.intKind B.prog B.w) a kvs->KR B g h V.int l kvs->DK B g h l a (.int k) rk:=fun d r=>hk.Hp fun t=>.mk rfl d r (intKind_is _ _ _ _) (fun J J=>rfl) rfl .i
  cases d with
  | i d r=>exact fin d r
  | s d r=>cases r with
   | nil=>exact fin (Lg d) .nil
   | cons=>exact absurd (bx.mp q.2 _ (.head _)) bC
 ·subst e
  have fin:∀ {kvs},h.DictOf (PySem.strKind B.prog B.w) a kvs->KR B g h kS l kvs->DK B g h l a (.str k) rk:=fun d r=>hk.Hq fun t=>.mk (f:=kS) (j:=txt k) rfl d r (strKind_is _ _ _ _) (fun a b=>decide_eq_decide.mpr (J2 (a:=a.cps.toList) (b:=b.cps.toList)).symm) rfl .s
  cases d with
  | s d r=>exact fin d r
  | i d r=>cases r with
   | nil=>exact fin (Lg d) .nil
   | cons=>exact absurd (bx.mp q.2 _ (.head _)) bC
inductive OVR(B:Bs)(g:G)(h:cD):Option V->Option au->Prop
 | n:OVR B g h Bt Bt
 | s {v:V} {r:au} (q:VR B g h v r):OVR B g h (Option.some v) (Option.some r)
theorem OVR.isSome{o o'}(q:OVR B g h o o'):o'.isSome=o.isSome:=by cases q <;> rfl
theorem OVR.at_{o o' v}(q:OVR B g h o o')(e:o=some v):∃ r,o'=some r/\VR B g h v r:=by
 cases q with
 | n=>exact nn e
 | s q=>exact⟨_,rfl,aC e▸q⟩
theorem KR.at_{κ:Type}[DecidableEq κ]{f:κ->V}(inj:∀ a b,jA (f a) (f b)=decide (a=b)){kvs:List (κ×au)}(r:KR B g h f l kvs)(k:κ):OVR B g h (u9 l (f k)) (valueAt kvs k):=by
 induction r with
 | nil=>exact .n
 | @cons j v rv l m hv r ih=>
  show OVR B g h (if jA (f j) (f k)=true then some v else u9 l (f k)) _
  unfold valueAt at ih ⊢
  rw[inj,zF]
  by_cases q:j=k
  ·rw[if_pos (decide_eq_true q),show decide (j=k)=true from decide_eq_true q]; exact .s hv
  ·rw[if_neg (fun z=>q (of_decide_eq_true z)),show decide (j=k)=false from decide_eq_false q]; exact ih
theorem KR.length{κ:Type}{f:κ->V}{kvs:List (κ×au)}(r:KR B g h f l kvs):l.length=kvs.length:=by
 induction r with
 | nil=>rfl
 | cons _ _ ih=>exact congrArg (· + 1) ih
inductive DR(B:Bs)(x:fK)(l:List (V×V))(d:V):au->Prop
 | mk {i a} (e:d=.ref i) (q:x.st[i]?=some (.dict l)) (p:x.g.v[i]?=some (a,none)) (dd:DO B x.g x.s.heap l a) (len:l.length<=lim) (sys:(a==sysModules)=false):DR B x l d (.ref a)
theorem oH(w:Wd B x){i:Nat}{p:aH×Option aH}(e:dictAt x.st i=some l)(hp:x.g.v[i]?=some p):DR B x l (.ref i) (.ref p.1):=by
 obtain⟨a,b⟩:=p
 have q:=w.sr.obj (wQ e) hp
 cases(show b=none from q.e)
 exact .mk rfl (wQ e) hp q.d q.len (beq_false_of_ne fun z=>w.stay.adk (z▸w.sr.fresh (.at hp (.a rfl))))
theorem BR(w:Wd B x)(q:VX B x v r)(e:oZ x.st v=some l):DR B x l v r:=by
 cases v with
 | ref i=>exact q.Xy fun p hp=>oH w e hp
 | _=>exact nn e
theorem Uv(O:Ok B A x)(ha:VX B x a ra)(hb:VX B x b rb)(e:eqh x.st a b=some c):RcAt A x.s ra rb c/\RcNeAt A x.s ra rb (!c):=by
 have hu:A.units + 4 < cLine:=aK (Nat.add_lt_add_right O.units 4) (by decide)
 have ih:abm B x (eqv 3) A:=fun ha hb e=>(Lf O.wd.sr 3 (Uu hu) ha hb e).eq
 unfold eqh at e
 by_cases q:((oZ x.st a).isSome || (oZ x.st b).isSome)=true
 ·rw[if_pos q] at e; exact nn e
 rw[if_neg q] at e
 cases h1:iw x.st a with
 | some l=>
  rw[h1] at e
  exact gR e fun m h2 e=>wg O.wd ha h1 fun y vs k1 k2 J=>wg O.wd hb h2 fun z ws m1 m2 J=>Qa ih k1 k2 m1 m2 (aA (bh _ _) hu) e
 | none=>
  rw[h1] at e
  by_cases q:(iw x.st b).isSome=true
  ·rw[show _=Bt from if_pos q] at e; exact nn e
  ·rw[show _=eqv 4 a b from if_neg q] at e
   exact let q:=Lf O.wd.sr 4 hu ha hb e; ⟨q.rc,q.ne⟩
theorem akD{y:V}{l:List V}{r:Bool}(e:ahk y l=some r):l.any (fun z=>(eqv 0 z y).getD false)=r/\∀ z∈l,∃ c,eqv 0 z y=some c:=by
 induction l generalizing r with
 | nil=>exact⟨aC e,fun J h=>nomatch h⟩
 | cons z l ih=>
  refine gR e fun c q1 e=>gR e fun d q2 e=>?_
  obtain⟨h1,h2⟩:=ih q2
  refine⟨?_,fun u hu=>?_⟩
  ·rw[wL,q1,h1]; exact aC e
  ·cases hu with
   | head=>exact⟨c,q1⟩
   | tail _ hu=>exact h2 u hu
theorem jV.mem{l:List V}{vs:List au}(r:jV B g h l vs){rv}(e:rv∈vs):∃ v∈l,VR B g h v rv:=by
 induction l generalizing vs with
 | nil=>exact absurd e (r.Fz dK)
 | cons v l ih=>
  cases vs with
  | nil=>exact nomatch e
  | cons w vs=>
   obtain⟨_,_,e',a,b⟩:=(show ∃ r' n',w::vs=r'::n'/\VR B g h v r'/\jV B g h l n' from r.inv)
   cases aY.mp e with
   | inl q=>exact⟨v,.head _,q▸(gb e').1▸a⟩
   | inr q=>exact(ih ((gb e').2▸b) q).elim fun u z=>⟨u,.tail _ z.1,z.2⟩
open Classical in
theorem akE(O:Ok B A x){l:List V}(ha:VX B x a ra)(hb:Sq B x.g x.s.heap "tuple" l rb)(e:ahk a l=some c):WA B A x (compareOp .In ra rb) (.bool c)/\WA B A x (compareOp .NotIn ra rb) (.bool (!c)):=by
 have hu:A.in1.units + 0 < cLine:=aA (Nat.succ_le_of_lt O.units) (by decide)
 cases hb with | @mk y o n vs e1 k1 k2 k3 _ _ _ hl=>
 subst e1
 obtain⟨h1,h2⟩:=akD e
 let f:au->Bool:=fun rv=>decide (∃ v∈l,VX B x v rv/\eqv 0 v a=some true)
 have hf:∀ {v rv},v∈l->VX B x v rv->f rv=(eqv 0 v a).getD false:=fun {v rv} hv hr=>by
  obtain⟨c,hc⟩:=h2 v hv
  rw[hc]
  cases c with
  | true=>exact decide_eq_true ⟨v,hv,hr,hc⟩
  | false=>exact decide_eq_false fun⟨u,_,hu,q⟩=>rK (aC (hc.symm.trans (VR.uniq O.wd.sr hu hr▸q)))
 have he:∀ z,z∈bA vs->EqAt A.in1 x.s z ra (f z):=fun z hz=>by
  obtain⟨v,hv,hr⟩:=hl.mem (List.mem_toArray.mp hz)
  obtain⟨c,hc⟩:=h2 v hv
  rw[hf hv hr,hc]
  exact(Lf O.wd.sr 0 hu hr ha hc).eq
 have any:∀ {l':List V} {vs'},yw B x l' vs'->(∀ v∈l',v∈l)->vs'.any f=l'.any (fun y=>(eqv 0 y a).getD false):=fun {l'}=>by
  induction l' with
  | nil=>exact fun q J=>q.Fz rfl
  | cons u l' ih=>exact fun q hm=>q.uG fun J J q1 q2=>congr (congrArg or (hf (hm u (.head _)) q1)) (ih q2 fun v hv=>hm v (.tail _ hv))
 have fin:(bA vs).any f=c:=(List.any_toArray ..).trans ((any hl fun J h=>h).trans h1)
 exact⟨in_tupleAt f ⟨_,k1,k2,_,k3⟩ he (fin▸.self O.wd.inv),notIn_tupleAt f ⟨_,k1,k2,_,k3⟩ he (fin▸.self O.wd.inv)⟩
theorem aah(O:Ok B A x)(ha:VX B x a ra)(hb:VX B x b rb)(e:inv x.st a b=some c):WA B A x (compareOp .In ra rb) (.bool c)/\WA B A x (compareOp .NotIn ra rb) (.bool (!c)):=by
 unfold inv at e
 cases hd:oZ x.st b with
 | some l=>
  rw[hd] at e
  refine nH e fun f=>?_
  cases BR O.wd hb hd with | mk _ _ _ D _ sys=>
  cases D.keyed f ha with | @mk κ _ knd fn kvs j e1 d r is inj=>
  subst e1
  have q:=(r.at_ inj j).isSome
  exact⟨wpAny_in_of is sys d.mapOf (q▸.tok O.wd.inv),wpAny_notIn_of is sys d.mapOf (q▸.tok O.wd.inv)⟩
 | none=>
  rw[hd] at e
  exact akC e hb fun l q e=>akE O ha q e
theorem Lh{prog:dO}{w:cY}{κ:Type}[DecidableEq κ]{knd:KeyKind prog w κ}{a:aH}{kvs}(x:h.DictOf knd a kvs):∃ o,h.get? a=some o/\o.cls≠.type "tuple":=
 x.elim fun o x=>x.elim fun J x=>x.elim fun J x=>⟨o,x.1,fun z=>FN x.2.1.1 z⟩
theorem OR.cls{o p}(q:OR B g h o p):∃ ob,h.get? p.1=some ob/\ob.cls≠.type "tuple":=by
 cases o with
 | inst=>cases q with | mk _ o=>exact⟨_,o,nofun⟩
 | dict=>cases q.d with
  | i d=>exact Lh d
  | s d=>exact Lh d
 | list=>cases q with | mk _ o=>exact⟨_,o,fun z=>FN rfl z⟩
 | ba=>exact⟨_,q.o,fun z=>FN rfl z⟩
theorem Li(n:¬ isN v=true)(q:VR B g h v r):(PySem.plainIs .none r=true/\PySem.plainIs r .none=true)/\(r==.none)=false/\(n7==r)=false:=by
 cases q <;> first | exact absurd rfl n | exact⟨⟨rfl,rfl⟩,rfl,rfl⟩
theorem Rr(q:VR B g h v r)(n:isN v=true):r=.none:= @ajw (fun v=>VR B g h v r->r=.none) v n (fun q=>q.inv) q
theorem aai(O:Ok B A x)(ha:VX B x a ra)(hb:VX B x b rb)(e:isv a b=some c):WA B A x (compareOp .Is ra rb) (.bool c)/\WA B A x (compareOp .IsNot ra rb) (.bool (!c)):=by
 have I:=O.wd.inv
 unfold isv at e
 by_cases na:isN a=true
 ·rw[if_pos na] at e
  refine bV e (Rr ha na▸?_)
  by_cases nb:isN b=true
  ·rw[nb,Rr hb nb]; exact⟨wpAny_is_self rfl (.self I),wpAny_isNot_self rfl (.self I)⟩
  ·rw[qO.mpr nb]
   have q:=Li nb hb
   exact⟨wpAny_is_plain q.1.1 (q.2.2▸.self I),wpAny_isNot_plain q.1.1 (q.2.2▸.self I)⟩
 rw[if_neg na] at e
 by_cases nb:isN b=true
 ·rw[if_pos nb] at e
  have q:=Li na ha
  exact bV e (Rr hb nb▸⟨wpAny_is_plain q.1.2 (q.2.1▸.self I),wpAny_isNot_plain q.1.2 (q.2.1▸.self I)⟩)
 rw[if_neg nb] at e
 refine abg e ha fun i p hi e=>abg e hb fun j q hj e=>bV e ?_
 by_cases ij:i=j
 ·cases ij
  cases hi.symm.trans hj
  rw[show(i==i)=true from BEq.rfl]
  exact⟨wpAny_is_ref_self (.self I),wpAny_isNot_ref_self (.self I)⟩
 ·have ne:p.1≠q.1:=fun z=>ij (O.wd.sr.nd hi hj (.a rfl) (.a z.symm))
  rw[beq_false_of_ne ij]
  obtain⟨o1,e1⟩:=O.wd.sr.here hi
  obtain⟨o2,e2⟩:=O.wd.sr.here hj
  obtain⟨_,a1,b1⟩:=(O.wd.sr.obj e1 hi).cls
  obtain⟨_,a2,_⟩:=(O.wd.sr.obj e2 hj).cls
  exact⟨wpAny_is_ref_other ne a1 a2 b1 (.self I),wpAny_isNot_ref_other ne a1 a2 b1 (.self I)⟩
theorem ahv{f:Int->Int->Bool}{P:au->au->Bool->Prop}(e:ci f a b=some c)(ha:VX B x a ra)(hb:VX B x b rb)(k:∀ i j t u,P (.int i t) (.int j u) (f i j)):P ra rb c:=
 @FQ B x.g x.s.heap a ra Bool (fun ra=>P ra rb c) c _ e ha fun i t e=> @FQ B x.g x.s.heap b rb Bool (fun rb=>P (.int i t) rb c) c _ e hb fun j u e=>bV e (k i j t u)
theorem adx{P:Bool->Prop}{o:Option Bool}(e:(bnd o fun x=>some (!x))=some c)(k:∀ d,o=some d->P (!d)):P c:=gR e fun d e1 e=>aC e▸k d e1
theorem ady(O:Ok B A x){op:Cop}(ha:VX B x a ra)(hb:VX B x b rb)(e:cop x.st op a b=some c):WA B A x (compareOp (ajD op) ra rb) (.bool c):=by
 have I:=O.wd.inv
 cases op with
 | eq=>exact(Uv O ha hb e).1 _ _ _ _ (.self I)
 | ne=>exact adx (P:=fun c=>WA B A x (compareOp .NotEq ra rb) (.bool c)) e fun d e=>(Uv O ha hb e).2 _ _ _ _ (.self I)
 | lt=>exact ahv (P:=fun ra rb c=>WA B A x (compareOp .Lt ra rb) (.bool c)) e ha hb fun i j t u=>lt_int (.self I)
 | le=>exact ahv (P:=fun ra rb c=>WA B A x (compareOp .LtE ra rb) (.bool c)) e ha hb fun i j t u=>le_int (.self I)
 | gt=>exact ahv (P:=fun ra rb c=>WA B A x (compareOp .Gt ra rb) (.bool c)) e ha hb fun i j t u=>gt_int (.self I)
 | ge=>exact ahv (P:=fun ra rb c=>WA B A x (compareOp .GtE ra rb) (.bool c)) e ha hb fun i j t u=>ge_int (.self I)
 | is=>exact(aai O ha hb e).1
 | Kq=>exact adx (P:=fun c=>WA B A x (compareOp .IsNot ra rb) (.bool c)) e fun d e=>(aai O ha hb e).2
 | inn=>exact(aah O ha hb e).1
 | Ja=>exact adx (P:=fun c=>WA B A x (compareOp .NotIn ra rb) (.bool c)) e fun d e=>(aah O ha hb e).2
theorem adz{α:Type}{l:List α}{k:Int}{v:α}{P:Prop}(e:nth l k=some v)(pos:0<=k->k < l.length->l[k.toNat]?=some v->P)(neg:k < 0-> -(l.length:Int)<=k->l[(k + l.length).toNat]?=some v->P):P:=by
 unfold nth at e
 by_cases q:0<=k
 ·rw[if_pos q] at e
  exact pos q ((Int.toNat_lt q).mp (bW.mp e).1) e
 ·rw[if_neg q] at e
  by_cases q1:0<=k + l.length
  ·rw[if_pos q1] at e
   exact neg (nT.mp q) (Int.neg_le_of_neg_le (by rw[← Int.sub_nonneg,Int.sub_neg,Int.add_comm]; exact q1)) e
  ·rw[if_neg q1] at e; exact nn e
noncomputable def BW(slice:PySem.Expr):Prop:=∀ o i,subscripted slice false o i=operate [o,i] (getItem o i)
end
end
section
open PySem.SeqAt
section
variable{B:Bs}{A:cI}{x:fK}{s s':aB}{g:G}{h:cD}{a b v i:V}{ra rb r ri:au}{t:Nat}
theorem Qd(w:Wd B x){value slice:PySem.Expr}(hs:BW slice){l:List V}{vs:List au}{y:aH}{k:Int}{t:Tok}(hx:x.s.heap.IsList y (bA vs))(hl:yw B x l vs)(hn:l.length<=lim)(e:nth l k=some v):
  WL B A x (subscriptTail value slice (.ref y) (.int k t)) v:=by
 have sz:((bA vs).size:Int)=l.length:=congrArg Nat.cast hl.length.symm
 have hn:(l.length:Int)<=4194304:=jQ.mpr hn
 refine xX hx.typeIs slot_list_getitem.lookup (adz e (fun k0 k1 e=>?_) fun k0 k1 e=>?_) (hs _ _)
 ·obtain⟨rv,e2,q⟩:=hl.get e
  exact wpAny_getItem_list hx k0 (Int.lt_of_lt_of_le k1 (fW hn (by decide))) ((eU ..).trans e2) (.self w.inv q)
 ·obtain⟨rv,e2,q⟩:=hl.get e
  exact wpAny_getItem_list_neg hx k0 (sz▸k1) (fW (fW (by decide) (Int.neg_le_neg hn)) k1) (by rw[sz]; exact(eU ..).trans e2) (.self w.inv q)
theorem ahw{l:List V}{k:Int}(e:nth l k=some v):∃ j:Nat,seqIndex? k l.length=some j/\l[j]?=some v:=
 adz e (fun k0 k1 e=>⟨_,by unfold seqIndex?; rw[if_neg (dh.mpr k0)]; exact if_pos (cg.mpr ⟨decide_eq_true k0,decide_eq_true k1⟩),e⟩)
  fun k0 k1 e=>⟨_,by
   have q:0<=k + (l.length:Int):=by rw[Int.add_comm,← Int.sub_neg,Int.sub_nonneg]; exact Int.neg_le_of_neg_le k1
   unfold seqIndex?
   rw[if_pos k0]; exact if_pos (cg.mpr ⟨decide_eq_true q,decide_eq_true (show k + (l.length:Int) < l.length from Eq.mp (congrArg (k + (l.length:Int) < ·) (tX _)) (Int.add_lt_add_right k0 l.length))⟩),e⟩
theorem aaj{l:List V}{k:Int}(e:nth l k=some v)(hn:l.length<=lim): -(2 ^ 63)<=k/\k < 2 ^ 63:=
 have hn:(l.length:Int)<=4194304:=jQ.mpr hn
 adz e (fun k0 k1 J=>⟨fW (by decide) k0,Int.lt_of_lt_of_le k1 (fW hn (by decide))⟩) fun k0 k1 J=>⟨fW (fW (by decide) (Int.neg_le_neg hn)) k1,Int.lt_trans k0 (by decide)⟩
section
variable{value slice:PySem.Expr}
theorem ahx(w:Wd B x)(hs:BW slice){l:List V}(ha:Sq B x.g x.s.heap "tuple" l ra)(hi:VX B x i ri)(e:(iI (fun k=>bnd (gd (l.length<=lim) ()) fun J=>nth l k) i)=some v):WL B A x (subscriptTail value slice ra ri) v:=
 FQ e hi fun k t e=>Uc e fun hn e=>by
  cases ha with | mk e1 h1 h2 h3 _ _ _ h6=>
  subst e1
  obtain⟨j,q1,q2⟩:=ahw e
  obtain⟨rv,e2,q⟩:=h6.get q2
  exact item_tupleT (show IsTup x.s.heap _ (bA _) from⟨_,h1,h2,_,h3⟩) (aaj e hn).1 (aaj e hn).2 (h6.length▸q1) e2 (.self w.inv q) (hs _ _)
theorem abo(w:Wd B x)(hs:BW slice){l:List UInt8}(ha:VX B x (.bytes l) ra)(hi:VX B x i ri)(e:(iI (fun k=>bnd (gd (0<=k/\l.length<=lim) ()) fun J=>bnd l[k.toNat]? fun b=>some (V.int b.toNat)) i)=some v):WL B A x (subscriptTail value slice ra ri) v:=
 FQ e hi fun k t e=>Uc e fun hn e=>gR e fun b e1 e2=>bV e2 (ha.yt fun u=>
  xX (typeIs_bytes _ _ _) q9.lookup (getItem_bytes (ak hn.2 (by decide:lim<=1099511627776)) hn.1 ((Int.toNat_lt hn.1).mp (bW.mp e1).1)
   ((show l.getD k.toNat 0=b by rw[aV,e1]; rfl)▸.int w.inv)) (hs _ _))
theorem adA(w:Wd B x)(hs:BW slice){j:Nat}{p:aH×Option aH}(hp:x.g.v[j]?=some p)(hi:VX B x i ri)(e:ahl x.st j i=some v):WL B A x (subscriptTail value slice (.ref p.1) ri) v:=
 gR e fun l e1 e=>Uc e fun f e=>by
  have D:=oH w e1 hp
  obtain⟨y,z⟩:=p
  cases D with | mk _ _ _ D=>
  cases D.keyed f hi with | @mk κ _ knd fn kvs j e1 d r is inj=>
  subst e1
  obtain⟨rv,e2,q⟩:=(r.at_ inj j).at_ e
  exact xX d.typeIs slot_dict_getitem.lookup (wpAny_getItem_of is d.mapOf e2 (.tok w.inv q)) (hs _ _)
theorem ahy(w:Wd B x)(hs:BW slice){j:Nat}{p:aH×Option aH}(hp:x.g.v[j]?=some p)(hi:VX B x i ri)(e:aku x.st j i=some v):WL B A x (subscriptTail value slice (.ref p.1) ri) v:=by
 unfold aku at e
 cases hl:tD x.st j with
 | some l=>
  rw[hl] at e
  cases w.sr.obj (BP hl) hp with | mk _ o rs len=>exact FQ e hi fun k t e=>Qd w hs ⟨_,o,rfl,_,rfl⟩ rs len e
 | none=>rw[hl] at e; exact adA w hs hp hi e
theorem adB(w:Wd B x)(hs:BW slice)(ha:VX B x a ra)(hi:VX B x i ri)(e:Fi x.st a i=some v):WL B A x (subscriptTail value slice ra ri) v:=by
 cases a with
 | tup l=>exact ahx w hs ha.inv hi e
 | lst l=>exact(Sq.list (show Sq B x.g x.s.heap "list" l ra from ha.inv)).elim fun y q=>q.elim fun vs q=>FQ e hi fun k t e=>q.1▸Qd w hs q.2.1 q.2.2.1 q.2.2.2 e
 | bytes l=>exact abo w hs ha hi e
 | ref j=>exact ha.Xy fun p hp=>ahy w hs hp hi e
 | _=>exact nn e
end
theorem ahz(n:Nat)(lo:Option Int):lo.elim 0 (clipAt n)=kms_lo lo n:=Int.ofNat.inj (congrArg Prod.fst ((sliceBounds_plain lo none n).symm.trans (kms_bounds lo none n)))
theorem ahA(n:Nat)(hi:Option Int):hi.elim n (clipAt n)=kms_hi hi n:=Int.ofNat.inj (congrArg (fun p=>p.2.1) ((sliceBounds_plain none hi n).symm.trans (kms_bounds none hi n)))
theorem adC{α:Type}(l:List α)(lo hi:Option Int):cut l lo hi=(l.drop (kms_lo lo l.length)).take (kms_hi hi l.length - kms_lo lo l.length):=by
 rw[← Bu]
 cases lo <;> cases hi <;> rfl
theorem adD(l:List au)(lo hi:Option Int):slicePick (bA l) lo hi none=(cut l lo hi).toArray:=by
 rw[kms_pick_eq,adC]; rfl
theorem XM(l:List UInt8)(lo hi:Option Int):KBy.picked (bA l) lo hi=(cut l lo hi).toArray:=by
 rw[KBc.picked_eq,ahz,ahA,adC]; rfl
theorem akF{α:Type}(l:List α)(lo hi:Option Int):(cut l lo hi).length<=l.length:=by
 unfold cut
 rw[jk,xP]
 exact ak (jF _ _) (Nat.min_le_right _ _)
theorem jV.cut{l:List V}{vs:List au}(r:jV B g h l vs)(lo hi:Option Int):jV B g h (Mine.Internal.cut l lo hi) (Mine.Internal.cut vs lo hi):=by
 unfold Mine.Internal.cut
 rw[r.length]
 exact(r.take _).drop _
noncomputable def J3(slice:PySem.Expr):Prop:=∀ o i,subscripted slice false o i=operate [i,o] (getItem o i)
noncomputable def PR:Option V->au->Prop
 | .none,r=>r=.none
 | some v,r=>∃ i t,v=.int i/\r=.int i t
theorem PR.part{v:Option V}{rv:au}{o:Option Int}(p:PR v rv)(e:Xj v=some o):IsPart rv o:=by
 cases v with
 | none=>exact bV e ((show rv=.none from p)▸.none)
 | some v=>exact(show ∃ i t,v=.int i/\rv=.int i t from p).elim fun i q=>q.elim fun t q=>bV (Eq.trans (congrArg (fun v=>Xj (some v)) q.1).symm e:some (some i)=some o) (q.2▸.int i t)
theorem Ak{a:Nat}(ha:h.objs.size<=a):h.get? a=none:=by
 cases e:h.get? a with
 | none=>rfl
 | some o=>exact absurd (d8 e) (gK.mpr ha)
theorem FW{o o':Obj}:Kp s {s with heap:=(s.heap.push o).push o'}:=Kx.trans (s':={s with heap:=s.heap.push o}) Kp.push Kp.push
theorem Uw{o:Obj}{t:Nat}:Kp s {s with heap:=s.heap.push o,toks:=t}:=Kx.trans (s':={s with heap:=s.heap.push o}) Kp.push Kp.tok
theorem Al{l:List Nat}{b:Nat}(hb:b<=l.length):CW (txt l) none (some (b:Int))=txt (l.take b):=by
 have e:CW (txt l) none (some (b:Int))=lB (txt l) (some ((0:Nat):Int)) (some (b:Int)):=by
  show lB (txt l) none (some (b:Int))=_
  unfold lB
  rw[StrLaws.sliceIdx_none_lo]; rfl
 rw[e,StrLaws.sliceText_nat _ (cL _) (by rw[rB]; exact hb)]
 rfl
theorem Ux{l:List Nat}{j:Int}(h0:0<=j):CW (txt l) none (some j)=txt (l.take j.toNat):=by
 by_cases q:j<=l.length
 ·exact(lH h0).symm▸Al (Int.toNat_le.mpr q)
 ·rw[slice_to_beyond (by rw[rB]; exact lg (nT.mp q)),rB,Al (bf _),jR (bf _),jR (jQ.mp (by rw[lH h0]; exact lg (nT.mp q)))]
theorem Uy{l:List Nat}{i:Int}(h0:0<=i)(h1:i<=l.length):CW (txt l) (some i) none=txt (l.drop i.toNat):=by
 have e:CW (txt l) (some i) none=lB (txt l) (some (i.toNat:Int)) (some (l.length:Int)):=by
  show lB (txt l) (some i) none=_
  unfold lB
  rw[StrLaws.sliceIdx_none_hi,rB,lH h0]
 rw[e,StrLaws.sliceText_nat _ (Int.toNat_le.mpr h1) (by rw[rB]; exact bf _)]
 exact congrArg Str.mk (congrArg bA (jR (by rw[jk]; exact bf _)))
noncomputable def Lj(rl ru:au):Obj:={cls:=.type "slice",data:=.fields #[rl,ru,.none]}
abbrev WS(B:Bs)(A:cI)(x:fK)(rl ru:au)(t:Sem au)(v:V):Prop:=bD (Mo B) A t (LV B x v) (fun J J=>False) {x.s with heap:=x.s.heap.push (Lj rl ru)}
noncomputable def Std(s:aB)(h:cD):Prop:=∀ b o,s.heap.get? b=some o->h.get? b=some o
theorem Std.push{s:aB}(h:cD)(ob:Obj)(k:Std s h):Std s (h.push ob):=fun b o e=>aW _ (k b o e)
theorem Std.k3(w:Wd B x){h':cD}{k:Nat}(q:Std x.s h'):K3 B x.s {x.s with heap:=h',toks:=k}:=.kp w.inv (.mk' rfl q)
theorem Uz(w:Wd B x){value slice:PySem.Expr}(hs:J3 slice){l:List Nat}{lo hi:Option Int}{rl ru:au}{t:Tok}(hz:l.length<=lim)(pl:IsPart rl lo)(pu:IsPart ru hi)(e:ade l lo hi=some v):
  WS B A x rl ru (subscriptTail value slice (.str (txt l) t) (.ref x.s.heap.objs.size)) v:=by
 have hz:(txt l).length<=sizeLine:=ak hz jw
 cases lo with
 | none=>
  refine gR e fun j e1 e=>nH e fun h0=>?_
  subst e1
  cases pl; cases pu
  obtain⟨T,id,q1,q2,q3⟩:=SBH.sliceItem_ns (prog:=B.prog) (w:=B.w) (A:=A) (E:=fun J J=>False) (s:=x.s) (x:=txt l) (j:=j) (Q:=LV B x (.str (l.take j.toNat))) (P:=Std x.s) Std.push (fun J J e=>e)
   (fun h' t' k q=>⟨q.k3 w,Ux h0▸.str _ _⟩) hz
  exact xX q2 q1 q3 (hs _ _)
 | some i=>
  cases hi with
  | some=>exact nn e
  | none=>
   refine nH (show gd (0<=i/\i<=l.length) (V.str (l.drop i.toNat))=some v from e) fun h0=>?_
   cases pl; cases pu
   obtain⟨T,id,q1,q2,q3⟩:=SBH.sliceItem_sn (prog:=B.prog) (w:=B.w) (A:=A) (E:=fun J J=>False) (s:=x.s) (x:=txt l) (i:=i) (Q:=LV B x (.str (l.drop i.toNat))) (P:=Std x.s) Std.push (fun J J e=>e)
    (fun h' t' k q=>⟨q.k3 w,Uy h0.1 h0.2▸.str _ _⟩) hz
   exact xX q2 q1 q3 (hs _ _)
theorem Ru(w:Wd B x){value slice:PySem.Expr}(hs:J3 slice){lo hi:Option Int}{rl ru:au}(ha:VX B x a ra)(pl:IsPart rl lo)(pu:IsPart ru hi)(e:(bnd (iw x.st a) fun l=>some (V.lst (cut l lo hi)))=some v):
  WS B A x rl ru (subscriptTail value slice ra (.ref x.s.heap.objs.size)) v:=
 gR e fun l hL e=>bV e (wg w ha hL fun y vs h1 h2 h3=>
  xX (Heap.IsList.typeIs (s:={x.s with heap:=x.s.heap.push (Lj rl ru)}) (h1.push _)) slot_list_getitem.lookup (wpAny_getItem_list_slice (h1.push _) (Heap.IsSliceOf.new _ _ _ _) pl pu .none nofun
   (.list w (.kp w.inv FW) (n:=0) (Ak (by rw[d9]; exact dw _)) (by rw[adD]; exact bK _ rfl) (ak (akF _ _ _) h3) (h2.cut _ _)) (ak (h2.length▸h3:vs.length<=lim) jw)) (hs _ _))
theorem XQ(w:Wd B x){value slice:PySem.Expr}(hs:J3 slice){lo hi:Option V}{rl ru:au}(ha:VX B x a ra)(hl:PR lo rl)(hu:PR hi ru)(e:uw x.st a lo hi=some v):
  WS B A x rl ru (subscriptTail value slice ra (.ref x.s.heap.objs.size)) v:=
 gR e fun lo' el e=>gR e fun hi' eu e=>by
  have pl:=hl.part el
  have pu:=hu.part eu
  cases a with
  | bytes l=>
   refine nH e fun hn=>ha.yt fun u=>?_
   refine xX (typeIs_bytes _ _ _) q9.lookup (getItem_meets (typeIs_bytes _ _ _) (by decide) q9 FB.entry_bytes_getitem (FB.args_bytes_getitem_2 _ _) (KBc.meets_slice2 _ _ _ pl pu)
    ⟨Heap.IsSliceOf.new _ _ _ _,ak (KBc.size_picked_le _ _ _) (ak hn jw:(bA l).size<=sizeLine),fun t' k=>?_⟩) (hs _ _)
   exact⟨.kp w.inv Uw,XM l lo' hi'▸.bytes _ _⟩
  | str l=>exact Uc e fun hn e=>ha.Hq fun u=>Uz w hs hn pl pu e
  | _=>exact Ru w hs ha pl pu e
theorem XS{α:Type}{f:V->Option α}{R:List au->List α->Prop}(nil:R [] [])(cons:∀ {v r a rs as},f v=some a->VR B g h v r->R rs as->R (r::rs) (a::as)){l:List V}{ns:List α}{vs:List au}(e:Px f l=some ns)(r:jV B g h l vs):R vs ns:=by
 induction l generalizing ns vs with
 | nil=>exact r.Fz (P:=fun vs=>R vs ns) (bV (motive:=R []) e nil)
 | cons v l ih=>exact gR e fun a e1 e=>gR e fun as e2 e=>r.uG (P:=fun vs=>R vs ns) fun J J q qs=>bV (motive:=R _) e (cons e1 q (ih e2 qs))
theorem Lk{l:List V}{ns:List Int}{vs:List au}(e:Xk l=some ns)(r:jV B g h l vs):IntsAre vs ns:=XS .nil (fun e q ih=>FQ e q fun i t e=>bV e (.cons i t ih)) e r
theorem UG{l:List V}{ns:List Bool}{vs:List au}(e:Z2 l=some ns)(r:jV B g h l vs):LSm.BoolsAre vs ns:=XS .nil (fun e q ih=>akA e q fun i e=>bV e (.cons i ih)) e r
theorem adE{n:Nat}(h:n<=lim):(n:Int) < 2 ^ 63:=uQ (jQ.mpr h) (by decide)
theorem abp(w:Wd B x)(ha:VX B x a ra)(e:(bnd (iw x.st a) fun l=>some (V.int l.length))=some v):WL B A x (call (.builtin "len") [ra]) v:=
 gR e fun l hl e=>bV e (wg w ha hl fun y vs h1 h2 h3=>h2.length▸len_list h1 (adE (n:=vs.length) (h2.length▸h3)) (.int w.inv))
theorem adF(w:Wd B x)(ha:VX B x a ra)(e:am2 x.st a=some v):WL B A x (call (.builtin "len") [ra]) v:=by
 cases a with
 | bytes l=>exact nH e fun q=>ha.yt fun J=>len_bytes (ak (show l.length<=lim from q) (by decide)) (.int w.inv)
 | str l=>exact nH e fun q=>ha.Hq fun J=>SBL.len (adE (n:=l.length) q) (.int w.inv)
 | tup l=>
  refine nH e fun q=>?_
  have ha:Sq B x.g x.s.heap "tuple" l ra:=ha.inv
  cases ha with | @mk y o n vs e1 h1 h2 h3 _ _ _ h6=>
  subst e1
  exact h6.length▸len_tuple ⟨_,h1,h2,_,h3⟩ (adE (n:=vs.length) (h6.length▸q)) (.int w.inv)
 | _=>exact abp w ha e
theorem adG(O:Ok B A x)(ha:VX B x a ra)(e:am3 x.st a=some v):WL B A x (call (.builtin "sum") [ra]) v:=
 gR e fun l hl e=>gR e fun ns hn e=>bV e (wg O.wd ha hl fun y vs h1 h2 J=>sumK O.hand (fF O.wd.inv) fN h1 (Lk hn h2) fun h' tk t' F' N'=>⟨.of0 F' N',.int _ _⟩)
theorem adH(O:Ok B A x)(ha:VX B x a ra)(e:am6 x.st a=some v):WL B A x (call (.builtin "all") [ra]) v:=
 gR e fun l hl e=>gR e fun ns hn e=>bV e (wg O.wd ha hl fun y vs h1 h2 J=>LSm.all_bools (fF O.wd.inv) fN O.hand h1 (UG hn h2) fun h' tk F' N'=>⟨.of0 F' N',.bool _⟩)
theorem adI(w:Wd B x)(ha:VX B x a ra)(e:am4 a=some v):WL B A x (call (.builtin "ord") [ra]) v:=
 XD e ha fun l J e=>by
  cases l with
  | nil=>exact nn e
  | cons c r=>cases r with
   | nil=>exact bV e (P.ord_of_char (.int w.inv))
   | cons=>exact nn e
theorem adJ(w:Wd B x)(ha:VX B x a ra)(e:am5 a=some v):WL B A x (call (.builtin "chr") [ra]) v:=
 FQ e ha fun i J e=>nH e fun q=>P.chr_of_int (by rw[decide_eq_false (dh.mpr q.1),decide_eq_false (dh.mpr (lg (Int.lt_trans q.2 (by decide))))]; rfl) (.tok w.inv (.str [_] _))
theorem ahB{i j:Int}:max i j=if j > i then j else i:=by
 by_cases q:j > i
 ·rw[if_pos q]; exact rM (lg q)
 ·rw[if_neg q]; exact tK (dh.mp q)
theorem ahC{i j:Int}:min i j=if j < i then j else i:=by
 by_cases q:j < i
 ·rw[if_pos q]; exact Int.min_eq_right (lg q)
 ·rw[if_neg q]; exact Int.min_eq_left (dh.mp q)
theorem adK(O:Ok B A x)(ha:VX B x a ra)(hb:VX B x b rb)(e:ii (fun a b=>some (.int (max a b))) a b=some v):WL B A x (call (.builtin "max") [ra,rb]) v:=
 Rp e ha hb fun i j t u e=>bV e (max_two_N O.hand (fF O.wd.inv) fN fun h' tk F' N'=>⟨.of0 F' N',ahB▸.int _ _⟩)
theorem adL(O:Ok B A x)(ha:VX B x a ra)(hb:VX B x b rb)(e:ii (fun a b=>some (.int (min a b))) a b=some v):WL B A x (call (.builtin "min") [ra,rb]) v:=
 Rp e ha hb fun i j t u e=>bV e (min_two_N O.hand (fF O.wd.inv) fN fun h' tk F' N'=>⟨.of0 F' N',ahC▸.int _ _⟩)
theorem adM(w:Wd B x)(ha:VX B x a ra)(e:iB (fun b=>some (V.int (if b then 1 else 0))) a=some v):WL B A x (call (.type "int") [ra]) v:=
 akA e ha fun i e=>bV e (call_int_bool (.int w.inv))
end
end
section
open PySem.SeqAt
structure LC(B:Bs)(x:fK)(st':St)(s':aB):Prop where
 wd:Wd B ⟨x.g,st',s'⟩
 ev:Ev B pO x ⟨x.g,st',s'⟩
structure LM(B:Bs)(x:fK)(st':St)(v:V)(r:au)(s':aB):Prop where
 c:LC B x st' s'
 r:VR B x.g s'.heap v r
abbrev WM(B:Bs)(A:cI)(x:fK)(t:Sem au)(o:V×St):Prop:=bD (Mo B) A t (LM B x o.2 o.1) (fun J J=>False) x.s
section
variable{B:Bs}{A:cI}{x:fK}{s s':aB}{g:G}{h:cD}{a b v d ky:V}{ra rb r rk rd rv:au}{t:Nat}{l:List (V×V)}{o:V×St}{E:au->aB->Prop}
theorem Rv(x:String):yZ x=txt (x.toList.map Char.toNat):=by
 rw[Str.ofString_eq_byList]; rfl
theorem adN(w:Wd B x)(ha:VX B x a ra)(e:aa8 a=some v):WL B A x (call (.type "str") [ra]) v:=
 FQ e ha fun i J e=>nH e fun q=>by
  obtain⟨n,rfl⟩:=lQ q.1
  refine P.str_of_int (aK (aag (aG (fu.mp q.2:n < 1000000) (by decide))) (by decide)) ?_
  rw[show yZ (toString (n:Int))=txt (Aa n) from Rv _]
  exact .tok w.inv (.str _ _)
inductive SA:List au->List (List Nat)->Prop
 | nil:SA [] []
 | cons {x l vs} (t):SA vs l->SA (.str (txt x) t::vs) (x::l)
theorem X3{l:List V}{ns:List (List Nat)}{vs:List au}(e:adf l=some ns)(r:jV B g h l vs):SA vs ns:=XS .nil (fun e q ih=>XD e q fun i t e=>bV e (.cons t ih)) e r
theorem SA.vals{ns:List (List Nat)}{vs:List au}(r:SA vs ns):∃ l:List (Str×Tok),vs=strValues l/\l.map (·.1)=ns.map txt:=by
 induction r with
 | nil=>exact⟨[],rfl,rfl⟩
 | @cons x l vs t _ ih=>exact ih.elim fun m q=>⟨(txt x,t)::m,congrArg (_::·) q.1,congrArg (_::·) q.2⟩
theorem X4(sep x:List Nat)(r:List (List Nat)):tO sep (x::r)=x++(r.map (sep++·)).flatten:=by
 induction r generalizing x with
 | nil=>exact(bN x).symm
 | cons y r ih=>
  show x++sep++tO sep (y::r)=_
  rw[ih y,fH,vM,bw,bw]
theorem adO(sep:List Nat)(r:List (List Nat))(acc:List Nat):((r.map txt).foldl (fun acc p=>acc++(txt sep).cps++p.cps) acc.toArray)=(acc++(r.map (sep++·)).flatten).toArray:=by
 induction r generalizing acc with
 | nil=>exact congrArg bA (bN acc).symm
 | cons y r ih=>
  rw[fH,tG,show acc.toArray++(txt sep).cps++(txt y).cps=(acc++sep++y).toArray by rw[← jM,← jM]; rfl,ih,fH,vM,bw,bw,bw]
theorem adP(sep:List Nat)(ps:List (List Nat)):Txt.join (txt sep) (ps.map txt)=txt (tO sep ps):=by
 cases ps with
 | nil=>rfl
 | cons x r=>rw[X4]; exact congrArg Str.mk (adO sep r x)
theorem abq(w:Wd B x)(ha:VX B x a ra)(hb:VX B x b rb)(e:ajz x.st a b=some o):WL B A x (call (.builtin "str.join") [ra,rb]) o.1/\o.2=x.st:=
 @XD B x.g x.s.heap a ra _ (fun ra=>WL B A x (call (.builtin "str.join") [ra,rb]) o.1/\o.2=x.st) o _ e ha fun sep t e=>gR e fun l hl e=>gR e fun ps hp e=>nH e fun hz=>⟨by
  obtain⟨y,vs,rfl,h1,h2,_⟩:=um w hb hl
  obtain⟨m,rfl,e⟩:=(X3 hp h2).vals
  refine SC.join h1 e (joinOk_of_weight ?_ hz.2) fun t' k=>adP sep ps▸.tok w.inv (.str _ _)
  rw[gw,aQ]; exact hz.1,rfl⟩
theorem Jg(sep:List Nat):∀(ps:List (List Nat)),Str.join (txt sep) (ps.map txt)=txt (tO sep ps)
 | []=>rfl
 | [x]=>rfl
 | x::y::r=>by
  show txt x++txt sep++Str.join (txt sep) ((y::r).map txt)=txt (x++sep++tO sep (y::r))
  rw[Jg sep (y::r),Ed,Ed]
theorem X5(c:Nat){x:List Nat}(h:c∉x)(r:List Nat):jg c (x++c::r)=x::jg c r:=by
 induction x with
 | nil=>exact if_pos rfl
 | cons a x ih=>
  refine(if_neg fun(e:a=c)=>h (e▸.head _)).trans ?_
  exact congrArg (hd1 a) (ih fun q=>h (.tail _ q))
theorem X6(c:Nat){x:List Nat}(h:c∉x):jg c x=[x]:=by
 induction x with
 | nil=>rfl
 | cons a x ih=>
  refine(if_neg fun(e:a=c)=>h (e▸.head _)).trans ?_
  exact congrArg (hd1 a) (ih fun q=>h (.tail _ q))
theorem Jh(c:Nat):∀(ps:List (List Nat)),ps≠[]->(∀ p∈ps,c∉p)->jg c (tO [c] ps)=ps
 | [],h,_=>absurd rfl h
 | [x],_,h=>X6 c (h x (.head _))
 | x::y::r,_,h=>by
  show jg c (x++[c]++tO [c] (y::r))=_
  rw[bw]
  exact(X5 c (h x (.head _)) _).trans (congrArg (x::·) (Jh c (y::r) nofun fun p hp=>h p (.tail _ hp)))
theorem adQ(x:Str)(c:Nat):CX x (txt [c])≠[]:=fun e=>by
 have j:=StrLaws.join_split x (txt [c])
 rw[e] at j
 have hx:x=txt []:=j.symm
 subst hx
 unfold CX at e
 rw[if_pos (by rfl)] at e
 cases e
theorem abr(l:List Nat)(c:Nat):CX (txt l) (txt [c])=(jg c l).map txt:=by
 have j:=StrLaws.join_split (txt l) (txt [c])
 have f:∀ p∈CX (txt l) (txt [c]),c∉p.cps.toList:=StrLaws.split_free (txt l) c
 have ne:=adQ (txt l) c
 generalize CX (txt l) (txt [c])=P at j f ne
 have hP:P=(P.map fun p=>p.cps.toList).map txt:=(show P=(P.map fun p=>p.cps.toList).map txt by rw[gw]; exact(qg P).symm)
 generalize hps:(P.map fun p=>p.cps.toList)=ps at hP
 subst hP
 rw[Jg] at j
 exact congrArg (xQ txt) (J2.mp j▸Jh c ps (fun q=>ne (q▸rfl)) fun p hp=>f (txt p) (gV hp)).symm
theorem Dm(c:Nat):∀ l,0 < (jg c l).length/\(jg c l).length<=l.length + 1
 | []=>⟨Nat.one_pos,bf _⟩
 | x::r=>by
  have ih:=Dm c r
  show 0 < (if x=c then []::jg c r else hd1 x (jg c r)).length/\(if x=c then []::jg c r else hd1 x (jg c r)).length<=_
  by_cases q:x=c
  ·rw[if_pos q]; exact⟨iQ _,bI ih.2⟩
  ·rw[if_neg q]
   cases h:jg c r with
   | nil=>exact⟨Nat.one_pos,ak (bf 1) (bI (cL _))⟩
   | cons y t=>rw[h] at ih; exact⟨iQ _,ak ih.2 (dw _)⟩
theorem ajE:∀ {ns:List (List Nat)} {l:List (Str×Tok)},l.map (·.1)=ns.map txt->jV B g h (ns.map .str) (strValues l)
 | [],[],_=>.nil
 | n::ns,(y,t)::l,e=>.cons (by rw[show y=txt n from(gb e).1]; exact .str n t) (ajE (gb e).2)
theorem X7(w:Wd B x)(ha:VX B x a ra)(hb:VX B x b rb)(e:adh x.st a b=some o):WL B A x (call (.builtin "str.split") [ra,rb]) o.1/\o.2=x.st:=
 @XD B x.g x.s.heap a ra _ (fun ra=>WL B A x (call (.builtin "str.split") [ra,rb]) o.1/\o.2=x.st) o _ e ha fun l t e=> @XD B x.g x.s.heap b rb _ (fun rb=>WL B A x (call (.builtin "str.split") [.str (txt l) t,rb]) o.1/\o.2=x.st) o _ e hb fun sep u e=>by
  cases sep with
  | nil=>exact nn e
  | cons c r=>cases r with
   | cons=>exact nn e
   | nil=>
    refine nH (show gd (l.length + 2<=lim) (V.lst ((jg c l).map .str),x.st)=some o from e) fun hz=>⟨splitN1 (fF w.inv) fN rfl (fun m h' k e F' N'=>?_) (ak hz jw),rfl⟩
    rw[abr] at e
    exact .list w (.of1 F' N') fM (N' _ (.head _)).1 (by rw[aQ]; exact ak (Dm c l).2 (ak (dw _) hz)) (ajE e)
theorem LC.of3(w:Wd B x)(k:K3 B x.s s'):LC B x x.st s':=⟨k.wd w,k.ev⟩
theorem LC.set(w:Wd B x){i:Nat}{p:aH×Option aH}{o':O}{h':cD}{t:Nat}(hi:x.g.v[i]?=some p)(hs:dZ p.1 x.s.heap h')(hl:∃ o,h'.get? p.1=some o)(nf:Ai x.s.heap p.1)
  (ho:Tr B x.g x.s.heap x.g h'->OR B x.g h' o' p):LC B x (x.st.set i o') {x.s with heap:=h',toks:=t}:=
 have q:=w.set hi (.a rfl) (.one hs.2 hl) nf ho; ⟨q.1,q.2⟩
theorem UJ(w:Wd B x)(ha:VX B x a ra)(hb:VX B x b rb)(e:Z5 x.st a b=some o):WM B A x (call (.builtin "list.append") [ra,rb]) o:=
 abg e ha fun i p hp e=>gR e fun l hl e=>nH e fun hz=>by
  cases w.sr.obj (BP hl) hp with | @mk vs n e1 h1 h2 h3=>
  exact wpAny_list_append_plain ⟨n,h1⟩ (fun h' q hs=>q.elim fun n' q=>⟨.set w hp hs ⟨_,q⟩ (wV h1 nofun) fun t=>.mk (vs:=vs++[rb]) (n:=n') e1 (q.trans (by rw[List.push_toArray]; rfl)) ((h2.tr t).append (.cons (hb.tr t) .nil)) (by rw[aF]; exact hz),.none⟩)
   (ak (h2.length▸h3:vs.length<=lim) jw)
theorem OVR.getD{o o'}(q:OVR B g h o o')(z:VR B g h d rd):VR B g h (o.getD d) (o'.getD rd):=by
 cases q with
 | n=>exact z
 | s q=>exact q
theorem abt(w:Wd B x)(ha:VX B x a ra)(hk:VX B x ky rk)(e:Z6 x.st a ky .none=some o):WM B A x (call (.builtin "dict.get") [ra,rk]) o:=
 gR e fun l hl e=>nH e fun f=>by
  cases BR w ha hl with | mk _ _ _ D _ sys=>
  cases D.keyed f hk with | @mk κ _ knd fn kvs j e1 d r is inj=>
  subst e1
  exact call_meetsIn F.slot_dict_get d.typeIs F.entry_dict_get (F.args_dict_get_2 _ _) (meets_dict_get _ _ is sys) ⟨_,d.mapOf,.of3 w (.tok w.inv),(r.at_ inj j).getD .none⟩
theorem abu(w:Wd B x)(ha:VX B x a ra)(hk:VX B x ky rk)(hd:VX B x d rd)(e:Z6 x.st a ky d=some o):WM B A x (call (.builtin "dict.get") [ra,rk,rd]) o:=
 gR e fun l hl e=>nH e fun f=>by
  cases BR w ha hl with | mk _ _ _ D _ sys=>
  cases D.keyed f hk with | @mk κ _ knd fn kvs j e1 d r is inj=>
  subst e1
  exact call_meetsIn F.slot_dict_get d.typeIs F.entry_dict_get (F.args_dict_get_3 _ _ _) (meets_dict_get_default _ _ is sys _) ⟨_,d.mapOf,.of3 w (.tok w.inv),(r.at_ inj j).getD hd⟩
section
variable{κ:Type}[DecidableEq κ]{f:κ->V}{kvs:List (κ×au)}
theorem KR.del(inj:∀ a b,jA (f a) (f b)=decide (a=b))(r:KR B g h f l kvs)(k:κ):KR B g h f (qY l (f k)) (without kvs k):=by
 induction r with
 | nil=>exact .nil
 | @cons j v rv l m hv r ih=>
  show KR B g h f (if jA (f j) (f k)=true then qY l (f k) else(f j,v)::qY l (f k)) (((j,rv)::m).filter fun kv=>decide (kv.1≠k))
  rw[inj,dY]
  by_cases q:j=k
  ·rw[if_pos (decide_eq_true q),if_neg fun z=>(of_decide_eq_true z:j≠k) q]; exact ih
  ·rw[if_neg fun z=>q (of_decide_eq_true z),if_pos (decide_eq_true q)]; exact .cons hv ih
theorem UL{j k:κ}{v w:au}{m:List (κ×au)}(hn:(((j,w)::m).map (·.1)).Nodup):stored ((j,w)::m) k v=if j=k then(k,v)::m else(j,w)::stored m k v:=by
 have hn:=dj.mp (show(j::m.map (·.1)).Nodup from hn)
 unfold stored
 rw[wL]
 by_cases q:j=k
 ·subst q
  rw[if_pos rfl,show decide (j=j)=true from decide_eq_true rfl,tY,if_pos rfl,fH,if_pos rfl,map_store_of_not_mem m j v hn.1]
 ·rw[if_neg q,show decide (j=k)=false from decide_eq_false q,Bool.false_or,fH,if_neg q]
  by_cases z:(m.any fun kv=>decide (kv.1=k))=true
  ·rw[if_pos z,if_pos z]
  ·rw[if_neg z,if_neg z]; rfl
theorem KR.set(inj:∀ a b,jA (f a) (f b)=decide (a=b))(r:KR B g h f l kvs)(hn:(kvs.map (·.1)).Nodup)(k:κ)(hv:VR B g h v rv):KR B g h f (pD l (f k) v) (stored kvs k rv):=by
 induction r with
 | nil=>exact .cons hv .nil
 | @cons j w rw' l m hw r ih=>
  rw[UL hn]
  show KR B g h f (if jA (f j) (f k)=true then(f j,v)::l else(f j,w)::pD l (f k) v) _
  rw[inj]
  by_cases q:j=k
  ·rw[if_pos (decide_eq_true q),if_pos q,q]; exact .cons hv r
  ·rw[if_neg fun z=>q (of_decide_eq_true z),if_neg q]; exact .cons hw (ih (dj.mp hn).2)
end
theorem adR(l:List (V×V))(k v:V):(pD l k v).length<=l.length + 1:=by
 induction l with
 | nil=>exact bf _
 | cons p r ih=>
  show(if jA p.1 k=true then(p.1,v)::r else p::pD r k v).length<=_
  by_cases q:jA p.1 k=true
  ·rw[if_pos q]; exact dw _
  ·rw[if_neg q]; exact bI ih
theorem adS(l:List (V×V))(k:V):(qY l k).length<=l.length:=by
 induction l with
 | nil=>exact bf _
 | cons p r ih=>
  show(if jA p.1 k=true then qY r k else p::qY r k).length<=_
  by_cases q:jA p.1 k=true
  ·rw[if_pos q]; exact ak ih (dw _)
  ·rw[if_neg q]; exact bI ih
theorem Rx{κ:Type}[DecidableEq κ]{prog:dO}{w:cY}{knd:PySem.KeyKind prog w κ}{a:aH}{kvs:List (κ×au)}(x:h.DictOf knd a kvs):(kvs.map (·.1)).Nodup:=x.elim fun J x=>x.elim fun J x=>x.elim fun J x=>x.2.2.2.2.2
theorem Qe{κ:Type}[DecidableEq κ]{prog:dO}{w:cY}{knd:PySem.KeyKind prog w κ}{a:aH}{kvs:List (κ×au)}(x:h.DictOf knd a kvs):Ai h a:=x.elim fun J x=>x.elim fun J x=>x.elim fun J x=>wV x.1 (jW x.2.2.1)
theorem adT(w:Wd B x)(ha:VX B x a ra)(hk:VX B x ky rk)(e:am8 x.st a ky=some o):WM B A x (call (.builtin "dict.pop") [ra,rk]) o:=
 abg e ha fun i p hp e=>gR e fun l hl e=>Uc e fun f e=>gR e fun u hu e=>bV e (by
  have D:=oH w hl hp
  obtain⟨y,z⟩:=p
  cases D with | mk e0 _ _ D len sys=>
  cases D.keyed f hk with | @mk κ _ knd fn kvs j e1 d r is inj kp back=>
  subst e1
  obtain⟨rv,e2,hr⟩:=(r.at_ inj j).at_ hu
  have hz:l.length<=sizeLine:=ak len jw
  cases(show z=none from(w.sr.obj (wQ hl) hp).e)
  refine call_meetsIn F.slot_dict_pop d.typeIs F.entry_dict_pop (F.args_dict_pop_2 _ _) (meets_dict_pop_there _ _ is [] (.inl rfl) kp) ⟨kvs,rv,d,r.length▸hz,e2,fun h' hd' hs=>?_⟩
  have c:LC B x (x.st.set i (.dict (qY l (fn j)))) {x.s with heap:=h',toks:=x.s.toks + 1}:=.set w hp hs (vm hd') (Qe d) fun t=>⟨rfl,back hd' ((KR.del inj r j).tr t),ak (adS _ _) len⟩
  exact⟨c,hr.up c.ev fun e=>e.elim⟩)
theorem Ry(w:Wd B x){st':St}(ha:VX B x a ra)(hk:VX B x ky rk)(hv:VX B x v rv)(e:Ab x.st a ky v=some st'):bD (Mo B) A (setItem ra rk rv) (fun J=>LC B x st') (fun J J=>False) x.s:=
 abg e ha fun i p hp e=>gR e fun l hl e=>nH e fun f=>by
  have D:=oH w hl hp
  obtain⟨y,z⟩:=p
  cases D with | mk e0 _ _ D len sys=>
  cases D.keyed ⟨f.1,f.2.1⟩ hk with | @mk κ _ knd fn kvs j e1 d r is inj kp back=>
  subst e1
  have hz:l.length<=sizeLine:=ak len jw
  cases(show z=none from(w.sr.obj (wQ hl) hp).e)
  exact wpAny_setItem_pairs is d (fun h' hd' hs=>.set w hp hs (vm hd') (Qe d) fun t=>⟨rfl,back hd' (KR.set inj (r.tr t) (Rx d) j (hv.tr t)),ak (adR _ _ _) f.2.2⟩) (r.length▸hz)
end
section
variable{p:Pl}{z:aH->Prop}{x:fK}{n:Nat}{fr:Fm}{X:Ex}{Q:Po}{o:V×St}
theorem WT.Qg{t:Sem au}(C:Cx p n fr x)(h:WM p.B p.A x t o)(q:Q o.1 o.2):WT p z x t (PV p.B Q) X:=
 .of (je.of (cj h (fun J J l=>.mk l.c.ev l.c.wd (C.lk (y:=⟨x.g,o.2,_⟩) l.c.ev) ⟨o.1,l.r,q⟩) fun J J e=>e.elim))
end
end
section
open PySem.SeqAt
section
variable{A:cI}{s s':aB}{E:au->aB->Prop}{M:jC}
theorem aak{c:Code}{v:au->Bool}{id:String}(h:∀(M:jC) self p s,Sem.wp M ⟨c,none,none,[],none⟩ (mO self) (fun b J J=>b=false) (fun J J J=>False) p s=((v self && rP.contains id || false)=false))(hi:rP.contains id=false):Nd c:=fun M self p s=>by
 rw[h,hi,Br]; rfl
theorem FZ{v:au}{Q:Bool->aB->Prop}(h:Q false s):je M A (mO v) Q E s:=by
 unfold mO
 refine aP (abe fun st J hc=>bL ?_)
 exact(congrArg (fun b=>Q b s) (List.any_eq_false.mpr fun x hx=>qO.mp ((rY _).symm.trans (hc x hx M v x.2 s)))).mpr h
theorem JQ{a:aH}{o:Obj}{b:Array UInt8}{Q:Unit->aB->Prop}(ho:s.heap.get? a=some o)(hd:o.data=.bytearray b 0)(h:Q () s):je M A (oY (.ref a)) Q E s:=by
 unfold oY
 refine aP (aP (FZ ?_))
 refine aP (.of ?_)
 unfold Builtin.Bytes.exportsOf
 refine aq (mR ho ?_)
 rw[hd]
 exact aJ (bL (bL h))
theorem Qh{a:aH}{b:Array UInt8}{f:Array UInt8->Array UInt8}{Q:Unit->aB->Prop}(ho:s.heap.get? a=some {cls:=.type "bytearray",data:=.bytearray b 0})(hz:(f b).size<=sizeLine)
  (h:∀ h',h'.get? a=some {cls:=.type "bytearray",data:=.bytearray (f b) 0}->dZ a s.heap h'->Q () {s with heap:=h'}):bD M A (tW (.ref a) f) Q E s:=by
 show bD _ _ (updateBytearray a f) _ _ _
 unfold updateBytearray
 refine aq (mR ho ?_)
 show bD _ _ (update a (xY f) >>= fun J=>lookBehind a) _ _ _
 refine aq (wpAny_update ho ?_)
 have h2:(s.heap.update a (xY f)).get? a=some {cls:=.type "bytearray",data:=.bytearray (f b) 0}:=jf (xY f) ho rfl
 refine wpAny_lookBehind h2 ?_ (h _ h2 (jO ..))
 show(if(f b).size > sizeLine then some "bytearray:memory" else none)=none
 rw[if_neg (gK.mpr hz)]
theorem uI:Slot "bytearray" "extend" "bytearray.extend":=
 .of (owner:="bytearray") (n:="extend") (by rw[cP,bO]; kernel_rfl) (by decide +kernel) (by decide +kernel) (by decide +kernel)
  (by first | exact .inl (by decide +kernel) | exact .inr (by decide +kernel)) (by rw[j7]; kernel_rfl)
theorem JR:entryFor table "bytearray.extend"=some dW.«bytearray.extend»:=by first | exact entryFor_of_fast (by kernel_rfl) | exact xZ (by kernel_rfl)
theorem Lp(v x:au):argsOk "bytearray.extend" ⟨[v,x],[]⟩:=by first | exact abv (by kernel_rfl) | kernel_rfl | (unfold argsOk; kernel_rfl)
theorem iU:typeLookup (.type "bytes") "__buffer__"=pure (some (.builtin "bytes.__buffer__")):=by rw[cP,bO]; kernel_rfl
theorem wY{m:List UInt8}{t:Tok}{Q:Bool->aB->Prop}(h:Q true s):bD M A (iJ (.bytes m.toArray t) "__buffer__") Q E s:=by
 have hT:s.TypeIs (.bytes m.toArray t) "bytes":=PySem.W.typeIs_bytes _ _ _
 unfold iJ
 refine aq (cQ hT iU ?_)
 dsimp only
 have e:("bytes.__buffer__".endsWith ("."++"__buffer__"))=true:=by decide +kernel
 have e2:"bytes.__buffer__".dropRight ("__buffer__".length + 1)="bytes":=by decide +kernel
 rw[e,e2]
 exact lV hT F.bm_sub h
theorem Am:typeLookup (.type "bytes") "__release_buffer__"=pure none:=by rw[cP,bO]; kernel_rfl
theorem Ga:typeLookup (.type "bytearray") "__release_buffer__"=pure (some (.builtin "bytearray.__release_buffer__")):=by rw[cP,bO]; kernel_rfl
theorem X8:isSubtype (.type "bytearray") (.type "bytearray")=pure true:=by rw[j7]; kernel_rfl
theorem Hu{m:List UInt8}{t:Tok}{Q:Bool->aB->Prop}(h:Q false s):bD M A (ju (.bytes m.toArray t)) Q E s:=by
 have hT:s.TypeIs (.bytes m.toArray t) "bytes":=PySem.W.typeIs_bytes _ _ _
 unfold ju iJ
 exact aq (aq (cQ hT Am (aJ (aJ h))))
theorem Rz{id:String}{full:Bool}{m:List UInt8}{t:Tok}{Q:Option (Array UInt8)->aB->Prop}(h:Q (some m.toArray) s):bD M A (j8 id (.bytes m.toArray t) full) Q E s:=by
 have hT:s.TypeIs (.bytes m.toArray t) "bytes":=PySem.W.typeIs_bytes _ _ _
 unfold j8
 refine aq (cQ hT iU ?_)
 dsimp only
 refine aq (wY ?_)
 refine dI rfl ?_
 refine aq (cQ hT iU ?_)
 refine aq (Hu ?_)
 refine dI rfl ?_
 refine aq ?_
 exact aJ (aJ h)
theorem Hv{id:String}{m:List UInt8}{t:Tok}{Q:Option (Array UInt8×Option au)->aB->Prop}(h:Q (some (m.toArray,none)) s):bD M A (rQ id (.bytes m.toArray t) 0) Q E s:=by
 have hT:s.TypeIs (.bytes m.toArray t) "bytes":=PySem.W.typeIs_bytes _ _ _
 unfold rQ Builtin.Bytes.takeBuffer?
 refine aq (wN ?_)
 refine aq (cQ hT iU ?_)
 refine aq (wY ?_)
 refine dI rfl ?_
 refine aq (cQ hT iU ?_)
 refine aq (Rz ?_)
 exact aJ (aJ h)
theorem RD{a:aH}{l m:List UInt8}{Q:Fin->aB->Prop}(ho:s.heap.get? a=some {cls:=.type "bytearray",data:=.bytearray l.toArray 0})(hz:l.length + m.length<=sizeLine)
  (h:∀ h',h'.get? a=some {cls:=.type "bytearray",data:=.bytearray (l++m).toArray 0}->dZ a s.heap h'->Q (.done (.ret .none)) {s with heap:=h'}):
  je M A (do
   if !m.toArray.isEmpty then oY (.ref a)
   tW (.ref a) (·++m.toArray)
   ret .none) Q E s:=by
 have fin:je M A (do tW (.ref a) (·++m.toArray); ret .none) Q E s:=by
  refine bY (Qh ho (by rw[Array.size_append]; exact hz) fun h' q r=>.of (aJ (h h' (q.trans (by rw[jM])) r)))
 refine pN (fun J=>aP (JQ ho rfl fin)) fun J=>fin
theorem Yb{prog:dO}{w:cY}{a:aH}{l m:List UInt8}{t:Tok}{Q:au->aB->Prop}(ho:s.heap.get? a=some {cls:=.type "bytearray",data:=.bytearray l.toArray 0})(hz:l.length + m.length<=sizeLine)
  (h:∀ h',h'.get? a=some {cls:=.type "bytearray",data:=.bytearray (l++m).toArray 0}->dZ a s.heap h'->Q .none {s with heap:=h'}):
  je (model prog w) A (call (.builtin "bytearray.extend") [.ref a,.bytes m.toArray t]) Q E s:=by
 have hT:s.TypeIs (.bytes m.toArray t) "bytes":=PySem.W.typeIs_bytes _ _ _
 have hS:s.TypeIs (.ref a) "bytearray":=⟨_,ho,rfl⟩
 refine pF (uD uI.plain (aak (v:=nA (.ref a)) (id:="bytearray.extend") (fun J J J J=>by with_unfolding_all rfl) (by decide +kernel)) JR (.of (uI.check _ _ _ _ _ _ _ _ hS (Lp _ _) ?_)))
 unfold dW.«bytearray.extend»
 refine bY (bJ (a:=(.ref a,.bytes m.toArray t)) rfl ?_)
 refine bY (cQ hT iU ?_)
 refine pN (fun J=>?_) fun q=>nomatch q
 refine aP (Fw ?_)
 refine bY ?_
 unfold rm Builtin.Bytes.payload?
 refine aq (aq (mR ho ?_))
 refine aJ (aJ ?_)
 refine bY (Hv ?_)
 refine pN (fun J=>?_) fun q=>nomatch q
 exact RD ho hz fun h' q r=>h h' q r
end
section
variable{A:cI}{s s':aB}{E:au->aB->Prop}{prog:dO}{w:cY}
theorem adU:mroOf (.type "bytearray")=pure [.type "bytearray",.type "object"]:=by rw[mroOf_type]; kernel_rfl
theorem Oz:typeLookup (.type "bytearray") "__new__"=pure (some (.builtin "bytearray.__new__")):=by rw[cP,bO]; kernel_rfl
theorem RG:Slot "bytearray" "__init__" "bytearray.__init__":=
 .of (owner:="bytearray") (n:="__init__") (by rw[cP,bO]; kernel_rfl) (by decide +kernel) (by decide +kernel) (by decide +kernel)
  (by first | exact .inl (by decide +kernel) | exact .inr (by decide +kernel)) (by rw[j7]; kernel_rfl)
theorem abw:TypeCalled "bytearray" "bytearray.__new__" "bytearray.__init__":=
 ⟨by decide +kernel,by decide +kernel,⟨_,_,adU⟩,madeBy_type adU Oz (by decide +kernel),by decide +kernel,by rw[j7]; kernel_rfl,RG⟩
theorem UW:checkTypeCall "bytearray" ⟨[],[]⟩=pure ():=by kernel_rfl
theorem Yc:checkBuiltinCall "bytearray.__new__" ⟨[.type "bytearray"],[]⟩=pure ():=by kernel_rfl
theorem RJ:entryFor table "bytearray.__new__"=some dW.«list.__new__»:=Bx (id':="list.__new__") (by kernel_rfl) (by decide +kernel) (by decide +kernel) (by kernel_rfl)
theorem OJ:entryFor table "bytearray.__init__"=some dW.«bytearray.__init__»:=by first | exact entryFor_of_fast (by kernel_rfl) | exact xZ (by kernel_rfl)
theorem Ge:plainId "bytearray.__new__"=true:=by decide +kernel
theorem ahD:Builtin.Bytes.bindOptional "bytearray.__init__" "bytearray" ["source","encoding","errors"] [] []=pure [none,none,none]:=by kernel_rfl
theorem RK(v:au):argsOk "bytearray.__init__" ⟨[v],[]⟩:=by first | exact abv (by kernel_rfl) | kernel_rfl | (unfold argsOk; kernel_rfl)
set_option maxRecDepth 1000000 in
set_option maxHeartbeats 4000000 in
theorem adV:("bytearray.__new__".splitOn ".__new__").headD ""="bytearray":=by simp +decide [String.splitOn,String.splitOnAux]
theorem U0{Q₁:au->aB->Prop}
  (h:Q₁ (.ref s.heap.objs.size) {s with heap:=s.heap.push {cls:=.type "bytearray",data:=.bytearray #[]}}):
  rZ (model prog w) A (.call (.builtin "bytearray.__new__") ⟨[.type "bytearray"],[]⟩) (wants Q₁ E) s:=by
 refine pK ?_
 show bD _ A.in1 (do checkBuiltinCall "bytearray.__new__" ⟨[.type "bytearray"],[]⟩; again (.builtin "bytearray.__new__" ⟨[.type "bytearray"],[]⟩)) _ _ s
 refine aq (bJ Yc (aJ ⟨sy Ge _,codeAny_builtin_stack RJ rfl fun p st=>?_⟩))
 rw[jx Ge _]
 have hsub:=X8
 have hown:=adV
 obtain⟨hp,g,d,tk,os⟩:=s
 simp only[hown]
 wp_walk
 exact h
theorem Dn{a:aH}{M:jC}{Q:Bool->aB->Prop}(hS:s.TypeIs (.ref a) "bytearray")(h:Q false s):bD M A (ju (.ref a)) Q E s:=by
 unfold ju iJ
 refine aq (aq (cQ hS Ga ?_))
 have e:("bytearray.__release_buffer__".endsWith ("."++"__release_buffer__"))=true:=by decide +kernel
 have e2:"bytearray.__release_buffer__".dropRight ("__release_buffer__".length + 1)="bytearray":=by decide +kernel
 dsimp only
 rw[e,e2]
 exact lV hS X8 (aJ h)
theorem ahE{a:aH}{Q:au->aB->Prop}(ho:s.heap.get? a=some {cls:=.type "bytearray",data:=.bytearray #[] 0})
  (h:∀ h',h'.get? a=some {cls:=.type "bytearray",data:=.bytearray #[] 0}->dZ a s.heap h'->Q .none {s with heap:=h'}):
  je (model prog w) A (dW.«bytearray.__init__» ⟨[.ref a],[]⟩) (fun fin s'=>∃ v,fin=.done (.ret v)/\Q v s') E s:=by
 have hS:s.TypeIs (.ref a) "bytearray":=⟨_,ho,rfl⟩
 unfold dW.«bytearray.__init__»
 refine bY (Dn hS ?_)
 refine pN (fun q=>nomatch q) fun J=>?_
 refine bY (bJ ahD ?_)
 refine bY (bJ (a:=()) rfl ?_)
 refine bY (bJ (a:=()) rfl ?_)
 refine aP (aP (FZ ?_))
 refine aP (.of ?_)
 unfold Builtin.Bytes.exportsOf
 refine aq (mR ho ?_)
 refine aJ (bL ?_)
 refine pN (fun q=>absurd q (by decide)) fun J=>?_
 refine bY (Qh ho (by decide) fun h' q r=>?_)
 exact .of (aJ ⟨_,rfl,h h' q r⟩)
theorem abx{Q:au->aB->Prop}
  (h:∀ h',Kp s {s with heap:=h'}->s.heap.get? s.heap.objs.size=none->h'.get? s.heap.objs.size=some {cls:=.type "bytearray",data:=.bytearray #[] 0}->Q (.ref s.heap.objs.size) {s with heap:=h'}):
  je (model prog w) A (call (.type "bytearray") []) Q E s:=by
 have ft:=abw
 obtain⟨c,tl,hmro⟩:=ft.mro
 have hmade:=ft.made
 have hsub:=ft.sub
 refine pF (gM ?_)
 show je _ _ (callAny (.type "bytearray") _) _ _ _
 refine bL ⟨mU _ (by decide +kernel),aak (v:=nA (.type "bytearray")) (id:="type.__call__") (fun J J J J=>by with_unfolding_all rfl) (by decide +kernel),vZ F.entry_type_call ?_⟩
 rw[Around.under_plain (weight_type_call_type _ _ []) rfl]
 unfold dW.«type.__call__»
 dsimp only
 refine pN (fun q=>absurd q (by decide)) fun J=>?_
 refine pN (fun q=>absurd (ft.canCreate.symm.trans q) (by decide)) fun J=>?_
 refine bY (bJ UW ?_)
 refine bY (bJ hmro ?_)
 refine pN (fun q=>nomatch q) fun J=>?_
 refine bY (bJ hmade ?_)
 refine aP (bL ?_)
 have h0:s.heap.get? s.heap.objs.size=none:=fM
 have h1:(s.heap.push {cls:=.type "bytearray",data:=.bytearray #[]}).get? s.heap.objs.size=some {cls:=.type "bytearray",data:=.bytearray #[]}:=bK _ rfl
 refine aP (cO (pF (.of (U0 ?_))))
 refine bY (lV (s:={s with heap:=s.heap.push {cls:=.type "bytearray",data:=.bytearray #[]}}) ⟨_,h1,rfl⟩ hsub ?_)
 refine pN (fun q=>nomatch q) fun J=>?_
 refine aP (cO ?_)
 unfold callSpecial?
 refine bY (cQ (s:={s with heap:=s.heap.push {cls:=.type "bytearray",data:=.bytearray #[]}}) ⟨_,h1,rfl⟩ ft.init.lookup ?_)
 refine cO (bY (bJ (ft.init.bind _) ?_))
 refine aP (pF (uD ft.init.plain (aak (v:=nA (.ref s.heap.objs.size)) (id:="bytearray.__init__") (fun J J J J=>by with_unfolding_all rfl) (by decide +kernel)) OJ (.of (ft.init.check _ _ _ _ _ _ _ (s:={s with heap:=s.heap.push {cls:=.type "bytearray",data:=.bytearray #[]}}) ⟨_,h1,rfl⟩ (RK _) ?_))))
 let Qi:au->aB->Prop:=fun r s2=>r=n7/\(∃ h',s2={s with heap:=h'}/\h'.get? s.heap.objs.size=some {cls:=.type "bytearray",data:=.bytearray #[] 0}/\dZ s.heap.objs.size (s.heap.push {cls:=.type "bytearray",data:=.bytearray #[]}) h')
 have main:=ahE (prog:=prog) (w:=w) (A:=A.in1.in1) (Q:=Qi) (E:=E) (s:={s with heap:=s.heap.push {cls:=.type "bytearray",data:=.bytearray #[]}}) h1 fun h' q r=>⟨rfl,⟨h',rfl,q,r⟩⟩
 refine bT main (fun fin' s2 q=>?_) fun J J q=>q
 obtain⟨v,rfl,rfl,h',rfl,q1,q2⟩:=q
 exact bL (pN (fun q=>nomatch q) fun J=>bL (h h' (.mk' rfl fun b o e=>(q2.2 b (cB (d8 e))).trans (aW _ e)) h0 q1))
end
section
variable{A:cI}{s s':aB}{E:au->aB->Prop}{prog:dO}{w:cY}
theorem Lq:typeLookup (.type "bytes") "__bytes__"=pure (some (.builtin "bytes.__bytes__")):=by rw[cP,bO]; kernel_rfl
theorem RL:typeLookup (.type "int") "__bytes__"=pure none:=by rw[cP,bO]; kernel_rfl
theorem RM:typeLookup (.type "int") "__index__"=pure (some (.builtin "int.__index__")):=by rw[cP,bO]; kernel_rfl
theorem U3:typeLookup (.type "bytearray") "__bytes__"=pure none:=by rw[cP,bO]; kernel_rfl
theorem U4:typeLookup (.type "bytearray") "__index__"=pure none:=by rw[cP,bO]; kernel_rfl
theorem yC:typeLookup (.type "bytearray") "__buffer__"=pure (some (.builtin "bytearray.__buffer__")):=by rw[cP,bO]; kernel_rfl
theorem RN{a:aH}{M:jC}{Q:Bool->aB->Prop}(hT:s.TypeIs (.ref a) "bytearray")(h:Q true s):bD M A (iJ (.ref a) "__buffer__") Q E s:=by
 unfold iJ
 refine aq (cQ hT yC ?_)
 dsimp only
 have e:("bytearray.__buffer__".endsWith ("."++"__buffer__"))=true:=by decide +kernel
 have e2:"bytearray.__buffer__".dropRight ("__buffer__".length + 1)="bytearray":=by decide +kernel
 rw[e,e2]
 exact lV hT X8 h
theorem BX{α:Type}{M:jC}{c:Prop}[Decidable c]{a b:Sem α}{Q:α->aB->Prop}(hc:¬ c)(h:bD M A b Q E s):bD M A (if c then a else b) Q E s:=by
 rw[if_neg hc]; exact h
theorem BZ{M:jC}{x:au}{Q:Fin->aB->Prop}(h:Q (.done (.ret x)) s):bD M A (if(Value.type "bytes"==Value.type "bytes")=true then(do return ← ret x:Sem Fin) else(do
 rule "bytes.__new__.subclass"
 let held ← mkBytes (← rm x)
 let self ← if !typeHasDict (.type "bytes") then newObj (.type "bytes") (.prim held) else do
  let .ref d ← newDict | unsupported "internal:bytes.__new__"
  newObj (.type "bytes") (.prim held) (some d)
 if ← ju self then unsupported "bytes.__new__:own-__release_buffer__-on-a-subclass"
 ret self)) Q E s:=by
 refine bm_if_true (by decide) ?_
 exact aJ h
theorem JT{m:List UInt8}{t:Tok}{R:mQ->aB->Prop}(h:R (.ok (.ret (.bytes m.toArray t))) s):
 bD (model prog w) A.in1 (dW.«bytes.__new__» ⟨[.type "bytes",.bytes m.toArray t],[]⟩) (fun fin s'=>match fin with | .done f=>R (.ok f) s' | .again c'=>c'.quiet=true/\rZ (model prog w) A c' R s') (fun e s'=>R (.error e) s') s:=by
 have hT:s.TypeIs (.bytes m.toArray t) "bytes":=PySem.W.typeIs_bytes _ _ _
 unfold dW.«bytes.__new__»
 refine aq (bJ (a:=true) rfl ?_)
 refine dI rfl ?_
 refine aq (bJ F.bm_sub ?_)
 refine dI rfl ?_
 refine aq (bJ (F.bm_bind _) ?_)
 refine aq (bJ (a:=()) rfl ?_)
 refine aq (bJ (a:=()) rfl ?_)
 refine dI rfl ?_
 refine aq (cQ hT Lq ?_)
 refine aq (pZ ?_)
 refine aq (za hT ?_)
 refine bm_if_true (by decide) ?_
 exact BZ h
theorem O1{n:Int}{t:Tok}{R:mQ->aB->Prop}(h0:0<=n)(h1:n<=sizeLine)(h:R (.ok (.ret (.bytes (bQ n.toNat 0).toArray s.toks))) {s with toks:=s.toks + 1}):
 bD (model prog w) A.in1 (dW.«bytes.__new__» ⟨[.type "bytes",.int n t],[]⟩) (fun fin s'=>match fin with | .done f=>R (.ok f) s' | .again c'=>c'.quiet=true/\rZ (model prog w) A c' R s') (fun e s'=>R (.error e) s') s:=by
 have hT:s.TypeIs (.int n t) "int":=by first | exact typeIs_int _ _ _ | exact rfl | trivial
 unfold dW.«bytes.__new__»
 refine aq (bJ (a:=true) rfl ?_)
 refine dI rfl ?_
 refine aq (bJ F.bm_sub ?_)
 refine dI rfl ?_
 refine aq (bJ (F.bm_bind _) ?_)
 refine aq (bJ (a:=()) rfl ?_)
 refine aq (bJ (a:=()) rfl ?_)
 refine dI rfl ?_
 refine aq (cQ hT RL ?_)
 refine aq (aq (bJ (a:=none) rfl (aJ ?_)))
 refine dI rfl ?_
 refine aq (cQ hT RM ?_)
 refine dI rfl ?_
 refine aq (wN (bJ (rfl:asIndex (.int n t)=pure n) ?_))
 dsimp only
 have e0:sizeLine=16777216:=sizeLine_eq
 refine dI (by simp [Builtin.Bytes.fitsIndex]; omega) ?_
 refine BX (by omega) ?_
 refine BX (by omega) ?_
 refine dI (by simp [Builtin.Bytes.tooLong]; omega) ?_
 refine aq (pZ ?_)
 refine aq (wpAny_mkBytes ?_ (by simp; omega))
 rw[← List.toArray_replicate]
 exact BZ h
theorem RP{a:aH}{m:List UInt8}{R:mQ->aB->Prop}(ho:s.heap.get? a=some {cls:=.type "bytearray",data:=.bytearray m.toArray 0})(h1:m.length<=sizeLine)(h:R (.ok (.ret (.bytes m.toArray s.toks))) {s with toks:=s.toks + 1}):
 bD (model prog w) A.in1 (dW.«bytes.__new__» ⟨[.type "bytes",.ref a],[]⟩) (fun fin s'=>match fin with | .done f=>R (.ok f) s' | .again c'=>c'.quiet=true/\rZ (model prog w) A c' R s') (fun e s'=>R (.error e) s') s:=by
 have hT:s.TypeIs (.ref a) "bytearray":=⟨_,ho,rfl⟩
 unfold dW.«bytes.__new__»
 refine aq (bJ (a:=true) rfl ?_)
 refine dI rfl ?_
 refine aq (bJ F.bm_sub ?_)
 refine dI rfl ?_
 refine aq (bJ (F.bm_bind _) ?_)
 refine aq (bJ (a:=()) rfl ?_)
 refine aq (bJ (a:=()) rfl ?_)
 refine dI rfl ?_
 refine aq (cQ hT U3 ?_)
 refine aq (aq ?_)
 show bD _ _ (load a >>= _) _ _ _
 refine aq (mR ho ?_)
 refine aJ (aJ ?_)
 refine dI rfl ?_
 refine aq (cQ hT U4 ?_)
 refine bm_if_true rfl ?_
 first
  | show bD _ _ (j8 "bytes.__new__" (.ref a) true >>= _) _ _ _
  | (refine aq ?_; show bD _ _ (j8 "bytes.__new__" (.ref a) true >>= _) _ _ _)
 refine aq ?_
 unfold j8
 refine aq (cQ hT yC ?_)
 refine aq (RN hT ?_)
 refine dI rfl ?_
 refine aq (cQ hT yC ?_)
 refine aq (Dn hT ?_)
 refine dI rfl ?_
 unfold rm Builtin.Bytes.payload?
 refine aq (aq (aq (mR ho ?_)))
 refine aJ (aJ ?_)
 refine aJ ?_
 refine aq (pZ ?_)
 refine aq (wpAny_mkBytes ?_ (by simp; omega))
 first
  | exact BZ h
  | exact aq (BZ (aJ h))
theorem Ef{x:au}{Q:au->aB->Prop}
  (h:∀ R:mQ->aB->Prop,(∀ l t k h',(∀ b o,s.heap.get? b=some o->h'.get? b=some o)->Q (.bytes l t) {s with heap:=h',toks:=k}->R (.ok (.ret (.bytes l t))) {s with heap:=h',toks:=k})->
   rZ (model prog w) A.in1 (.call (.builtin "bytes.__new__") ⟨[.type "bytes",x],[]⟩) R s):bD (model prog w) A (call (.type "bytes") [x]) Q E s:=by
 refine callType_codes (Q₁:=fun obj c7=>c7.TypeIs obj "bytes"/\Q obj c7) F.bm_called (F.bm_typeCall _) F.entry_object_init (h _ fun l t k h' hk q=>⟨PySem.W.typeIs_bytes _ _ _,q⟩) fun obj c7 Di=>?_
 exact⟨Di.1,F.args_object_init_2 obj _,object_init_meets F.bm_called.init.lookup F.bm_called.made (by decide) prog w A.in1 _ c7 ⟨Di.1,rfl,Di.2⟩⟩
theorem Hw{y:au}{R:mQ->aB->Prop}(h:bD (model prog w) A.in1 (dW.«bytes.__new__» ⟨[.type "bytes",y],[]⟩) (fun fin s'=>match fin with | .done f=>R (.ok f) s' | .again c'=>c'.quiet=true/\rZ (model prog w) A c' R s') (fun e s'=>R (.error e) s') s):
  rZ (model prog w) A (.call (.builtin "bytes.__new__") ⟨[.type "bytes",y],[]⟩) R s:=by
 refine pK (show bD _ A.in1 (do checkBuiltinCall "bytes.__new__" ⟨[.type "bytes",y],[]⟩; again (.builtin "bytes.__new__" ⟨[.type "bytes",y],[]⟩)) _ _ s from ?_)
 refine aq (bJ (F.bm_newCall _) (aJ ⟨sy F.bm_plain _,pL F.bm_entry ?_⟩))
 rw[jx F.bm_plain _]
 exact h
end
section
variable{B:Bs}{A:cI}{x:fK}{a v:V}{ra:au}
theorem Yd(O:Ok B A x)(ha:VX B x a ra)(e:adg x.st a=some v):WL B A x (call (.type "bytes") [ra]) v:=by
 cases a with
 | int n=>exact nH e fun q=>ha.Hp fun t=>Ef fun R k=>Hw (O1 q.1 (fW q.2 (jQ.mpr jw)) (k _ _ _ _ (fun J J e=>e) (.tok O.wd.inv (.bytes _ _))))
 | bytes l=>exact bV e (ha.yt fun t=>Ef fun R k=>Hw (JT (k _ _ x.s.toks x.s.heap (fun J J e=>e) (.self O.wd.inv (.bytes _ _)))))
 | ref i=>
  exact gR e fun l hl e=>bV e (ha.Xy fun p hp=>by
   have q:=O.wd.sr.obj (Q8 hl) hp
   exact Ef fun R k=>Hw (RP q.o (ak q.len jw) (k _ _ _ _ (fun J J e=>e) (.tok O.wd.inv (.bytes _ _)))))
 | lst l=>
  exact gR e fun ns hn e=>nH e fun q=>(Sq.list (show Sq B x.g x.s.heap "list" l ra from ha.inv)).elim fun y z=>z.elim fun vs z=>z.1▸
   call_bytes_ints z.2.1 (Lk hn z.2.2.1) (fun i hi=>of_decide_eq_true (bx.mp q i hi)) (ak (z.2.2.1.length▸z.2.2.2:vs.length<=lim) jw) O.hand fun h' t k hk=>⟨.kp O.wd.inv (.mk' rfl hk),.bytes _ _⟩
 | _=>exact nn e
end
end
section
section
variable{lt:Nat->Nat->Bool}{N:Nat}
noncomputable def Rn(lt:Nat->Nat->Bool)(N:Nat){α:Type}:KasT α->(α->Prop)->Prop
 | .ret a,Q=>Q a
 | .ask i j k,Q=>i < N/\j < N/\Rn lt N (k (lt i j)) Q
theorem Ca{α β:Type}{f:α->KasT β}{Q:β->Prop}:∀ {t:KasT α},Rn lt N t (fun a=>Rn lt N (f a) Q)->Rn lt N (t.bind f) Q
 | .ret _,h=>h
 | .ask _ _ k,⟨h1,h2,h⟩=>⟨h1,h2,Ca (t:=k _) h⟩
structure ahF(lt:Nat->Nat->Bool):Prop where
 adW:∀ a b,lt a b=true->lt b a=false
 tr:∀ a b c,lt b a=false->lt c b=false->lt c a=false
theorem ahF.refl(L:ahF lt)(a:Nat):lt a a=false:=by
 cases h:lt a a with
 | false=>rfl
 | true=>exact(L.adW _ _ h).symm.trans h |>.symm▸rfl
noncomputable def Pm(N:Nat)(p:Array Nat):Prop:=p.Perm (fD N).toArray
noncomputable def gt(p:Array Nat)(i:Nat):Nat:=p.getD i 0
theorem Gf{p:Array Nat}{i:Nat}:gt p i=p[i]?.getD 0:=by
 unfold gt; rw[tZ]
theorem Pm.size{p:Array Nat}(h:Pm N p):p.size=N:=by
 have:=h.size_eq; simpa using this
theorem Pm.bd{p:Array Nat}(h:Pm N p){i:Nat}(hi:i < N):gt p i < N:=by
 have hi':i < p.size:=by rw[h.size]; exact hi
 have:gt p i=p[i]:=by rw[Gf,getElem?_pos p i hi']; rfl
 rw[this]
 have hm:p[i]∈p:=Array.getElem_mem hi'
 have:=h.mem_iff.mp hm
 simpa using this
theorem Pm.rev{p:Array Nat}(h:Pm N p)(i j:Nat):Pm N (vQ p i j):=(mirror_perm _ _ _ _).trans h
theorem Pm.bubble{p:Array Nat}(h:Pm N p)(i j:Nat):Pm N (bubble p i j):=(bubble_perm _ _ _).trans h
theorem Eh{p:Array Nat}(h:Pm N p){i j:Nat}(hj:j<=N)(k:Nat):gt (vQ p i j) k=if i<=k/\k < j then gt p (i + j - 1 - k) else gt p k:=by
 rw[Gf,Gf,Gf]
 show((mirror p i j ((j - i) / 2))[k]?).getD 0=_
 rw[getElem?_mirror_all (by rw[h.size]; exact hj)]
 split <;> rfl
theorem Qj{p:Array Nat}(h:Pm N p){k l:Nat}(hk:k < N)(hl:l<=k)(i:Nat):gt (bubble p k (k - l)) i=if i=l then gt p k else if l < i/\i<=k then gt p (i - 1) else gt p i:=by
 have e:k - (k - l)=l:=Nat.sub_sub_self hl
 rw[Gf,Gf,Gf,Gf,getElem?_bubble (by rw[h.size]; exact hk) _ (jF k l),e]
 split
 ·rfl
 ·split <;> rfl
noncomputable def Sd(lt:Nat->Nat->Bool)(p:Array Nat)(n:Nat):Prop:=∀ i j,i<=j->j < n->lt (gt p j) (gt p i)=false
noncomputable def Ds(lt:Nat->Nat->Bool)(p:Array Nat)(n:Nat):Prop:=∀ i j,i<=j->j < n->lt (gt p i) (gt p j)=false
noncomputable def Eqs(lt:Nat->Nat->Bool)(p:Array Nat)(n q:Nat):Prop:=∀ i j,n<=i + (q + 1)->i < n->n<=j + (q + 1)->j < n->lt (gt p j) (gt p i)=false
variable(L:ahF lt)
include L
theorem Sd.ext{p:Array Nat}{n:Nat}(h:Sd lt p n)(h1:1<=n)(q:lt (gt p n) (gt p (n - 1))=false):Sd lt p (n + 1):=fun i j hij hj=>by
 by_cases e:j=n
 ·subst e
  by_cases e2:i=j
  ·subst e2; exact L.refl _
  ·exact L.tr _ _ _ (h i (j - 1) (by lia) (by lia)) q
 ·exact h i j hij (by lia)
theorem Ds.ext{p:Array Nat}{n:Nat}(h:Ds lt p n)(h1:1<=n)(q:lt (gt p (n - 1)) (gt p n)=false):Ds lt p (n + 1):=fun i j hij hj=>by
 by_cases e:j=n
 ·subst e
  by_cases e2:i=j
  ·subst e2; exact L.refl _
  ·exact L.tr _ _ _ q (h i (j - 1) (by lia) (by lia))
 ·exact h i j hij (by lia)
theorem Ye{p:Array Nat}(hp:Pm N p){Q:Nat->Prop}:∀(f n:Nat),1<=n->n + f<=N->Sd lt p n->
  (∀ m,n<=m->m<=n + f->Sd lt p m->(m < n + f->lt (gt p m) (gt p (m - 1))=true)->Q m)->Rn lt N (kas_asc p f n) Q
 | 0,n,_,_,hs,k=>k n (bf _) (bf _) hs fun h=>absurd h (f9 _)
 | f + 1,n,h1,h2,hs,k=>by
  refine⟨hp.bd (by lia),hp.bd (by lia),?_⟩
  show Rn lt N (if lt (gt p n) (gt p (n - 1))=true then .ret n else kas_asc p f (n + 1)) Q
  cases c:lt (gt p n) (gt p (n - 1)) with
  | true=>exact k n (bf _) (by lia) hs fun J=>c
  | false=>exact Ye hp f (n + 1) (by lia) (by lia) (hs.ext L h1 c) fun m a b d e=>k m (by lia) (by lia) d fun h=>e (by lia)
omit L in
theorem akG{n q k:Nat}(hq:q + 1<=n)(h:n - (q + 1)<=k/\k < n):n<=n - (q + 1) + n - 1 - k + (q + 1)/\n - (q + 1) + n - 1 - k < n/\n<=k + (q + 1):=⟨by lia,by lia,by lia⟩
theorem U5{p:Array Nat}(hp:Pm N p){n q:Nat}(hn:n<=N)(hq:q + 1<=n)(he:Eqs lt p n q)(k:Nat):lt (gt (vQ p (n - (q + 1)) n) k) (gt p k)=false/\lt (gt p k) (gt (vQ p (n - (q + 1)) n) k)=false:=by
 rw[Eh hp hn]
 by_cases h:n - (q + 1)<=k/\k < n
 ·rw[if_pos h]
  have z:=akG hq h
  exact⟨he _ _ z.2.2 h.2 z.1 z.2.1,he _ _ z.1 z.2.1 z.2.2 h.2⟩
 ·rw[if_neg h]
  exact⟨L.refl _,L.refl _⟩
theorem Ds.rev{p:Array Nat}(hp:Pm N p){n q m:Nat}(hn:n<=N)(hq:q + 1<=n)(he:Eqs lt p n q)(h:Ds lt p m):Ds lt (vQ p (n - (q + 1)) n) m:=fun i j hij hj=>by
 obtain⟨a1,a2⟩:=U5 L hp hn hq he i
 obtain⟨b1,b2⟩:=U5 L hp hn hq he j
 exact L.tr _ _ _ b2 (L.tr _ _ _ (h i j hij hj) a1)
theorem J4{Q:Array Nat×Nat×Nat->Prop}:∀(f:Nat) (p:Array Nat) (n q:Nat),Pm N p->q + 1<=n->n + f<=N->Ds lt p n->Eqs lt p n q->
  (∀ p' m q',Pm N p'->n<=m->m<=N->q' + 1<=m->Ds lt p' m->Eqs lt p' m q'->Q (p',m,q'))->Rn lt N (kas_desc f p n q) Q
 | 0,p,n,q,hp,h1,h2,hd,he,k=>k p n q hp (bf _) (by lia) h1 hd he
 | f + 1,p,n,q,hp,h1,h2,hd,he,k=>by
  refine⟨hp.bd (by lia),hp.bd (by lia),?_⟩
  have one:∀ p':Array Nat,Eqs lt p' (n + 1) 0:=fun p' i j a b c d=>by
   have:i=j:=by lia
   subst this; exact L.refl _
  show Rn lt N (if lt (gt p n) (gt p (n - 1))=true then(if q > 0 then kas_desc f (vQ p (n - (q + 1)) n) (n + 1) 0 else kas_desc f p (n + 1) 0)
   else .ask (gt p (n - 1)) (gt p n) fun d=>if d=true then .ret (p,n,q) else kas_desc f p (n + 1) (q + 1)) Q
  cases c:lt (gt p n) (gt p (n - 1)) with
  | true=>
   have hd':Ds lt p (n + 1):=hd.ext L (by lia) (L.adW _ _ c)
   rw[if_pos rfl]
   split
   ·exact J4 f _ (n + 1) 0 (hp.rev _ _) (by lia) (by lia) (hd'.rev L hp (by lia) h1 he) (one _) fun p' m q' a b c d e g=>k p' m q' a (by lia) c d e g
   ·exact J4 f _ (n + 1) 0 hp (by lia) (by lia) hd' (one _) fun p' m q' a b c d e g=>k p' m q' a (by lia) c d e g
  | false=>
   rw[if_neg (by decide)]
   refine⟨hp.bd (by lia),hp.bd (by lia),?_⟩
   show Rn lt N (if lt (gt p (n - 1)) (gt p n)=true then .ret (p,n,q) else kas_desc f p (n + 1) (q + 1)) Q
   cases d:lt (gt p (n - 1)) (gt p n) with
   | true=>exact k p n q hp (bf _) (by lia) h1 hd he
   | false=>
    refine J4 f p (n + 1) (q + 1) hp (by lia) (by lia) (hd.ext L (by lia) d) (fun i j a1 a2 a3 a4=>?_) fun p' m q' a b c d e g=>k p' m q' a (by lia) c d e g
    by_cases ei:i=n
    ·subst ei
     by_cases ej:j=i
     ·subst ej; exact L.refl _
     ·exact L.tr _ _ _ d (he (i - 1) j (by lia) (by lia) (by lia) (by lia))
    ·by_cases ej:j=n
     ·subst ej; exact L.tr _ _ _ (he i (j - 1) (by lia) (by lia) (by lia) (by lia)) c
     ·exact he i j (by lia) (by lia) (by lia) (by lia)
theorem U6{p:Array Nat}{n:Nat}(hp:Pm N p)(h1:1<=n)(h2:n<=N)(hd:Ds lt p n){Q:Nat×Array Nat->Prop}(k:∀ m p',Pm N p'->1<=m->m<=N->Sd lt p' m->Q (m,p')):Rn lt N (kas_tail3 n N p) Q:=by
 refine Ca (Ye L (hp.rev 0 n) _ _ h1 (by lia) (fun i j hij hj=>?_) fun m a b c J=>k m _ (hp.rev 0 n) (by lia) (by lia) c)
 rw[Eh hp h2,Eh hp h2,if_pos ⟨cL _,hj⟩,if_pos ⟨cL _,aA hij hj⟩]
 exact hd _ _ (Nat.sub_le_sub_left hij _) (aA (jF _ _) (by rw[fU]; exact Nat.pred_lt (gq h1)))
theorem Ji{p:Array Nat}{n:Nat}(hp:Pm N p)(h1:1<=n)(h2:n + 1<=N)(hd:Ds lt p (n + 1)){Q:Nat×Array Nat->Prop}(k:∀ m p',Pm N p'->1<=m->m<=N->Sd lt p' m->Q (m,p')):Rn lt N (zc n N p) Q:=by
 refine Ca (J4 L _ _ _ _ hp (by lia) (by lia) hd (fun i j a b c d=>?_) fun p' m q' a b c d e g=>?_)
 ·have:i=j:=by lia
  subst this; exact L.refl _
 ·show Rn lt N (if q' > 0 then kas_tail3 m N (vQ p' (m - (q' + 1)) m) else kas_tail3 m N p') Q
  split
  ·exact U6 L (a.rev _ _) (by lia) c (e.rev L a c d g) k
  ·exact U6 L a (by lia) c e k
set_option tactic.hygienic true in
theorem adX{p:Array Nat}(hp:Pm N p)(h1:1<=N){Q:Nat×Array Nat->Prop}(k:∀ m p',Pm N p'->1<=m->m<=N->Sd lt p' m->Q (m,p')):Rn lt N (kas_count N p) Q:=by
 refine Ca (Ye L hp _ _ (bf _) (by lia) (fun i j a b=>?_) fun n a b c d=>?_)
 ·have:i=j:=by lia
  subst this; exact L.refl _
 ·show Rn lt N (if(n==N)=true then .ret (n,p) else if n > 1 then .ask (gt p 0) (gt p (n - 1)) fun c=>if c=true then .ret (n,p) else zc n N (vQ p 0 n)
  else zc n N p) Q
  split
  ·exact k n p hp a (by lia) c
  ·rename_i hn
   have hn':n≠N:=by simpa using hn
   have dn:=d (by lia)
   split
   ·refine⟨hp.bd (by lia),hp.bd (by lia),?_⟩
    show Rn lt N (if lt (gt p 0) (gt p (n - 1))=true then .ret (n,p) else zc n N (vQ p 0 n)) Q
    cases e:lt (gt p 0) (gt p (n - 1)) with
    | true=>exact k n p hp a (by lia) c
    | false=>
     refine Ji L (hp.rev _ _) a (by lia) (Ds.ext L (fun i j x y=>?_) a ?_) k
     ·rw[Eh hp (by lia),Eh hp (by lia),if_pos (by lia),if_pos (by lia)]
      exact c _ _ (by lia) (by lia)
     ·rw[Eh hp (by lia),Eh hp (by lia),if_pos (by lia),if_neg (by lia)]
      have:0 + n - 1 - (n - 1)=0:=by lia
      rw[this]
      exact L.tr _ _ _ (L.adW _ _ dn) e
   ·have:n=1:=by lia
    subst this
    exact Ji L hp (bf _) (by lia) (Ds.ext L (fun i j x y=>by
     have:i=j:=by lia
     subst this; exact L.refl _) (bf _) (L.adW _ _ dn)) k
omit L in
theorem akH{l r:Nat}(h:l<=r):l<=(l + r) / 2:=by lia
omit L in
theorem akI{l r:Nat}(h:l < r):(l + r) / 2 < r:=by lia
theorem Lr{p:Array Nat}{k:Nat}(hp:Pm N p)(hk:k < N)(hs:Sd lt p k){Q:Nat->Prop}(q:∀ l,l<=k->(∀ i,i < l->lt (gt p k) (gt p i)=false)->(∀ i,l<=i->i < k->lt (gt p i) (gt p k)=false)->Q l):
  ∀(f l r:Nat),l<=r->r<=k->r - l<=f->(∀ i,i < l->lt (gt p k) (gt p i)=false)->(∀ i,r<=i->i < k->lt (gt p i) (gt p k)=false)->Rn lt N (CZ p k f l r) Q
 | 0,l,r,h1,h2,h3,h4,h5=>q l (ak h1 h2) h4 fun i a b=>h5 i (ak (Nat.le_of_sub_eq_zero (Nat.le_zero.mp h3)) a) b
 | f + 1,l,r,h1,h2,h3,h4,h5=>by
  have m1:=akH h1
  have m2:= @akI l r
  show Rn lt N (if l ≥ r then .ret l else .ask (gt p k) (gt p ((l + r) / 2)) fun c=>if c=true then CZ p k f l ((l + r) / 2) else CZ p k f ((l + r) / 2 + 1) r) Q
  generalize (l + r) / 2=m at m1 m2
  by_cases h:l ≥ r
  ·rw[if_pos h]; exact q l (ak h1 h2) h4 fun i a b=>h5 i (ak h a) b
  ·rw[if_neg h]
   have m2:=m2 (Nat.lt_of_not_le h)
   have mk:=aK m2 h2
   refine⟨hp.bd hk,hp.bd (aG mk hk),?_⟩
   show Rn lt N (if lt (gt p k) (gt p m)=true then CZ p k f l m else CZ p k f (m + 1) r) Q
   cases c:lt (gt p k) (gt p m) with
   | true=>exact Lr hp hk hs q f l m m1 (bH mk) (cX (aK (Nat.sub_lt_sub_right m1 m2) h3)) h4 fun i a b=>L.tr _ _ _ (L.adW _ _ c) (hs _ _ a b)
   | false=>exact Lr hp hk hs q f (m + 1) r m2 h2 (ak (Nat.sub_le_sub_left (bI m1) r) (Nat.pred_le_pred h3)) (fun i a=>L.tr _ _ _ (hs i m (cX a) mk) c) h5
theorem adY{Q:Array Nat->Prop}(q:∀ p,Pm N p->Sd lt p N->Q p):∀(f:Nat) (p:Array Nat) (k:Nat),Pm N p->1<=k->k + f=N->Sd lt p k->Rn lt N (kas_bin f p k) Q
 | 0,p,k,hp,_,h,hs=>q p hp (by have:k=N:=h; rw[← this]; exact hs)
 | f + 1,p,k,hp,h1,h,hs=>by
  have kN:k < N:=h▸iG (iQ f)
  refine Ca (Lr L hp kN hs (fun l hl ha hb=>?_) k 0 k (cL k) (bf k) (jF k 0) (fun i hi=>(kW i hi).elim) fun i a b=>absurd b (gK.mpr a))
  refine adY q f _ (k + 1) (hp.bubble _ _) (bI (cL k)) ((eF k f).trans h) fun i j hij hj=>?_
  rw[Qj hp kN hl,Qj hp kN hl]
  by_cases ei:i=l
  ·rw[if_pos ei]
   by_cases ej:j=l
   ·rw[if_pos ej]; exact L.refl _
   ·rw[if_neg ej,if_pos (by lia)]; exact hb _ (by lia) (by lia)
  ·rw[if_neg ei]
   by_cases ej:j=l
   ·rw[if_pos ej,if_neg (by lia)]; exact ha _ (by lia)
   ·rw[if_neg ej]
    repeat' split
    all_goals exact hs _ _ (by lia) (by lia)
theorem ahG(h1:1<=N){Q:Array Nat->Prop}(q:∀ p,Pm N p->Sd lt p N->Q p):Rn lt N (kas_sort N) Q:=by
 refine Ca (adX L (Array.Perm.refl _) h1 fun m p hp a b c=>?_)
 show Rn lt N (if m < N then kas_bin (N - max m 1) p (max m 1) else .ret p) Q
 have e:max m 1=m:=by lia
 rw[e]
 split
 ·exact adY L q _ _ _ hp a (by lia) c
 ·have:m=N:=by lia
  exact q p hp (this▸c)
end
theorem aal{a b:List Nat×Int}:ltK a b=true↔a.1 < b.1∨(a.1=b.1/\a.2 < b.2):=by
 unfold ltK
 rw[tH,aL,decide_eq_true_iff,decide_eq_true_iff,decide_eq_true_iff]
theorem Hy{a b:List Nat×Int}:ltK a b=false↔b.1 < a.1∨(b.1=a.1/\b.2<=a.2):=by
 refine(qO.trans (not_congr aal)).trans ⟨fun h=>?_,fun h q=>?_⟩
 ·by_cases q:b.1 < a.1
  ·exact .inl q
  ·have e:=List.le_antisymm (List.not_lt.mp q) (List.not_lt.mp fun z=>h (.inl z))
   exact .inr ⟨e.symm,dh.mp fun z=>h (.inr ⟨e,z⟩)⟩
 ·rcases h with h | ⟨e,h⟩
  ·rcases q with q | q
   ·exact lU _ (List.lt_trans h q)
   ·exact lU _ (q.1▸h)
  ·rcases q with q | q
   ·exact lU _ (e▸q)
   ·exact absurd q.2 (dh.mpr h)
theorem U7(a b:List Nat×Int)(h:ltK a b=true):ltK b a=false:=Hy.mpr ((aal.mp h).imp id fun q=>⟨q.1,lg q.2⟩)
theorem adZ(a b c:List Nat×Int)(h1:ltK b a=false)(h2:ltK c b=false):ltK c a=false:=by
 refine Hy.mpr ?_
 rcases Hy.mp h1 with x | x <;> rcases Hy.mp h2 with y | y
 ·exact .inl (List.lt_trans x y)
 ·exact .inl (y.1▸x)
 ·exact .inl (x.1▸y)
 ·exact .inr ⟨x.1.trans y.1,fW x.2 y.2⟩
theorem ad0{a b:List Nat×Int}(h1:ltK a b=false)(h2:ltK b a=false):a=b:=by
 have irr:∀ {x y:List Nat},x < y->y < x->False:=fun h h'=>lU _ (List.lt_trans h h')
 rcases Hy.mp h1 with x | x <;> rcases Hy.mp h2 with y | y
 ·exact(irr x y).elim
 ·exact absurd (y.1▸x) (lU _)
 ·exact absurd (x.1▸y) (lU _)
 ·exact Prod.ext y.1 (Int.le_antisymm y.2 x.2)
theorem wZ(x:V)(l:List V):(z9 x l).Perm (x::l):=by
 induction l with
 | nil=>exact .refl _
 | cons y r ih=>
  show(if ltB x y=true then x::y::r else y::z9 x r).Perm _
  by_cases q:ltB x y=true
  ·rw[if_pos q]
  ·rw[if_neg q]; exact(ih.cons y).trans (.swap x y r)
theorem Ls(l acc:List V):(l.foldl (fun a x=>z9 x a) acc).Perm (acc++l):=by
 induction l generalizing acc with
 | nil=>rw[bN]; exact .refl _
 | cons x l ih=>exact(ih (z9 x acc)).trans (((wZ x acc).append_right l).trans (List.perm_middle (l₁:=acc) (a:=x) (l₂:=l)).symm)
theorem Ei(l:List V):(sH l).Perm l:=Ls l []
noncomputable def leV(a b:V):Prop:=ltB b a=false
theorem U8(x:V){l:List V}(h:l.Pairwise leV):(z9 x l).Pairwise leV:=by
 induction l with
 | nil=>exact qj _ _
 | cons y r ih=>
  have h:=jl.mp h
  show(if ltB x y=true then x::y::r else y::z9 x r).Pairwise leV
  by_cases q:ltB x y=true
  ·rw[if_pos q]
   have xy:leV x y:=U7 _ _ q
   exact jl.mpr ⟨fun z hz=>by
    cases hz with
    | head=>exact xy
    | tail _ hz=>exact adZ _ _ _ xy (h.1 z hz),jl.mpr h⟩
  ·rw[if_neg q]
   refine jl.mpr ⟨fun z hz=>?_,ih h.2⟩
   cases aY.mp ((wZ x r).mem_iff.mp hz) with
   | inl e=>exact e▸qO.mpr q
   | inr hz=>exact h.1 z hz
theorem Hz(l:List V){acc:List V}(h:acc.Pairwise leV):(l.foldl (fun a x=>z9 x a) acc).Pairwise leV:=by
 induction l generalizing acc with
 | nil=>exact h
 | cons x l ih=>exact ih (U8 x h)
theorem RQ(l:List V):(sH l).Pairwise leV:=Hz l .nil
@[elab_as_elim] theorem Qk{motive:V->Prop}{v:V}(h:isI v=true)(k:∀ i,motive (.int i)):motive v:=by cases v <;> first | exact k _ | exact absurd h bC
@[elab_as_elim] theorem Ql{motive:V->Prop}{v:V}(h:isS v=true)(k:∀ i,motive (.str i)):motive v:=by cases v <;> first | exact k _ | exact absurd h bC
@[elab_as_elim] theorem U9{motive:V->Prop}{v:V}(h:isP v=true)(k:∀ s i,motive (.tup [.str s,.int i])):motive v:=by
 cases v with
 | tup l=>
  match l,h with
  | [a,b],h=>exact @Ql (fun a=>motive (.tup [a,b])) a (cg.mp h).1 fun s=> @Qk (fun b=>motive (.tup [.str s,b])) b (cg.mp h).2 fun i=>k s i
 | _=>exact absurd h bC
theorem ad1{l:List V}(hs:jK l=true){P:Prop}(i:(∀ v∈l,isI v=true)->P)(s:(∀ v∈l,isS v=true)->P)(p:(∀ v∈l,isP v=true)->P):P:=by
 rcases tU.mp hs with h | h
 ·rcases tU.mp h with h | h
  ·exact i (bx.mp h)
  ·exact s (bx.mp h)
 ·exact p (bx.mp h)
theorem ad2{l:List V}(hs:jK l=true){a b:V}(ha:a∈l)(hb:b∈l)(e:adb a=adb b):a=b:=by
 revert e
 exact ad1 hs (fun h=>Qk (h a ha) fun i=>Qk (h b hb) fun j e=>congrArg V.int (congrArg Prod.snd e)) (fun h=>Ql (h a ha) fun i=>Ql (h b hb) fun j e=>congrArg V.str (congrArg Prod.fst e))
  fun h=>U9 (h a ha) fun i j=>U9 (h b hb) fun i' j' e=>by
   have e1:i=i':=congrArg Prod.fst e
   have e2:j=j':=congrArg Prod.snd e
   rw[e1,e2]
theorem aby{l m:List V}(hs:jK l=true)(hp:m.Perm l)(hw:m.Pairwise leV):m=sH l:=
 List.Perm.eq_of_pairwise (fun a b ha hb x y=>ad2 hs (hp.mem_iff.mp ha) ((Ei l).mem_iff.mp hb) (ad0 y x)) hw (RQ l) (hp.trans (Ei l).symm)
noncomputable def ahH(l:List V)(i j:Nat):Bool:=ltB (l.getD i .none) (l.getD j .none)
theorem ahI(l:List V):ahF (ahH l):=⟨fun J J h=>U7 _ _ h,fun J J J h1 h2=>adZ _ _ _ h1 h2⟩
theorem Yg(l:List V):(fD l.length).map (fun i=>l.getD i .none)=l:=
 List.ext_getElem (by rw[aQ,cM]) fun i h1 h2=>by
  rw[List.getElem_map,List.getElem_range,aV,bF h2]; rfl
theorem Va{l:List V}(hs:jK l=true){p:Array Nat}(hp:Pm l.length p)(hw:Sd (ahH l) p l.length):(p.toList.map fun i=>l.getD i .none)=sH l:=by
 refine aby hs (List.Perm.trans (hp.toList.map _) (List.Perm.of_eq (Yg l))) ?_
 rw[List.pairwise_map,List.pairwise_iff_getElem]
 intro i j hi hj hij
 have e:∀ {k} (hk:k < p.toList.length),gt p k=p.toList[k]:=fun {k} hk=>by
  rw[Gf,getElem?_pos p k hk]; rfl
 exact e hi▸e hj▸hw i j (bH hij) (hp.size▸hj)
theorem Vb{α:Type}{cmp:Nat->Nat->(Bool->aB->Prop)->aB->Prop}{lt:Nat->Nat->Bool}{N:Nat}{s:aB}(hc:∀ i j C,i < N->j < N->C (lt i j) s->cmp i j C s){Q:α->aB->Prop}:
  ∀(t:KasT α),Rn lt N t (fun a=>Q a s)->t.kasWp cmp Q s
 | .ret _,h=>h
 | .ask i j k,h=>hc i j _ h.1 h.2.1 (Vb hc (k (lt i j)) h.2.2)
end
section
section
variable{B:Bs}{A:cI}{E:au->aB->Prop}{x:fK}{g:G}{s s1:aB}{h:cD}{prog:dO}{w:cY}{v u:V}{rv ru:au}
noncomputable def J5(h:cD)(a:aH):cD:=h.update a (zj fun J=>(#[]:Array au))
theorem Yh{a:aH}{vs:List au}{n:Nat}{P:PySem.Fin->aB->Prop}(ho:s.heap.get? a=some (seqObj "list" vs.toArray n))(h2:vs.length < 2)
  (h:∀ h' c,(∀ b o,b≠a->s.heap.get? b=some o->h'.get? b=some o)->h'.get? a=some (seqObj "list" vs.toArray c)->P (.done (.ret .none)) {s with heap:=h'}):
  bD (model prog w) A (dW.«list.sort» ⟨[.ref a],[]⟩) P E s:=by
 have s1:=jO s.heap a (zj fun J=>(#[]:Array au))
 obtain⟨e1,ho1⟩:∃ e1,(J5 s.heap a).get? a=some (seqObj "list" #[] e1):=⟨_,get?_update_seq ho fun J=>#[]⟩
 have hz:vs.length<=sizeLine:=ak (bH h2) (by decide)
 rw[list_sort_plain]
 refine aq (listItems_at ho rfl (aq (listUpdate_at ho rfl ?_ hz (cL _))))
 refine aq (seqEpoch_at ho1 rfl (aq (qW ?_ hz)))
 refine aq (sE (gO ?_) (cL _))
 show bD (model prog w) A _ P E {s with heap:=((J5 s.heap a).push (seqObj "tuple" vs.toArray 0)).push (seqObj "list" #[] 0)}
 dsimp only
 have hn2:vs.toArray.size < 2:=h2
 rw[if_pos hn2,if_pos hn2]
 refine aq (aJ (aq (aJ ?_)))
 dsimp only
 have ho2:(((J5 s.heap a).push (seqObj "tuple" vs.toArray 0)).push (seqObj "list" #[] 0)).get? a=some (seqObj "list" #[] e1):=aW _ (aW _ ho1)
 have hz':((arrOf (SortSt.mk' general' (vs.toArray.zip vs.toArray) #[] 7 none)).map (·.2))=vs.toArray:=by
  show((vs.toArray.zip vs.toArray).map (·.2))=vs.toArray
  apply xR.mp
  rw[Array.toList_map,Array.toList_zip,List.map_snd_zip (bf _)]
 rw[hz']
 obtain⟨c2,hc2⟩:∃ c2,((((J5 s.heap a).push (seqObj "tuple" vs.toArray 0)).push (seqObj "list" #[] 0)).update a (zj fun J=>vs.toArray)).get? a=some (seqObj "list" vs.toArray c2):=⟨_,get?_update_seq ho2 fun J=>vs.toArray⟩
 refine aq (seqEpoch_at ho2 rfl (aq (listUpdate_at ho2 rfl ?_ (cL _) (ak hz (dw _)))))
 rw[bne_self_eq_false,if_neg bC]
 exact aJ (h _ c2 (fun b o hb e=>((jO _ a (zj fun J=>vs.toArray)).2 b hb).trans (aW _ (aW _ ((s1.2 b hb).trans e)))) hc2)
theorem jV.getD{l:List V}{vs:List au}(r:jV B g h l vs){i:Nat}(hi:i < l.length):VR B g h (l.getD i .none) (vs.getD i .none):=by
 obtain⟨rv,e,q⟩:=r.get (bF hi)
 rw[aV,aV,e,bF hi]
 exact q
theorem Vc{l:List V}{i:Nat}(hi:i < l.length):l.getD i .none∈l:=by
 rw[aV,bF hi]; exact xT hi
theorem jV.places{l:List V}{vs:List au}(r:jV B g h l vs){p:List Nat}(hp:∀ i∈p,i < l.length):jV B g h (p.map fun i=>l.getD i .none) (p.map fun i=>vs.getD i .none):=by
 induction p with
 | nil=>exact .nil
 | cons i p ih=>exact .cons (r.getD (hp i (.head _))) (ih fun j hj=>hp j (.tail _ hj))
theorem anp{a b:List Nat}:ltB (.str a) (.str b)=decide (a < b):=by
 show(decide (a < b) || (decide (a=b) && false))=decide (a < b)
 rw[Br,rY]
theorem anq{a:List Nat}{i j:Int}:ltB (.tup [.str a,.int i]) (.tup [.str a,.int j])=decide (i < j):=by
 show(decide (a < a) || (decide (a=a) && decide (i < j)))=decide (i < j)
 rw[decide_eq_false (lU a),decide_eq_true rfl]; rfl
theorem anr{a b:List Nat}{i j:Int}(n:¬ a=b):ltB (.tup [.str a,.int i]) (.tup [.str b,.int j])=decide (a < b):=by
 show(decide (a < b) || (decide (a=b) && decide (i < j)))=decide (a < b)
 rw[decide_eq_false n,Bool.false_and,rY]
noncomputable def ahJ(prog:dO)(w:cY)(A:cI)(s:aB)(κ:SortKind)(v u:V)(rv ru:au):Prop:=∀ C:Bool->aB->Prop,C (ltB v u) s->bD (model prog w) A (keyLt' κ rv ru) C (fun J J=>False) s
theorem ant(p:isI v=true)(q:isI u=true)(a:VR B g s.heap v rv)(b:VR B g s.heap u ru):ahJ prog w A s oneType' v u rv ru:=by
 revert a b
 exact Qk p fun i=>Qk q fun j a b C h=>a.Hp fun t=>b.Hp fun t'=>kat_lt_int h
theorem anu(p:isS v=true)(q:isS u=true)(a:VR B g s.heap v rv)(b:VR B g s.heap u ru):ahJ prog w A s oneType' v u rv ru:=by
 revert a b
 exact Ql p fun i=>Ql q fun j a b C h=>a.Hq fun t=>b.Hq fun t'=>oneLt_str (anp (a:=i) (b:=j)▸h)
theorem Sq.pair{s:List Nat}{i:Int}(q:Sq B g h "tuple" [.str s,.int i] rv):∃ a o n t t',rv=.ref a/\h.get? a=some o/\o.cls=.type "tuple"/\o.data=.seq #[.str (txt s) t,.int i t'] n:=by
 cases q with | mk e h1 h2 h3 _ _ _ rs=>
 exact rs.ane (P:=fun vs=>_=Data.seq (bA vs) _->_) (fun r r' a b=>a.Hq (P:=fun r=>_=Data.seq (bA [r,r']) _->_) fun t=>b.Hp (P:=fun r'=>_=Data.seq (bA [.str (txt s) t,r']) _->_) fun t' d=>⟨_,_,_,t,t',e,h1,h2,d⟩) h3
theorem anv(p:isP v=true)(q:isP u=true)(a:VR B g s.heap v rv)(b:VR B g s.heap u ru):ahJ prog w A s (tuples' true) v u rv ru:=by
 revert a b
 refine U9 p fun s1 i=>U9 q fun s2 j a b C h=>?_
 obtain⟨x,o,n,t,t',e,h1,_,h3⟩:=Sq.pair (show Sq B g s.heap "tuple" [.str s1,.int i] rv from a.inv)
 obtain⟨y,o',n',u,u',e',k1,_,k3⟩:=Sq.pair (show Sq B g s.heap "tuple" [.str s2,.int j] ru from b.inv)
 subst e e'
 refine kat_lt h1 h3 k1 k3 (kat_cons (wpAny_eqBool_str (kat_go (fun e=>?_) fun e=>?_)))
 ·have e1:s1=s2:=J2.mp (of_decide_eq_true e)
  subst e1
  rw[anq] at h
  refine kat_yes (kat_cons (wpAny_eqBool_int (kat_go (fun e'=>?_) fun e'=>?_)))
  ·have e2:i=j:=eq_of_beq e'
   subst e2
   rw[decide_eq_false (wK i)] at h
   exact kat_yes (kat_nil h)
  ·exact kat_no (kat_one _ _ (lt_int h))
 ·rw[anr fun z=>(of_decide_eq_false e) (congrArg txt z)] at h
  exact kat_no (show bD _ _ (oneLt' true _ _) _ _ _ from oneLt_str h)
theorem abz{M:jC}{i:Int}{t:Tok}:yc M h (typeOf (.int i t)) (.type "int"):=fun J J J s J q=>za (typeIs_int s i t) q
theorem Qm{M:jC}{x:Str}{t:Tok}:yc M h (typeOf (.str x t)) (.type "str"):=fun J J J s J q=>za (typeIs_str s x t) q
theorem Yi{l:List V}{vs:List au}(hp:∀ v∈l,isP v=true)(r:jV B g h l vs):∃ fs,KatTups h vs fs/\fs.length=l.length/\∀ f∈fs,∃ x t,f=.str x t:=by
 induction l generalizing vs with
 | nil=>exact r.Fz ⟨[],trivial,rfl,fun J h=>nomatch h⟩
 | cons v l ih=>
  refine r.uG fun rv vs a r=>?_
  obtain⟨fs,k,e,q⟩:=ih (fun v h=>hp v (.tail _ h)) r
  revert a
  refine U9 (hp v (.head _)) fun s1 i a=>?_
  obtain⟨x,o,n,t,t',e',h1,h2,h3⟩:=Sq.pair (show Sq B g h "tuple" [.str s1,.int i] rv from a.inv)
  subst e'
  exact⟨.str (txt s1) t::fs,KatTups.cons h1 h2 h3 rfl k,congrArg (· + 1) e,fun f hf=>by
   cases hf with
   | head=>exact⟨_,_,rfl⟩
   | tail _ hf=>exact q f hf⟩
noncomputable def akJ(prog:dO)(w:cY)(A:cI)(κ:SortKind)(l:List V)(vs:List au)(s:aB):Prop:=
 ∀(i j:Nat) (C:Bool->aB->Prop),i < l.length->j < l.length->C (ahH l i j) s->kas_ask prog w A κ vs i j C s
theorem akJ.of{κ:SortKind}{l:List V}{vs:List au}(r:jV B g s.heap l vs)(k:∀ {v u rv ru},v∈l->u∈l->VR B g s.heap v rv->VR B g s.heap u ru->ahJ prog w A s κ v u rv ru):akJ prog w A κ l vs s:=
 fun J J C hi hj h=>k (Vc hi) (Vc hj) (r.getD hi) (r.getD hj) C h
theorem abA{l:List V}{vs:List au}(r:jV B g s.heap l vs)(hs:jK l=true)(h2:2<=l.length){Q:SortKind->aB->Prop}(k:∀ κ,akJ prog w A κ l vs s->Q κ s):bD (model prog w) A (keyKind' vs.toArray) Q E s:=by
 have h2':2<=vs.length:=r.length▸h2
 refine ad1 hs (fun hs=>?_) (fun hs=>?_) fun hs=>?_
 ·refine kas_kind (T:=.type "int") h2' (fun v hv=>?_) (by decide) (by decide) (k _ (.of r fun p q=>ant (hs _ p) (hs _ q)))
  obtain⟨u,hu,q⟩:=r.mem hv
  exact @Qk (fun u=>VR B g s.heap u v->_) u (hs u hu) (fun i q=>q.Hp fun t=>abz) q
 ·refine kas_kind (T:=.type "str") h2' (fun v hv=>?_) (by decide) (by decide) (k _ (.of r fun p q=>anu (hs _ p) (hs _ q)))
  obtain⟨u,hu,q⟩:=r.mem hv
  exact @Ql (fun u=>VR B g s.heap u v->_) u (hs u hu) (fun i q=>q.Hq fun t=>Qm) q
 ·obtain⟨fs,kt,ke,kf⟩:=Yi hs r
  refine kat_kind (T:=.type "str") kt (ke▸aK (by decide) h2) (fun v hv=>?_) (by decide) (k _ (.of r fun p q=>anv (hs _ p) (hs _ q)))
  obtain⟨y,t,rfl⟩:=kf v hv
  exact Qm
theorem anw:64<=lim:=by decide
theorem abB(l:List V):(sH l).length=l.length:=(Ei l).length_eq
theorem Vd{l:List V}(h:l.length < 2):sH l=l:=by
 cases l with
 | nil=>rfl
 | cons a l=>cases l with
  | nil=>rfl
  | cons=>exact absurd h (gK.mpr (bI (bI (cL _))))
theorem Yj(wd:Wd B x){D:aH}{n tk:Nat}{h1:cD}{l:List V}{vs:List au}{Q:au->aB->Prop}(F:Fr (wW B.L x.s.heap) B.L h1 B.ms)(N:News (wW B.L x.s.heap) B.L h1 ((D,W.listOf vs.toArray n)::T7 B.L x.s.heap))(l1:∀ q∈T7 B.L x.s.heap,q.1 < D)
  (r:yw B x l vs)(hs:jK l=true/\l.length < 64)
  (k:∀ h' c vs',Fr (wW B.L x.s.heap) B.L h' B.ms->News (wW B.L x.s.heap) B.L h' ((D,W.listOf vs'.toArray c)::T7 B.L x.s.heap)->yw B x (sH l) vs'->Q .none {x.s with heap:=h',toks:=tk}):
  bD (Mo B) A (call (.builtin "list.sort") [.ref D]) Q E {x.s with heap:=h1,toks:=tk}:=by
 have hlen:=r.length
 by_cases h2:2<=vs.length
 ·refine kat_lsort (s:={x.s with heap:=h1,toks:=tk}) F N (UpdF.head fun p hp=>cB (l1 p hp)) rfl h2 (hlen▸hs.2) fun e1 h' F' N'=>?_
  have K:K3 B x.s {x.s with heap:=h',toks:=tk}:=K3.of1 F' N'
  refine abA (s:={x.s with heap:=h',toks:=tk}) (r.tr (K.tr wd.inv)) hs.1 (hlen▸h2) fun κ ask=>Vb (lt:=ahH l) (N:=l.length) (fun i j C a b c=>ask i j C a b c) _ ?_
  rw[← hlen]
  refine ahG (ahI l) (ak (by decide) (hlen▸h2)) fun p hp hw=>KasFin.intro F' N' (UpdF.head fun q hq=>cB (l1 q hq)) fun h2 c F2 N2=>k h2 c _ F2 N2 ?_
  rw[← Va hs.1 hp hw]
  exact r.places fun i hi=>qM.mp (List.mem_toArray.mp (hp.mem_iff.mp (Array.mem_toList_iff.mp hi)))
 ·have nz:=N (D,W.listOf vs.toArray n) (.head _)
  have h2:=Nat.not_le.mp h2
  refine lW slot_list_sort ⟨_,nz.1,rfl⟩ entry_list_sort (Yh (s:={x.s with heap:=h1,toks:=tk}) nz.1 h2 fun h' c hk ho=>⟨_,rfl,k h' c vs ⟨?_,fun b o e=>hk b o (fun z=>cW nz.2.2 (z▸e)) (F.keep b o e),F.above⟩ (fun p hp=>?_) (by rw[Vd (hlen▸h2)]; exact r)⟩) (args_list_sort _)
  ·exact iK F.ns fun e=>hk _ _ (Ne.symm nz.2.1) e
  ·cases hp with
   | head=>exact⟨ho,nz.2⟩
   | tail _ hp=>exact⟨hk _ _ (cB (l1 p hp)) (N p (.tail _ hp)).1,(N p (.tail _ hp)).2⟩
theorem HB(wd:Wd B x){D:aH}{n tk:Nat}{h1:cD}{l:List V}{vs:List au}(F:Fr (wW B.L x.s.heap) B.L h1 B.ms)(N:News (wW B.L x.s.heap) B.L h1 ((D,W.listOf vs.toArray n)::T7 B.L x.s.heap))(l1:∀ q∈T7 B.L x.s.heap,q.1 < D)
  (fr:x.s.heap.get? D=none)(r:yw B x l vs)(hs:jK l=true/\l.length < 64):bD (Mo B) A (call (.builtin "list.sort") [.ref D]) (fun J=>LV B x (.lst (sH l)) (.ref D)) (fun J J=>False) {x.s with heap:=h1,toks:=tk}:=
 Yj wd F N l1 r hs fun h' c vs' F' N' r'=>.list wd (.of1 F' N') fr (N' _ (.head _)).1 (by rw[abB]; exact ak (bH hs.2) anw) r'
theorem HD(O:Ok B A x){l:List V}{a:V}{z:V}(r:VX B x a rv)(e:iw x.st a=some l)(es:rT l=some z):WL B A x (call (.builtin "sorted") [rv]) z:=
 nH es fun q=>wg O.wd r e fun y vs hl hr hz=>by
  have hlen:=hr.length
  have z64:vs.length<=sizeLine:=ak (bH (hlen▸q.2)) (by decide)
  refine Calls.call_function_entry kind_sorted plain_sorted entry_sorted (args_sorted1 _) ?_
  unfold dW.«sorted»
  refine aq (m:=checkCount "sorted" 1 1 _) (aJ (aq (collect_list hl (aq (sE ?_ z64)) z64)))
  generalize hH:(x.s.heap.push (seqObj "list" #[] 0)).update x.s.heap.objs.size (zj (·++vs.toArray))=H
  have hsz:H.objs.size=x.s.heap.objs.size + 1:=by rw[← hH,Heap.size_update,size_push']
  have keep:∀ b o,x.s.heap.get? b=some o->(H.push (seqObj "list" vs.toArray 0)).get? b=some o:=fun b o q=>by
   have hlt:b < x.s.heap.objs.size:=d8 q
   rw[Heap.get?_push_ne _ _ _ (by rw[hsz]; exact cB (cU hlt)),← hH,pB _ _ _ _ (cB hlt),Heap.get?_push_ne _ _ _ (cB hlt)]
   exact q
  have hL:B.L < x.s.heap.objs.size:=O.wd.inv.sl.lt
  show bD _ _ _ _ _ {x.s with heap:=H.push (seqObj "list" vs.toArray 0)}
  rw[hsz]
  refine aq (gO (cj (HB (n:=0) (tk:=x.s.toks) O.wd ((fF O.wd.inv).keeps keep) (fun p hp=>?_) (fun q hq=>cU (d8 (fN q hq).1)) (Heap.get?_none_of_le (dw _)) hr q) (fun J J q=>aJ ⟨_,rfl,q⟩) fun J J e=>e))
  cases hp with
  | head=>exact⟨hsz▸bK _ rfl,gq (cU hL),wX.trans (if_neg (fun z=>f9 _ (aG z (cU hL))))⟩
  | tail _ hp=>exact⟨keep _ _ (fN p hp).1,(fN p hp).2⟩
end
end
section
section
variable{B:Bs}{A:cI}{E:au->aB->Prop}{x:fK}{g:G}{s:aB}{h:cD}{v z:V}{rv:au}{l:List (V×V)}
theorem KR.keys{κ:Type}[DecidableEq κ]{knd:PySem.KeyKind B.prog B.w κ}{f:κ->V}(his:∀ {k v},knd.is k v=true->VR B g h (f k) v){kvs:List (κ×au)}(r:KR B g h f l kvs){vs:List au}(hl:vs.length=kvs.length)
  (hv:∀(j:Nat) (v:au),vs[j]?=some v->∃ k y,kvs[j]?=some (k,y)/\knd.is k v=true):jV B g h (l.map (·.1)) vs:=by
 induction r generalizing vs with
 | nil=>exact fL hl▸.nil
 | @cons j v rv l m _ _ ih=>
  cases vs with
  | nil=>cases hl
  | cons v vs=>
   obtain⟨k,y,e,q⟩:=hv 0 v rfl
   have e:j=k:=congrArg Prod.fst (aC e)
   exact .cons (his (e▸q)) (ih (jt hl) fun j=>hv (j + 1))
theorem Jj(O:Ok B A x){κ:Type}[DecidableEq κ]{knd:PySem.KeyKind B.prog B.w κ}{f:κ->V}(his:∀ {k v},knd.is k v=true->VX B x (f k) v){kvs:List (κ×au)}{a:aH}(lo:(a==sysModules)=false)(hD:x.s.heap.DictOf knd a kvs)(r:KR B x.g x.s.heap f l kvs)(len:l.length<=lim)
  (q:jK (l.map (·.1))=true/\(l.map (·.1)).length < 64):WL B A x (call (.builtin "sorted") [.ref a]) (.lst (sH (l.map (·.1)))):=by
 obtain⟨ep,hat⟩:=hD.dictAt
 exact kdu_sorted (kdl_dict (knd:=knd) (kvs:=kvs) (ep:=ep) lo) O.hand (fF O.wd.inv) fN hat (ak (r.length▸len) jw) fun D' h' tk vs F' N' l1 hl hv=>
  HB O.wd F' N' l1 (La N' l1) (r.keys his hl hv) q
theorem HF(O:Ok B A x)(r:VX B x v rv)(e:oZ x.st v=some l)(es:rT (l.map (·.1))=some z):WL B A x (call (.builtin "sorted") [rv]) z:=
 nH es fun q=>by
  cases BR O.wd r e with | mk _ _ _ D len lo=>
  cases D with
  | i d r=>exact Jj O (fun q=>(Value.isInt_shape q).elim fun t e=>e▸.int _ t) lo d r len q
  | s d r=>exact Jj O (fun q=>(Value.isStrOf_shape q).elim fun t e=>e▸.str _ t) lo d r len q
theorem Ve(O:Ok B A x)(r:VX B x v rv)(e:yq x.st v=some z):WL B A x (call (.builtin "sorted") [rv]) z:=by
 unfold yq at e
 cases h:oZ x.st v with
 | some l=>rw[h] at e; exact HF O r h e
 | none=>rw[h] at e; exact gR e fun l hl e=>HD O r hl e
end
structure aqv(B:Bs)(C f:Nat):Prop where
 lt:f < B.nms.length
 dict:hasDictIn B.K C=true
 plain:plainGet B.K C (B.nm f)=true
 no:findIn B.K (.ref C) (B.nm f)=some none
 sa:findIn B.K (.ref C) "__setattr__"=some (some (.builtin "object.__setattr__"))
 over:plainOver B.K C=true
 tk:takerIn B.K C (B.nm f)=some none
structure aqw(B:Bs)(C f:Nat):Prop where
 makes:makesIn B.K C=true
 ini:findIn B.K (.ref C) "__init__"=some (some (.ref f))
 fn:typeIn B.K (.ref f)=some (.type "function")
 keep:keepIn B.K (.ref C)=true
 pg:(B.pg.fn f).isSome=true
structure FMe(B:Bs)(C nm f:Nat):Prop where
 lt:nm < B.nms.length
 plain:plainGet B.K C (B.nm nm)=true
 at_:findIn B.K (.ref C) (B.nm nm)=some (some (.ref f))
 fn:isFn B.K (.ref f)=true
structure Fc(B:Bs):Prop where
 kin:B.K.In B.hb
 ktp:∀ a o,B.K.lookup a=some o->a∉B.tp
 nmd:B.nms.Nodup
 low:∀ b≤mainGlobals,B.hb.get? b≠none
 gts:∀ x v,B.gt.lookup x=some v->B.mg x=some v
 gns:∀ x∈B.gn,B.mg x=none
 bts:∃ mb,B.hb.Ns builtinsNs mb/\∀ x v,bootBuiltins x=some v->x≠"__name__"->mb x=some v
 bto:builtinsNs∉B.tp
 get:∀ {C f},B.pg.has C f=true->aqv B C f
 ini:∀ {C f},B.ini C=some f->aqw B C f
 me:∀ {C nm f},B.pg.me C nm=some f->FMe B C nm f
section
variable{B:Bs}{A:cI}{E:au->aB->Prop}{x:fK}{g:G}{s:aB}{h:cD}{o v z:V}{ro rv:au}{fs:List (Nat×V)}{es:List DictEntry}{f:Nat}
theorem Fc.at (F:Fc B)(S:Ec B h):B.K.In h:=fun a o e=>S.keep (F.kin a o e) (F.ktp a o e)
theorem ad3(F:Fc B){f f':Nat}(h:f < B.nms.length)(h':f' < B.nms.length)(e:B.nm f=B.nm f'):f=f':=by
 unfold Bs.nm at e
 rw[aV,aV,bF h,bF h'] at e
 exact(List.getElem_inj F.nmd).mp e
theorem Qn{n:Str}{t:Tok}:qp (.str n t) n=true:=by simp [qp]
theorem Lw{n m:Str}{t:Tok}(q:¬ m=n):qp (.str m t) n=false:=by simp [qp,q]
noncomputable def jL(B:Bs)(fs:List (Nat×V)):Prop:=∀ p∈fs,p.1 < B.nms.length
theorem FR.getL(F:Fc B)(r:FR B g h fs es)(hn:jL B fs)(hf:f < B.nms.length):∃ o',W.getL (B.nm f) es=some o'/\OVR B g h (gH fs f) o':=by
 induction r with
 | nil=>exact⟨none,rfl,.n⟩
 | @cons f' v' t rv fs es hv r ih=>
  show ∃ o',(match(_::es).find? fun e=>e.key.isStr (B.nm f) with | some e=>some (some e.val) | none=>_)=some o'/\OVR B g h (if f'=f then some v' else gH fs f) o'
  by_cases q:f'=f
  ·subst q
   rw[zF,show qp (.str (B.nm f') t) (B.nm f')=true from Qn,if_pos rfl]
   exact⟨some rv,rfl,.s hv⟩
  ·rw[zF,show qp (.str (B.nm f') t) (B.nm f)=false from Lw fun e=>q (ad3 F (hn _ (.head _)) hf e),if_neg q,wL]
   exact ih fun p hp=>hn p (.tail _ hp)
theorem FR.put(F:Fc B)(r:FR B g h fs es)(hn:jL B fs)(hf:f < B.nms.length)(hv:VR B g h v rv)(t:Tok):
  FR B g h (pC fs f v) (putL (B.nm f) (PyData.keyHash B.w.params (B.nm f)) (.str (B.nm f) t) rv es):=by
 induction r with
 | nil=>exact .cons hv .nil
 | @cons f' v' t' rv' fs es hv' r ih=>
  show FR B g h (if f'=f then(f,v)::fs else(f',v')::pC fs f v) (if qp (.str (B.nm f') t') (B.nm f)=true then _ else _)
  by_cases q:f'=f
  ·subst q
   rw[if_pos rfl,if_pos Qn]; exact .cons hv r
  ·rw[if_neg q,Lw fun e=>q (ad3 F (hn _ (.head _)) hf e),if_neg bC]
   exact .cons hv' (ih fun p hp=>hn p (.tail _ hp))
theorem ad4{p}(hp:p∈pC fs f v):p.1=f∨p∈fs:=by
 induction fs with
 | nil=>exact .inl (aN.mp hp▸rfl)
 | cons q r ih=>
  have hp:p∈(if q.1=f then(f,v)::r else q::pC r f v):=hp
  by_cases z:q.1=f
  ·rw[if_pos z] at hp
   exact(aY.mp hp).imp (fun e=>congrArg Prod.fst e) (.tail _)
  ·rw[if_neg z] at hp
   exact(aY.mp hp).elim (fun e=>.inr (e▸.head _)) fun m=>(ih m).imp id (.tail _)
theorem ad5:(pC fs f v).length<=fs.length + 1:=by
 induction fs with
 | nil=>exact bf _
 | cons q r ih=>
  show(if q.1=f then(f,v)::r else q::pC r f v).length<=_
  by_cases z:q.1=f
  ·rw[if_pos z]; exact dw _
  ·rw[if_neg z]; exact bI ih
theorem ad6(e:gH fs f=some v):(f,v)∈fs:=by
 induction fs with
 | nil=>exact nn e
 | cons q r ih=>
  have e:(if q.1=f then some q.2 else gH r f)=some v:=e
  by_cases z:q.1=f
  ·rw[if_pos z] at e
   exact(show q=(f,v) from Prod.ext z (aC e))▸.head _
  ·rw[if_neg z] at e; exact .tail _ (ih e)
theorem akK(r:VR B g h v rv):handedIn rv=true:=by cases r <;> rfl
theorem FR.len(r:FR B g h fs es):fs.length=es.length:=by
 induction r with
 | nil=>rfl
 | cons _ _ ih=>exact congrArg (· + 1) ih
inductive IR(B:Bs)(x:fK)(i C:Nat)(fs:List (Nat×V)):au->Prop
 | mk {y dx es n} (p:x.g.v[i]?=some (y,some dx)) (I:InstAt x.s.heap y (instObj C dx) C (some (W.dictOf es n))) (d:x.s.heap.get? dx=some (W.dictOf es n)) (fr:FR B x.g x.s.heap fs es) (len:fs.length<=100) (has:∀ p∈fs,B.pg.has C p.1=true):IR B x i C fs (.ref y)
theorem HJ(w:Wd B x){i:Nat}{q:Nat×List (Nat×V)}(r:VX B x (.ref i) rv)(e:ur x.st i=some q):IR B x i q.1 q.2 rv:=
 r.Xy fun p hp=>by
  cases w.sr.obj (aa7 e) hp with | mk e1 o d fr len has=>
  obtain⟨a,b⟩:=p
  cases e1
  exact .mk hp ⟨o,rfl,rfl,d⟩ d fr len has
theorem akL(F:Fc B){C:Nat}(has:∀ p∈fs,B.pg.has C p.1=true):jL B fs:=fun p hp=>(F.get (has p hp)).lt
theorem abC(F:Fc B)(w:Wd B x)(r:VX B x v rv)(e:Q9 x.st v f=some z):WL B A x (getAttr rv (B.nm f) true) z:=
 @aks _ (fun v=>VX B x v rv->WL B A x (getAttr rv (B.nm f) true) z) _ v z e (fun i e r=>gR e fun q hq e=>by
  cases HJ w r hq with | mk hp I d fr len has=>
  have G:=F.get (has _ (ad6 e))
  obtain⟨o',h1,h2⟩:=fr.getL F (akL F has) G.lt
  obtain⟨ra,rfl,hv⟩:=h2.at_ e
  exact get_value (F.at w.stay) I (plainGet_of G.plain).1 (findObj_own G.dict G.no rfl h1) (akK hv) (.tok w.inv hv)) r
theorem Vf(F:Fc B)(w:Wd B x){i nm f:Nat}{q:Nat×List (Nat×V)}{pl:Sem Bool}(r:VX B x (.ref i) rv)(e:ur x.st i=some q)(hm:B.pg.me q.1 nm=some f)(hn:gH q.2 nm=.none){Q:au×List au->aB->Prop}
  (k:Q (.ref f,[rv]) x.s):bD (Mo B) A (getMethod rv (B.nm nm) pl) Q E x.s:=by
 cases HJ w r e with | @mk y dx es n hp I d fr len has=>
 have M:=F.me hm
 obtain⟨o',h1,h2⟩:=fr.getL F (akL F has) M.lt
 rw[hn] at h2
 cases h2
 exact method_fn (F.at w.stay) I (plainGet_of M.plain).1 (plainGet_of M.plain).2 M.at_ (beq_iff_eq.mp M.fn) (by show(lookIn (B.nm nm) (W.dictOf es n)).map _=_; rw[lookIn_dict,h1]; rfl) k
theorem aam{a:aH}{p:aH×Obj}(e:(if a > B.L then(h.get? a).map fun o=>(a,o) else .none)=some p):p.1=a:=by
 by_cases q:a > B.L
 ·rw[if_pos q] at e
  obtain⟨o,_,r⟩:=gQ.mp e
  exact r▸rfl
 ·rw[if_neg q] at e; exact nn e
theorem abD:(T7 B.L h).Pairwise fun p q=>p.1≠q.1:=by
 unfold T7
 rw[List.pairwise_filterMap]
 exact(List.nodup_range (n:=h.objs.size)).imp fun hab p hp q hq e=>hab ((aam hp).symm.trans (e.trans (aam hq)))
theorem abE{a:aH}{o:Obj}(e:h.get? a=some o)(ha:B.L < a):∃ pre post,T7 B.L h=pre++(a,o)::post/\(∀ p∈pre,p.1≠a)/\∀ p∈post,p.1≠a:=by
 obtain⟨pre,post,q⟩:=List.append_of_mem (FP.mpr ⟨ha,e⟩:(a,o)∈T7 B.L h)
 have:=abD (B:=B) (h:=h)
 rw[q,nU,jl] at this
 exact⟨pre,post,q,fun p hp=>this.2.2 p hp _ (.head _),fun p hp=>Ne.symm (this.2.1.1 p hp)⟩
theorem Vg(w:Wd B x)(F:Fc B){a:aH}(q:own x.g a):B.L < a:=aG w.inv.ll (Nat.lt_of_not_le fun hle=>F.low a hle (w.sr.fresh q))
theorem akM(w:Wd B x){a:aH}{od od':Obj}{pre post:List (aH×Obj)}{h':cD}{tk:Nat}(e0:T7 B.L x.s.heap=pre++(a,od)::post)(F':Fr (wW B.L x.s.heap) B.L h' B.ms)(N':News (wW B.L x.s.heap) B.L h' (pre++(a,od')::post)):
  Kx (fun b=>b=a∨b=B.L) x.s {x.s with heap:=h',toks:=tk}:=by
 have keep:∀ {b o},¬ (b=a∨b=B.L)->x.s.heap.get? b=some o->h'.get? b=some o:=fun {b o} n e=>by
  by_cases hc:b < B.L
  ·exact F'.keep b o (wX.trans ((if_pos hc).trans e))
  ·have hm:(b,o)∈T7 B.L x.s.heap:=FP.mpr ⟨jY (gP hc) (fun q=>n (.inr q.symm)),e⟩
   rw[e0] at hm
   rcases fZ.mp hm with hm | hm
   ·exact(N' (b,o) (nW _ hm)).1
   ·cases hm with
    | head=>exact absurd (.inl rfl) n
    | tail _ hm=>exact(N' (b,o) (cT _ (.tail _ hm))).1
 refine⟨rfl,keep,fun {b o} e=>?_⟩
 by_cases q:b=a
 ·exact⟨od',q▸(N' _ (cT _ (.head _))).1⟩
 ·by_cases q':b=B.L
  ·exact(jq F'.ns).elim fun o' r=>r.elim fun J r=>r.elim fun J r=>⟨o',q'▸r.1⟩
  ·exact⟨o,keep (fun z=>z.elim q q') e⟩
theorem RT(F:Fc B)(w:Wd B x){st':St}(ho:VX B x o ro)(hv:VX B x v rv)(e:Ac B.pg.has x.st o f v=some st'):bD (Mo B) A (setAttr ro (B.nm f) rv) (fun J=>LC B x st') (fun J J=>False) x.s:=
 @aks _ (fun o=>VX B x o ro->bD (Mo B) A (setAttr ro (B.nm f) rv) (fun J=>LC B x st') (fun J J=>False) x.s) _ o st' e (fun i e ho=>gR e fun q hq e=>nH e fun c=>by
  cases HJ w ho hq with | @mk a dx es n hp I hd hr hl hh=>
  have G:=F.get c.2
  have N:=akL F hh
  obtain⟨pre,post,e0,x1,x2⟩:=abE hd (Vg w F (.at hp (.d rfl)))
  have N0:=fN (B:=B) (h:=x.s.heap)
  rw[e0] at N0
  have lk:(lookIn (B.nm f) (W.dictOf es n)).isSome=true:=(hr.getL F N G.lt).elim fun o' q=>(congrArg Option.isSome ((lookIn_dict ..).trans q.1)).trans rfl
  have hz:(pC q.2 f v).length<=100:=ak ad5 c.1
  refine set_plain (F.at w.stay) I G.sa (osa_dict (s:={x.s with toks:=x.s.toks + 1}) (fF w.inv) N0 (F.at w.stay) I rfl G.over G.tk G.dict lk x1 x2 (putName_dict _ _ _ _ _ _) rfl (ak ((hr.put F N G.lt hv (x.s.toks + 1)).len▸hz) (by decide)) fun h' F' N'=>?_)
  have ne:¬ (a=dx∨a=B.L):=fun z=>z.elim (fun z=>Data.noConfusion (congrArg Obj.data (aC (I.at_.symm.trans (z.symm▸hd)):instObj q.1 dx=W.dictOf es n))) fun z=>f9 _ (z▸Vg w F (.at hp (.a rfl)):B.L < B.L)
  have K:=akM w (tk:=x.s.toks + 1 + 1) e0 F' N'
  have r:=w.ang (o':=.inst q.1 (pC q.2 f v)) hp (.d rfl) K F'.ns (K8 w.inv.sl) (uF w.inv.sl) (wV hd nofun) fun t=>
   .mk rfl (K.keep ne I.at_) (N' _ (cT _ (.head _))).1 ((hr.tr t).put F N G.lt (hv.tr t) _) hz fun p hp=>(ad4 hp).elim (fun e=>e▸c.2) (hh p)
  exact⟨r.1,r.2⟩) ho
end
end
section
open Builtin Builtin.ObjectAttr
inductive RV(K:lZ)(code:au)(q:Str):Prop
 | mk {c oc ws t} (e:code=.ref c) (at_:K.lookup c=some oc) (d:oc.data=.fields ws) (t:ws[1]?=some (.str q t))
theorem RV.cr{K:lZ}{code:au}{q:Str}{h:cD}(c:RV K code q)(X:K.In h):h.CodeRec code q:=by cases c with | mk e a d t=>exact⟨_,_,_,_,e,X _ _ a,d,t⟩
structure FnB(K:lZ)(f:Nat)(fd:g8):Prop where
 at_:∃ o,K.lookup f=some o/\o.data=.func fd
 co:fd.scope.isCoroutine=false
 gen:fd.scope.isGenerator=false
 glob:fd.globals=mainGlobals
 blt:fd.builtins=builtinsNs
 code:RV K fd.code fd.qualname
 kind:fd.scope.kind=.function
structure Jk(bm:List au):Prop where
 e:bm.contains (.type "Exception")=true
 b:bm.contains (.type "BaseException")=true
 a:bm.contains (.type "AttributeError")=false
 n:bm.contains (.type "NameError")=false
structure Gg(K:lZ)(C:aH)(name:Str)(cd:Dc):Prop where
 sa:findIn K (.ref C) "__setattr__"=some (some (.builtin "object.__setattr__"))
 tk:takerIn K C name=some none
 cls:clsIn K C=some cd
 dict:cd.hasDict=true
 ob:mroIn K C (.type "object")=some true
 pass:∀ self,refuseLoop self "__setattr__" cd.mro=pure ()
inductive akN(fd:g8)(ns:List Str):Prop
 | mk {as ds} (e:fd.params=⟨[],as,none,[],[],none,ds⟩) (n:as.map (·.arg)=ns)
inductive akO(K:lZ)(f:Nat):Prop
 | mk {fd p1 p2 p3 p4 p5 p6 p7 p8 ap pos} (b:FnB K f fd) (clo:fd.closure=[]) (line:(ap.endLine==pos.line)=true)
  (body:fd.body=.stmts [.Expr (.Call (.Attribute (.Name "Exception" p1) "__init__" ap) [.Name "self" p2,.Name "why" p3] [] pos) p4,.Assign [.Attribute (.Name "self" p5) "why" p6] (.Name "why" p7) p8])
  (par:akN fd ["self","why"]) (df:fd.defaults=.none) (nc:∀ x∈fd.scope.names,x.2≠.cell)
  (n1:fd.scope.names.lookup ("self":Str)=some .local) (n2:fd.scope.names.lookup ("why":Str)=some .local) (n3:fd.scope.names.lookup ("Exception":Str)=some .globalImplicit)
inductive anx(K:lZ)(C:Nat):Prop
 | mk {nm q N bs bm hdct sn sub ab col dd k0 k1 k2 k3 k5 f cd} (cls:K.lookup C=some (excClassObj nm q C N bs bm hdct sn sub ab col dd k0 k1 k2 k3 k5 "Exception.__new__")) (on:Jk bm)
  (ini:findIn K (.ref C) "__init__"=some (some (.ref f))) (fn:typeIn K (.ref f)=some (.type "function")) (J:akO K f) (kp:keepIn K (.ref C)=true) (sto:Gg K C "why" cd)
inductive BmF(B:Bs):Prop
 | mk {bm o} (g:B.mg "__builtins__"=some (.ref bm)) (n1:bm≠builtinsNs) (n2:bm≠mainGlobals) (t:bm∉B.tp) (e:B.hb.get? bm=some o) (c:o.cls=.type "module") (d:o.dict=some builtinsNs) (p:o.data=.plain)
structure Fx(B:Bs):Prop where
 tab:∀ t∈B.tabs,CodeHd B.hb t.1 t.2.1/\t.1∉B.tp/\mainGlobals≠t.2.1
 tnd:∀ t∈B.tabs,∀ t'∈B.tabs,t.2.1=t'.2.1->t=t'
 bm:BmF B
 gn:("Exception":Str)∈B.gn
 mat:∀ C∈B.exs,∀ C'∈B.exs,exmOne B.K (.ref C) (.ref C')=some (decide (C=C'))
 ex:∀ C∈B.exs,anx B.K C
noncomputable def cvl:Const->Option V
 | .none=>some .none
 | .bool b=>some (.bool b)
 | .int i=>some (.int i)
 | .str s=>some (.str s.cps.toList)
 | .bytes b=>some (.bytes b)
 | _=>.none
noncomputable def gvl:au->Option V
 | .int i _=>some (.int i)
 | .str s _=>some (.str s.cps.toList)
 | _=>.none
noncomputable def yD(x:Str):Bool:= !(x==("__debug__":Str)) && !(x==("__classdict__":Str)) && !(x==("__name__":Str)) && (x != ("super":Str))
inductive HsR(B:Bs)(scope:jD):List pH->List (Nat×V)->Prop
 | nil:HsR B scope [] []
 | cons {x np c1 k1 p1 c2 k2 p2 kk p4 p5 pos C v1 v2 rest hs} (l:scope.names.lookup x=some .globalImplicit) (o:yD x=true) (g:B.gt.lookup x=some (.ref C)) (ex:C∈B.exs) (w1:cvl c1=some v1) (w2:cvl c2=some v2) (r:HsR B scope rest hs):
   HsR B scope (.ExceptHandler (some (.Name x np)) none [.Return (some (.Tuple [.Constant c1 k1 p1,.Constant c2 k2 p2] kk p4)) p5] pos::rest) ((C,.tup [v1,v2])::hs)
inductive ahK(B:Bs)(f:Nat)(sG:V)(hs:List (Nat×V)):Prop
 | mk {fd h0 ht cc k1 p1 p2 p3 kk p4 p5 p6} (b:FnB B.K f fd) (clo:fd.closure=[])
  (body:fd.body=.stmts [.Try [.Return (some (.Tuple [.Constant cc k1 p1,.Call (.Name "call" p2) [] [] p3] kk p4)) p5] (h0::ht) [] [] p6]) (cc:cvl cc=some sG)
  (par:akN fd ["call"]) (df:fd.defaults=.none) (nc:∀ x∈fd.scope.names,x.2≠.cell) (n1:fd.scope.names.lookup ("call":Str)=some .local) (H:HsR B fd.scope (h0::ht) hs) (ex:∀ p∈hs,p.1∈B.exs)
noncomputable def Lim(B:Bs):Prop:=(B.L=cStatics/\B.ms "sys.recursionlimit"=none)∨(cStatics∉B.tp/\B.hb.NoLimit)
structure Fb(B:Bs):Prop where
 F:Fc B
 Y:Fx B
 lim:Lim B
 fn:∀ {f},(B.pg.fn f).isSome=true->keepIn B.K (.ref f)=true
 me:∀ {C nm f},B.pg.me C nm=some f->(B.pg.fn f).isSome=true
 cat:∀ {f sG hs},(f,sG,hs)∈B.cats->ahK B f sG hs/\keepIn B.K (.ref f)=true
noncomputable def SC(B:Bs)(n:Nat):Prop:=∀ {p:Pl} {fr x f vs rs Q X},p.B=B->Cx p n fr x->yw p.B x vs rs->(W p.B.pg n).c f vs x.st Q X->WG p x (call (.ref f) rs) (PV p.B Q) X
structure Kn(B:Bs)(n:Nat):Prop where
 b:Fb B
 c:∀ {k},k < n->SC B k
structure Cy(τ:Pl->Prop)(p:Pl)(n:Nat)(fr:Fm)(x:fK):Prop where
 h:τ p
 K:Kn p.B n
 C:Cx p n fr x
noncomputable def E1(τ:Pl->Prop)(e:cZ)(m:ME):Prop:=∀ {n p fr x Q X},Cy τ p (n + 1) fr x->(step p.B.pg (W p.B.pg n)).e m fr x.st Q X->WG p x (eval e p.env) (PV p.B Q) X
noncomputable def T1(τ:Pl->Prop)(e:cZ)(m:ME):Prop:=∀ {n p fr x Q X},Cy τ p (n + 1) fr x->(step p.B.pg (W p.B.pg n)).t m fr x.st Q X->WG p x (isTrue e p.env (eval e p.env)) (PB Q) X
structure Pn(e:cZ):Prop where
 st:∀ {es env},starEach (e::es) env=(false,eval e env)::starEach es env
 sl:∀ {o i},subscripted e false o i=operate [o,i] (getItem o i)
 ba:∀ {a env t},attributeBase e a env t=t
structure Sn(τ:Pl->Prop)(e:cZ)(m:ME):Prop where
 pn:Pn e
 e1:E1 τ e m
 t1:T1 τ e m
structure At(B:Bs)(sc:Sc)(p:Pl):Prop where
 b:p.B=B
 s:p.sc=sc
theorem At.of{B:Bs}{sc:Sc}{p:Pl}{P:Bs->Sc->Prop}(h:At B sc p)(q:P B sc):P p.B p.sc:=by
 cases h with | mk a b=>exact a▸b▸q
section
variable{τ:Pl->Prop}{p:Pl}{z:aH->Prop}{n:Nat}{fr:Fm}{x y:fK}{X:Ex}{Q:Po}{R:Bool->St->Prop}{β:Type}{P2:β->fK->Prop}{e:cZ}{m:ME}{f:au->Sem β}{fb:Bool->Sem β}{pos:Pos}{vs:List au}
theorem Kn.dn{B:Bs}(K:Kn B (n + 1)):Kn B n:=⟨K.b,fun h=>K.c (cU h)⟩
theorem Cy.dn(I:Cy τ p (n + 1) fr x):Cy τ p n fr x:=⟨I.h,I.K.dn,I.C.dn⟩
theorem Cy.to{fr' y}(I:Cy τ p n fr x)(C:Cx p n fr' y):Cy τ p n fr' y:=⟨I.h,I.K,C⟩
theorem Cy.ok(I:Cy τ p (n + 1) fr x):Ok p.B p.A x:=I.C.ok
theorem Cy.inv(I:Cy τ p n fr x):Inv p.B x.s.heap:=I.C.wd.inv
theorem E1.ev(S:E1 τ e m)(I:Cy τ p n fr x)(q:(W p.B.pg n).e m fr x.st Q X):WG p x (eval e p.env) (PV p.B Q) X:=by
 cases n with
 | zero=>exact q.elim
 | succ n=>exact S I q
theorem Sn.ev(S:Sn τ e m)(I:Cy τ p n fr x)(q:(W p.B.pg n).e m fr x.st Q X):WG p x (eval e p.env) (PV p.B Q) X:=E1.ev (@S.e1) I q
theorem Sn.te(S:Sn τ e m)(I:Cy τ p n fr x)(q:(W p.B.pg n).t m fr x.st R X):WG p x (isTrue e p.env (eval e p.env)) (PB R) X:=by
 cases n with
 | zero=>exact q.elim
 | succ n=>exact S.t1 I q
theorem Cy.on{t:Sem au}(I:Cy τ p n fr x)(hz:Zk p z)(w:WG p x t (PV p.B Q) X)(k:∀ {rv y v},Ev p.B pO x y->Cy τ p n fr y->VX p.B y v rv->Q v y.st->WT p z y (f rv) P2 X):WT p z x (t >>= f) P2 X:=
 .bind I.C hz w fun E C q=>q.elim fun J q=>k E (I.to C) q.1 q.2
theorem Cy.ex(I:Cy τ p (n + 1) fr x)(hz:Zk p z)(S:Sn τ e m)(q:(W p.B.pg n).e m fr x.st Q X)(k:∀ {rv y v},Ev p.B pO x y->Cy τ p (n + 1) fr y->VX p.B y v rv->Q v y.st->WT p z y (f rv) P2 X):WT p z x (eval e p.env >>= f) P2 X:=
 I.on hz (S.ev I.dn q) k
theorem Cy.exH(I:Cy τ p (n + 1) fr x)(hz:Zk p z)(S:Sn τ e m)(q:(W p.B.pg n).e m fr x.st Q X)(k:∀ {rv y v},Ev p.B pO x y->Cy τ p (n + 1) fr y->VX p.B y v rv->Q v y.st->WT p z y (f rv) P2 X):WT p z x (holding vs (eval e p.env) >>= f) P2 X:=
 I.on hz (.hold (S.ev I.dn q)) k
theorem Cy.tst(I:Cy τ p (n + 1) fr x)(hz:Zk p z)(S:Sn τ e m)(q:(W p.B.pg n).t m fr x.st R X)(k:∀ {b y},Ev p.B pO x y->Cy τ p (n + 1) fr y->R b y.st->WT p z y (fb b) P2 X):WT p z x (isTrue e p.env (eval e p.env) >>= fb) P2 X:=
 .bind I.C hz (S.te I.dn q) fun E C q=>k E (I.to C) q
section
variable{B:Bs}{g:G}{h:cD}{v:V}{rv:au}
@[elab_as_elim] theorem aqy{P:au->Prop}{f:Int->Prop}(q:vI f v)(r:VR B g h v rv)(k:∀ i t,f i->P (.int i t)):P rv:= @aqp (fun v=>VR B g h v rv->P rv) f v q (fun i e r=>r.Hp fun t=>k i t e) r
@[elab_as_elim] theorem akQ{P:au->Prop}{f:Bool->Prop}(q:vB f v)(r:VR B g h v rv)(k:∀ i,f i->P (.bool i)):P rv:= @aqq (fun v=>VR B g h v rv->P rv) f v q (fun i e r=>r.adi (k i e)) r
end
theorem WT.truth{b:Bool}(C:Cx p n fr x)(q:R b x.st):WT p z x (holding [.bool b] (truthy (.bool b))) (PB R) X:=.of (je.of (gO (nF (.mk .refl C.wd LK.refl q))))
theorem Sn.mk'(pn:Pn e)(a:∀ {env t},isTrue e env t=(t >>= fun v=>standAt pos >>= fun J=>holding [v] (truthy v)))(b:∀ {P r fr st} {Q:Bool->St->Prop} {X},(step P r).t m fr st Q X=r.e m fr st (fun v st=>vB (fun b=>Q b st) v) X)(S:E1 τ e m):Sn τ e m:=
 ⟨pn,S,fun I q=>.eq a (I.on .no (S.ev I.dn (b▸q)) fun J I r q=>akQ q r fun J q=>.stand (.truth I.C q))⟩
set_option tactic.hygienic true in
theorem ad7{c:Const}{k:Nat}{v:V}(h:cvl c=some v):Sn τ (.Constant c k pos) (.aj v):=
 .mk' ⟨rfl,rfl,rfl⟩ rfl rfl fun I q=>.eq (eval_Constant ..) (by
  cases c <;> first | exact nn h | skip
  ·exact bV h (fun q=>.pure I.C ⟨_,.none,q⟩) q
  ·exact bV h (fun q=>.pure I.C ⟨_,.bool _,q⟩) q
  ·rename_i i
   exact bV h (fun q=>.leaf (t:=mkInt i) I.C (wpAny_mkInt (.tok I.inv (.int i _))) q) q
  ·rename_i x
   exact bV h (fun q=>.leaf (t:=mkText x) I.C (wpAny_mkText (.tok I.inv (.str x.cps.toList _))) q) q
  ·rename_i x
   exact bV h (fun q=>.leaf (t:=mkTextBytes x.toArray) I.C (wpAny_mkTextBytes (.tok I.inv (.bytes x _))) q) q)
structure OkN(x:Str):Prop where
 d:(x==("__debug__":Str))=false
 c:(x==("__classdict__":Str))=false
 n:x≠"__name__"
 s:(x != ("super":Str))=true
theorem nJ{x:Str}(h:yD x=true):OkN x:=by
 unfold yD at h
 rw[aL,aL,aL] at h
 exact⟨gB _ |>.mp h.1.1.1,gB _ |>.mp h.1.1.2,fun e=>absurd (e▸h.1.2) (by decide),h.2⟩
theorem akR{B:Bs}{sc:Sc}{x:Str}{k:Nat}(h:sc.vs.lookup x=some k)(o:yD x=true):Sn (At B sc) (.Name x pos) (.aD k):=
 .mk' ⟨rfl,rfl,rfl⟩ rfl rfl fun I q=>rA q fun v e q=>I.C.er.elim fun m F=>have O:=nJ o
  .eq (eval_Name _ _ _ O.d) (.stand (.of (je.of (abf F (I.h.s▸h) e O.c fun rv r=>.mk .refl I.C.wd LK.refl ⟨v,r,q⟩))))
end
structure Gl(B:Bs)(sc:Sc)(x:Str)(v:au):Prop where
 gl:x∈sc.gl
 ok:yD x=true
 at_:B.gt.lookup x=some v
structure Gb(B:Bs)(sc:Sc)(x:Str)(v:au):Prop where
 gl:x∈sc.gl
 ok:yD x=true
 no:x∈B.gn
 at_:bootBuiltins x=some v
section
variable{B:Bs}{sc:Sc}{τ:Pl->Prop}{p:Pl}{z:aH->Prop}{n:Nat}{fr:Fm}{x y:fK}{X:Ex}{Q:Po}{β:Type}{P2:β->fK->Prop}{pos:Pos}{E:au->aB->Prop}
theorem Gh(I:Cy (At B sc) p n fr x){y:Str}{v:au}(h:Gl B sc y v){Q:au->aB->Prop}(q:Q v x.s):bD (Mo p.B) p.A (eval (.Name y pos) p.env) Q E x.s:=
 I.C.er.elim fun m R=>have G:=I.h.of (P:=fun B sc=>Gl B sc y v) h
  n8 R.es.kind (R.es.gn y G.gl) (loadGlobal_global (R.es.glob▸I.inv.gl) (I.K.b.F.gts y v G.at_) q) (nJ G.ok).d
theorem Cd(I:Cy (At B sc) p n fr x){y:Str}{v:au}(h:Gb B sc y v){Q:au->aB->Prop}(q:Q v x.s):bD (Mo p.B) p.A (eval (.Name y pos) p.env) Q E x.s:=
 I.C.er.elim fun m R=>have G:=I.h.of (P:=fun B sc=>Gb B sc y v) h
  I.K.b.F.bts.elim fun mb b=>n8 R.es.kind (R.es.gn y G.gl) (loadGlobal_builtin (R.es.glob▸I.inv.gl) (I.K.b.F.gns y G.no) (R.es.blt▸iK b.1 fun e=>I.C.wd.stay.keep e I.K.b.F.bto) (b.2 y v G.at_ (nJ G.ok).n) q) (nJ G.ok).d
theorem ahL{y:Str}{v:V}{rv:au}(h:Gl B sc y rv)(e:gvl rv=some v):Sn (At B sc) (.Name y pos) (.aj v):=
 .mk' ⟨rfl,rfl,rfl⟩ rfl rfl fun I q=>.leaf I.C (Gh I h ⟨.self I.inv,by
  cases rv <;> first | exact nn e | exact bV e (.int _ _) | exact bV e (.str _ _)⟩) q
end
end
section
noncomputable def opv:Operator->Option Bop
 | .Add=>some .add | .Sub=>some .sub | .Mult=>some .mul | .FloorDiv=>some .fdiv | .Mod=>some .mod | .Pow=>some .pow | .LShift=>some .shl | .RShift=>some .shr | .BitAnd=>some .band
 | _=>.none
theorem akS{op:Operator}{o:Bop}(e:opv op=some o):op=anj o:=by
 cases op <;> first | exact nn e | exact aC e▸rfl
noncomputable def RW:CmpOp->Cop
 | .Eq=>.eq | .NotEq=>.ne | .Lt=>.lt | .LtE=>.le | .Gt=>.gt | .GtE=>.ge | .Is=>.is | .IsNot=>.Kq | .In=>.inn | .NotIn=>.Ja
theorem ahM(op:CmpOp):ajD (RW op)=op:=by cases op <;> rfl
section
variable{τ:Pl->Prop}{p:Pl}{z:aH->Prop}{n:Nat}{fr:Fm}{x y:fK}{X:Ex}{Q:Po}{R:Bool->St->Prop}{β:Type}{P P2:β->fK->Prop}{e l r r1 r2:cZ}{m a b c:ME}{pos:Pos}{es:List cZ}{ms:List ME}{va vb v:V}{ra rb:au}{env:Env}
theorem akT{op:Operator}{o:Bop}(ho:opv op=some o)(L:Sn τ l a)(R:Sn τ r b):Sn τ (.BinOp l op r pos) (.bin o a b):=
 .mk' ⟨rfl,rfl,rfl⟩ rfl rfl fun I q=>.eq (eval_BinOp ..) (I.ex .no L q fun E1 I1 r1 q1=>I1.exH .no R q1 fun E2 I2 r2 q2=>rA q2 fun v e q=>.stand (.akz (.leaf I2.C (akS ho▸adt I2.C.wd (r1.go E2) r2 e) q)))
theorem akU(S:Sn τ e m):Sn τ (.UnaryOp .USub e pos) (.neg m):=
 .mk' ⟨rfl,rfl,rfl⟩ rfl rfl fun I q=>.eq (eval_UnaryOp ..) (I.ex .no S q fun E1 I1 r1 q1=>aqy q1 r1 fun i t q=>.stand (.hold (.leaf I1.C (neg_int (.tok I1.inv (.int _ _))) q)))
theorem akV(S:Sn τ e m):Sn τ (.UnaryOp .Not e pos) (.not m):=
 ⟨⟨rfl,rfl,rfl⟩,fun I q=>.eq (eval_UnaryOp ..) (I.ex .no S q fun E1 I1 r1 q1=>akQ q1 r1 fun i q=>.stand (.hold (.leaf I1.C (not_of (nF (.self I1.inv (.bool _)))) q))),
 fun I q=>.eq (arm_isTrue_UnaryOp ..) (I.tst .no S q fun E1 I1 q1=>.pure I1.C q1)⟩
theorem akW{ec el er:cZ}{mc ml mr:ME}(S:Sn τ ec mc)(L:Sn τ el ml)(R:Sn τ er mr):Sn τ (.IfExp ec el er pos) (.ite mc ml mr):=
 ⟨⟨rfl,rfl,rfl⟩,fun I q=>.eq (arm_eval_IfExp ..) (I.tst .no S q fun {b _} E1 I1 q1=>by
  cases b with
  | true=>exact L.ev I1.dn q1
  | false=>exact R.ev I1.dn q1),
 fun I q=>.eq (arm_isTrue_IfExp ..) (I.tst .no S q fun {b _} E1 I1 q1=>by
  cases b with
  | true=>exact L.te I1.dn q1
  | false=>exact R.te I1.dn q1)⟩
inductive PN(k:Nat)(B:Bs)(Q:List V->St->Prop)(rs:List au)(y:fK):Prop
 | mk {vs} (len:rs.length=k) (r:yw B y vs rs) (q:Q vs y.st)
structure T8(τ:Pl->Prop)(es:List cZ)(ms:List ME):Prop where
 len:es.length=ms.length
 ns:∀ {env pos},(backTo pos (starEach es env)).any (·.1)=false
 sp:∀ {n p fr x Q X pos},Cy τ p (n + 1) fr x->Ue (W p.B.pg n) ms fr x.st Q X->WG p x (spliced (backTo pos (starEach es p.env))) (PN es.length p.B Q) X
 bo:∀ {n p fr x Q X pos op},Cy τ p (n + 1) fr x->Z8 (W p.B.pg n) (op==.And) ms fr x.st Q X->WG p x (boolOp pos op (evalEach es p.env)) (PV p.B Q) X
 al:∀ {n p fr x Q X op},Cy τ p (n + 1) fr x->Z9 (W p.B.pg n) (op==.And) ms fr x.st Q X->WG p x (allTrue op es p.env) (PB Q) X
theorem Ce:T8 τ [] []:=⟨rfl,rfl,fun I q=>.pure I.C (.mk rfl .nil q),fun J q=>q.elim,fun I q=>.pure I.C q⟩
theorem Ao(S:Sn τ e m)(T:T8 τ es ms):T8 τ (e::es) (m::ms):=by
 refine⟨congrArg (· + 1) T.len,fun {env pos}=>?_,fun {n p fr x Q X pos} I q=>?_,fun {n p fr x Q X pos op} I q=>?_,fun {n p fr x Q X op} I q=>.eq (arm_allTrue_cons ..) (I.tst .no S q fun {b _} E1 I1 q1=>?_)⟩
 ·rw[S.pn.st]; exact T.ns
 ·rw[S.pn.st]
  exact(I.ex .no S q fun E1 I1 r1 q1=>aP (bL (WG.bind I1.C (.hold (T.sp I1 q1)) fun E2 C2 q2=>by
   cases q2 with | mk len r q=>exact .pure C2 (.mk (congrArg (· + 1) len) (.cons (r1.go E2) r) q))))
 ·cases es with
  | nil=>cases ms with
   | nil=>exact S.ev I.dn q
   | cons=>cases T.len
  | cons e2 es=>cases ms with
   | nil=>cases T.len
   | cons m2 ms=>
    exact(I.ex .no S q fun E1 I1 r1 q1=>akQ q1 r1 fun b q=>.stand (aP (cO (.of (nF (by
     cases op <;> cases b <;> first | exact T.bo I1 q | exact WT.pure I1.C ⟨_,.bool _,q⟩))))))
 ·cases op <;> cases b <;> first | exact T.al I1 q1 | exact WT.pure I1.C q1
theorem ahN{op:BoolOp}(T:T8 τ es ms):Sn τ (.BoolOp op es pos) (.bool (op==.And) ms):=
 ⟨⟨rfl,rfl,rfl⟩,fun I q=>T.bo I q,fun I q=>.eq (arm_isTrue_BoolOp ..) (T.al I q)⟩
theorem Cj{op:CmpOp}{e:cZ}{t:Sem au}(h:behindInMarks op e=false):markedBehindIn op e t=t:=by unfold markedBehindIn; rw[h]
inductive PC(T:Bool->St->Prop)(w:au)(u:fK):Prop
 | mk {i} (h:w=.bool i) (q:T i u.st)
theorem ad8{op:CmpOp}(I:Cy τ p (n + 1) fr x)(r1:VX p.B x va ra)(r2:VX p.B x vb rb)(q:ok (cop x.st (RW op) va vb) fun x'=>R x' x.st):WG p x (compareOp op ra rb) (PC R) X:=
 rA q fun v e q=>.ans I.C (ahM op▸ady I.ok r1 r2 e) (.mk rfl q)
theorem Cy.cmp{op:CmpOp}{t:Sem au->Sem au}{f:au->Sem β}(I:Cy τ p (n + 1) fr x)(r1:VX p.B x va ra)(r2:VX p.B x vb rb)(q:Mine.Internal.ok (cop x.st (RW op) va vb) fun x'=>R x' x.st)(ht:∀ {P:au->fK->Prop},WG p x (compareOp op ra rb) P X->WG p x (t (compareOp op ra rb)) P X)
  (k:∀ {b y},Ev p.B pO x y->Cy τ p (n + 1) fr y->R b y.st->WG p y (f (.bool b)) P X):WG p x (t (compareOp op ra rb) >>= f) P X:=
 WG.bind I.C (ht (ad8 I r1 r2 q)) fun E C q=>by cases q with | mk e q=>exact e▸k E (I.to C) q
theorem ad9{op:CmpOp}(I:Cy τ p (n + 1) fr x)(S:Sn τ r b)(r1:VX p.B x va ra)(q:(W p.B.pg n).e b fr x.st (fun vb st=>ok (cop st (RW op) va vb) fun x=>Q (.bool x) st) X):WG p x (compareChain pos ra [op] [eval r p.env]) (PV p.B Q) X:=
 I.exH .no S q fun E2 I2 r2 q2=>.stand (.akz (.post (ad8 (R:=fun x st=>Q (.bool x) st) I2 (r1.go E2) r2 q2) fun q=>by cases q with | mk e q=>exact e▸⟨_,.bool _,q⟩))
theorem aan{op:CmpOp}(I:Cy τ p (n + 1) fr x)(S:Sn τ r b)(r1:VX p.B x va ra)(q:(W p.B.pg n).e b fr x.st (fun vb st=>ok (cop st (RW op) va vb) fun x=>R x st) X):WG p x (testChain pos ra [op] [eval r p.env]) (PB R) X:=
 I.exH .no S q fun E2 I2 r2 q2=>.stand (I2.cmp (r1.go E2) r2 q2 .akz fun J I3 q=>.truth I3.C q)
theorem aea{op:CmpOp}{F:au->Sem β}{G:au->Sem β}{R:V->St->Prop}{R':St->Prop}(I:Cy τ p (n + 1) fr x)(S:Sn τ r b)(r1:VX p.B x va ra)(q:(W p.B.pg n).e b fr x.st (fun vb st=>ok (cop st (RW op) va vb) fun x=>if x=true then R vb st else R' st) X)
  (k1:∀ {y rb vb},Cy τ p (n + 1) fr y->VX p.B y vb rb->R vb y.st->WG p y (F rb) P X)(k2:∀ {y},Cy τ p (n + 1) fr y->R' y.st->WG p y (G (.bool false)) P X):
  WG p x (holding [ra] (eval r p.env) >>= fun rv=>standAt pos >>= fun J=>(holding [ra,rv] (compareOp op ra rv) >>= fun c=>release [ra,rv] [c] >>= fun J=>(holding [c,rv] (truthy c) >>= fun t=>if t=true then F rv else G c))) P X:=
 I.exH .no S q fun {rv _ vb} E2 I2 r2 q2=>.stand (I2.cmp (R:=fun x st=>if x=true then R vb st else R' st) (r1.go E2) r2 q2 .hold fun {b y} E3 I3 q3=>bY (Dl (aP (cO (.of (nF (by
  cases b with
  | true=>exact k1 I3 (r2.go E3) q3
  | false=>exact k2 I3 q3)))))))
theorem akX{op:CmpOp}(hm:behindInMarks op r=false)(L:Sn τ l a)(S:Sn τ r b):Sn τ (.Compare l [op] [r] pos) (.cmp a (RW op) b):=
 ⟨⟨rfl,rfl,rfl⟩,fun {n p fr x Q X} I q=>(show WG p x (eval l p.env >>= fun lv=>compareChain pos lv [op] [markedBehindIn op r (eval r p.env)]) _ _ from Cj hm▸I.ex .no L q fun E1 I1 r1 q1=>ad9 I1 S r1 q1),
 fun {n p fr x Q X} I q=>(show WG p x (eval l p.env >>= fun lv=>testChain pos lv [op] [markedBehindIn op r (eval r p.env)]) _ _ from Cj hm▸by
  cases n with
  | zero=>exact q.elim
  | succ n=>exact I.dn.ex .no L q fun E1 I1 r1 q1=>aan I1 S r1 q1)⟩
theorem ahO{op op2:CmpOp}(hm:behindInMarks op2 r2=false)(L:Sn τ l a)(S:Sn τ r1 b)(S2:Sn τ r2 c):Sn τ (.Compare l [op,op2] [r1,r2] pos) (.z8 a (RW op) b (RW op2) c):=
 ⟨⟨rfl,rfl,rfl⟩,fun {n p fr x Q X} I q=>(show WG p x (eval l p.env >>= fun lv=>compareChain pos lv [op,op2] [eval r1 p.env,markedBehindIn op2 r2 (eval r2 p.env)]) _ _ from Cj hm▸I.ex .no L q fun E1 I1 x1 q1=>aea I1 S x1 q1 (fun I2 x2 q2=>ad9 I2 S2 x2 q2) fun I2 q2=>.pure I2.C ⟨_,.bool _,q2⟩),
 fun {n p fr x Q X} I q=>(show WG p x (eval l p.env >>= fun lv=>testChain pos lv [op,op2] [eval r1 p.env,markedBehindIn op2 r2 (eval r2 p.env)]) _ _ from Cj hm▸by
  cases n with
  | zero=>exact q.elim
  | succ n=>exact I.dn.ex .no L q fun E1 I1 x1 q1=>aea (G:=fun J=>pure false) I1 S x1 q1 (fun I2 x2 q2=>aan I2 S2 x2 q2) fun I2 q2=>.pure I2.C q2)⟩
end
end
section
theorem pI:1000<=lim:=by decide
section
variable{τ:Pl->Prop}{B:Bs}{sc:Sc}{p:Pl}{z:aH->Prop}{n:Nat}{fr:Fm}{x y:fK}{X:Ex}{Q:Po}{β:Type}{P P2:β->fK->Prop}{e l r:cZ}{m a b c:ME}{pos:Pos}{es:List cZ}{ms:List ME}{va vb v:V}{ra rb:au}{env:Env}
theorem WT.push{o:Obj}{t:Sem au}(C:Cx p n fr x)(h:∀ {E:au->aB->Prop} {Q:au->aB->Prop},Q (.ref x.s.heap.objs.size) {x.s with heap:=x.s.heap.push o}->bD (Mo p.B) p.A t Q E x.s)
  (hv:(x.s.heap.push o).get? x.s.heap.objs.size=some o->VR p.B x.g (x.s.heap.push o) v (.ref x.s.heap.objs.size))(q:Q v x.st)(hfr:o.isFreed=false:=by rfl):WT p z x t (PV p.B Q) X:=
 .leaf C (h ⟨.kp C.wd.inv .push,hv (bK _ hfr)⟩) q
theorem akY{k:Nat}(hz:es.length<=1000)(T:T8 τ es ms):Sn τ (.Tuple es k pos) (.tup ms):=
 .mk' ⟨rfl,rfl,rfl⟩ rfl rfl fun I q=>.eq (BJ ..) (.stand (WG.bind I.C (T.sp I q) fun E1 C1 q1=>by
  cases q1 with | @mk vs len r q=>
  have w:=C1.wd.new fM
  exact .push (v:=.tup vs) C1 (fun h=>qW h (ak (len▸hz) (ak pI jw))) (fun e=>.tup e rfl rfl w.1 w.2.1 (r.kp .push)) q))
theorem ahP(hz:es.length<=1000)(T:T8 τ es ms):Sn τ (.List es pos) (.jJ ms):=
 .mk' ⟨rfl,rfl,rfl⟩ rfl rfl fun I q=>.eq (arm_eval_List ..) (.stand (WG.bind I.C (T.sp I q) fun E1 C1 q1=>by
  cases q1 with | @mk vs len r q=>
  have w:=C1.wd.new fM
  exact .push (v:=.lst vs) C1 (fun h=>sE h (ak (len▸hz) (ak pI jw))) (fun e=>.lst e rfl rfl w.1 w.2.1 (ak (r.length▸len▸hz) pI) (r.kp .push)) q))
theorem aao{g:G}{h:cD}{p:aH×Option aH}{st:St}(e:g.v.length=st.length):VR B ⟨g.v++[p],g.hid⟩ h (.ref st.length) (.ref p.1):=
 .ref (by rw[← e]; exact List.getElem?_concat_length)
theorem WT.anz{ob:Mine.Internal.O}{s':aB}{q:aH×Option aH}(C:Cx p n fr x)(k:Kp x.s s')(h1:x.s.heap.get? q.1=none)(h2:∀ {d},q.2=some d->x.s.heap.get? d=none)
  (ho:Tr p.B x.g x.s.heap ⟨x.g.v++[q],x.g.hid⟩ s'.heap->OR p.B ⟨x.g.v++[q],x.g.hid⟩ s'.heap ob q)(hq:Q (.ref x.st.length) (x.st++[ob])):QT p pO x (PV p.B Q) (.ref q.1) s':=
 have w:=C.wd.push k h1 h2 ho; .mk w.2 w.1 (C.lk w.2) ⟨_,aao C.wd.sr.len,hq⟩
theorem WG.ajH{o:Obj}{ob:Mine.Internal.O}{t:Sem au}(C:Cx p n fr x)(h:∀ {E:au->aB->Prop} {Q:au->aB->Prop},Q (.ref x.s.heap.objs.size) {x.s with heap:=x.s.heap.push o}->bD (Mo p.B) p.A t Q E x.s)
  (ho:Tr p.B x.g x.s.heap ⟨x.g.v++[(x.s.heap.objs.size,none)],x.g.hid⟩ (x.s.heap.push o)->(x.s.heap.push o).get? x.s.heap.objs.size=some o->OR p.B ⟨x.g.v++[(x.s.heap.objs.size,none)],x.g.hid⟩ (x.s.heap.push o) ob (x.s.heap.objs.size,none))
  (q:Q (.ref x.st.length) (x.st++[ob]))(hfr:o.isFreed=false:=by rfl):WG p x t (PV p.B Q) X:=
 je.of (h (WT.anz (q:=(x.s.heap.objs.size,none)) C .push fM (fun e=>nn e) (fun t=>ho t (bK _ hfr)) q))
theorem ahQ(hz:es.length<=1000)(T:T8 τ es ms):Sn τ (.List es pos) (.Fg ms):=
 .mk' ⟨rfl,rfl,rfl⟩ rfl rfl fun I q=>.eq (arm_eval_List ..) (.stand (WG.bind I.C (T.sp I q) fun E1 C1 q1=>by
  cases q1 with | @mk vs len r q=>
  exact WG.ajH (ob:=.list vs) C1 (fun h=>sE h (ak (len▸hz) (ak pI jw))) (fun t e=>.mk rfl e (r.tr t) (ak (r.length▸len▸hz) pI)) q))
theorem ahR:Sn τ (.Dict [] [] pos) .dict:=
 .mk' ⟨rfl,rfl,rfl⟩ rfl rfl fun I q=>.eq (eval_Dict_empty ..) (.stand (WG.ajH (ob:=.dict []) (o:={cls:=.type "dict",data:=.dict #[]}) I.C (fun h=>lC h (cL _)) (fun t e=>⟨rfl,.i (Heap.DictOf.new _) .nil,cL _⟩) q))
theorem Dp{B:Bs}{f:Nat}{a:Str}(hf:B.nms[f]?=some a):a=B.nm f:=by unfold Bs.nm; rw[aV,hf]; rfl
theorem ahS{o:cZ}{a:Str}{f:Nat}(S:Sn (At B sc) o m)(hf:B.nms[f]?=some a):Sn (At B sc) (.Attribute o a pos) (.bR m f):=
 .mk' ⟨rfl,rfl,rfl⟩ rfl rfl fun I q=>.eq (arm_eval_Attribute ..) (I.on .no (WT.eq S.pn.ba (S.ev I.dn q)) fun E1 I1 r1 q1=>rA q1 fun v e q=>.stand (I1.on .no (.hold (.leaf (Q:=fun w st=>w=v/\st=_) I1.C (by rw[Dp (I1.h.b.symm▸hf:(Pl.B _).nms[f]?=some a)]; exact abC I1.K.b.F I1.C.wd r1 e) ⟨rfl,rfl⟩)) fun E2 I2 r2 q2=>
  bY (wpAny_letTemporaryGo (WT.pure I2.C ⟨_,r2,by rw[q2.1,q2.2]; exact q⟩))))
theorem akZ{o i:cZ}(S:Sn τ o a)(T:Sn τ i b):Sn τ (.Subscript o i pos) (.qy a b):=
 .mk' ⟨rfl,rfl,rfl⟩ rfl rfl fun I q=>.eq (arm_eval_Subscript ..) (I.ex .no S q fun E1 I1 r1 q1=>I1.exH .no T q1 fun E2 I2 r2 q2=>rA q2 fun v e q=>.stand (.leaf I2.C (adB I2.C.wd (fun J J=>T.pn.sl) (r1.go E2) r2 e) q))
noncomputable def OV(B:Bs)(x:fK):Option V->au->Prop
 | .none,rv=>rv=.none
 | some v,rv=>VX B x v rv
inductive PO(B:Bs)(T:Option V->St->Prop)(w:au)(u:fK):Prop
 | mk {ov} (r:OV B u ov w) (q:T ov u.st)
theorem OV.go{y}{v:Option V}{rv:au}(E:Ev B pO x y)(r:OV B x v rv):OV B y v rv:=by
 cases v with
 | none=>exact r
 | some v=>exact VR.go E r
noncomputable def So(τ:Pl->Prop)(e:Option cZ)(m:Option ME):Prop:=∀ {n p fr x Q X},Cy τ p (n + 1) fr x->Xm (W p.B.pg n) m fr x.st Q X->WG p x (valueOrNone (evalOpt e p.env)) (PO p.B Q) X
theorem ahT:So τ none none:=fun I q=>.pure I.C (.mk (ov:=.none) rfl q)
theorem ahU(S:Sn τ e m):So τ (some e) (some m):=fun I q=>.post (S.ev I.dn q) fun q=>q.elim fun v q=>.mk (ov:=some v) q.1 q.2
theorem OV.pr{v:Option V}{rv:au}{o:Option Int}(r:OV B x v rv)(e:Xj v=some o):PR v rv:=by
 cases v with
 | none=>exact r
 | some v=>exact @Xh _ (fun v=>VX B x v rv->PR (some v) rv) _ v o e (fun i e r=>VR.Hp (P:=fun rv=>PR (some (.int i)) rv) r fun t=>⟨i,t,rfl,rfl⟩) r
theorem WT.later{t:Sem β}(C:Cx p n fr x)(E:Ev p.B pO x y)(h:WG p y t P X):je (Mo p.B) p.A t (QT p pO x P) (QX p pO x X) y.s:=
 bT h (fun J J q=>q.start E (C.lk E)) fun J J q=>q.yx C E (fun q=>q.elim) (C.lk E)
inductive SlP(τ:Pl->Prop)(p:Pl)(n:Nat)(fr:Fm)(x:fK)(T:Option V->Option V->St->Prop)(w:au)(s':aB):Prop
 | mk {u rl ru ol oh} (E:Ev p.B pO x u) (I:Cy τ p n fr u) (l:OV p.B u ol rl) (h:OV p.B u oh ru) (q:T ol oh u.st) (e:w=.ref u.s.heap.objs.size) (es:s'={u.s with heap:=u.s.heap.push (Lj rl ru)})
theorem ahV{lo hi:Option cZ}{p0:Pos}{ml mh:Option ME}{T:Option V->Option V->St->Prop}(I:Cy τ p (n + 1) fr x)(L:So τ lo ml)(H:So τ hi mh)(q:Xm (W p.B.pg n) ml fr x.st (fun ol st=>Xm (W p.B.pg n) mh fr st (fun oh st=>T ol oh st) X) X):
  je (Mo p.B) p.A (eval (.Slice lo hi none p0) p.env) (SlP τ p (n + 1) fr x T) (QX p pO x X) x.s:=
 Ho (arm_eval_Slice ..) (aP (bT (L I q) (fun J J q=>by
  cases q with | mk ev wd lk q=>
  cases q with | mk r2 q2=>
  have C2:=I.C.up ev wd
  exact aP (cO (bT (H (I.to C2) q2) (fun J J q=>by
   cases q with | mk ev' wd lk q=>
   cases q with | mk r3 q3=>
   exact aP (cO (bL (.of (lC (.mk (ev.trans ev') (I.to (C2.up ev' wd)) (r2.go ev') r3 q3 rfl rfl)))))) fun J J q=>q.yx I.C ev (fun q=>q.elim) lk))) fun J J q=>q))
theorem QT.lv{s':aB}(C:Cx p n fr x)(k:LV p.B x v ra s')(q:Q v x.st):QT p z x (PV p.B Q) ra s':=.mk (g':=x.g) (st':=x.st) k.k.ev (k.k.wd C.wd) (C.lk (y:=⟨x.g,x.st,s'⟩) k.k.ev) ⟨v,k.r,q⟩
theorem Yk{lo hi:Option cZ}{p:Pos}:J3 (.Slice lo hi none p):=fun J J=>rfl
theorem aeb{st:St}{lo hi:Option V}{u:V}{P:Prop}(e:uw st va lo hi=some u)(k:∀ {o o'},Xj lo=some o->Xj hi=some o'->P):P:=gR e fun o e1 e=>gR e fun o' e2 J=>k e1 e2
theorem aec{o:cZ}{lo hi:Option cZ}{p0:Pos}{ml mh:Option ME}(S:Sn τ o a)(L:So τ lo ml)(H:So τ hi mh):Sn τ (.Subscript o (.Slice lo hi none p0) pos) (.slice a ml mh):=
 .mk' ⟨rfl,rfl,rfl⟩ rfl rfl fun I q=>.eq (arm_eval_Subscript ..) (I.ex .no S q fun E1 I1 r1 q1=>aP (cO (bT (ahV I1 L H q1) (fun J J q=>by
  cases q with | mk E I2 l h q e es=>
  subst e es
  exact rA q fun v e q=>aeb e fun e1 e2=>aP (gW (.of (cj (XQ I2.C.wd Yk (r1.go E) (l.pr e1) (h.pr e2) e) (fun J J k=>QT.start E (I1.C.lk E) (.lv I2.C k q)) fun J J e=>e.elim)))) fun J J q=>q)))
end
end
section
section
variable{M:jC}{A:cI}{E:au->aB->Prop}{s:aB}{Q:au->aB->Prop}
theorem Lx{f:au}{args:List (Bool×Sem au)}{Q:Args->aB->Prop}(h0:args.any (·.1)=false)(h:je M A (spliced args) (fun vs s'=>Q ⟨vs,[]⟩ s') E s):je M A (evalArgs f true args []) Q E s:=by
 cases args with
 | nil=>exact aP (bT h (fun vs s' h'=>cO (aP (bL (aP (bL (bL h')))))) fun J J x=>x)
 | cons a rest=>
  obtain⟨b,t⟩:=a
  cases b with
  | true=>cases h0
  | false=>exact aP (bT h (fun vs s' h'=>cO (aP (bL (aP (bL (bL h')))))) fun J J x=>x)
inductive KpA(M:jC)(h:cD)(f:au):Prop
 | fr (l:yc M h (keeperOf f) .frame)
 | ma (l:yc M h (keeperOf f) .machine)
theorem RX{α:Type}{c:Prop}[Decidable c]{a b:Sem α}{Q:α->aB->Prop}(ha:je M A a Q E s)(hb:je M A b Q E s):je M A (if c then a else b) Q E s:=by
 by_cases q:c
 ·rw[if_pos q]; exact ha
 ·rw[if_neg q]; exact hb
theorem yE{f:au}{first:List au}{pos:Pos}{args:List (Bool×Sem au)}(h0:args.any (·.1)=false)
  (h:je M A (evalArgs f true args []) (fun a s1=>KpA M s1.heap f/\je M A (call f (first++a.pos) a.kw) Q E s1) E s):je M A (callWith pos f first args []) Q E s:=by
 unfold callWith
 refine aP (cO (bT h (fun a s1 z=>aP (gW ?_)) fun J J x=>x))
 rw[h0,List.any_nil,rY]
 have tail:∀ {t:Sem au},je M A t Q E s1->je M A (t >>= fun r=>holding [r] point >>= fun J=>pure r) Q E s1:=
  fun ht=>aP (bT ht (fun r s2 hr=>aP (cO (wR (bL hr)))) fun J J x=>x)
 have marked (mk:au):je M A (callMarked mk f (first++a.pos) a.kw) Q E s1:=fun Γ p i c=>by
  unfold callMarked
  rw[Sem.wp_keep]
  exact z.2 Γ p i c
 cases z.1 with
 | fr L=>exact bY (L.here (RX (tail z.2) (tail (marked _))))
 | ma L=>exact bY (L.here (tail z.2))
end
section
variable{τ:Pl->Prop}{B:Bs}{sc:Sc}{p:Pl}{z:aH->Prop}{n:Nat}{fr:Fm}{x y:fK}{X:Ex}{Q:Po}{β:Type}{P:au->fK->Prop}{e:cZ}{m:ME}{pos:Pos}{es:List cZ}{ms:List ME}{va v:V}{ra:au}{env:Env}{T:List V->St->Prop}{f:au}{first:List au}
noncomputable def Kpr(B:Bs)(f:au):Prop:=∀ {h},Ec B h->KpA (Mo B) h f
theorem Cy.aed(I:Cy τ p (n + 1) fr x)(S:T8 τ es ms)(hk:Kpr p.B f)(q:Ue (W p.B.pg n) ms fr x.st T X)
  (k:∀ {rs vs y},rs.length=es.length->Ev p.B pO x y->Cy τ p (n + 1) fr y->yw p.B y vs rs->T vs y.st->WG p y (call f (first++rs)) P X):WG p x (callWith pos f first (backTo pos (starEach es p.env)) []) P X:=
 yE S.ns (Lx S.ns (bT (S.sp I q) (fun rs s1 q=>by
  cases q with | mk ev wd lk q=>
  cases q with | mk len r q=>
  exact⟨hk wd.stay,WT.later I.C ev (k len ev (I.to (I.C.up ev wd)) r q)⟩) fun J J q=>q))
theorem Cy.aee(I:Cy τ p (n + 1) fr x)(S:T8 τ es ms)(hk:Kpr p.B f)(q:Ue (W p.B.pg n) ms fr x.st T X)
  (k:∀ {rs vs y},Ev p.B pO x y->Cy τ p (n + 1) fr y->yw p.B y vs rs->T vs y.st->WG p y (call f (first++rs)) P X):WG p x (callWith pos f first (backTo pos (starEach es p.env)) []) P X:=I.aed S hk q fun J=>k
theorem yF{id:String}:Kpr B (.builtin id):=fun J=>.ma (Looks.of_pure rfl)
theorem w5{id:String}:Kpr B (.type id):=fun J=>.ma (Looks.of_pure rfl)
section
variable{α:Type}{g:G}{h:cD}{a:V}{c:α}{vs:List V}{rs:List au}
@[elab_as_elim] theorem tQ{P:List au->Prop}{f:V->Option α}(e:one f vs=some c)(r:jV B g h vs rs)(k:∀ {a ra},VR B g h a ra->f a=some c->P [ra]):P rs:=
 @Z0 _ (fun vs=>jV B g h vs rs->P rs) f vs c e (fun v e r=>jV.ahn (P:=P) r fun J a=>k a e) r
@[elab_as_elim] theorem aap{P:List au->Prop}{f:V->V->Option α}(e:two f vs=some c)(r:jV B g h vs rs)(k:∀ {a b ra rb},VR B g h a ra->VR B g h b rb->f a b=some c->P [ra,rb]):P rs:=
 @amV _ (fun vs=>jV B g h vs rs->P rs) f vs c e (fun v w e r=>jV.ane (P:=P) r fun J J a b=>k a b e) r
end
noncomputable def biF:Bi->Option au
 | .len=>some (.builtin "len") | .sum=>some (.builtin "sum") | .bytes=>some (.type "bytes") | .ord=>some (.builtin "ord") | .chr=>some (.builtin "chr") | .all=>some (.builtin "all") | .sorted=>some (.builtin "sorted")
 | .max=>some (.builtin "max") | .min=>some (.builtin "min") | .int=>some (.type "int") | .str=>some (.type "str") | .list=>.none | .isStr=>.none | .qd=>.none
theorem ahW{A:cI}{b:Bi}(O:Ok B A x)(hb:biF b=some f){vs:List V}{rs:List au}(r:yw B x vs rs)(e:JH x.st b vs=some v):WL B A x (call f rs) v:=by
 cases b with
 | len=>exact bV hb (tQ e r fun r e=>adF O.wd r e)
 | sum=>exact bV hb (tQ e r fun r e=>adG O r e)
 | bytes=>exact bV hb (tQ e r fun r e=>Yd O r e)
 | ord=>exact bV hb (tQ e r fun r e=>adI O.wd r e)
 | chr=>exact bV hb (tQ e r fun r e=>adJ O.wd r e)
 | all=>exact bV hb (tQ e r fun r e=>adH O r e)
 | sorted=>exact bV hb (tQ e r fun r e=>Ve O r e)
 | max=>exact bV hb (aap e r fun r r' e=>adK O r r' e)
 | min=>exact bV hb (aap e r fun r r' e=>adL O r r' e)
 | int=>exact bV hb (tQ e r fun r e=>adM O.wd r e)
 | str=>exact bV hb (tQ e r fun r e=>adN O.wd r e)
 | _=>exact nn hb
theorem ahX{b:Bi}(hb:biF b=some f):Kpr B f:=by
 cases b <;> first | exact nn hb | exact bV hb yF | exact bV hb w5
theorem Ck{y:Str}{p0:Pos}(h:(y != ("super":Str))=true):Pn (.Call (.Name y p0) es [] pos):=
 ⟨rfl,rfl,fun {a env t}=>by
  cases es with
  | nil=>exact(show(if((y != ("super":Str)) || _ || _ || _)=true then t else _)=t from if_pos (by rw[h,tY,tY,tY]))
  | cons=>rfl⟩
theorem Cy.Ly{y:Str}{p0:Pos}(I:Cy τ p (n + 1) fr x)(S:T8 τ es ms)(hn:bD (Mo p.B) p.A (eval (.Name y p0) p.env) (fun r' s'=>r'=f/\s'=x.s) (fun J J=>False) x.s)(hk:Kpr p.B f)(q:Ue (W p.B.pg n) ms fr x.st T X)
  (k:∀ {rs vs y},Ev p.B pO x y->Cy τ p (n + 1) fr y->yw p.B y vs rs->T vs y.st->WG p y (call f rs) P X):WG p x (eval (.Call (.Name y p0) es [] pos) p.env) P X:=
 (show WG p x (eval (.Name y p0) p.env >>= fun f=>callWith pos f [] (backTo pos (starEach es p.env)) []) P X from .look hn (I.aee S hk q k))
theorem anA{y:Str}{p0:Pos}{b:Bi}(hb:biF b=some f)(hg:Gb B sc y f)(S:T8 (At B sc) es ms):Sn (At B sc) (.Call (.Name y p0) es [] pos) (.bi b ms):=
 .mk' (Ck (nJ hg.ok).s) rfl rfl fun I q=>I.Ly S (Cd I hg ⟨rfl,rfl⟩) (ahX hb) q fun E1 I1 r q=>rA q fun v e q=>.leaf I1.C (ahW I1.ok hb r e) q
theorem aef{p0:Pos}(hg:Gb B sc "bytearray" (.type "bytearray")):Sn (At B sc) (.Call (.Name "bytearray" p0) [] [] pos) .Ub:=
 .mk' (Ck (nJ hg.ok).s) rfl rfl fun {n p fr x Q X} I q=>I.Ly (T:=fun vs st=>vs=[]/\Q (.ref st.length) (st++[Mine.Internal.O.ba []])) Ce (Cd I hg ⟨rfl,rfl⟩) w5 ⟨rfl,q⟩ fun E1 I1 r q=>by
  obtain⟨rfl,q⟩:=q
  exact jV.Fz (P:=fun rs=>WG _ _ (call _ rs) _ _) r (abx fun h' K f0 e=>WT.anz (ob:=.ba []) (q:=(_,none)) I1.C K f0 (fun e=>nn e) (fun t=>⟨rfl,e,cL _⟩) q)
end
end
section
theorem O4:PlainAttrs "bytearray":=
 ⟨⟨"bytearray.__getattribute__",by rw[cP,bO]; kernel_rfl,by decide +kernel⟩,by rw[cP,bO]; kernel_rfl⟩
theorem Lz:typeOf (.builtin "bytearray.extend")=pure (.type "method_descriptor"):=by show builtinType _=_; rw[builtinType_eq_fast]; kernel_rfl
structure MtD where
 T:String
 a:Str
 id:String
structure Mt(d:MtD):Prop where
 pa:PlainAttrs d.T
 slot:Slot d.T d.a d.id
 ty:typeOf (.builtin d.id)=pure (.type "method_descriptor")
noncomputable def bmD:Bm->Option MtD
 | .append=>some ⟨"list","append","list.append"⟩ | .Xg=>some ⟨"dict","get","dict.get"⟩ | .Oi=>some ⟨"dict","get","dict.get"⟩ | .pop=>some ⟨"dict","pop","dict.pop"⟩
 | .split=>some ⟨"str","split","str.split"⟩ | .join=>some ⟨"str","join","str.join"⟩ | .Kr=>some ⟨"bytearray","extend","bytearray.extend"⟩ | .extend=>.none
theorem anC{b:Bm}{d:MtD}(e:bmD b=some d):Mt d:=by
 cases b with
 | append=>exact bV e ⟨PySem.F.plainAttrs_list,PySem.F.slot_list_append,PySem.F.type_list_append⟩
 | Xg=>exact bV e ⟨PySem.F.plainAttrs_dict,PySem.F.slot_dict_get,PySem.F.type_dict_get⟩
 | Oi=>exact bV e ⟨PySem.F.plainAttrs_dict,PySem.F.slot_dict_get,PySem.F.type_dict_get⟩
 | pop=>exact bV e ⟨PySem.F.plainAttrs_dict,PySem.F.slot_dict_pop,PySem.F.type_dict_pop⟩
 | split=>exact bV e ⟨PySem.F.plainAttrs_str,PySem.F.slot_str_split,PySem.F.type_str_split⟩
 | join=>exact bV e ⟨PySem.F.plainAttrs_str,PySem.F.slot_str_join,PySem.F.type_str_join⟩
 | Kr=>exact bV e ⟨O4,uI,Lz⟩
 | extend=>exact nn e
section
variable{τ:Pl->Prop}{B:Bs}{sc:Sc}{p:Pl}{z:aH->Prop}{n:Nat}{fr:Fm}{x y:fK}{X:Ex}{Q Qo:Po}{β:Type}{P:au->fK->Prop}{e o:cZ}{m:ME}{pos ap:Pos}{es:List cZ}{ms:List ME}{va v:V}{ra:au}{env:Env}{T:List V->St->Prop}{f:au}{first:List au}{a:Str}{b:Bm}{d:MtD}
structure TI(s:aB)(T:String)(ra:au):Prop where
 t:s.TypeIs ra T
 d:∀ b,ra=.ref b->∃ o,s.heap.get? b=some o/\o.dict=none
theorem TI.at {s:aB}{T:String}{a:aH}{o:Obj}(e:s.heap.get? a=some o)(c:o.cls=.type T)(d:o.dict=none):TI s T (.ref a):=⟨⟨o,e,c⟩,fun b q=>Value.ref.inj q▸⟨o,e,d⟩⟩
theorem DO.ti{g:G}{l:List (V×V)}{a:aH}{s:aB}(D:DO B g s.heap l a):TI s "dict" (.ref a):=by
 cases D with
 | i d=>exact⟨d.typeIs,fun b q=>Value.ref.inj q▸d.mapOf.noDict _ rfl⟩
 | s d=>exact⟨d.typeIs,fun b q=>Value.ref.inj q▸d.mapOf.noDict _ rfl⟩
theorem R0{f:Nat->Bool}{g:G}{h:cD}{P:au->Prop}(e:Jc f va=true)(r:VR B g h va ra)(k:∀ i p,g.v[i]?=some p->f i=true->P (.ref p.1)):P ra:=by
 cases va with
 | ref i=>exact VR.Xy (P:=P) r fun p hp=>k i p hp e
 | _=>exact nomatch e
theorem anD{g:G}{h:cD}{P:au->Prop}(e:isS va=true)(r:VR B g h va ra)(k:∀ l t,P (.str (txt l) t)):P ra:=by
 cases va with
 | str l=>exact VR.Hq (P:=P) r (k l)
 | _=>exact nomatch e
theorem LQ{α:Type}{o:Option α}{P:Prop}(e:o.isSome=true)(k:∀ a,o=some a->P):P:=by
 cases o with
 | none=>cases e
 | some a=>exact k a rfl
theorem anE(w:Wd B x)(hb:bmD b=some d)(e:bmk x.st b va=true)(r:VX B x va ra):TI x.s d.T ra:=by
 have dct:Jc (fun i=>(dictAt x.st i).isSome) va=true->TI x.s "dict" ra:=fun e=>R0 (P:=TI x.s "dict") e r fun i p hp e=>LQ e fun l hl=>(w.sr.obj (wQ hl) hp).d.ti
 have str:isS va=true->TI x.s "str" ra:=fun e=>anD (P:=TI x.s "str") e r fun l t=>⟨typeIs_str _ _ _,fun J q=>nomatch q⟩
 cases b with
 | append=>exact bV hb (R0 (P:=TI x.s "list") e r fun i p hp e=>LQ e fun l hl=>by cases w.sr.obj (BP hl) hp with | mk _ o=>exact .at o rfl rfl)
 | Xg=>exact bV hb (dct e)
 | Oi=>exact bV hb (dct e)
 | pop=>exact bV hb (dct e)
 | split=>exact bV hb (str e)
 | join=>exact bV hb (str e)
 | Kr=>exact bV hb (R0 (P:=TI x.s "bytearray") e r fun i p hp e=>LQ e fun l hl=>.at (w.sr.obj (Q8 hl) hp).o rfl rfl)
 | extend=>exact nn hb
theorem WM.of3{t:Sem au}{q:V×St}{A:cI}(w:Wd B x)(h:WL B A x t q.1/\q.2=x.st):WM B A x t q:=cj h.1 (fun J J l=>⟨h.2▸.of3 w l.k,l.r⟩) fun J J e=>e
theorem abF{rv:au}{vx:V}{u:V×St}(C:Cx p n fr x)(r:VX p.B x va ra)(rx:VX p.B x vx rv)(e:ajy x.st va vx=some u)(q:Q u.1 u.2):WG p x (call (.builtin "bytearray.extend") [ra,rv]) (PV p.B Q) X:=
 @abg p.B x.g x.s.heap va ra _ (fun ra=>WG p x (call (.builtin "bytearray.extend") [ra,rv]) (PV p.B Q) X) u _ e r fun i pa hp e=> @akB p.B x.g x.s.heap vx rv _ (fun rv=>WG p x (call (.builtin "bytearray.extend") [.ref pa.1,rv]) (PV p.B Q) X) u _ e rx fun mm t e=>gR e fun l hl e=>Ks e |>.elim fun hz eu=>by
  subst eu
  have O:=C.wd.sr.obj (Q8 hl) hp
  refine Yb O.o (ak (bH hz) jw) fun h' q1 q2=>?_
  have c:LC p.B x (x.st.set i (.ba (l++mm))) {x.s with heap:=h',toks:=x.s.toks}:=.set C.wd hp q2 ⟨_,q1⟩ (wV O.o nofun) fun t=>⟨O.e,q1,by rw[aF]; exact bH hz⟩
  exact .mk c.ev c.wd (C.lk (y:=⟨_,_,_⟩) c.ev) ⟨_,.none,q⟩
theorem ahY(C:Cx p (n + 1) fr x)(hb:bmD b=some d){vs:List V}{rs:List au}(r:VX p.B x va ra)(rr:yw p.B x vs rs)(q:ok (Z7 x.st b va vs) fun u=>Q u.1 u.2):WG p x (call (.builtin d.id) (ra::rs)) (PV p.B Q) X:=
 rA q fun u e qq=>by
  have w:=C.wd
  cases b with
  | append=>exact bV hb (tQ e rr fun r' e=>.Qg C (UJ w r r' e) qq)
  | Xg=>exact bV hb (tQ e rr fun r' e=>.Qg C (abt w r r' e) qq)
  | Oi=>exact bV hb (aap e rr fun r' r'' e=>.Qg C (abu w r r' r'' e) qq)
  | pop=>exact bV hb (tQ e rr fun r' e=>.Qg C (adT w r r' e) qq)
  | split=>exact bV hb (tQ e rr fun r' e=>.Qg C (.of3 w (X7 w r r' e)) qq)
  | join=>exact bV hb (tQ e rr fun r' e=>.Qg C (.of3 w (abq w r r' e)) qq)
  | Kr=>exact bV hb (tQ e rr fun r' e=>abF C r r' e qq)
  | extend=>exact nn hb
theorem aeg(S:T8 τ es ms)(hz:es.length<=25):methodCallForm (es.length + 0) (backTo pos (starEach es env)) []=true:=by
 have h:=S.ns (env:=env) (pos:=pos)
 exact cg.mpr ⟨cg.mpr ⟨bx.mpr fun x hx=>(gB _).mpr (eq_false_of_ne_true (List.any_eq_false.mp h x hx)),rfl⟩,decide_eq_true (aA hz (by decide))⟩
theorem Cy.meth(I:Cy τ p (n + 1) fr x)(hline:(ap.endLine==pos.line)=true)(S:Sn τ o m)(T:T8 τ es ms)(hz:es.length<=25)(q:(W p.B.pg n).e m fr x.st Qo X)
  (k:∀ {ra va y pl},Cy τ p (n + 1) fr y->VX p.B y va ra->Qo va y.st->WG p y (holding [ra] (getMethod ra a pl) >>= fun x=>pure pos >>= fun p0=>callWith p0 x.1 x.2 (backTo pos (starEach es p.env)) []) P X):
  WG p x (eval (.Call (.Attribute o a ap) es [] pos) p.env) P X:=
 .eq (arm_eval_Call ..) (I.on .no (.eq S.pn.ba (S.ev I.dn q)) fun E1 I1 r q=>.stand (by
  unfold methodCall
  rw[show(backToKw pos (keywordEach [] p.env))=[] from rfl,show([]:List Keyword).length=0 from rfl,aeg T hz]
  unfold methodCallPos calleeOf
  rw[hline]
  exact k I1 r q))
theorem anF(hline:(ap.endLine==pos.line)=true)(hb:bmD b=some d)(S:Sn τ o m)(T:T8 τ es ms)(hz:es.length<=25):Sn τ (.Call (.Attribute o d.a ap) es [] pos) (.bm b m ms):=
 .mk' ⟨rfl,rfl,rfl⟩ rfl rfl fun I q=>I.meth hline S T hz q fun I1 r q=>by
  have M:=anC hb
  have t:=anE I1.C.wd hb q.1 r
  exact .look (r:=(.builtin d.id,[_])) (gO (getMethod_builtin t.t M.pa M.slot M.ty t.d ⟨rfl,rfl⟩)) (aP (bL (I1.aee T yF q.2 fun E2 I2 rr q=>ahY I2.C hb (r.go E2) rr q)))
end
end
section
section
variable{prog:dO}{w:cY}{A:cI}{E:au->aB->Prop}{s:aB}
theorem O5{id:String}{args:Args}{b:dW}{R:mQ->aB->Prop}(hq:(Code.builtin id args).quiet=true)(hd:Nd (.builtin id args))(hb:entryFor table id=some b)
  (h:bD (model prog w) A.in1 (checkBuiltinCall id args) (fun J c7=>je (model prog w) (A.under (.builtin id args)) (b args)
   (fun fin s'=>match fin with | .done f=>R (.ok f) s' | .again c'=>c'.quiet=true/\Nd c'/\mj (model prog w) A c' R s') (fun e s'=>R (.error e) s') c7)
   (fun e s'=>R (.error e) s') s):mj (model prog w) A (.call (.builtin id) args) R s:=by
 refine gM ?_
 show je _ A.in1 (do checkBuiltinCall id args; again (.builtin id args)) _ _ s
 exact bY (cj h (fun J s1 h1=>bL ⟨hq,hd,vZ hb h1⟩) fun J J q=>q)
theorem Vh{C:aH}{rest:List au}:Nd (.builtin "type.__call__" ⟨.ref C::rest,[]⟩):=aak (v:=nA (.ref C)) (id:="type.__call__") (fun J J J J=>by with_unfolding_all rfl) (by decide +kernel)
theorem anG{C:aH}{rest:List au}{init:au}{Q:au->aB->Prop}(Y:Makes (model prog w) s.heap C)(hi:yc (model prog w) s.heap (typeLookup (.ref C) "__init__") (some init))
  (hb:∀ self,yc (model prog w) s.heap (bindSpecial init self) (init,[self]))(hne:(some init != some (Value.builtin "object.__init__"))=true)
  (hq:je (model prog w) (A.under (.builtin "type.__call__" ⟨.ref C::rest,[]⟩)) (call init (.ref (s.heap.objs.size + 1)::rest)) (fun v s'=>v=.none/\Q (.ref (s.heap.objs.size + 1)) s') E
   {s with heap:=(s.heap.push emptyDict).push (instObj C s.heap.objs.size)}):je (model prog w) A (call (.ref C) rest) Q E s:=by
 obtain⟨h,g,d,t,os⟩:=s
 dsimp only at Y hi hb hq ⊢
 have Y':=Y
 obtain⟨⟨oc,od,cd,sl,hC,e1,e2,e4⟩,made,base,self,top,call,typ⟩:=Y
 refine pF (gM ?_)
 refine bY (m:=load C) (mR hC ?_)
 refine bY (call.at (aP (Ho (tc_bind _) (bL (aP (bL ?_))))))
 refine bL (a:=Fin.again (.call (.builtin "type.__call__") ⟨.ref C::rest,[]⟩)) ⟨rfl,(fun J J J J=>rfl),?_⟩
 refine O5 (mU _ (by decide +kernel)) Vh entry_typeCall (check_slot tc_kind tc_split typ (tc_args _ _ _) ?_)
 unfold dW.«type.__call__»
 have hm:yc (model prog w) h (mroOf (.ref C)) cd.mro:=((Looks.ld (part:=none) hC).andThen .now).andThen .now
 dsimp only
 refine pN (fun q=>rK (show false=true from q)) fun J=>?_
 refine bY (hm.at ?_)
 refine pN (fun q=>by rw[e4] at q; cases q) fun J=>?_
 refine bY (made.at ?_)
 refine aP (bL ?_)
 have k:∀ b o,h.get? b=some o->((h.push emptyDict).push (instObj C h.objs.size)).get? b=some o:=fun b o e=>aW _ (aW _ e)
 have hx:((h.push emptyDict).push (instObj C h.objs.size)).get? (h.objs.size + 1)=some (instObj C h.objs.size):=by heap_get
 have t1:yc (model prog w) ((h.push emptyDict).push (instObj C h.objs.size)) (typeOf (.ref (h.objs.size + 1))) (.ref C):=(Looks.ld hx).andThen .now
 refine aP (cO (pF (.of (new_K Y' hi (.inl hne) ?_))))
 refine bY ((show yc _ _ (isInstance (.ref (h.objs.size + 1)) (.ref C)) true from t1.andThen (self.keeps k)).at ?_)
 refine pN (fun q=>nomatch q) fun J=>?_
 refine aP (cO ?_)
 unfold callSpecial?
 refine bY ((show yc _ _ (specialOf (.ref (h.objs.size + 1)) "__init__") (some init) from t1.andThen (hi.keeps k)).at ?_)
 refine cO (bY (((hb (.ref (h.objs.size + 1))).keeps k).at ?_))
 refine aP (bT hq (fun v s' z=>?_) fun J J z=>z)
 obtain⟨rfl,z⟩:=z
 exact bL (pN (fun q=>absurd q (by decide)) fun J=>bL z)
end
theorem O6(C:aH)(rest:List au):(Code.builtin "type.__call__" ⟨.ref C::rest,[]⟩).weight=1:=by kernel_rfl
theorem R3(C:aH)(rest:List au):(Code.builtin "type.__call__" ⟨.ref C::rest,[]⟩).cUnits=1:=by kernel_rfl
section
variable{τ:Pl->Prop}{B:Bs}{sc:Sc}{p:Pl}{z:aH->Prop}{n:Nat}{fr:Fm}{x y:fK}{X:Ex}{Q Qo:Po}{β:Type}{P:au->fK->Prop}{e o:cZ}{m:ME}{pos ap p0:Pos}{es:List cZ}{ms:List ME}{va v:V}{ra:au}{env:Env}{T:List V->St->Prop}{a nm:Str}{f C i:Nat}
theorem aaq(F:Fb B)(hf:(B.pg.fn f).isSome=true):Kpr B (.ref f):=fun S=>(zp (F.fn hf) (F.F.at S)).elim fun k q=>q.1.elim (fun e=>.fr (e▸q.2)) fun e=>.ma (e▸q.2)
theorem ahZ(hg:Gl B sc nm (.ref f))(hf:(B.pg.fn f).isSome=true)(S:T8 (At B sc) es ms):Sn (At B sc) (.Call (.Name nm p0) es [] pos) (.call f ms):=
 .mk' (Ck (nJ hg.ok).s) rfl rfl fun I q=>I.Ly S (Gh I hg ⟨rfl,rfl⟩) (aaq I.K.b (I.h.b.symm▸hf)) q fun E1 I1 r q=>I1.K.c (fG _) rfl I1.C.dn r q
theorem aeh(hline:(ap.endLine==pos.line)=true)(hn:B.nms[i]?=some a)(S:Sn (At B sc) o m)(T:T8 (At B sc) es ms)(hz:es.length<=25):Sn (At B sc) (.Call (.Attribute o a ap) es [] pos) (.bk i m ms):=
 .mk' ⟨rfl,rfl,rfl⟩ rfl rfl fun I q=>I.meth hline S T hz q fun {ra va y pl} I1 r q=> @aqr (fun va=>VX _ y va ra->WG _ y (holding [ra] (getMethod ra a pl) >>= _) _ _) _ va q (fun j q r=>rA q fun u hu q=>rA q.2 fun f hf qq=>
  .look (r:=(.ref f,[ra])) (gO (by rw[Dp (I1.h.b.symm▸hn:(Pl.B _).nms[i]?=some a)]; exact Vf I1.K.b.F I1.C.wd r hu hf q.1 ⟨rfl,rfl⟩)) (aP (bL (I1.aee T (aaq I1.K.b (I1.K.b.me hf)) qq fun E2 I2 rr q=>I2.K.c (fG _) rfl I2.C.dn (.cons (r.go E2) rr) q)))) r
theorem Cx.made(C:Cx p (n + 1) fr x){K:aH}{rest:List au}:Cx ⟨p.B,p.A.under (.builtin "type.__call__" ⟨.ref K::rest,[]⟩),p.env,p.sc⟩ n fr x:=by
 have a:=C.ar.dn
 refine⟨C.wd,⟨a.hand,?_,?_,a.chain.elim fun l q=>⟨l,q.1,by cases q.2 with | mk e f1 f2 ff al=>exact .mk e f1 f2 ff al⟩⟩,C.er.elim fun m F=>⟨m,⟨⟨F.es.kind,F.es.glob,F.es.blt,F.es.lam,F.es.Xz,F.es.wr,F.es.gn,F.es.cn,F.es.inj,F.es.cb,F.es.apart⟩,F.ns,F.Aj,F.vars,F.cells⟩⟩⟩
 ·show p.A.depth + Code.weight _ + 2 * n<=990
  rw[O6]
  exact ak (by rw[Nat.mul_succ,← jU,cN]; exact dw _) C.ar.depth
 ·show p.A.units + Code.cUnits _ + 16 * n<=9000
  rw[R3]
  exact ak (by rw[Nat.mul_succ,← jU,cN]; exact aZ (by decide) _) C.ar.units
theorem ak1(hg:Gl B sc nm (.ref C))(hf:B.ini C=some f)(S:T8 (At B sc) es ms):Sn (At B sc) (.Call (.Name nm p0) es [] pos) (.new C f ms):=
 .mk' (Ck (nJ hg.ok).s) rfl rfl fun {n p fr x Q X} I q=>by
  have J:=I.K.b.F.ini (I.h.b.symm▸hf:p.B.ini C=some f)
  refine I.Ly S (Gh I hg ⟨rfl,rfl⟩) (fun S=>(zp J.keep (I.K.b.F.at S)).elim fun k q=>q.1.elim (fun e=>.fr (e▸q.2)) fun e=>.ma (e▸q.2)) q fun {rs vs y} E1 I1 r q1=>?_
  have X0:=I.K.b.F.at I1.C.wd.stay
  refine anG (makes_of X0 J.makes) (looks_findIn X0 J.ini) (fun self=>bind_fn X0 self J.fn) rfl ?_
  have hx:((y.s.heap.push emptyDict).push (instObj C y.s.heap.objs.size)).get? (y.s.heap.objs.size + 1)=some (instObj C y.s.heap.objs.size):=by heap_get
  have hd:((y.s.heap.push emptyDict).push (instObj C y.s.heap.objs.size)).get? y.s.heap.objs.size=some emptyDict:=by heap_get
  have w:=I1.C.wd.push (p:=(y.s.heap.objs.size + 1,some y.s.heap.objs.size)) (o:=.inst C []) (s':={y.s with heap:=(y.s.heap.push emptyDict).push (instObj C y.s.heap.objs.size)}) FW (Ak (dw _)) (fun e=>aC e▸fM) fun t=>.mk rfl hx hd .nil (cL _) nofun
  have self:=aao (B:=p.B) (g:=y.g) (h:=(y.s.heap.push emptyDict).push (instObj C y.s.heap.objs.size)) (p:=(y.s.heap.objs.size + 1,some y.s.heap.objs.size)) I1.C.wd.sr.len
  have c:SC p.B n:=I.K.c (fG n)
  exact bT (@c ⟨p.B,p.A.under (.builtin "type.__call__" ⟨.ref C::rs,[]⟩),p.env,p.sc⟩ fr _ f _ _ _ _ rfl (I1.C.up w.2 w.1).made (.cons self (r.go w.2)) q1) (fun v s3 z=>by
   cases z with | mk ev wd lk q=>
   obtain⟨u,ru,q⟩:=q
   exact @aqs (fun u=>VR _ _ _ u v->v=.none/\_) _ u q (fun q ru=>VR.ajC (P:=fun v=>v=.none/\_) ru ⟨rfl,.mk (w.2.trans ev) wd (LK.trans (I1.C.lk w.2) lk) ⟨_,self.go ev,q⟩⟩) ru) fun e s3 z=>by cases z with | mk _ _ q=>exact q.elim
end
end
section
noncomputable def PU{β:Type}(p:Pl)(Q:Fm->St->Prop):β->fK->Prop:=fun J y=>∃ fr m,ER p y fr m/\Q fr y.st
section
variable{τ:Pl->Prop}{B:Bs}{sc:Sc}{p:Pl}{z:aH->Prop}{n k:Nat}{fr:Fm}{x y:fK}{X:Ex}{Q:Fm->St->Prop}{β:Type}{e o i:cZ}{m a b:ME}{pos:Pos}{es:List cZ}{l:List Tg}{v:V}{rv:au}{env:Env}{nm:Str}{st':St}{t:Tg}
theorem Cx.pu(C:Cx p n fr x)(q:Q fr x.st)(u:β):PU p Q u x:=C.er.elim fun m F=>⟨fr,m,F,q⟩
theorem WZ.name(C:Cx p n fr x)(hx:p.sc.vs.lookup nm=some k)(hw:nm∈p.sc.wn)(hv:VX p.B x v rv)(q:Q (pC fr k v) x.st):WZ p x (bindName p.env nm rv) (PU p Q) X:=
 C.er.elim fun m F=>aP (cO (wR (bY (K9 C.wd F hx hw hv fun s' m' E w F' lk=>wR (.mk (g':=x.g) (st':=x.st) (E.weaken fun z=>by
  cases z with
  | l e=>exact .l e
  | c h e=>exact .c (aN.mp h▸hw) e) w lk ⟨_,m',F',q⟩)))))
theorem Cy.eff{t:Sem Unit}{vs us ks:List au}(I:Cy τ p n fr x)(h:bD (Mo p.B) p.A t (fun J=>LC p.B x st') (fun J J=>False) x.s)(q:Q fr st'):WZ p x (holding vs t >>= fun J=>release us ks) (PU p Q) X:=
 aP (cO (.of (cj h (fun J s' l=>.of (Dl (.mk l.ev.of l.wd (I.C.lk (y:=⟨x.g,st',s'⟩) l.ev) (I.C.er.elim fun m F=>⟨fr,m,F.up I.C.wd.tab l.ev fun q=>q.elim,q⟩)))) fun J J e=>e.elim)))
structure NF(f:cZ->Option Str):Prop where
 nm:∀ {id pos y},f (.Name id pos)=some y->y=id
 at_:∀ {o a pos},f (.Attribute o a pos)=none
 sub:∀ {o i pos},f (.Subscript o i pos)=none
 tup:∀ {es k pos},f (.Tuple es k pos)=none
inductive NK1(sc:Sc)(y:Str)(t:Tg):Prop
 | mk {j:Nat} (e:t=.v j) (l:sc.vs.lookup y=some j) (w:y∈sc.wn)
inductive NK(sc:Sc):List Str->List Nat->Prop
 | nil:NK sc [] []
 | cons {y:Str} {j:Nat} {ys:List Str} {js:List Nat} (l:sc.vs.lookup y=some j) (w:y∈sc.wn) (r:NK sc ys js):NK sc (y::ys) (j::js)
structure Tn(τ:Pl->Prop)(e:cZ)(t:Tg):Prop where
 nm:∀ {p f y},τ p->NF f->f e=some y->NK1 p.sc y t
 ae:∀ {es env},assignEach (e::es) env=(false,assign e env)::assignEach es env
 t1:∀ {n p fr x v rv Q X},Cy τ p (n + 1) fr x->VX p.B x v rv->(step p.B.pg (W p.B.pg n)).a t v fr x.st Q X->WZ p x (assign e p.env rv) (PU p Q) X
theorem Tn.to(S:Tn τ e t)(I:Cy τ p n fr x)(r:VX p.B x v rv)(q:(W p.B.pg n).a t v fr x.st Q X):WZ p x (assign e p.env rv) (PU p Q) X:=by
 cases n with
 | zero=>exact q.elim
 | succ n=>exact S.t1 I r q
theorem aqB(hx:sc.vs.lookup nm=some k)(hw:nm∈sc.wn):Tn (At B sc) (.Name nm pos) (.v k):=
 ⟨fun h N e=>.mk rfl (h.s▸N.nm e▸hx) (h.s▸N.nm e▸hw),rfl,fun {n p fr x v rv Q X} I r q=>(show WZ p x (standAt _ >>= fun J=>bindName p.env nm rv) _ _ from .stand (WZ.name I.C (I.h.s▸hx) (I.h.s▸hw) r q))⟩
theorem anH{f:Nat}{a:Str}(S:Sn (At B sc) o m)(hf:B.nms[f]?=some a):Tn (At B sc) (.Attribute o a pos) (.at m f):=
 ⟨fun J N e=>cW N.at_ e,rfl,fun {n p fr x v rv Q X} I r q=>(show WZ p x (holding [rv] (eval o p.env) >>= fun ov=>standAt pos.atName >>= fun J=>holding [rv,ov] (setAttr ov a rv) >>= fun J=>release [rv,ov] []) _ _ from
  I.exH .all S q fun E1 I1 r1 q1=>rA q1 fun st' e q=>.stand (I1.eff (by rw[Dp (I1.h.b.symm▸hf:p.B.nms[f]?=some a)]; exact RT I1.K.b.F I1.C.wd r1 (r.go E1) e) q))⟩
theorem ak2(S:Sn τ o a)(T:Sn τ i b):Tn τ (.Subscript o i pos) (.sub a b):=
 ⟨fun J N e=>cW N.sub e,rfl,fun {n p fr x v rv Q X} I r q=>(show WZ p x (holding [rv] (eval o p.env) >>= fun ov=>holding [rv,ov] (eval i p.env) >>= fun iv=>standAt pos >>= fun J=>holding [rv,ov,iv] (setItem ov iv rv) >>= fun J=>release _ []) _ _ from
  I.exH .all S q fun E1 I1 r1 q1=>I1.exH .all T q1 fun E2 I2 r2 q2=>rA q2 fun st' e q=>.stand (I2.eff (Ry I2.C.wd (r1.go E2) r2 (r.go (E1.trans E2)) e) q))⟩
theorem Cx.zns(C:Cx p n fr x){a:aH}(z:zE p a):wU x.s.heap a:=C.er.elim fun m F=>F.PJ z
theorem VR.goZ(C:Cx p n fr x)(E:Ev p.B (zE p) x y)(r:VX p.B x v rv):VX p.B y v rv:=r.up E C.zns
structure Tns(τ:Pl->Prop)(es:List cZ)(l:List Tg):Prop where
 nk:∀ {p f},τ p->NF f->(es.filterMap f).length=es.length->∃ ks,l=ks.map .v/\NK p.sc (es.filterMap f) ks
 len:∀ {env},(assignEach es env).length=l.length
 fi:∀ {env},(assignEach es env).findIdx? (·.1)=none
 ao:∀ {n p fr x vs rs Q X},Cy τ p (n + 1) fr x->yw p.B x vs rs->aa9 (W p.B.pg n) l vs fr x.st Q X->WZ p x (assignInOrder ((assignEach es p.env).map (·.2)) rs) (PU p Q) X
theorem ah0:Tns τ [] []:=⟨fun J J J=>⟨[],rfl,.nil⟩,rfl,rfl,fun {n p fr x vs rs Q X} I r q=>by
 cases vs with
 | nil=>exact jV.Fz (P:=fun rs=>WZ p x (assignInOrder [] rs) _ _) r (.pure I.C (I.C.pu q ()))
 | cons=>exact q.elim⟩
theorem aei(S:Tn τ e t)(T:Tns τ es l):Tns τ (e::es) (t::l):=
 ⟨fun {p f} h N q=>by
  cases e':f e with
  | none=>
   rw[tV,e'] at q
   exact absurd (ak (aR q.symm) (List.length_filterMap_le f es)) (iH _)
  | some y=>
   rw[tV,e'] at q ⊢
   cases S.nm h N e' with | mk et l w=>
   exact(T.nk h N (jt q)).elim fun ks r=>⟨_::ks,by rw[et,r.1]; rfl,.cons l w r.2⟩,fun {env}=>by rw[S.ae]; exact congrArg (· + 1) T.len,fun {env}=>by rw[S.ae,uT,T.fi]; rfl,fun {n p fr x vs rs Q X} I r q=>by
  rw[S.ae]
  cases vs with
  | nil=>exact q.elim
  | cons v vs=>exact jV.uG (P:=fun rs=>WZ p x (assignInOrder (assign e p.env::(assignEach es p.env).map (·.2)) rs) _ _) r fun rv rs a r=>WZ.bind I.C (.hold (S.to I.dn a q)) fun E1 k1 z=>z.elim fun vp z=>z.elim fun m z=>T.ao (I.to (k1 z.1)) (r.up E1 I.C.zns) z.2⟩
theorem Aq{A:cI}(O:Ok B A x){vs:List V}(r:Sq B x.g x.s.heap "tuple" vs rv):bD (Mo B) A (unpackItems rv vs.length none) (fun items s'=>K3 B x.s s'/\yw B ⟨x.g,x.st,s'⟩ vs items) (fun J J=>False) x.s:=by
 cases r with | @mk a o n ws e q k d no nt ll rs=>
 subst e
 rw[show vs.length=(bA ws).size from rs.length]
 exact unpackItems_tuple O.hand ⟨o,q,k,n,d⟩ fun h' hx=>
  have K:K3 B x.s {x.s with heap:=h'}:=.kp O.wd.inv (.mk' rfl fun b o e=>hx b o (cB (d8 e)) e)
  ⟨K,rs.tr (K.tr O.wd.inv)⟩
theorem anI{k:Nat}(T:Tns τ es l):Tn τ (.Tuple es k pos) (.t l):=
 ⟨fun J N e=>cW N.tup e,rfl,fun {n p fr x v rv Q X} I r q=>.eq (assign_Tuple ..) (.stand (by
  refine @am9 (fun v=>VX p.B x v rv->WZ p x (unpack rv (assignEach es p.env)) (PU p Q) X) _ v q (fun vs q r=>?_) r
  unfold unpack
  rw[T.len,T.fi,q.1]
  exact WT.bind (P:=fun items y=>yw p.B y vs items/\aa9 (W p.B.pg n) l vs fr y.st Q X) I.C .all (WT.hold (.k3 I.C (cj (Aq (x:=x) I.ok r.inv) (fun J J k=>⟨k.1,k.2,q.2⟩) fun J J e=>e))) fun E1 C1 q1=>T.ao (I.to C1) q1.1 q1.2))⟩
end
end
section
noncomputable def HN(fr:Fm):List Nat->List V->Fm
 | [],_=>fr
 | k::ks,vs=>(match vs with | []=>fr | v::vs=>HN (pC fr k v) ks vs)
noncomputable def upd(fr:Fm)(ks:List Nat)(vs:List V)(k:Nat):Option V:=(gH (ks.zip vs) k).or (gH fr k)
theorem Vi{ks:List Nat}{vs:List V}{j:Nat}(h:j∉ks):gH (ks.zip vs) j=.none:=by
 induction ks generalizing vs with
 | nil=>rfl
 | cons a ks ih=>
  cases vs with
  | nil=>rfl
  | cons b vs=>exact(if_neg fun(e:a=j)=>h (e▸.head _)).trans (ih fun q=>h (.tail _ q))
theorem Vj{fr:Fm}{j k:Nat}{ks:List Nat}{v:V}{vs:List V}:upd fr (j::ks) (v::vs) k=if j=k then some v else upd fr ks vs k:=by
 show(if j=k then some v else gH (ks.zip vs) k).or (gH fr k)=_
 by_cases q:j=k
 ·rw[if_pos q,if_pos q]; rfl
 ·rw[if_neg q,if_neg q]; rfl
theorem Qp{ks:List Nat}{vs:List V}{fr:Fm}(h:ks.Nodup)(k:Nat):gH (HN fr ks vs) k=upd fr ks vs k:=by
 induction ks generalizing vs fr with
 | nil=>rfl
 | cons j ks ih=>
  cases vs with
  | nil=>rfl
  | cons v vs=>
   have h:=dj.mp h
   refine(ih h.2).trans ?_
   rw[Vj]
   by_cases q:j=k
   ·subst q; rw[if_pos rfl]; unfold upd; rw[Vi h.1,pG,if_pos rfl]; rfl
   ·rw[if_neg q]; unfold upd; rw[pG,if_neg q]
theorem LR{l:List Str}(h:l.eraseDups.length=l.length):l.Nodup:=by
 have le:∀(n:Nat) (m:List Str),m.length<=n->m.eraseDups.length<=m.length:=fun n=>by
  induction n with
  | zero=>intro m h; cases m with
   | nil=>exact bf _
   | cons=>exact absurd h (Nat.not_succ_le_zero _)
  | succ n ih=>intro m h; cases m with
   | nil=>exact bf _
   | cons a m=>
    rw[List.eraseDups_cons]
    have f:=gj (fun b=> !b==a) m
    exact bI (ak (ih _ (ak f (Nat.le_of_succ_le_succ h))) f)
 have go:∀(n:Nat) (m:List Str),m.length<=n->m.eraseDups.length=m.length->m.Nodup:=fun n=>by
  induction n with
  | zero=>intro m h _; cases m with
   | nil=>exact .nil
   | cons=>exact absurd h (Nat.not_succ_le_zero _)
  | succ n ih=>intro m h e; cases m with
   | nil=>exact .nil
   | cons a m=>
    rw[List.eraseDups_cons] at e
    have e:=jt e
    have f:=gj (fun b=> !b==a) m
    have g:(m.filter fun b=> !b==a).length=m.length:=zG f (e▸le _ _ (bf _))
    have q:=List.length_filter_eq_length_iff.mp g
    have q':m.filter (fun b=> !b==a)=m:=iW.mpr q
    rw[q'] at e
    exact dj.mpr ⟨fun z=>bC ((congrArg Bool.not (beq_self_eq_true a)).symm.trans (q a z)),ih m (Nat.le_of_succ_le_succ h) e⟩
 exact go _ l (bf _) h
section
variable{τ:Pl->Prop}{B:Bs}{sc:Sc}{p:Pl}{z:aH->Prop}{n k:Nat}{fr:Fm}{x y:fK}{X:Ex}{Q:Fm->St->Prop}{β:Type}{e o i:cZ}{m a b:ME}{pos:Pos}{es:List cZ}{l:List Tg}{v:V}{rv:au}{env:Env}{nm:Str}{st':St}{t:Tg}{xs:List Str}{ks:List Nat}{vs:List V}{rs:List au}
theorem ER.congr{fr':Fm}{m:Str->Option au}(F:ER p x fr m)(e:∀ k,gH fr' k=gH fr k):ER p x fr' m:=⟨F.es,F.ns,F.Aj,fun a b=>F.vars a (e _▸b),F.cells⟩
theorem NK.length(h:NK sc xs ks):xs.length=ks.length:=by
 induction h with
 | nil=>rfl
 | cons _ _ _ ih=>exact congrArg (· + 1) ih
theorem NK.nd(h:NK sc xs ks)(inj:∀ {x y k},sc.vs.lookup x=some k->sc.vs.lookup y=some k->x=y)(nd:xs.Nodup):ks.Nodup:=by
 have mem:∀ {xs ks},NK sc xs ks->∀ {x k},sc.vs.lookup x=some k->k∈ks->x∈xs:=fun h=>by
  induction h with
  | nil=>exact fun J q=>nomatch q
  | cons l w r ih=>exact fun e q=>(aY.mp q).elim (fun q=>inj e (q▸l)▸.head _) fun q=>.tail _ (ih e q)
 induction h with
 | nil=>exact .nil
 | cons l w r ih=>exact have nd:=dj.mp nd; dj.mpr ⟨fun q=>nd.1 (mem r l q),ih nd.2⟩
theorem R4(nk:NK p.sc xs ks):∀ {vs:List V} {rs:List au} {more:List (au->Sem Unit)} {mrs:List au} {x:fK} {fr:Fm},Cx p n fr x->yw p.B x vs rs->xs.length=vs.length->
  (∀ {y vp},y.st=x.st->(∀ k,gH vp k=upd fr ks vs k)->Cx p n vp y->(∀ {w rw},VX p.B x w rw->VX p.B y w rw)->WZ p y (assignInOrder more mrs) (PU p Q) X)->
  WZ p x (assignInOrder ((xs.reverse.map fun n=>bindName p.env n)++more) (rs.reverse++mrs)) (PU p Q) X:=by
 induction nk with
 | nil=>
  intro vs rs more mrs x fr C r hl k
  cases vs with
  | nil=>exact jV.Fz (P:=fun rs=>WZ p x (assignInOrder _ (rs.reverse++mrs)) _ _) r (k rfl (fun J=>rfl) C id)
  | cons=>exact nomatch hl
 | @cons x0 j xs ks l w nk ih=>
  intro vs rs more mrs x fr C r hl k
  cases vs with
  | nil=>exact nomatch hl
  | cons v vs=>
   refine jV.uG (P:=fun rs=>WZ p x (assignInOrder _ (rs.reverse++mrs)) _ _) r fun rv rs a r=>?_
   rw[List.reverse_cons,cu,bw,List.reverse_cons,bw]
   exact ih C r (jt hl) fun {y vp} es e1 C1 up=>WZ.bind (t:=holding mrs (bindName p.env x0 rv)) (f:=fun J=>assignInOrder more mrs) C1 (.hold (WZ.name (Q:=fun f st2=>f=pC vp j v/\st2=y.st) C1 l w (up a) ⟨rfl,rfl⟩)) fun E2 k2 z=>z.elim fun fr2 z=>z.elim fun m2 z=>
    k (z.2.2.trans es) (fun i=>by rw[z.2.1,pG,Vj,e1]) (k2 z.1) fun r=>(up r).goZ C1 E2
noncomputable def swF(env:Env)(line:Nat):cZ->Option Str
 | .Name id pos=>if env.kindOf id==some .local && pos.line==line then some id else none
 | _=>none
theorem anK{line:Nat}:NF (swF env line):=⟨fun {id pos y} e=>by
 by_cases q:(env.kindOf id==some .local && pos.line==line)=true
 ·exact(aC ((if_pos q).symm.trans e)).symm
 ·exact nn ((if_neg q).symm.trans e),rfl,rfl,rfl⟩
inductive Sw(tgt:cZ)(t:Tg)(e:cZ)(p:Pl):Prop
 | no (h:swappedStores [tgt] e p.env=pure none)
 | sw {names ks} (h:swappedStores [tgt] e p.env=pure (some names)) (et:t=.t (ks.map .v)) (nk:NK p.sc names ks) (nd:names.Nodup)
theorem ak3{ts es:List cZ}{k k':Nat}{p0 p1:Pos}(T:Tns τ ts l)(h:(es.all (foldedForSure 8) || !(es.all (constantsAlone 8)))=true)(hp:τ p):Sw (.Tuple ts k p0) (.t l) (.Tuple es k' p1) p:=by
 by_cases c1:(!(ts.length==2 || ts.length==3) || es.length != ts.length || p.env.blockKind != .function)=true
 ·exact .no (if_pos c1)
 ·by_cases c2:(es.any fun | .Starred .. =>true | _=>false)=true
  ·exact .no ((if_neg c1).trans (if_pos c2))
  ·have N:=anK (env:=p.env) (line:=(ts.head?.map (·.pos.line)).getD 0)
   by_cases c3:((ts.filterMap (swF p.env ((ts.head?.map (·.pos.line)).getD 0))).length != ts.length || (ts.filterMap (swF p.env ((ts.head?.map (·.pos.line)).getD 0))).eraseDups.length != (ts.filterMap (swF p.env ((ts.head?.map (·.pos.line)).getD 0))).length)=true
   ·exact .no ((if_neg c1).trans ((if_neg c2).trans (if_pos c3)))
   ·by_cases c4:es.all (foldedForSure 8)=true
    ·exact .no ((if_neg c1).trans ((if_neg c2).trans ((if_neg c3).trans (if_pos c4))))
    ·have h:=((tH _ _).mp h).resolve_left c4
     have c5:¬ es.all (constantsAlone 8)=true:=fun q=>by rw[q] at h; exact bC h
     have c3':¬ (_∨_):=fun q=>c3 ((tH _ _).mpr (q.imp bne_iff_ne.mpr bne_iff_ne.mpr))
     have d:=fun q=>c3' (.inl q)
     obtain⟨ks,e,nk⟩:=T.nk hp N (Decidable.not_not.mp d)
     exact .sw (ks:=ks) ((if_neg c1).trans ((if_neg c2).trans ((if_neg c3).trans ((if_neg c4).trans (if_neg c5))))) (congrArg Tg.t e) nk (LR (Decidable.not_not.mp fun q=>c3' (.inr q)))
end
end
section
noncomputable def FlR(B:Bs)(y:fK)(r:uY):Fl->Prop
 | .next=>r=.next
 | .cont=>r=.cont
 | .ret v=>∃ rv,r=.ret rv/\VX B y v rv
inductive PS(p:Pl)(Q:Fl->Fm->St->Prop)(r:uY)(y:fK):Prop
 | mk {f fr m} (r:FlR p.B y r f) (er:ER p y fr m) (q:Q f fr y.st)
inductive Fe(p:Pl):Prop
 | mk {outer L} (e:p.A.frames=some (p.env::outer)) (f:p.env.frame=some L)
structure Cz(τ:Pl->Prop)(p:Pl)(n:Nat)(fr:Fm)(x:fK):Prop where
 I:Cy τ p n fr x
 fe:Fe p
noncomputable def Nc(e:cZ):Prop:=∀ {t line env},swapsWith e t line env=pure false
structure Zn(τ:Pl->Prop)(s:uf)(m:MS):Prop where
 s1:∀ {n p fr x Q X},Cz τ p (n + 1) fr x->(step p.B.pg (W p.B.pg n)).s m fr x.st Q X->WZ p x (exec s p.env) (PS p Q) X
structure Zns(τ:Pl->Prop)(l:List uf)(ms:List MS):Prop where
 ss:∀ {n p fr x Q X},Cz τ p n fr x->ssW (W p.B.pg n) ms fr x.st Q X->WZ p x (execs l p.env) (PS p Q) X
section
variable{τ:Pl->Prop}{B:Bs}{sc:Sc}{p:Pl}{z:aH->Prop}{n k:Nat}{fr:Fm}{x y:fK}{X:Ex}{Q:Fl->Fm->St->Prop}{Q':Fm->St->Prop}{β:Type}{e c tgt:cZ}{m:ME}{mm:MS}{pos:Pos}{es:List cZ}{l a b:List uf}{ms ma mb:List MS}{v:V}{rv:au}{env:Env}{s:uf}{t:Tg}{ks:List Nat}{vs:List V}{f:Fl}{fl:uY}
theorem Cz.dn(I:Cz τ p (n + 1) fr x):Cz τ p n fr x:=⟨I.I.dn,I.fe⟩
theorem Cz.to{fr' y}(I:Cz τ p n fr x)(C:Cx p n fr' y):Cz τ p n fr' y:=⟨I.I.to C,I.fe⟩
theorem Zn.at (S:Zn τ s mm)(I:Cz τ p n fr x)(q:(W p.B.pg n).s mm fr x.st Q X):WZ p x (exec s p.env) (PS p Q) X:=by
 cases n with
 | zero=>exact q.elim
 | succ n=>exact S.s1 I q
theorem Cx.ps(C:Cx p n fr x)(r:FlR p.B x fl f)(q:Q f fr x.st):PS p Q fl x:=C.er.elim fun m F=>.mk r F q
theorem WZ.fin(C:Cx p n fr x)(r:FlR p.B x fl f)(q:Q f fr x.st):WZ p x (pure fl:Sem uY) (PS p Q) X:=.pure C (C.ps r q)
theorem ah2:Zns τ [] []:=⟨fun I q=>WZ.fin (f:=.next) I.I.C rfl q⟩
theorem aek(S:Zn τ s mm)(T:Zns τ l ms):Zns τ (s::l) (mm::ms):=
 ⟨fun {n p fr x Q X} I q=>(show WZ p x (exec s p.env >>= fun f=>match f with | .next=>execs l p.env | f=>pure f) _ _ from WZ.bind I.I.C (S.at I q) fun E k1 q=>by
  cases q with | @mk f fr m r er q=>
  cases f with
  | next=>cases(show _=Flow.next from r); exact T.ss (I.to (k1 er)) q
  | cont=>cases(show _=Flow.cont from r); exact WZ.fin (f:=.cont) (k1 er) rfl q
  | ret v=>
   obtain⟨rv,e,r⟩:=r
   cases e; exact WZ.fin (f:=.ret v) (k1 er) ⟨rv,rfl,r⟩ q)⟩
theorem WZ.ps{t:Sem Unit}(C:Cx p n fr x)(h:WZ p x t (PU p fun fr st=>Q .next fr st) X):WZ p x (t >>= fun J=>(pure Flow.next:Sem uY)) (PS p Q) X:=
 WZ.bind C h fun E k1 z=>z.elim fun vp z=>z.elim fun m z=>WZ.fin (f:=.next) (k1 z.1) rfl z.2
theorem anL{P:Pg}{n:Nat}{fr:Fm}{st:St}{Q:Po}{X:Ex}(q:(W P n).e (.neg (.aj .none)) fr st Q X):False:=by
 cases n with
 | zero=>exact q
 | succ n=>cases n with
  | zero=>exact q
  | succ n=>exact q
theorem ael:Zn τ s (.expr (.neg (.aj .none))):=⟨fun J q=>(anL q).elim⟩
theorem ah3(nc:Nc e)(S:Sn τ e m):Zn τ (.Expr e pos) (.expr m):=
 ⟨fun {n p fr x Q X} I q=>.eq (exec_Expr _ _ _ (I.I.C.er.elim fun m F=>by unfold interactive; rw[F.es.kind]; rfl) nc) (.stand (I.I.ex .all S q fun E1 I1 r1 q1=>je.of (wpAny_dropValue (.mk .refl I1.C.wd LK.refl (I1.C.ps (f:=.next) rfl q1)))))⟩
theorem ah4:Zn τ (.Pass pos) .pass:=⟨fun I q=>.stand (WZ.fin (f:=.next) I.I.C rfl q)⟩
theorem ah5:Zn τ (.Continue pos) .cont:=⟨fun I q=>.stand (WZ.fin (f:=.cont) I.I.C rfl q)⟩
theorem ah6:Zn τ (.Return none pos) (.ret none):=⟨fun I q=>.eq (exec_Return_none ..) (.stand (WZ.fin (f:=.ret .none) I.I.C ⟨_,rfl,.none⟩ q))⟩
theorem ak4(S:Sn τ e m):Zn τ (.Return (some e) pos) (.ret (some m)):=
 ⟨fun I q=>.eq (yd ..) (.stand (I.I.ex .all S q fun E1 I1 r1 q1=>WZ.fin (f:=.ret _) I1.C ⟨_,rfl,r1⟩ q1))⟩
theorem anM(S:Sn τ c m)(T:Zns τ a ma)(U:Zns τ b mb):Zn τ (.If c a b pos) (.ite m ma mb):=
 ⟨fun I q=>.eq (exec_If ..) (.stand (I.I.tst .all S q fun {b _} E1 I1 q1=>by
  cases b with
  | true=>exact T.ss (I.to I1.C).dn q1
  | false=>exact U.ss (I.to I1.C).dn q1))⟩
theorem abG{P:Pg}{st:St}{Q':Fm->St->Prop}(hl:ks.length=vs.length)(q:aa9 (W P n) (ks.map .v) vs fr st Q' X):Q' (HN fr ks vs) st:=by
 induction ks generalizing vs fr with
 | nil=>cases vs with
  | nil=>exact q
  | cons=>cases hl
 | cons k ks ih=>cases vs with
  | nil=>cases hl
  | cons v vs=>cases n with
   | zero=>exact q.elim
   | succ n=>exact ih (jt hl) q
theorem ak5(nc:Nc e)(hs:∀ {p},τ p->Sw tgt t e p)(T:Tn τ tgt t)(S:Sn τ e m):Zn τ (.Assign [tgt] e pos) (.eG t m):=
 ⟨fun {n p fr x Q X} I q=>.eq (exec_Assign ..) (.stand (aP (Ho (show swapsWithSole [tgt] e pos.line p.env=pure false from nc) (bL (pN nofun fun J=>I.I.ex .all S q fun {rv y v} E1 I1 r q1=>by
  cases hs I1.h with
  | no h=>
   refine aP (Ho h (bL ?_))
   rw[T.ae]
   exact WZ.ps (t:=assign tgt p.env rv) I1.C (T.to I1.dn r q1)
  | @sw names ks h et nk nd=>
   subst et
   refine aP (Ho h (bL (aP (Fw ?_))))
   cases n with
   | zero=>exact q1.elim
   | succ n=>
   refine @am9 (fun v=>VX p.B y v rv->WZ p y (unpackItems rv names.length none >>= fun items=>assignInOrder (names.reverse.map fun n=>bindName p.env n) items.reverse >>= fun J=>pure Flow.next) (PS p Q) X) _ v q1 (fun vs q r=>?_) r
   have hl:ks.length=vs.length:=(aQ ..).symm.trans q.1
   have hn:=nk.length.trans hl
   rw[hn]
   refine WT.bind (P:=fun items u=>yw p.B u vs items/\u.st=y.st) I1.C .all (.k3 I1.C (cj (Aq (x:=y) I1.ok r.inv) (fun J J k=>⟨k.1,k.2,rfl⟩) fun J J e=>e)) fun {items u} E2 C2 q2=>WZ.ps C2 ?_
   have w:=R4 (Q:=fun fr st=>Q .next fr st) (X:=X) nk (more:=[]) (mrs:=[]) C2 q2.1 hn fun {y3 fr3} es e3 C3 up=>.pure C3 (C3.er.elim fun m F=>⟨HN fr ks vs,m,F.congr fun k=>(Qp (nk.nd F.es.inj nd) k).trans (e3 k).symm,by rw[es,q2.2]; exact abG hl q.2⟩)
   rwa [bN,bN] at w)))))⟩
end
end
section
section
variable{B:Bs}{p:Pl}{A:cI}{n:Nat}{x y:fK}{s s':aB}{st':St}{env:Env}{X:Ex}{z:aH->Prop}{l outer:List Env}{e:au}{M:jC}{E:au->aB->Prop}{C:Nat}{L:aH}{hB h h':cD}{ea:aH}{cls a0:au}
noncomputable def Frs(z:aH->Prop)(l:List Env)(s s':aB):Prop:=∀ {a o},s.heap.get? a=some o->a∈zZ l->(¬ z a->adl s' o a)/\aaf s' o a
theorem Ma(u:s'.heap.UpToSlots h')(ff:s'.heap.FunFrames hB l)(f:Frs z l s s'):Frs z l s {s' with heap:=h'}:=fun {a o} e ha=>by
 obtain⟨o2,e2,nf⟩:=(ff.mem ha).2
 have q:=f e ha
 obtain⟨sl,eu⟩:=u a o2 e2 nf
 refine⟨fun hz=>(q.1 hz).elim fun sl0 e0=>⟨sl,?_⟩,q.2.elim fun o' r=>⟨_,eu,?_⟩⟩
 ·cases aC (e2.symm.trans e0); exact eu
 ·cases aC (e2.symm.trans r.1); exact r.2
abbrev XH(B:Bs)(z:aH->Prop)(l:List Env)(L:aH)(x:fK)(e:au)(C:Nat)(st':St)(s':aB):Prop:=XRp B z l x e st' s' fun hB ea a0 h=>yX hB l ea (.ref C) a0 L h
theorem Fly.frames(f:Fly hB l ea cls a0 h):h.FunFrames hB l:=by
 cases f with
 | fresh q=>cases q with | mk _ _ ff=>exact ff
 | fly q=>exact q.2.2.1
 | held _ q=>exact q.2.2.1
theorem aem(hfr:A.frames=some (env::outer))(hf:env.frame=some L)(f:Fly hB (env::outer) ea cls a0 s.heap){Q:Unit->aB->Prop}
  (k:∀ {h'},yX hB (env::outer) ea cls a0 L h'->s.heap.UpToSlots h'->Q () {s with heap:=h'}):bD M A (noteFrame (.ref ea) env) Q E s:=by
 cases f with
 | fresh q=>
  cases q with | @mk oe vs st nw ff e c d v0 v1=>
  subst c
  unfold noteFrame
  rw[hf]
  refine aq (ou e d v1 ?_)
  rw[if_neg (by decide)]
  exact wpAny_entryW hfr ff hf e st nw d (uU.mp v1).1 v0 fun h' N=>k ⟨N.1,nw,N.2.1,N.2.2.1⟩ N.2.2.2
 | fly q=>exact wpAny_looks_onW hfr hf q fun h' a b=>k a b
 | held eL q=>
  cases hf.symm.trans eL
  exact wpAny_noteFrame_againW hf q.2.2.2 (k q (Heap.UpToSlots.refl _))
theorem XR.noted(hfr:A.frames=some (env::outer))(hf:env.frame=some L)(q:XR B z (env::outer) x e C st' s'){Q:Unit->aB->Prop}
  (k:∀ {s''},XH B z (env::outer) L x e C st' s''->Q () s''):bD M A (noteFrame e env) Q E s':=by
 cases q with | mk e1 sm ext sr stay inv Fd live frs no fly=>
 subst e1
 exact aem hfr hf fly fun hh u=>k (.mk rfl (sm.trans (Sm.mk _ _)) ext sr stay inv Fd live (Ma u fly.frames frs) no hh)
theorem XH.fly(hf:env.frame=some L)(q:XH B z (env::outer) L x e C st' s'):XR B z (env::outer) x e C st' s':=by
 cases q with | mk e1 sm ext sr stay inv Fd live frs no hh=>exact .mk e1 sm ext sr stay inv Fd live frs no (.held hf hh)
theorem abH(hf:env.frame=some L)(hh:yX hB (env::outer) ea cls a0 L s.heap){Q:Unit->aB->Prop}
  (k:∀ {h'},yX hB (env::outer) ea cls a0 L h'->s.heap.UpToSlots h'->Q () {s with heap:=h'}):
  bD M A (do
   if(← field (.ref ea) 1)==.none then unsupported "frame.own-activation:exception-without-traceback"
   setFlight (.ref ea) env.frame) Q E s:=by
 obtain⟨f1,f2,f3,oe,vs,T,oT,ts,he,hcls,hd,h1,hnT,hTe,hT,hdT,ht3⟩:=hh
 refine aq (ou he hd h1 ?_)
 rw[if_neg (show ¬ ((kY T==n7)=true) from nofun)]
 have hsz3:=(uU.mp ht3).1
 unfold setFlight
 refine aq (ou he hd h1 ?_)
 rw[if_pos (show(kY T != n7)=true from rfl),hf]
 have other:∀ b,b≠T->(s.heap.update T (Obj.mapFields (·.setIfInBounds 3 ((some L).elim n7 fun f=>rawInt f)))).get? b=s.heap.get? b:=fun b hb=>Heap.get?_update_other _ _ (Ne.symm hb)
 have noRecord:∀ {b o},s.heap.get? b=some o->(∀ vs,o.data≠.fields vs)->b≠T:=fun {b o} hb hnf q=>by
  rw[q,hT] at hb; cases aC hb; exact hnf ts hdT
 refine BK hT hdT hsz3 (k ?_ fun b o hb hn=>⟨o.slots,(other b (noRecord hb hn)).trans hb⟩)
 exact⟨fun b o hbo=>(other b fun q=>cW (q▸hnT) hbo).trans (f1 b o hbo),f2,f3.of_keeps fun b o hb hnf=>⟨o,(other b (noRecord hb hnf)).trans hb,rfl⟩,
  oe,vs,T,_,_,(other ea (Ne.symm hTe)).trans he,hcls,hd,h1,hnT,hTe,jf _ hT (Obj.isFreed_of_fields (qb hdT _)),qb hdT _,by rw[Array.getElem?_setIfInBounds_self_of_lt hsz3]; rfl⟩
theorem XH.back(hf:env.frame=some L)(q:XH B z (env::outer) L x e C st' s'){Q:Unit->aB->Prop}(k:∀ {s''},XH B z (env::outer) L x e C st' s''->Q () s''):
  bD M A (do
   if(← field e 1)==.none then unsupported "frame.own-activation:exception-without-traceback"
   setFlight e env.frame) Q E s':=by
 cases q with | mk e1 sm ext sr stay inv Fd live frs no hh=>
 subst e1
 exact abH hf hh fun hh' u=>k (.mk rfl (sm.trans (Sm.mk _ _)) ext sr stay inv Fd live (Ma u hh.2.2.1 frs) no hh')
inductive QH(p:Pl)(z:aH->Prop)(x:fK)(X:Ex)(e:au)(s':aB):Prop
 | mk {o:List Env} {a:aH} {c:Nat} {t:St} (fr:p.A.frames=some (p.env::o)) (f:p.env.frame=some a) (xh:XH p.B z (p.env::o) a x e c t s') (q:X c t)
noncomputable def RZ(p:Pl)(x:fK)(P:uY->fK->Prop)(X:Ex)(r:mQ)(s':aB):Prop:=match r with
 | .ok f=>QT p (zE p) x P f s'
 | .error e=>QH p (zE p) x X e s'
theorem QX.note(fe:Fe p)(q:QX p z x X e s'){Q:Unit->aB->Prop}(k:∀ {s''},QH p z x X e s''->Q () s''):bD M p.A (noteFrame e p.env) Q E s':=by
 cases fe with | mk hfr hf=>
 cases q with | mk e1 xr q=>
 cases hfr.symm.trans e1
 exact xr.noted hfr hf fun y=>k (.mk hfr hf y q)
theorem aar{c:Code}{P:uY->fK->Prop}(hd:Nd c)(h:mj (Mo p.B) p.A c (RZ p x P X) s):je (Mo p.B) p.A (runOwn c p.env) (QT p (zE p) x P) (QX p (zE p) x X) s:=by
 unfold runOwn
 refine mq (aae (h:=none) hd (Ea (A:=p.A.mark none) h fun r s' q=>?_) nofun)
 cases r with
 | ok f=>exact q
 | error e=>cases(show QH p (zE p) x X e s' from q) with | mk e1 f xh q=>exact .of (xh.back f fun y=>.mk e1 (y.fly f) q)
inductive TZ(p:Pl)(x:fK)(P:uY->fK->Prop)(X:Ex)(c:Code)(J:Nat->fK->Prop)(m:Nat):PySem.Fin->aB->Prop
 | done {f s'} (q:QT p (zE p) x P f s'):TZ p x P X c J m (.done f) s'
 | again {m' g st s'} (lt:m' < m) (j:J m' ⟨g,st,s'⟩):TZ p x P X c J m (.again c) s'
 | other {c' s'} (q:c'.quiet=true) (d:Nd c') (h:mj (Mo p.B) p.A c' (RZ p x P X) s'):TZ p x P X c J m (.again c') s'
theorem Qq{c:Code}{t:Sem PySem.Fin}{P:uY->fK->Prop}{J:Nat->fK->Prop}(fe:Fe p)(hw:p.A.under c=p.A)(hd:Nd c)(hq:c.quiet=true)(hden:(Mo p.B).den c=(t.onRaise fun x=>do noteFrame x p.env; theTreesLotGoes x))
  (turn:∀ {m y},J m y->je (Mo p.B) p.A t (TZ p x P X c J m) (QX p (zE p) x X) y.s):∀ m {y},J m y->mj (Mo p.B) p.A c (RZ p x P X) y.s:=by
 intro m
 induction m using Nat.strongRecOn with
 | ind m ih=>
  intro y j
  refine gM ?_
  rw[hw,hden]
  refine mq (bT (turn j) (fun fin s2 q=>?_) fun e s2 q=>.of (aq (q.note fe fun q=>wpAny_theTreesLotGoes q)))
  cases q with
  | done q=>exact q
  | again lt j=>exact⟨hq,hd,ih _ lt j⟩
  | other q d h=>exact⟨q,d,h⟩
end
section
variable{τ:Pl->Prop}{p:Pl}{n:Nat}{fr:Fm}{x y:fK}{X:Ex}{c:cZ}{m:ME}{pos:Pos}{a:List uf}{ma:List MS}
theorem PS.turn{A:Fm->St->Prop}{Q:Fl->Fm->St->Prop}{r:uY}{P:uY->Prop}(q:PS p (nr A Q) r y)(h1:∀ {fr m},ER p y fr m->A fr y.st->P .next)(h2:∀ {fr m},ER p y fr m->A fr y.st->P .cont)
  (h3:∀ {v rv fr m},VX p.B y v rv->ER p y fr m->Q (.ret v) fr y.st->P (.ret rv)):P r:=by
 cases q with | @mk f fr m r er q=>
 cases f with
 | next=>exact(show _=Flow.next from r)▸h1 er q
 | cont=>exact(show _=Flow.cont from r)▸h2 er q
 | ret v=>exact r.elim fun rv r=>r.1▸h3 r.2 er q
inductive LJ(p:Pl)(n:Nat)(x:fK)(I:Fm->St->Prop)(y:fK):Prop
 | mk {f:Fm} (ev:Ev p.B (zE p) x y) (lk:LK p.env x.s y.s) (C:Cx p n f y) (i:I f y.st)
theorem LJ.anN{I:Fm->St->Prop}{P:Prop}(j:LJ p n x I y)(k:∀ f,Ev p.B (zE p) x y->LK p.env x.s y.s->Cx p n f y->I f y.st->P):P:=by cases j with | mk a b c d=>exact k _ a b c d
noncomputable def TQ(p:Pl)(P:uY->fK->Prop)(c:Code)(G:Fm->St->Prop):PySem.Fin->fK->Prop
 | .done f,u=>P f u
 | .again c',u=>c'=c/\∃ f m,ER p u f m/\G f u.st
theorem TQ.tz{P:uY->fK->Prop}{c:Code}{J:Nat->Fm->St->Prop}{j:Nat}{r:PySem.Fin}{s':aB}(E1:Ev p.B (zE p) x y)(K1:LK p.env x.s y.s)(C1:Cx p n fr y)(z:QT p (zE p) y (TQ p P c fun f st=>∃ j',j' < j/\J j' f st) r s'):
  TZ p x P X c (fun j y=>LJ p n x (J j) y) j r s':=by
 cases z with | mk ev wd lk q=>
 cases r with
 | done f=>exact .done (.mk (E1.trans ev) wd (K1.trans lk) q)
 | again c'=>
  obtain⟨rfl,f,m,er,j',lt,i⟩:=q
  exact .again lt (.mk (E1.trans ev) (K1.trans lk) (C1.upZ ev wd lk er) i)
theorem aen(S:Sn τ c m)(T:Zns τ a ma):Zn τ (.While c a [] pos) (.while m ma):=
 ⟨fun {n p fr x Q X} I q=>q.elim fun J q=>q.elim fun k q=>.eq (exec_While ..) (.stand (aar (c:=.whileLoop c a [] p.env) (fun U U U U=>rfl) (Qq (c:=.whileLoop c a [] p.env) (t:=whileTurn c a [] p.env) (J:=fun j y=>LJ p (n + 1) x (J j) y) I.fe (jT rfl) (fun U U U U=>rfl) rfl rfl (fun {j y} jj=>jj.anN fun vp E1 K1 C1 i1=>by
  have I1:=I.to C1
  refine bT (?_:WZ p y (whileTurn c a [] p.env) (TQ p (PS p Q) (.whileLoop c a [] p.env) fun f st=>∃ j',j' < j/\J j' f st) X) (fun r s' q=>TQ.tz E1 K1 C1 q) fun e s' q=>q.yx I.I.C E1 (fun q=>q) K1
  exact I1.I.tst .all S (q.2 j vp y.st i1) fun {b u} E2 I2 q2=>by
   cases b with
   | true=>
    exact WZ.bind I2.C (T.ss (I1.to I2.C).dn q2) fun E3 k3 z=>PS.turn (P:=fun r=>WZ p _ (match r with | .next | .cont=>again (.whileLoop c a [] p.env) | .brk=>pure (.done .next) | .ret v=>pure (.done (.ret v))) (TQ p (PS p Q) (.whileLoop c a [] p.env) fun f st=>∃ j',j' < j/\J j' f st) X) z
     (fun er w=>WT.pure (k3 er) ⟨rfl,_,_,er,w⟩) (fun er w=>WT.pure (k3 er) ⟨rfl,_,_,er,w⟩) fun r er w=>WT.pure (k3 er) (PS.mk (f:=.ret _) ⟨_,rfl,r⟩ er w)
   | false=>exact WT.pure I2.C (I2.C.ps (f:=.next) rfl q2)) k (.mk .refl LK.refl I.I.C q.1))))⟩
end
end
section
inductive Jl(h:cD)(it:aH):Prop
 | mk {o:Obj} {ws:Array au} {T:String} (e:h.get? it=some o) (c:o.cls=.type T) (n:T≠"frame") (d:o.data=.fields ws) (q:∀ s t,ws[1]?≠some (.str s t))
structure Mf(B:Bs)(x:fK)(Z:aH->Prop):Prop where
 no:∀ {a},Z a->¬ own x.g a
 nw:∀ {a},Z a->B.hb.get? a=none
 ob:∀ {a},Z a->Jl x.s.heap a
structure KI(Z:aH->Prop)(s s':aB):Prop where
 sm:Sm s s'
 keep:∀ {b o},¬ Z b->s.heap.get? b=some o->s'.heap.get? b=some o
section
variable{B:Bs}{p:Pl}{A:cI}{n:Nat}{x x0 y:fK}{s':aB}{X:Ex}{z Z:aH->Prop}{it:aH}{g:G}{h h':cD}{fr:Fm}{m:Str->Option au}
theorem Jl.fld(O:Jl h it){b o}(e:h.get? b=some o)(d:∀ vs,o.data≠.fields vs):b≠it:=fun q=>by
 cases O with | mk e' _ _ d'=>cases q; exact d _ ((congrArg Obj.data (aC (e.symm.trans e'))).trans d')
theorem Mf.fld(O:Mf B x Z){b o}(e:x.s.heap.get? b=some o)(d:∀ vs,o.data≠.fields vs):¬ Z b:=fun q=>(O.ob q).fld e d rfl
theorem Mf.base(O:Mf B x Z){b o}(e:B.hb.get? b=some o):¬ Z b:=fun q=>cW (O.nw q) e
theorem Inv.ki(w:Wd B x)(O:Mf B x Z)(k:KI Z x.s s'):Inv B s'.heap:=by
 have I:=w.inv
 have nt:∀ {a},a∈B.tp->¬ Z a:=fun t q=>pP w.tab (O.nw q) t
 have nb:∀ t∈B.tabs,¬ Z t.2.1:=fun t ht=>nt (.tail _ (fX.mpr ⟨t,ht,rfl⟩))
 refine⟨iK I.gl (k.keep fun q=>w.stay.glob (O.nw q)),iK I.sl (k.keep (nt Je)),I.ll,fun t ht=>?_,fun t ht ps e=>?_⟩
 ·obtain⟨ps,e,ok,r⟩:=I.tb t ht
  refine⟨ps,k.keep (nb t ht) e,ok,fun pos cv q=>?_⟩
  obtain⟨c,oc,vs,t',h1,h2,h3,h4⟩:=r pos cv q
  refine⟨c,oc,vs,t',h1,k.keep (fun q=>?_) h2,h3,h4⟩
  cases O.ob q with | mk e' _ _ d' q'=>
  cases aC (e'.symm.trans h2)
  cases d'.symm.trans h3
  exact q' _ _ h4
 ·obtain⟨ps',e',_⟩:=I.tb t ht
  exact I.tx t ht ps (aC ((k.keep (nb t ht) e').symm.trans e)▸e')
theorem Tr.ki(O:Mf B x Z)(k:KI Z x.s s'):Tr B x.g x.s.heap x.g s'.heap:=⟨id,fun e d J J n=>⟨k.keep (O.fld e fun vs q=>nomatch d.symm.trans q) e,n⟩⟩
theorem Wd.ki(w:Wd B x)(O:Mf B x Z)(k:KI Z x.s s'):Wd B ⟨x.g,x.st,s'⟩:=
 have S:=w.stay
 ⟨w.tab,⟨S.glob,S.adk,S.stat,fun e t=>k.keep (O.base e) (S.keep e t),fun e=>(S.live e).elim fun J q=>⟨_,k.keep (O.base e) q⟩⟩,.ki w O k,w.sr.tr (.ki O k) fun o e=>k.keep (fun q=>O.no q o) e⟩
theorem Ev.ki(E:Ev B z x0 y)(f:∀ {a},Z a->x0.s.heap.get? a=none)(k:KI Z y.s s'):Ev B z x0 ⟨y.g,y.st,s'⟩:=
 have ne:∀ {b o},x0.s.heap.get? b=some o->¬ Z b:=fun e q=>cW (f q) e
 ⟨E.sm.trans k.sm,fun e=>(E.live e).elim fun J q=>⟨_,k.keep (ne e) q⟩,E.ext,fun e t o q=>(E.evv e t o q).trans fun r=>.eq (k.keep (ne e) r)⟩
theorem ER.ki(F:ER p x fr m)(O:Mf p.B x Z)(k:KI Z x.s s'):ER p ⟨x.g,x.st,s'⟩ fr m:=by
 have cell:∀ {c},tE x.s.heap c->¬ Z c:=fun q=>by cases q with | mk e d=>exact O.fld e (Eb d)
 have t:=Tr.ki O k
 refine⟨F.es,(jq F.ns).elim fun J q=>q.elim fun J q=>q.elim fun J q=>iK F.ns (k.keep (O.fld q.1 (jW q.2))),F.Aj,fun e e'=>?_,fun e=>?_⟩
 ·cases F.vars e e' with
  | l q e r=>exact .l q e (r.tr t)
  | c q l e d r=>exact .c q l (k.keep (cell (.mk e d)) e) d (r.tr t)
 ·have c:=(F.cells e).2
  have ne:=cell c
  cases c with | mk e' d=>exact⟨(F.cells e).1,.mk (k.keep ne e') d⟩
theorem Cx.ki(C:Cx p n fr x)(O:Mf p.B x Z)(k:KI Z x.s s'):Cx p n fr ⟨x.g,x.st,s'⟩:=
 ⟨C.wd.ki O k,C.ar.keep fun J c=>c.keep fun J f=>by cases f with | mk no e c d=>exact .mk no (k.keep (O.fld e (jW d)) e) c d,C.er.elim fun m F=>⟨m,F.ki O k⟩⟩
theorem LK.ki(C:Cx p n fr x)(O:Mf p.B x Z)(k:KI Z x.s s'):LK p.env x.s s':=fun e=>C.er.elim fun m F=>(jq F.ns).elim fun J q=>q.elim fun J q=>q.elim fun J q=>⟨_,k.keep (O.fld q.1 (jW q.2)) e,rfl⟩
end
inductive NxP(B:Bs)(x:fK)(Z:aH->Prop)(Mx:Nat->au->cD->Prop)(i:Nat)(v:V):Option au->aB->Prop
 | mk {rv s'} (k:KI Z x.s s') (st:Mx (i + 1) rv s'.heap) (r:VR B x.g s'.heap v rv):NxP B x Z Mx i v (some rv) s'
inductive EnP(x:fK)(Z:aH->Prop):Option au->aB->Prop
 | mk {s'} (k:KI Z x.s s'):EnP x Z none s'
noncomputable def Gi(k:Sk)(t:cZ):Prop:=k=.enum->∃ es n pos,t=.Tuple es n pos
structure Vk(B:Bs)(k:Sk)(vs l:List V)(it:aH)(Z:aH->Prop)(Sx:Nat->cD->Prop)(Mx:Nat->au->cD->Prop)(w:V)(rw:au):Prop where
 fr:∀ {i h h'},Sx i h->(∀ {a o},Z a->h.get? a=some o->h'.get? a=some o)->Sx i h'
 ob:∀ {i h a},Sx i h->Z a->Jl h a
 obm:∀ {i h a v},Mx i v h->Z a->Jl h a
 step:∀ {A i x v},Ok B A x->Mf B x Z->Sx i x.s.heap->VX B x w rw->lF x.st k vs=some l->l[i]?=some v->bD (Mo B) A (pyNext (.ref it)) (NxP B x Z Mx i v) (fun J J=>False) x.s
 go:∀ {A i s v t},Gi k t->Mx i v s.heap->bD (Mo B) A (letOwnedTupleGo t (.ref it) v) (fun J s'=>KI Z s s'/\Sx i s'.heap) (fun J J=>False) s
 stop:∀ {A x},Ok B A x->Sx l.length x.s.heap->VX B x w rw->lF x.st k vs=some l->bD (Mo B) A (pyNext (.ref it)) (EnP x Z) (fun J J=>False) x.s
 self:∀ {A i x},Ok B A x->Sx i x.s.heap->bD (Mo B) A (pyIter (.ref it)) (fun r s'=>r=.ref it/\s'=x.s) (fun J J=>False) x.s
section
variable{B:Bs}{A:cI}{x:fK}{k:Sk}{vs l:List V}{it a:aH}{Z:aH->Prop}{v:V}{rv:au}
theorem KI.of{s:aB}{h':cD}{t:Nat}(k:∀ {b o},¬ Z b->s.heap.get? b=some o->h'.get? b=some o):KI Z s {s with heap:=h',toks:=t}:=⟨rfl,k⟩
theorem KI.self{s:aB}:KI Z s s:=⟨rfl,fun J e=>e⟩
inductive Vl(h:cD)(it:aH):Prop
 | mk {o:Obj} {ws:Array au} {T:String} (e:h.get? it=some o) (c:o.cls=.type T) (f:T≠"frame") (n:["enumerate","zip","dict_itemiterator","dict_reverseitemiterator","odict_iterator","itertools.zip_longest","itertools.pairwise"].contains T=false) (d:o.data=.fields ws) (q:∀ s t,ws[1]?≠some (.str s t))
theorem Vl.ob{h:cD}(q:Vl h it):Jl h it:=by cases q with | mk e c f n d q=>exact .mk e c f d q
theorem aeo{s:aB}(N:Vl s.heap it){t:cZ}{v:au}{M:jC}{E:au->aB->Prop}{Q:Unit->aB->Prop}(q:Q () s):bD M A (letOwnedTupleGo t (.ref it) v) Q E s:=by
 cases N with | @mk o ws T e c f n d q0=>
 have go:bD M A (do
   let(.ref r,.ref a):=(kY it,v) | return
   let o ← load r
   match o.cls,o.data with
   | .type n,.fields vs=>
    if ["enumerate","zip","dict_itemiterator","dict_reverseitemiterator","odict_iterator","itertools.zip_longest","itertools.pairwise"].contains n && vs[0]?==some (rawInt a) then
     rule "for.unpacks-the-owned-tuple"
     updateField r 0 .none
   | _,_=>pure ()) Q E s:=by
  cases v <;> first | exact aJ q | skip
  refine aq (mR e ?_)
  obtain⟨c',d',dt,sl⟩:=o
  cases(show c'=_ from c)
  cases dt <;> first | exact aJ q | (dsimp only; rw[n]; exact aJ q)
 cases t <;> first | exact aJ q | exact go
theorem Vk.plain{Sx:Nat->cD->Prop}{w:V}{rw:au}(nt:∀ {i h},Sx i h->Vl h it)(fr:∀ {i h h'},Sx i h->(∀ {o},h.get? it=some o->h'.get? it=some o)->Sx i h')
  (step:∀ {A i x v},Ok B A x->Mf B x (is1 it)->Sx i x.s.heap->VX B x w rw->lF x.st k vs=some l->l[i]?=some v->bD (Mo B) A (pyNext (.ref it)) (NxP B x (is1 it) (fun i J=>Sx i) i v) (fun J J=>False) x.s)
  (stop:∀ {A x},Ok B A x->Sx l.length x.s.heap->VX B x w rw->lF x.st k vs=some l->bD (Mo B) A (pyNext (.ref it)) (EnP x (is1 it)) (fun J J=>False) x.s)
  (self:∀ {A i x},Ok B A x->Sx i x.s.heap->bD (Mo B) A (pyIter (.ref it)) (fun r s'=>r=.ref it/\s'=x.s) (fun J J=>False) x.s):Vk B k vs l it (is1 it) Sx (fun i J=>Sx i) w rw:=
 ⟨fun s k=>fr s fun e=>k rfl e,fun s z=>(show _=it from z)▸(nt s).ob,fun s z=>(show _=it from z)▸(nt s).ob,step,fun J s=>aeo (nt s) ⟨.self,s⟩,stop,self⟩
theorem Vk.walks{P:Nat->au->Prop}{Sx:Nat->cD->Prop}(W:∀ {A:cI},A.handled=none->Walks B.prog B.w A it [it] [it] l.length P Sx)(nt:∀ {i h},Sx i h->Vl h it)(hv:∀ {i rv v},P i rv->l[i]?=some v->∀ {g h},VR B g h v rv):Vk B k vs l it (is1 it) Sx (fun i J=>Sx i) .none .none:=
 .plain nt (fun st k=>(W (A:=⟨none,0,none,none,0⟩) rfl).frame _ _ _ st fun b hb o e=>by cases aN.mp hb; exact k e)
  (fun O J st J J e=>(W O.hand).item _ _ _ _ (bW.mp e).1 st fun rv h' t q st' k=>.mk (.of fun n e=>k _ _ (fun q=>n (aN.mp q)) e) st' (hv q e))
  (fun O st J J=>(W O.hand).done _ _ _ st fun h' t k=>.mk (.of fun n e=>k _ _ (fun q=>n (aN.mp q)) e))
  fun O st=>(W O.hand).self _ _ _ _ st ⟨rfl,rfl⟩
theorem anO{h:cD}{i:Nat}(q:h.IsListIter it a i):Vl h it:=q.elim fun o q=>.mk q.1 q.2.1 (by decide) (by decide) q.2.2 nofun
theorem anP{h:cD}{i:Nat}(q:h.IsTupleIter it a i):Vl h it:=q.elim fun o q=>.mk q.1 q.2.1 (by decide) (by decide) q.2.2 nofun
theorem aep{h:cD}{i:Nat}{b:Array UInt8}{t:Tok}(q:ig h it b t i):Vl h it:=q.elim fun o q=>.mk q.1 q.2.1 (by decide) (by decide) q.2.2 nofun
theorem Vk.list(hv:∀ {st},lF st .plain [v]=iw st v):Vk B .plain [v] l it (is1 it) (fun i h=>h.IsListIter it a i) (fun i J h=>h.IsListIter it a i) v (.ref a):=
 .plain anO (fun st k=>st.elim fun o q=>⟨o,k q.1,q.2⟩)
  (fun O I st r e el=>(um O.wd r (hv▸e)).elim fun y q=>q.elim fun ws q=>by
   obtain⟨e1,h1,h2,h3⟩:=q
   cases e1
   obtain⟨rv,e2,r2⟩:=h2.get el
   exact wpAny_pyNext_list_item st h1 (by rw[eU]; exact e2) fun h' st' hs=>have K:=KI.of (t:=_) fun n e=>(hs.2 _ n).trans e; .mk K st' (r2.tr (Tr.ki I K)))
  (fun O st r e=>(um O.wd r (hv▸e)).elim fun y q=>q.elim fun ws q=>by
   obtain⟨e1,h1,h2,h3⟩:=q
   cases e1
   exact wpAny_pyNext_list_end O.hand st h1 (by rw[eU]; exact cR (aR h2.length.symm)) fun h' hs=>.mk (.of fun n e=>hs _ _ n e))
  fun O st=>wpAny_pyIter_listiter st ⟨rfl,rfl⟩
theorem Vk.tuple:Vk B .plain [.tup l] l it (is1 it) (fun i h=>h.IsTupleIter it a i) (fun i J h=>h.IsTupleIter it a i) (.tup l) (.ref a):=
 .plain anP (fun st k=>st.elim fun o q=>⟨o,k q.1,q.2⟩)
  (fun {A i x v} O I st r e el=>by
   cases(show Sq B x.g x.s.heap "tuple" l (.ref a) from r.inv) with | mk e1 q k d no nt ll rs=>
   cases e1
   obtain⟨rv,e2,r2⟩:=rs.get el
   exact wpAny_pyNext_tuple_item st ⟨_,q,k,_,d⟩ (by rw[eU]; exact e2) fun h' st' hs=>have K:=KI.of (t:=_) fun n e=>(hs.2 _ n).trans e; .mk K st' (r2.tr (Tr.ki I K)))
  (fun {A x} O st r e=>by
   cases(show Sq B x.g x.s.heap "tuple" l (.ref a) from r.inv) with | mk e1 q k d no nt ll rs=>
   cases e1
   exact wpAny_pyNext_tuple_end O.hand st ⟨_,q,k,_,d⟩ (by rw[eU]; exact cR (aR rs.length.symm)) fun h' hs=>.mk (.of fun n e=>hs _ _ n e))
  fun O st=>wpAny_pyIter_tupleiter st ⟨rfl,rfl⟩
inductive ItP(B:Bs)(k:Sk)(vs l:List V)(x0 x:fK):au->aB->Prop
 | mk {i:aH} {Z:aH->Prop} {Sx:Nat->cD->Prop} {Mx:Nat->au->cD->Prop} {w:V} {rw:au} {s':aB} (kp:Kp x.s s') (fresh:∀ {a},Z a->x0.s.heap.get? a=none) (no:∀ {a},Z a->¬ own x.g a) (nw:∀ {a},Z a->B.hb.get? a=none)
   (I:Vk B k vs l i Z Sx Mx w rw) (st:Sx 0 s'.heap) (r:VX B x w rw):ItP B k vs l x0 x (.ref i) s'
section
variable{x0:fK}(w:Wd B x)(L:Xx x0.s.heap x.s.heap)
include w L
theorem ItP.new{Sx:Nat->cD->Prop}{Mx:Nat->au->cD->Prop}{u:V}{ru:au}{o:Obj}(I:Vk B k vs l x.s.heap.objs.size (is1 x.s.heap.objs.size) Sx Mx u ru)(st:(x.s.heap.push o).get? x.s.heap.objs.size=some o->Sx 0 (x.s.heap.push o))(r:VX B x u ru)(hf:o.isFreed=false:=by rfl):
  ItP B k vs l x0 x (.ref x.s.heap.objs.size) {x.s with heap:=x.s.heap.push o}:=
 have q:=w.new fM
 .mk .push (fun {a} z=>(show a=x.s.heap.objs.size from z)▸vg L fM) (fun {a} z=>(show a=x.s.heap.objs.size from z)▸q.1) (fun {a} z=>(show a=x.s.heap.objs.size from z)▸q.2.2) I (st (bK _ hf)) r
theorem Qt(hv:∀ {st},lF st .plain [v]=iw st v)(r:VX B x v rv)(e:iw x.st v=some l):bD (Mo B) A (pyIter rv) (ItP B .plain [v] l x0 x) (fun J J=>False) x.s:=
 (um w r e).elim fun y q=>q.elim fun ws q=>by
  obtain⟨e1,h1,h2,h3⟩:=q
  subst e1
  exact wpAny_pyIter_list h1 (.new w L (.list hv) (fun e=>⟨_,e,rfl,rfl⟩) r)
theorem Yl(r:VX B x (.tup l) rv):bD (Mo B) A (pyIter rv) (ItP B .plain [.tup l] l x0 x) (fun J J=>False) x.s:=by
 cases(show Sq B x.g x.s.heap "tuple" l rv from r.inv) with | mk e1 q k d no nt ll rs=>
 subst e1
 exact wpAny_pyIter_tuple ⟨_,q,k,_,d⟩ (.new w L .tuple (fun e=>⟨_,e,rfl,rfl⟩) r)
theorem Ym{b:List UInt8}(r:VX B x (.bytes b) rv):bD (Mo B) A (pyIter rv) (ItP B .plain [.bytes b] (b.map fun c=>.int c.toNat) x0 x) (fun J J=>False) x.s:=
 r.yt fun t=>yg (.new (u:=.none) (ru:=.none) w L (.walks (P:=fun i v=>∃ c u,b.toArray[i]?=some c/\v=.int (c.toNat:Int) u) (Sx:=fun i h=>ig h x.s.heap.objs.size b.toArray t i) (fun hA=>by
  rw[aQ]; exact KBw.walks hA x.s.heap.objs.size b.toArray t) aep fun q e=>by
   obtain⟨c,u,h1,rfl⟩:=q
   rw[jB,← eU,h1] at e
   exact aC e▸.int _ _) (fun e=>⟨_,e,rfl,rfl⟩) .none)
omit w L in
theorem ah7{y:List Nat}{i:Nat}{v:V}(q:SignAt (txt y) i rv)(e:(y.map fun c=>V.str [c])[i]?=some v){g h}:VR B g h v rv:=by
 obtain⟨c,u,h1,rfl⟩:=q
 rw[jB,show y[i]?=some c from(eU ..).symm.trans h1] at e
 exact aC e▸.str [c] u
theorem Mg{T:String}{y:List Nat}{t:Tok}(f:T≠"frame")(n:["enumerate","zip","dict_itemiterator","dict_reverseitemiterator","odict_iterator","itertools.zip_longest","itertools.pairwise"].contains T=false)
  (W:∀ {A:cI},A.handled=none->Walks B.prog B.w A x.s.heap.objs.size [x.s.heap.objs.size] [x.s.heap.objs.size] (txt y).cps.size (SignAt (txt y)) fun i h=>h.IsStrIter x.s.heap.objs.size T (txt y) t i):
  ItP B .plain [.str y] (y.map fun c=>.str [c]) x0 x (.ref x.s.heap.objs.size) {x.s with heap:=x.s.heap.push {cls:=.type T,data:=.fields #[.str (txt y) t,.int 0 0]}}:=
 .new (u:=.none) (ru:=.none) w L (.walks (P:=SignAt (txt y)) (Sx:=fun i h=>h.IsStrIter x.s.heap.objs.size T (txt y) t i) (fun hA=>(show(txt y).cps.size=(y.map fun c=>V.str [c]).length from(aQ ..).symm)▸W hA) (fun q=>q.elim fun o q=>.mk q.1 q.2.1 f n q.2.2 nofun) ah7) (fun e=>⟨_,e,rfl,rfl⟩) .none
theorem aer{y:List Nat}(r:VX B x (.str y) rv):bD (Mo B) A (pyIter rv) (ItP B .plain [.str y] (y.map fun c=>.str [c]) x0 x) (fun J J=>False) x.s:=
 r.Hq fun t=>by
  cases ha:(txt y).cps.all (· < 128) with
  | false=>exact wpAny_pyIter_wide ha (Mg w L (by decide) (by decide) fun hA=>Walks.strWide hA _ _ _)
  | true=>exact wpAny_pyIter_ascii ha (Mg w L (by decide) (by decide) fun hA=>Walks.strAscii hA _ _ _)
theorem Yn{n:Int}{r:aH}{t u v:Tok}(h0:0<=n)(h1:n<=lim)(e:IsRange x.s.heap r 0 n 1 t u v):bD (Mo B) A (pyIter (.ref r)) (ItP B .range [.int n] ((fD n.toNat).map fun(i:Nat)=>.int i) x0 x) (fun J J=>False) x.s:=by
 have sz:Builtin.Range.rangeSize 0 n 1=(n.toNat:Int):=by
  unfold Builtin.Range.rangeSize
  rw[if_pos (by decide)]
  split <;> omega
 have sm:Builtin.Range.small 0 n 1=true:=by
  unfold Builtin.Range.small Builtin.Range.rangeFitsLong
  rw[sz,lH h0]
  have:lim=4194304:=rfl
  simp
  omega
 refine wpAny_pyIter_range e sm ?_
 rw[sz]
 refine .new (u:=.none) (ru:=.none) w L (.walks (P:=fun i v=>(∃ t,v=.int (0 + i * 1) t)) (Sx:=fun i h=>IsRangeIter h x.s.heap.objs.size (0 + (i:Nat) * 1) ((n.toNat:Int) - (i:Nat)) 1) (fun hA=>?_) (fun q=>.mk q rfl (by decide) (by decide) rfl nofun) fun {i rv v} q e=>?_) (fun e=>?_) .none
 ·rw[aQ,cM]; exact Walks.range hA x.s.heap.objs.size 0 1 n.toNat
 ·obtain⟨t,rfl⟩:=q
  have hi:=(bW.mp e).1
  rw[aQ,cM] at hi
  rw[jB,List.getElem?_range hi] at e
  rw[tX,Int.mul_one]
  cases aC e
  exact fun {g h}=>VR.int _ _
 ·exact e
end
end
end
section
section
variable{B:Bs}{A:cI}{s:aB}{E:au->aB->Prop}{x x0:fK}
theorem Vm{M:jC}{A:cI}{c:au}{Q:Bool->aB->Prop}{E:au->aB->Prop}{s:aB}(h:∀ b:Bool,Q b s):bD M A (Builtin.SmallTypes.calledThroughType c) Q E s:=aq (wpAny_stack_any fun st=>aJ (h _))
set_option maxHeartbeats 1000000 in
theorem Ar(x:Array UInt8)(t:Tok):
  Meets (dW.«enumerate.__new__» ⟨[.type "enumerate",.bytes x t],[]⟩) (fun J R s=>
   R (.ok (.ret (.ref (s.heap.push {cls:=.type "bytes_iterator",data:=.fields #[.bytes x t,.int 0 0]}).objs.size)))
    {s with heap:=(s.heap.push {cls:=.type "bytes_iterator",data:=.fields #[.bytes x t,.int 0 0]}).push {cls:=.type "enumerate",data:=.fields #[.none,.bool false,.ref s.heap.objs.size,rawInt 0,.none,.none]}}):=
 .of_wp fun prog w A R s h=>by
  obtain⟨hp,g,d,tk,os⟩:=s
  have hsub:=sub_enumerate
  wp_walk using Vm
  intro c
  cases c
  ·wp_walk using yg
   exact⟨_,rfl,h⟩
  ·wp_walk using yg
   exact⟨_,rfl,h⟩
noncomputable def Qu(b:Array UInt8)(t:Tok):Obj:={cls:=.type "bytes_iterator",data:=.fields #[.bytes b t,.int 0 0]}
noncomputable def Vn(it:aH):Obj:={cls:=.type "enumerate",data:=.fields #[.none,.bool false,.ref it,rawInt 0,.none,.none]}
theorem Av{b:Array UInt8}{t:Tok}{Q:au->aB->Prop}
  (h:IsEnum ((s.heap.push (Qu b t)).push (Vn s.heap.objs.size)) (s.heap.objs.size + 1) s.heap.objs.size 0 .none->ig ((s.heap.push (Qu b t)).push (Vn s.heap.objs.size)) s.heap.objs.size b t 0->
   Q (.ref (s.heap.objs.size + 1)) {s with heap:=(s.heap.push (Qu b t)).push (Vn s.heap.objs.size)}):
  bD (Mo B) A (call (.type "enumerate") [.bytes b t]) Q E s:=by
 refine callType_new F.called_enumerate (by decide) (F.typeCall_enumerate_1 _) (F.newCall_enumerate_1 _) (fun obj=>F.args_object_init_2 obj _) F.entry_enumerate_new (Ar b t) ?_
 have hz:(s.heap.push (Qu b t)).objs.size=s.heap.objs.size + 1:=d9 ..
 have he:IsEnum ((s.heap.push (Qu b t)).push (Vn s.heap.objs.size)) (s.heap.objs.size + 1) s.heap.objs.size 0 .none:=hz▸bK (s.heap.push (Qu b t)) (o:=Vn s.heap.objs.size) rfl
 have q:=h he ⟨_,aW _ (bK _ rfl),rfl,rfl⟩
 rw[← hz] at he q
 exact⟨⟨_,he,rfl⟩,q⟩
section
variable{it:aH}{b:Array UInt8}{t:Tok}{i:Nat}
theorem Gj{Q:au->aB->Prop}(hit:ig s.heap it b t i)(h:bD (Mo B) A.in1 (dW.«bytes_iterator.__next__» ⟨[.ref it],[]⟩) (fun fin s'=>∃ v,fin=.done (.ret v)/\Q v s') E s):bD (Mo B) A (kI (.ref it)) Q E s:=by
 unfold kI
 exact aq (qt (name:=PySem.Str.ofString "__next__") (KBw.iter_typeIs hit) KBw.slot_next (lW KBw.slot_next (KBw.iter_typeIs hit) KBw.entry_next (cj h (fun fin s' q=>q.elim fun v q=>⟨v,q.1,aJ q.2⟩) fun J J e=>e) (KBw.args_next _)))
theorem Gk{c:UInt8}{Q:au->aB->Prop}(hit:ig s.heap it b t i)(hx:b[i]?=some c)
  (hQ:∀ h',ig h' it b t (i + 1)->dZ it s.heap h'->Q (.int (c.toNat:Int) s.toks) {s with heap:=h',toks:=s.toks + 1}):bD (Mo B) A (kI (.ref it)) Q E s:=by
 obtain⟨o,ho,hc,hd⟩:=id hit
 refine Gj hit (aq (m:=field (.ref it) 0) (ou ho hd (x:=.bytes b t) rfl ?_))
 refine BX bC (aq (m:=field (.ref it) 1) (ou ho hd (x:=.int i 0) rfl (aq (bJ (a:=b) rfl ?_))))
 show bD _ _ (match b[(i:Int).toNat]? with | some _=>_ | none=>_) _ _ _
 rw[cH,hx]
 refine aq (BK ho hd (show 1 < 2 by decide) (aq (wpAny_mkInt (aJ ⟨_,rfl,hQ _ ⟨_,jf _ ho (Obj.isFreed_of_fields (qb hd _)),(Obj.cls_mapFields ..).trans hc,?_⟩ (jO ..)⟩))))
 rw[qb hd]; rfl
theorem HS{Q:au->aB->Prop}(hh:A.handled=none)(hit:ig s.heap it b t i)(hx:b[i]?=none)
  (hE:∀ h' e,Heap.ExtBut it s.heap h'->(∃ o,h'.get? e=some o/\o.cls=.type "StopIteration")->E (.ref e) {s with heap:=h'}):bD (Mo B) A (kI (.ref it)) Q E s:=by
 obtain⟨o,ho,hc,hd⟩:=id hit
 refine Gj hit (aq (m:=field (.ref it) 0) (ou ho hd (x:=.bytes b t) rfl ?_))
 refine BX bC (aq (m:=field (.ref it) 1) (ou ho hd (x:=.int i 0) rfl (aq (bJ (a:=b) rfl ?_))))
 show bD _ _ (match b[(i:Int).toNat]? with | some _=>_ | none=>_) _ _ _
 rw[cH,hx]
 refine aq (pZ (aq (BK ho hd (show 0 < 2 by decide) ?_)))
 refine aq (m:=newExc (.type "StopIteration") []) ?_
 refine aq (m:=newTuple []) (qW ?_ (cL _))
 refine aq (m:=firstArgMember _ _) (bJ (a:=n7) (by first | rfl | (simp only[firstArgMember]; rfl)) ?_)
 refine lC ?_
 refine aq (m:=handled) (wpAny_handled_none hh ?_)
 exact aq (aJ (wpAny_throw (hE _ _ (((jO ..).extBut.push _).push _) ⟨_,bK _ rfl,rfl⟩)))
theorem aes(hh:A.handled=none)(it:aH)(b:Array UInt8)(t:Tok):
  Draws B.prog B.w A it [it] b.size (fun i v=>∃ c u,b[i]?=some c/\v=.int (c.toNat:Int) u) (fun i h=>ig h it b t i) where
 live:=fun J J st=>st.elim fun o q=>⟨o,q.1⟩
 frame:=fun J J J st hk=>st.elim fun o q=>⟨o,hk it (.head _) o q.1,q.2⟩
 item:=fun i s Q E hi st hQ=>Gk st (fO hi) fun h' hit' hs'=>hQ _ h' (s.toks + 1) ⟨_,_,fO hi,rfl⟩ hit' hs'
 done:=fun s Q E st hE=>HS hh st (jP (bf _)) hE
end
noncomputable def zE2(e it a:aH):Prop:=a=e∨a=it
noncomputable def enL(b:List UInt8):List V:=((fD b.length).zip b).map fun p=>.tup [.int p.1,.int p.2.toNat]
inductive EnS(b:List UInt8)(t:Tok)(e it:aH)(i:Nat)(h:cD):Prop
 | mk {old} (bi:ig h it b.toArray t i) (en:IsEnum h e it i old)
inductive EnM(b:List UInt8)(t:Tok)(e it:aH)(i:Nat):au->cD->Prop
 | mk {x T h} (bi:ig h it b.toArray t i) (en:IsEnumOut h e it i x T):EnM b t e it i (.ref T) h
variable{b:List UInt8}{e it:aH}{t:Tok}{k:Sk}{vs:List V}
theorem aas:(enL b).length=b.length:=by unfold enL; rw[aQ,List.length_zip,cM,Nat.min_self]
theorem ak6{i:Nat}{c:UInt8}(h:b[i]?=some c):(enL b)[i]?=some (.tup [.int i,.int c.toNat]):=by
 unfold enL
 rw[jB,show((fD b.length).zip b)[i]?=some (i,c) from List.getElem?_zip_eq_some.mpr ⟨List.getElem?_range (bW.mp h).1,h⟩]; rfl
theorem Vk.enum(ne:e≠it):Vk B .enum [.bytes b] (enL b) e (zE2 e it) (EnS b t e it) (EnM b t e it) .none .none where
 fr:=fun {i h h'} st k=>by cases st with | mk bi en=>exact bi.elim fun o q=>.mk ⟨o,k (.inr rfl) q.1,q.2⟩ (k (.inl rfl) en)
 ob:=fun {i h a} st z=>by
  cases st with | mk bi en=>
  cases z with
  | inl z=>exact z▸.mk en rfl (by decide) rfl nofun
  | inr z=>exact z▸(aep bi).ob
 obm:=fun {i h a v} st z=>by
  cases st with | mk bi en=>
  cases z with
  | inl z=>exact z▸.mk en rfl (by decide) rfl nofun
  | inr z=>exact z▸(aep bi).ob
 step:=fun {A i x v} O I st r el e1=>by
  cases st with | mk bi en=>
  have hi:=(bW.mp e1).1
  rw[aas] at hi
  refine wpAny_pyNext_enum_itemD (aes (A:=A.in1) O.hand it b.toArray t) en bi hi ne (fun q=>ne (aN.mp q)) fun y h' tk hp ho hs' hT hsz hk=>?_
  obtain⟨c,u,hw,rfl⟩:=hp
  have q:=O.wd.new fM
  rw[ak6 ((eU ..).symm.trans hw)] at e1
  cases aC e1
  exact .mk (.of fun n e=>hk _ _ (fun q=>n (.inl q)) (fun q=>n (.inr q)) e) (.mk hs' ho) (.tup hT rfl rfl q.1 q.2.1 (.cons (.int _ _) (.cons (.int _ _) .nil)))
 go:=fun {A i s v tg} ht st=>by
  obtain⟨es,n,pos,rfl⟩:=ht rfl
  cases st with | mk bi en=>
  exact wpAny_letOwnedTupleGo_enum en fun h' he' hs'=>⟨.of fun n e=>(hs'.2 _ fun q=>n (.inl q)).trans e,bi.elim fun o q=>.mk ⟨o,(hs'.2 _ ne.symm).trans q.1,q.2⟩ he'⟩
 stop:=fun {A x} O st r el=>by
  cases st with | mk bi en=>
  rw[aas] at bi en
  exact wpAny_pyNext_enum_endD (aes (A:=A.in1) O.hand it b.toArray t) en bi fun h' hx=>.mk (.of fun n e=>hx _ _ (fun q=>n (.inr q)) e)
 self:=fun O st=>by cases st with | mk bi en=>exact wpAny_pyIter_enum en ⟨rfl,rfl⟩
inductive aeu(B:Bs)(x0 x:fK):Sk->List V->au->Prop
 | plain {u:V} {ru:au} (r:VX B x u ru):aeu B x0 x .plain [u] ru
 | range {n:Int} {r:aH} {t u v:Tok} (e:IsRange x.s.heap r 0 n 1 t u v):aeu B x0 x .range [.int n] (.ref r)
 | enum {b:List UInt8} {t:Tok} {e it:aH} (ne:e≠it) (fr:∀ {a},zE2 e it a->x0.s.heap.get? a=none) (no:∀ {a},zE2 e it a->¬ own x.g a) (nw:∀ {a},zE2 e it a->B.hb.get? a=none) (st:EnS b t e it 0 x.s.heap):aeu B x0 x .enum [.bytes b] (.ref e)
theorem Qv{l:List V}{rv:au}(w:Wd B x)(L:Xx x0.s.heap x.s.heap)(r:aeu B x0 x k vs rv)(e:lF x.st k vs=some l):bD (Mo B) A (pyIter rv) (ItP B k vs l x0 x) (fun J J=>False) x.s:=by
 cases r with
 | @plain u ru r=>
  cases u with
  | tup m=>exact bV (show some m=some l from e) (Yl w L r)
  | bytes b=>exact bV (show some _=some l from e) (Ym w L r)
  | str y=>exact bV (show some _=some l from e) (aer w L r)
  | lst m=>exact Qt w L rfl r e
  | ref i=>exact Qt w L rfl r e
  | _=>exact nn e
 | range q=>exact nH (show gd _ _=some l from e) fun h=>Yn w L h.1 h.2 q
 | enum ne fr no nw st=>exact bV (show some _=some l from e) (by cases st with | mk bi en=>exact wpAny_pyIter_enum en (.mk .refl fr no nw (.enum ne) (.mk bi en) .none))
end
end
section
noncomputable def Nf(e:cZ):Prop:=∀ {env v},foldedSetIterable e env v=pure v
structure Srn(τ:Pl->Prop)(e:cZ)(k:Sk)(src:List ME):Prop where
 fs:Nf e
 ev:∀ {n p fr x Qs X},Cy τ p (n + 1) fr x->(∀ {vs st},Qs vs st->∃ l,lF st k vs=some l)->Ue (W p.B.pg n) src fr x.st Qs X->WG p x (eval e p.env) (fun rx y=>∃ vs,aeu p.B x y k vs rx/\Qs vs y.st) X
noncomputable def Agr(ks:List Nat)(pt:Pt)(v:V)(fr fr' vp:Fm):Prop:=∃ fr2,Fj pt v vp=some fr2/\(∀ {k},(k∈ks∨gH fr k=gH vp k)->gH fr' k=gH fr2 k)/\∀ {k},k∉ks->gH fr2 k=gH vp k
structure Ptn(τ:Pl->Prop)(tgt:cZ)(pt:Pt)(ks:List Nat):Prop where
 as:∀ {n p fr vp x v rv X},Cy τ p (n + 1) fr x->VX p.B x v rv->Fj pt v fr=some vp->WZ p x (assign tgt p.env rv) (PU p fun f st=>f=vp/\st=x.st) X
 ag:∀ {v fr fr'} (vp),Fj pt v fr=some fr'->Agr ks pt v fr fr' vp
structure Nms(τ:Pl->Prop)(es:List cZ)(ks:List Nat):Prop where
 len:∀ {env},(assignEach es env).length=ks.length
 fi:∀ {env},(assignEach es env).findIdx? (·.1)=none
 ao:∀ {n p fr x vs rs X},τ p->Cx p n fr x->yw p.B x vs rs->ks.length=vs.length->WZ p x (assignInOrder ((assignEach es p.env).map (·.2)) rs) (PU p fun f st=>f=HN fr ks vs/\st=x.st) X
section
variable{τ:Pl->Prop}{B:Bs}{sc:Sc}{p:Pl}{n i j k:Nat}{fr:Fm}{x x0 y:fK}{s':aB}{X:Ex}{Q:Fl->Fm->St->Prop}{e tgt:cZ}{m:ME}{pos p0:Pos}{v:V}{rv:au}{nm:Str}{kk:Sk}{src:List ME}{a:List uf}{ma:List MS}{l vs:List V}{it:aH}{Z:aH->Prop}{Sx:Nat->cD->Prop}{Mx:Nat->au->cD->Prop}{w:V}{rw:au}{pt:Pt}{ks:List Nat}{es:List cZ}
theorem anT(hx:sc.vs.lookup nm=some k)(hw:nm∈sc.wn):Ptn (At B sc) (.Name nm pos) (.v k) [k]:=
 ⟨fun {n p fr vp x v rv X} I r e=>(show WZ p x (standAt _ >>= fun J=>bindName p.env nm rv) _ _ from .stand (WZ.name I.C (I.h.s▸hx) (I.h.s▸hw) r ⟨aC e,rfl⟩)),
 fun {v fr fr'} vp e=>by
  cases aC e
  refine⟨pC vp k v,rfl,fun {j} h=>?_,fun {j} h=>?_⟩
  ·rw[pG,pG]
   by_cases q:k=j
   ·rw[if_pos q,if_pos q]
   ·rw[if_neg q,if_neg q]; exact h.elim (fun h=>absurd (aN.mp h).symm q) id
  ·rw[pG,if_neg fun q=>h (aN.mpr q.symm)]⟩
theorem ah9:Nms τ [] []:=⟨rfl,rfl,fun {n p fr x vs rs X} h C r hl=>by
 cases vs with
 | nil=>exact jV.Fz (P:=fun rs=>WZ p x (assignInOrder [] rs) _ _) r (.pure C (C.pu ⟨rfl,rfl⟩ ()))
 | cons=>cases hl⟩
theorem aev(hx:sc.vs.lookup nm=some k)(hw:nm∈sc.wn)(T:Nms (At B sc) es ks):Nms (At B sc) (.Name nm pos::es) (k::ks):=
 ⟨congrArg (· + 1) T.len,fun {env}=>by
  rw[show assignEach (.Name nm pos::es) env=(false,assign (.Name nm pos) env)::assignEach es env from rfl,uT,T.fi]; rfl,fun {n p fr x vs rs X} h C r hl=>by
  cases vs with
  | nil=>cases hl
  | cons v vs=>
   exact jV.uG (P:=fun rs=>WZ p x (assignInOrder (assign (.Name nm pos) p.env::(assignEach es p.env).map (·.2)) rs) _ _) r fun rv rs a r=>WZ.bind C (.hold (show WZ p x (standAt _ >>= fun J=>bindName p.env nm rv) _ _ from .stand (WZ.name (Q:=fun f st=>f=pC fr k v/\st=x.st) C (h.s▸hx) (h.s▸hw) a ⟨rfl,rfl⟩))) fun E1 k1 z=>z.elim fun vp z=>z.elim fun m z=>by
    obtain⟨er,e1,e2⟩:=z
    subst e1
    rw[← e2]
    exact T.ao h (k1 er) (r.up E1 C.zns) (jt hl)⟩
theorem Qw{fr fr':Fm}(h:Dz (ks.map .v) vs fr=some fr'):ks.length=vs.length/\fr'=HN fr ks vs:=by
 induction ks generalizing vs fr with
 | nil=>cases vs with
  | nil=>exact⟨rfl,(aC h).symm⟩
  | cons=>exact nn h
 | cons k ks ih=>cases vs with
  | nil=>exact nn h
  | cons v vs=>exact(ih (fr:=pC fr k v) h).imp (congrArg (· + 1)) id
theorem abI{fr:Fm}(h:ks.length=vs.length):Dz (ks.map .v) vs fr=some (HN fr ks vs):=by
 induction ks generalizing vs fr with
 | nil=>cases vs with
  | nil=>rfl
  | cons=>cases h
 | cons k ks ih=>cases vs with
  | nil=>cases h
  | cons v vs=>exact ih (fr:=pC fr k v) (jt h)
theorem aia{fr vp:Fm}{j:Nat}(hl:ks.length=vs.length)(h:j∈ks∨gH fr j=gH vp j):gH (HN fr ks vs) j=gH (HN vp ks vs) j:=by
 induction ks generalizing vs fr vp with
 | nil=>cases vs with
  | nil=>exact h.elim (fun q=>nomatch q) id
  | cons=>cases hl
 | cons k ks ih=>cases vs with
  | nil=>cases hl
  | cons v vs=>
   refine ih (jt hl) ?_
   rw[pG,pG]
   by_cases q:k=j
   ·rw[if_pos q,if_pos q]; exact .inr rfl
   ·rw[if_neg q,if_neg q]; exact h.imp (fun h=>(aY.mp h).resolve_left fun e=>q e.symm) id
theorem aew{fr:Fm}{j:Nat}(h:j∉ks):gH (HN fr ks vs) j=gH fr j:=by
 induction ks generalizing vs fr with
 | nil=>rfl
 | cons k ks ih=>cases vs with
  | nil=>rfl
  | cons v vs=>exact(ih fun q=>h (.tail _ q)).trans (pG.trans (if_neg fun(q:k=j)=>h (q▸.head _)))
theorem anU{k:Nat}(T:Nms τ es ks):Ptn τ (.Tuple es k pos) (.t (ks.map .v)) ks:=
 ⟨fun {n p fr vp x v rv X} I r e=>.eq (assign_Tuple ..) (.stand (akC e r fun vs S e=>by
  obtain⟨hl,rfl⟩:=Qw e
  unfold unpack
  rw[T.len,T.fi,hl]
  exact WT.bind (P:=fun items y=>yw p.B y vs items/\y.st=x.st) I.C .all (WT.hold (.k3 I.C (cj (Aq (x:=x) I.ok S) (fun J J k=>⟨k.1,k.2,rfl⟩) fun J J e=>e))) fun E1 C1 q1=>q1.2▸T.ao I.h C1 q1.1 hl)),
 fun {v fr fr'} vp e=> @akr _ (fun v=>Agr ks (.t (ks.map .v)) v fr fr' vp) _ v fr' e fun vs e=>by
  obtain⟨hl,rfl⟩:=Qw e
  exact⟨HN vp ks vs,abI hl,fun h=>aia hl h,fun h=>aew h⟩⟩
theorem abJ(fs:Nf e)(S:Sn τ e m):Srn τ e .plain [m]:=⟨fs,fun I J q=>.post (S.ev I.dn q) fun q=>q.elim fun v q=>⟨[v],.plain q.1,q.2⟩⟩
theorem abK(hg:Gb B sc "range" (.type "range"))(S:Sn (At B sc) e m):Srn (At B sc) (.Call (.Name "range" p0) [e] [] pos) .range [m]:=
 ⟨rfl,fun {n p fr x Qs X} I hq q=>I.Ly (Ao S Ce) (Cd I hg ⟨rfl,rfl⟩) w5 q fun {rs vs y} E1 I1 r q=>(hq q).elim fun l e=>by
  refine @Z0 _ (fun vs=>yw _ y vs rs->Qs vs y.st->WG p y (call _ rs) _ _) _ vs l e (fun v e r q=>?_) r q
  refine jV.ahn (P:=fun rs=>WG _ y (call _ rs) _ _) r fun rx rx'=>?_
  exact @Xh _ (fun v=>VX _ y v rx->Qs [v] y.st->WG p y (call _ [rx]) _ _) _ v l e (fun n J r q=>VR.Hp (P:=fun rx=>WG _ y (call _ [rx]) _ _) r fun t=>.k3 I1.C (call_range_1 ⟨.kp I1.inv Uw,[.int n],.range (bK _ rfl),q⟩)) rx' q⟩
theorem aex(hg:Gb B sc "enumerate" (.type "enumerate"))(S:Sn (At B sc) e m):Srn (At B sc) (.Call (.Name "enumerate" p0) [e] [] pos) .enum [m]:=
 ⟨rfl,fun {n p fr x Qs X} I hq q=>I.Ly (Ao S Ce) (Cd I hg ⟨rfl,rfl⟩) w5 q fun {rs vs y} E1 I1 r q=>(hq q).elim fun l e=>by
  refine @Z0 _ (fun vs=>yw _ y vs rs->Qs vs y.st->WG p y (call _ rs) _ _) _ vs l e (fun v e r q=>?_) r q
  refine jV.ahn (P:=fun rs=>WG _ y (call _ rs) _ _) r fun rx rx'=>?_
  refine @amU _ (fun v=>VX _ y v rx->Qs [v] y.st->WG p y (call _ [rx]) _ _) _ v l e (fun b J r q=>VR.yt (P:=fun rx=>WG _ y (call _ [rx]) _ _) r fun t=>.k3 I1.C (Av fun he hit=>⟨.kp I1.inv FW,[.bytes b],?_,q⟩)) rx' q
  have f:∀ {a},zE2 (y.s.heap.objs.size + 1) y.s.heap.objs.size a->y.s.heap.get? a=none:=fun z=>z.elim (fun z=>z▸Ak (dw _)) fun z=>z▸fM
  exact .enum (Nat.succ_ne_self _) (fun z=>vg E1.live (f z)) (fun z=>(I1.C.wd.new (f z)).1) (fun z=>(I1.C.wd.new (f z)).2.2) (.mk hit he)⟩
inductive FJ(p:Pl)(n:Nat)(x0:fK)(Z:aH->Prop)(Sx:Nat->cD->Prop)(w:V)(rw:au)(l:List V)(G:List V->Fm->St->Prop)(m:Nat)(y:fK):Prop
 | mk {i:Nat} {f:Fm} (e:m + i=l.length) (ev:Ev p.B (zE p) x0 y) (lk:LK p.env x0.s y.s) (C:Cx p n f y) (O:Mf p.B y Z) (st:Sx i y.s.heap) (r:VX p.B y w rw) (q:G (l.drop i) f y.st)
theorem Mh{M:jC}{A:cI}{s:aB}{α:Type}{t:Sem α}{k:au->Sem Unit}{Q:α->aB->Prop}{E:au->aB->Prop}(h:bD M A t Q (fun J J=>False) s):je M A (t.onRaise k) Q E s:=
 mq (.of (cj h (fun J J q=>q) fun J J q=>q.elim))
theorem Qx{i:Nat}(h:i < l.length):l.drop i=l[i]::l.drop (i + 1):=List.drop_eq_getElem_cons h
theorem Cx.nz(C:Cx p n fr x)(O:Mf p.B x Z)(zi:Z it):¬ zE p it:=fun z=>by
 obtain⟨m,F⟩:=C.er
 cases z with
 | l e'=>exact(jq F.ns).elim fun J r=>r.elim fun J r=>r.elim fun J r=>O.fld (e'▸r.1) (jW r.2) zi
 | c _ e'=>cases(F.cells e').2 with | mk e2 d2=>exact O.fld e2 (Eb d2) zi
theorem Mf.at_(C:Cx p n fr x)(O:Mf p.B x Z)(E:Ev p.B (zE p) x y)(zi:Z it){o:Obj}(e:x.s.heap.get? it=some o):y.s.heap.get? it=some o:=by
 cases O.ob zi with | mk e0 c nf d q=>
 cases aC (e0.symm.trans e)
 cases E.Fd e (pP C.wd.tab (O.nw zi)) (O.no zi) (C.nz O zi) with
 | eq q=>exact q
 | fr _ c'=>exact absurd (uZ (c.symm.trans c')) nf
theorem Mf.up(C:Cx p n fr x)(O:Mf p.B x Z)(E:Ev p.B (zE p) x y):Mf p.B y Z:=
 ⟨fun zi=>by cases O.ob zi with | mk e=>exact E.own e (O.no zi),O.nw,fun zi=>by cases O.ob zi with | mk e c nf d q=>exact .mk (O.at_ C E zi e) c nf d q⟩
theorem abL{P:uY->fK->Prop}(q:QT p (zE p) x P .next s'):mj (Mo p.B) p.A (.block [] p.env) (RZ p x P X) s':=by
 refine gM ?_
 rw[show p.A.under (.block [] p.env)=p.A from jT rfl]
 exact aP (m:=(execs [] p.env).onRaise _) (mq (bL (bL q)))
theorem TQ.fj{P:uY->fK->Prop}{c:Code}{G:List V->Fm->St->Prop}{r:PySem.Fin}{m:Nat}(It:Vk p.B kk vs l it Z Sx Mx w rw)(E1:Ev p.B (zE p) x y)(K1:LK p.env x.s y.s)(C1:Cx p n fr y)(O:Mf p.B y Z)(st:Sx (i + 1) y.s.heap)(rr:VX p.B y w rw)(e:m + 1 + i=l.length)
  (z:QT p (zE p) y (TQ p P c fun f st=>G (l.drop (i + 1)) f st) r s'):TZ p x P X c (FJ p n x Z Sx w rw l G) (m + 1) r s':=by
 cases z with | mk ev wd lk q=>
 cases r with
 | done f=>exact .done (.mk (E1.trans ev) wd (K1.trans lk) q)
 | again c'=>
  obtain⟨rfl,f,m',er,g⟩:=q
  exact .again (fG m) (.mk (i:=i + 1) ((eF m i).symm.trans e) (E1.trans ev) (K1.trans lk) (C1.upZ ev wd lk er) (O.up C1 ev) (It.fr st fun z e=>O.at_ C1 ev z e) (rr.goZ C1 ev) g)
structure Mv1(p:Pl)(n:Nat)(x0:fK)(Z:aH->Prop)(f:Fm)(w:V)(rw:au)(y:fK):Prop where
 ev:Ev p.B (zE p) x0 y
 lk:LK p.env x0.s y.s
 C:Cx p n f y
 O:Mf p.B y Z
 r:VX p.B y w rw
theorem Mv1.ki{f:Fm}(M:Mv1 p n x Z f w rw y)(hn:∀ {a},Z a->x.s.heap.get? a=none)(K:KI Z y.s s')(ob:∀ {a},Z a->Jl s'.heap a):Mv1 p n x Z f w rw ⟨y.g,y.st,s'⟩:=
 ⟨M.ev.ki hn K,LK.trans M.lk (LK.ki M.C M.O K),M.C.ki M.O K,⟨M.O.no,M.O.nw,ob⟩,M.r.tr (Tr.ki M.O K)⟩
theorem aey(I:Cz τ p (n + 1) fr x)(hn:∀ {a},Z a->x.s.heap.get? a=none)(It:Vk p.B kk vs l it Z Sx Mx w rw)(N:Ptn τ tgt pt ks)(tg:Gi kk tgt)(T:Zns τ a ma){m:Nat}
  (j:FJ p (n + 1) x Z Sx w rw l (fun l' f st=>Rb (W p.B.pg n) pt ma (fun st=>ux st kk vs l) l' f st Q X) m y):
  je (Mo p.B) p.A (forTurn tgt (.ref it) a [] p.env) (TZ p x (PS p Q) X (.forLoop tgt (.ref it) a [] p.env) (FJ p (n + 1) x Z Sx w rw l (fun l' f st=>Rb (W p.B.pg n) pt ma (fun st=>ux st kk vs l) l' f st Q X)) m) (QX p (zE p) x X) y.s:=by
 cases j with | @mk i f e ev lk C O st r q=>
 have M:Mv1 p (n + 1) x Z f w rw y:=⟨ev,lk,C,O,r⟩
 refine aP (gW ?_)
 cases m with
 | zero=>
  rw[fU] at e
  subst e
  rw[List.drop_length] at q
  exact aP (Mh (cj (It.stop C.ok st r q.1) (fun J s2 z=>by
   cases z with | mk K=>
   have C2:=C.ki O K
   exact bL (.other rfl (fun J J J J=>rfl) (abL (.mk (ev.ki hn K) C2.wd (lk.trans (LK.ki C O K)) (C2.ps (f:=.next) rfl q.2))))) fun J J q=>q))
 | succ m=>
  have hi:i < l.length:=e▸Nat.lt_add_of_pos_left (iQ m)
  rw[Qx hi] at q
  refine aP (Mh (cj (It.step C.ok O st r q.1 (bF hi)) (fun J s2 z=>by
   cases z with | @mk rv _ K st2 r2=>
   have M2:=M.ki hn K fun z=>It.obm st2 z
   refine bY (cj (It.go tg st2) (fun J s3 z=>?_) fun J J e=>e.elim)
   have M3:=M2.ki hn z.1 fun zz=>It.ob z.2 zz
   refine bT (?_:WZ p ⟨y.g,y.st,s3⟩ (assign tgt p.env rv >>= fun J=>execs a p.env >>= fun f=>match f with | .next | .cont=>again (.forLoop tgt (.ref it) a [] p.env) | .brk=>pure (.done .next) | .ret v=>pure (.done (.ret v))) (TQ p (PS p Q) (.forLoop tgt (.ref it) a [] p.env) fun f st=>Rb (W p.B.pg n) pt ma (fun st=>ux st kk vs l) (l.drop (i + 1)) f st Q X) X) (fun J J z'=>TQ.fj It M3.ev M3.lk M3.C M3.O z.2 M3.r e z') fun J J q=>q.yx I.I.C M3.ev (fun q=>q) M3.lk
   exact rA q.2 fun vp hb q=>WZ.bind M3.C (N.as (I.I.to M3.C) (r2.tr (Tr.ki M2.O z.1)) hb) fun {_ u} E3 k3 z=>z.elim fun f3 z=>z.elim fun m3 z=>WZ.bind (k3 z.1) (T.ss (I.to (k3 z.1)).dn (z.2.1.symm▸z.2.2.symm▸q)) fun E4 k4 z=>PS.turn (P:=fun r=>WZ p _ (match r with | .next | .cont=>again (.forLoop tgt (.ref it) a [] p.env) | .brk=>pure (.done .next) | .ret v=>pure (.done (.ret v))) (TQ p (PS p Q) (.forLoop tgt (.ref it) a [] p.env) fun f st=>Rb (W p.B.pg n) pt ma (fun st=>ux st kk vs l) (l.drop (i + 1)) f st Q X) X) z
    (fun er w=>WT.pure (k4 er) ⟨rfl,_,_,er,w⟩) (fun er w=>WT.pure (k4 er) ⟨rfl,_,_,er,w⟩) fun r er w=>WT.pure (k4 er) (PS.mk (f:=.ret _) ⟨_,rfl,r⟩ er w)) fun J J q=>q))
theorem ak7(R:Srn τ e kk src)(N:Ptn τ tgt pt ks)(tg:Gi kk tgt)(T:Zns τ a ma):Zn τ (.For tgt e a [] pos) (.for pt kk src ma):=
 ⟨fun {n p fr x Q X} I q=>.eq (arm_exec_For ..) (.stand (aP (bT (R.ev I.I (fun q=>rA q fun l e J=>⟨l,e⟩) q) (fun rx s1 z=>by
  cases z with | @mk g1 st1 ev wd lk z=>
  obtain⟨vs,z,q⟩:=z
  have C1:=I.I.C.up ev wd
  exact rA q fun l el q=>aP (Ho R.fs (bL (aP (gW (aP (cO (.of (cj (Qv wd ev.live z el) (fun J s2 z=>by
   cases z with | @mk it Z Sx Mx w rw _ kp fresh no nw It st r=>
   have E2:=ev.of.trans (z:=zE p) (kp.of.ev (x:=⟨g1,st1,s1⟩) (st:=st1))
   have K2:LK p.env x.s s2:=lk.trans (C1.lk (y:=⟨g1,st1,s2⟩) kp.ev)
   have C2:=C1.up (y:=⟨g1,st1,s2⟩) kp.ev (wd.kp kp)
   exact aar (c:=.forLoop tgt (.ref it) a [] p.env) (fun J J J J=>rfl) (Qq (c:=.forLoop tgt (.ref it) a [] p.env) (t:=forTurn tgt (.ref it) a [] p.env) I.fe (jT rfl) (fun J J J J=>rfl) rfl rfl
    (fun j=>aey I fresh It N tg T j) l.length (y:=⟨g1,st1,s2⟩) (.mk (i:=0) rfl E2 K2 C2 ⟨no,nw,It.ob st⟩ st (r.kp kp) q))) fun J J e=>e.elim))))))))) fun J J q=>q.of)))⟩
end
end
section
section
variable{α:Type}{ns:List Str}{xs:List α}{n:Str}{i:Nat}
theorem Yo{a b:Str}(h:a≠b):(a==b)=false:=beq_eq_false_iff_ne.mpr h
theorem Ej(nd:ns.Nodup)(e:ns[i]?=some n):(ns.zip xs).lookup n=xs[i]?:=by
 induction ns generalizing xs i with
 | nil=>exact cW rfl e
 | cons a ns ih=>
  have nd:=dj.mp nd
  cases xs with
  | nil=>rfl
  | cons y xs=>
   rw[pR,aM]
   cases i with
   | zero=>cases aC e; rw[beq_self_eq_true]; rfl
   | succ i=>
    rw[Yo fun(q:n=a)=>nd.1 (q▸List.mem_of_getElem? e)]
    exact ih nd.2 e
noncomputable def HW(s:List (Str×α))(x:Str×α):List (Str×α):=if(s.lookup x.1).isNone=true then s++[(x.1,x.2)] else s
theorem Yp{l m:List (Str×α)}:(l++m).lookup n=(l.lookup n).or (m.lookup n):=by
 induction l with
 | nil=>rfl
 | cons p l ih=>
  rw[rN,aM,aM]
  cases n==p.1 with
  | true=>rfl
  | false=>exact ih
theorem abM{L s:List (Str×α)}:(L.foldl HW s).lookup n=(s.lookup n).or (L.lookup n):=by
 induction L generalizing s with
 | nil=>exact(Option.or_none ..).symm
 | cons x L ih=>
  rw[tG,ih]
  unfold HW
  rw[aM]
  by_cases q:(s.lookup x.1).isNone=true
  ·rw[if_pos q,Yp,aM]
   cases n==x.1 with
   | true=>cases s.lookup n <;> rfl
   | false=>cases s.lookup n <;> rfl
  ·rw[if_neg q]
   cases e:n==x.1 with
   | true=>
    cases eq_of_beq e
    cases h:s.lookup x.1 with
    | none=>exact absurd (by rw[h]; rfl) q
    | some v=>rfl
   | false=>rfl
theorem ak8{F:Str->Option α}(hl:ns.length=xs.length)(h:∀ {i:Nat} {n:Str} {v:α},ns[i]?=some n->xs[i]?=some v->F n=some v):(ns.filterMap fun n=>(F n).map fun v=>(n,v))=ns.zip xs:=by
 induction ns generalizing xs with
 | nil=>rfl
 | cons a ns ih=>
  cases xs with
  | nil=>cases hl
  | cons y xs=>
   rw[pR,tV,h (i:=0) rfl rfl]
   exact congrArg (_::·) (ih (jt hl) fun {i n v} e e'=>h (i:=i + 1) e e')
noncomputable def J6(names:List Str)(rs D:List α):List (Str×α):=names.zip (rs++D.drop (D.length - (names.length - rs.length)))
variable{rs D:List α}
theorem abN(nd:ns.Nodup)(h1:rs.length<=ns.length)(h2:ns.length<=rs.length + D.length)(h3:D.length<=ns.length):
  (ns.filterMap fun n=>((((ns.drop (ns.length - D.length)).zip D).foldl HW (ns.zip rs)).lookup n).map fun v=>(n,v))=J6 ns rs D:=by
 have k:D.length - (ns.length - rs.length)=rs.length - (ns.length - D.length):=by rw[Nat.sub_sub_right _ h1,Nat.sub_sub_right _ h3,fB]
 have fg:ns.length - D.length<=rs.length:=sY h2
 refine ak8 ?_ fun {i n v} e e'=>?_
 ·rw[aF,jk,Nat.sub_sub_self (sY (fB .. ▸h2)),dD h1]
 ·rw[abM,Ej nd e]
  by_cases q:i < rs.length
  ·rw[gU q] at e'
   rw[e']; rfl
  ·have q:=gP q
   rw[gJ q,uV,k,fB,Nat.sub_add_sub_cancel q fg] at e'
   rw[cR q,Ej (i:=i - (ns.length - D.length)) (nd.sublist (List.drop_sublist _ _)) (by rw[uV,dD (ak fg q)]; exact e)]
   exact e'
theorem Yq(nd:ns.Nodup)(h1:rs.length<=ns.length)(h2:ns.length<=rs.length + D.length)(h3:D.length<=ns.length):
  ((ns++[]).filterMap fun n=>((((ns.drop (ns.length - (D.drop (D.length - ns.length)).length)).zip (D.drop (D.length - ns.length))).foldl HW (ns.zip rs)).lookup n).map fun v=>(n,v))=J6 ns rs D:=by
 rw[bN,q7 h3,qP]
 exact abN nd h1 h2 h3
theorem Yr(nd:ns.Nodup)(h2:ns.length<=rs.length + D.length):(ns.take (ns.length - D.length)).filter (fun n=>((ns.zip rs).lookup n).isNone)=[]:=
 List.filter_eq_nil_iff.mpr fun n hm q=>by
  obtain⟨i,hi,e⟩:=List.getElem_of_mem hm
  rw[xP] at hi
  have lt:=aK (aK hi (mW _ _)) (sY h2)
  rw[Ej (i:=i) nd (by rw[← e,List.getElem_take]; exact bF _),bF lt] at q
  cases q
end
section
variable{M:jC}{A:cI}{E:au->aB->Prop}{s:aB}
theorem Ys:∀(l s:List (Str×au)),(forIn l s fun x (s:List (Str×au))=>if(s.lookup x.1).isNone=true then(pure (ForInStep.yield (s++[(x.1,x.2)])):Sem (ForInStep (List (Str×au)))) else pure (ForInStep.yield s))=pure (l.foldl HW s)
 | [],s=>uW
 | x::l,s=>by
  rw[pJ,tG]
  unfold HW
  by_cases q:(s.lookup x.1).isNone=true
  ·rw[if_pos q,if_pos q]; exact Ys l _
  ·rw[if_neg q,if_neg q]; exact Ys l _
theorem Cm{fd:g8}{as:List Arg}{ds:List cZ}{rs D:List au}(hp:fd.params=⟨[],as,none,[],[],none,ds⟩)(hn:(as.map (·.arg)).Nodup)(hd:bD M A (seqItems? fd.defaults) (fun r s'=>(r.getD #[]).toList=D/\s'=s) E s)
  (h1:rs.length<=(as.map (·.arg)).length)(h2:(as.map (·.arg)).length<=rs.length + D.length)(h3:D.length<=(as.map (·.arg)).length):bD M A (bindArgs fd ⟨rs,[]⟩) (fun b s'=>b=J6 (as.map (·.arg)) rs D/\s'=s) E s:=by
 cases fd
 cases(show _=_ from hp)
 refine aq (aJ (aq (cj hd (fun r s' z=>?_) fun J J e=>e)))
 obtain⟨hD,rfl⟩:=z
 subst hD
 have z:(r.getD #[]).toList.length - (as.map (·.arg)).length=0:=q7 h3
 refine dI (show(decide (rs.length > (as.map (·.arg)).length) && true)=false by rw[decide_eq_false (gK.mpr h1)]; rfl) ?_
 refine dI (show(!(List.filter (fun n=>(((as.map (·.arg)).zip rs).lookup n).isNone) ((as.map (·.arg)).take ((as.map (·.arg)).length - ((r.getD #[]).toList.drop ((r.getD #[]).toList.length - (as.map (·.arg)).length)).length))).isEmpty)=false by rw[z,qP,Yr hn h2]; rfl) ?_
 refine aq (bJ (Ys _ _) (aq (bJ rfl (dI rfl (aJ ⟨?_,rfl⟩)))))
 exact Yq hn h1 h2 h3
end
end
section
section
variable{prog:dO}{w:cY}{A:cI}{E:au->aB->Prop}{s:aB}{R:mQ->aB->Prop}{env:Env}
noncomputable def anV:uY->au | .ret v=>v | _=>.none
theorem El{body:List uf}
  (h:je (model prog w) (A.deeper env) (execs body env) (fun f s'=>R (.ok (.ret (anV f))) s')
   (fun e s'=>je (model prog w) (A.deeper env) (leaving env e) (fun J s''=>R (.error e) s'') (fun e' s''=>R (.error e') s'') s') s):
  mj (model prog w) A (.func body env) R s:=
 gM (aP (wR (aP (m:=(execs body env).onRaise (leaving env)) (mq (bT h (fun f s' h'=>by cases f <;> exact bL h') fun e s' h'=>h')))))
theorem Yt{body:cZ}
  (h:je (model prog w) (A.deeper env) (eval body env) (fun v s'=>R (.ok (.ret v)) s')
   (fun e s'=>je (model prog w) (A.deeper env) (leaving env e) (fun J s''=>R (.error e) s'') (fun e' s''=>R (.error e') s'') s') s):
  mj (model prog w) A (.expr body env) R s:=
 gM (aP (wR (aP (m:=(eval body env).onRaise (leaving env)) (mq (bT h (fun v s' h'=>bL h') fun e s' h'=>h')))))
theorem lG{a:aH}{args:Args}{o:Obj}{fd:g8}{code:Env->Code}(hroom:A.depth < recursionLimit)
  (ho:s.heap.get? a=some o)(hd':o.data=.func fd)(hco:fd.scope.isCoroutine=false)(hgen:fd.scope.isGenerator=false)
  (hcode:∀ {env},(match fd.body with | .stmts b=>Code.func b env | .expr e=>Code.expr e env)=code env)(hq:∀ {env},(code env).quiet=true)(hdc:∀ {env},Nd (code env))(hcd:s.heap.CodeRec fd.code fd.qualname)
  (h:bD (model prog w) A.in1 (bindArgs fd args) (fun binds c7=>
   bD (model prog w) A.in1 (newFunctionEnv fd.scope fd.globals fd.closure binds (fd.qualname++".<locals>.") (some a) fd.code none fd.builtins)
    (fun env Aw=>Aw.heap.NoLimit/\mj (model prog w) A (code env) R Aw) (fun J J=>False) c7) (fun J J=>False) s):
  mj (model prog w) A (.call (.ref a) args) R s:=by
 obtain⟨c,oc,vs,tq,hc,hoc,aqI,hq'⟩:=hcd
 refine gM (bY (m:=load a) (mR ho ?_))
 rw[hd']
 show je _ _ (callFunction a fd args) _ _ _
 unfold callFunction
 rw[hc] at h ⊢
 refine bY (m:=field (.ref c) 1) (ou hoc aqI hq' (aP (bL ?_)))
 refine bY (cj h (fun binds c7 Di=>bY (cj Di (fun env Aw Vo=>bY (wpAny_enterFrame Vo.1 hroom ?_)) fun J J h'=>h'.elim)) fun J J h'=>h'.elim)
 rw[hgen,hco]
 show je _ _ (again (match fd.body with | .stmts b=>Code.func b env | .expr e=>Code.expr e env)) _ _ _
 rw[hcode]
 exact bL ⟨hq,hdc,Vo.2⟩
end
end
section
noncomputable def HX:Obj:={cls:=.type "cell",data:=.cell none}
inductive aqJ(names:List (Str×jy))(h h':cD)(x:Str)(c:aH):Prop
 | mk (ge:h.objs.size<=c) (k:(x,m8)∈names) (e:tE h' c)
structure aez(h:cD)(cs:List (Str×aH)):Prop where
 lt:∀ {x c},cs.lookup x=some c->c < h.objs.size
 inj:∀ {x y c},cs.lookup x=some c->cs.lookup y=some c->x=y
section
variable{names:List (Str×jy)}{h:cD}{cs:List (Str×aH)}{x y:Str}{c:aH}{n:Nat}{kd:jy}
theorem lD{α:Type}{l:List (Str×α)}{a:Str}{v w:α}{P:Prop}(e:((a,v)::l).lookup x=some w)(h1:x=a->w=v->P)(h2:l.lookup x=some w->P):P:=by
 rw[aM] at e
 cases q:x==a with
 | true=>rw[q] at e; exact h1 (eq_of_beq q) (aC e).symm
 | false=>rw[q] at e; exact h2 e
theorem aez.cons(C:aez h cs):aez (h.push HX) ((x,h.objs.size)::cs):=
 ⟨fun e=>by
  rw[d9]
  exact lD e (fun J q=>q▸fG _) fun e=>cU (C.lt e),
 fun e e'=>lD e (fun q r=>lD e' (fun q' J=>q.trans q'.symm) fun e'=>absurd (C.lt e') (r▸f9 _)) fun e=>lD e' (fun J r=>absurd (C.lt e) (r▸f9 _)) fun e'=>C.inj e e'⟩
theorem R5{o:Obj}(ge:(h.push o).objs.size<=c):h.objs.size<=c:=Nat.le_of_succ_le (ak (aR (d9 ..).symm) ge)
theorem R6{r:List (Str×jy)}(q:(kd==.cell)=true):cellsFrom n ((x,kd)::r) cs=cellsFrom (n + 1) r ((x,n)::cs):=if_pos q
theorem R7{r:List (Str×jy)}(q:¬ (kd==.cell)=true):cellsFrom n ((x,kd)::r) cs=cellsFrom n r cs:=if_neg q
theorem Vp(C:aez h cs):(∀ {x c},(cellsFrom h.objs.size names cs).lookup x=some c->cs.lookup x=some c∨aqJ names h (pushCells h names) x c)/\∀ {x y c},(cellsFrom h.objs.size names cs).lookup x=some c->(cellsFrom h.objs.size names cs).lookup y=some c->x=y:=by
 induction names generalizing h cs with
 | nil=>exact⟨.inl,C.inj⟩
 | cons p r ih=>
  obtain⟨a,k⟩:=p
  by_cases q:(k==.cell)=true
  ·rw[R6 q,show pushCells h ((a,k)::r)=pushCells (h.push HX) r from if_pos q,← d9 h HX]
   have w:=ih (C.cons (x:=a))
   refine⟨fun e=>(w.1 e).elim (fun e=>lD e (fun ex ec=>.inr ?_) .inl) fun z=>.inr ?_,w.2⟩
   ·subst ex ec
    exact .mk (bf _) (eq_of_beq q▸.head _) (.mk (mY _ _ _ _ (bK _ rfl)) rfl)
   ·cases z with | mk ge k e=>exact .mk (R5 ge) (.tail _ k) e
  ·rw[R7 q,show pushCells h ((a,k)::r)=pushCells h r from if_neg q]
   have w:=ih C
   exact⟨fun e=>(w.1 e).imp id fun z=>by cases z with | mk ge k e=>exact .mk ge (.tail _ k) e,w.2⟩
theorem Yu(e:∃ c,cs.lookup x=some c):∃ c,(cellsFrom n names cs).lookup x=some c:=by
 induction names generalizing n cs with
 | nil=>exact e
 | cons p r ih=>
  obtain⟨a,k⟩:=p
  by_cases q:(k==.cell)=true
  ·rw[R6 q]
   refine ih ?_
   rw[aM]
   cases x==a with
   | true=>exact⟨_,rfl⟩
   | false=>exact e
  ·rw[R7 q]; exact ih e
theorem abO(e:(x,m8)∈names):∃ c,(cellsFrom n names cs).lookup x=some c:=by
 induction names generalizing n cs with
 | nil=>cases e
 | cons p r ih=>
  obtain⟨a,k⟩:=p
  by_cases q:(k==.cell)=true
  ·rw[R6 q]
   rcases aY.mp e with e | e
   ·cases e; exact Yu ⟨n,by rw[aM,beq_self_eq_true]⟩
   ·exact ih e
  ·rw[R7 q]
   rcases aY.mp e with e | e
   ·cases e; exact absurd rfl q
   ·exact ih e
theorem Mi(e:(x,m8)∉names):(cellsFrom n names cs).lookup x=cs.lookup x:=by
 induction names generalizing n cs with
 | nil=>rfl
 | cons p r ih=>
  obtain⟨a,k⟩:=p
  by_cases q:(k==.cell)=true
  ·rw[R6 q,ih fun z=>e (.tail _ z),aM,Yo fun(z:x=a)=>e (z▸eq_of_beq q▸.head _)]
  ·rw[R7 q]; exact ih fun z=>e (.tail _ z)
theorem mZ{α:Type}{l:List (Str×α)}{k:α}(nd:(l.map (·.1)).Nodup)(h:(x,k)∈l):l.lookup x=some k:=by
 induction l with
 | nil=>cases h
 | cons p r ih=>
  have nd:=dj.mp nd
  rw[aM]
  rcases aY.mp h with e | h
  ·cases e; rw[beq_self_eq_true]
  ·rw[Yo fun(z:x=p.1)=>nd.1 (fX.mpr ⟨_,h,z⟩)]
   exact ih nd.2 h
theorem jh{α:Type}{l:List (Str×α)}{k:α}(e:l.lookup x=some k):(x,k)∈l:=by
 induction l with
 | nil=>exact nn e
 | cons p r ih=>exact lD e (fun q r=>q▸r▸.head _) fun e=>.tail _ (ih e)
end
structure abP(scope:jD)(sc:Sc):Prop where
 kind:scope.kind=.function
 nd:(scope.names.map (·.1)).Nodup
 inj:∀ {x y k},sc.vs.lookup x=some k->sc.vs.lookup y=some k->x=y
 wn:∀ x∈sc.wn,scope.names.lookup x=some .local∨scope.names.lookup x=some .cell
 gl:∀ x∈sc.gl,scope.names.lookup x=some .globalImplicit
 cl:∀ x∈sc.cl,scope.names.lookup x=some .cell∨scope.names.lookup x=some .free
inductive aqK(B:Bs)(x:fK)(cs:List (Str×aH))(y:Str)(v:V):Prop
 | mk {c o rv} (l:cs.lookup y=some c) (e:x.s.heap.get? c=some o) (d:o.data=.cell (some rv)) (r:VX B x v rv)
structure Clo(B:Bs)(x:fK)(scope:jD)(sc:Sc)(cs:List (Str×aH))(fr:Fm):Prop where
 free:∀ {y c},cs.lookup y=some c->scope.names.lookup y=some .free
 has:∀ y∈sc.cl,scope.names.lookup y=some .free->∃ c,cs.lookup y=some c
 cell:∀ {y c},cs.lookup y=some c->¬ own x.g c/\B.hb.get? c=none/\tE x.s.heap c
 apart:∀ {y z c},cs.lookup y=some c->cs.lookup z=some c->y=z
 vars:∀ {y k v},sc.vs.lookup y=some k->gH fr k=some v->scope.names.lookup y=some .free/\aqK B x cs y v
noncomputable def sI(scope:jD)(L:aH)(cs:List (Str×aH))(qual:Str)(func:Option aH)(code:au):Env:=
 {scope,locals:=L,globals:=mainGlobals,cells:=cellsFrom (L + 1) scope.names cs,qual,func,code,frame:=some L,builtins:=builtinsNs}
noncomputable def rC(T:String):Obj:={cls:=.type T,data:=.dict #[]}
noncomputable def aib(scope:jD)(L:aH)(cs:List (Str×aH))(e:Env):Env:={e with scope,locals:=L,cells:=cellsFrom (L + 1) scope.names cs}
section
variable{B:Bs}{A A':cI}{E:au->aB->Prop}{x x0 y:fK}{sc:Sc}{fr:Fm}{scope:jD}{cs:List (Str×aH)}{qual:Str}{func:Option aH}{code:au}
theorem Clo.anW{T:String}(K:Clo B x scope sc cs fr):aez (x.s.heap.push (rC T)) cs:=⟨fun e=>by
 rw[d9]
 cases(K.cell e).2.2 with | mk e=>exact cU (d8 e),K.apart⟩
theorem Mj{names:List (Str×jy)}{T:String}:Kp x.s {x.s with heap:=pushCells (x.s.heap.push (rC T)) names}:=.mk' rfl fun b o e=>mY _ _ _ _ (aW _ e)
theorem abQ{y:Str}(e:(y,m8)∈scope.names)(nd:(scope.names.map (·.1)).Nodup):scope.names.lookup y=some .cell:=mZ nd e
theorem Qy{e:Env}(T:String)(hg:e.globals=mainGlobals)(hb:e.builtins=builtinsNs)(Ml:∀ t,sc.lam=some t->e.code=.ref t.1/\e.qual++("<lambda>":Str)=t.2.2)(w:Wd B x)(S:abP scope sc)(K:Clo B x scope sc cs fr):
  ER ⟨B,A,aib scope x.s.heap.objs.size cs e,sc⟩ ⟨x.g,x.st,{x.s with heap:=pushCells (x.s.heap.push (rC T)) scope.names}⟩ fr (fun J=>none):=by
 have kp:=Mj (x:=x) (names:=scope.names) (T:=T)
 have ok:=Vp (names:=scope.names) (K.anW (T:=T))
 rw[d9] at ok
 have hi:∀ {c},x.s.heap.objs.size<=c->¬ own x.g c/\B.hb.get? c=none:=fun h=>have q:=w.new (Ak h); ⟨q.1,q.2.2⟩
 have old:∀ {y c},(cellsFrom (x.s.heap.objs.size + 1) scope.names cs).lookup y=some c->¬ own x.g c/\B.hb.get? c=none/\tE (pushCells (x.s.heap.push (rC T)) scope.names) c:=fun e=>(ok.1 e).elim (fun e=>by
  have q:=K.cell e
  cases q.2.2 with | mk e' d=>exact⟨q.1,q.2.1,.mk (kp.at e') d⟩) fun z=>by
   cases z with | mk ge k e=>
   have q:=hi (R5 ge)
   exact⟨q.1,q.2,e⟩
 have free:∀ {y},scope.names.lookup y=some .free->(cellsFrom (x.s.heap.objs.size + 1) scope.names cs).lookup y=cs.lookup y:=fun e=>Mi fun z=>nomatch (abQ z S.nd).symm.trans e
 have isCell:∀ {y},scope.names.lookup y=some .cell->∃ c,(cellsFrom (x.s.heap.objs.size + 1) scope.names cs).lookup y=some c:=fun e=>abO (jh e)
 refine⟨⟨S.kind,hg,hb,Ml,(hi (bf _)).2,fun y hy=>(S.wn y hy).imp id fun h=>⟨h,isCell h⟩,fun y hy=>S.gl y hy,fun y hy=>(S.cl y hy).elim (fun h=>⟨.inl h,isCell h⟩) fun h=>⟨.inr h,(K.has y hy h).imp fun c e=>(free h).trans e⟩,S.inj,fun e=>(old e).2.1,ok.2⟩,
  (Heap.Ns.new x.s.heap (.type T)).keeps (mY _ _),(hi (bf _)).1,fun e e'=>?_,fun e=>⟨(old e).1,(old e).2.2⟩⟩
 obtain⟨hf,v⟩:=K.vars e e'
 cases v with | mk l e d r=>exact .c (.inr hf) ((free hf).trans l) (kp.at e) d (r.kp kp)
noncomputable def zN(x:fK):aH->Prop:=fun a=>x.s.heap.get? a=none
theorem Vq{e:Env}(S:abP scope sc)(K:Clo B x scope sc cs fr){a:aH}(z:zof (aib scope x.s.heap.objs.size cs e) sc.wn a):zN x a:=by
 cases z with
 | l e=>exact e▸fM
 | c hn e=>
  have ok:=Vp (names:=scope.names) (K.anW (T:="frame"))
  rw[d9] at ok
  refine(ok.1 e).elim (fun e=>?_) fun z=>by cases z with | mk ge=>exact Ak (R5 ge)
  rcases S.wn _ hn with q | q <;> exact nomatch (K.free e).symm.trans q
theorem Ev.zn(E:Ev B (zN x) x y):Ev B pO x y:=E.drop fun q=>.inr q
noncomputable def abR(s:aB)(L:aH):Prop:=∃ o,s.heap.get? L=some o/\o.cls=.type "frame"
theorem zof.one{env:Env}{xs:List Str}{n:Str}{a:aH}(z:zof env [n] a)(h:n∈xs):zof env xs a:=by
 cases z with
 | l e=>exact .l e
 | c q e=>exact .c (aN.mp q▸h) e
theorem Vr{p:Pl}{f:Str×au->PUnit->Sem (ForInStep PUnit)}(hf:∀ {n v u},f (n,v) u=(do storeName p.env n v; pure (.yield ⟨⟩)))(hz:∀ {a},zof p.env p.sc.wn a->zN x0 a){names:List Str}{ks:List Nat}(nk:NK p.sc names ks){g:G}{st:St}:
  ∀ {vs:List V} {rs:List au} {s:aB} {fr:Fm} {m:Str->Option au} {Q:PUnit->aB->Prop},jV p.B g s.heap vs rs->names.length=vs.length->Wd p.B ⟨g,st,s⟩->ER p ⟨g,st,s⟩ fr m->Ev p.B (zN x0) x0 ⟨g,st,s⟩->abR s p.env.locals->
   (∀ {s' m'},Ev p.B (zN x0) x0 ⟨g,st,s'⟩->Wd p.B ⟨g,st,s'⟩->ER p ⟨g,st,s'⟩ (HN fr ks vs) m'->abR s' p.env.locals->Q ⟨⟩ s')->bD (Mo p.B) A (forIn (names.zip rs) ⟨⟩ f) Q E s:=by
 induction nk with
 | nil=>
  intro vs rs s fr m Q r hl w F ev o k
  rw[List.zip_nil_left,uW]
  exact aJ (k ev w F o)
 | @cons n j ns js l hw nk ih=>
  intro vs rs s fr m Q r hl w F ev o k
  cases vs with
  | nil=>cases hl
  | cons v vs=>
   refine jV.uG (P:=fun rs=>bD (Mo p.B) A (forIn ((n::ns).zip rs) ⟨⟩ f) Q E s) r fun rv rs a r=>?_
   rw[pR,pJ,hf]
   exact aq (aq (K9 w F l hw a fun s1 m1 E1 w1 F1 lk=>aJ (ih (r.up (y:=⟨g,st,s1⟩) E1 F.PJ) (jt hl) w1 F1 (ev.trans (E1.weaken fun z=>hz (z.one hw))) (o.elim fun o q=>(lk q.1).elim fun o' r=>⟨o',r.1,r.2.trans q.2⟩) k)))
theorem Jm(Ml:∀ t,sc.lam=some t->code=.ref t.1/\qual++("<lambda>":Str)=t.2.2)(w:Wd B x)(S:abP scope sc)(K:Clo B x scope sc cs fr){names:List Str}{ks:List Nat}(nk:NK sc names ks){vs:List V}{rs:List au}(r:yw B x vs rs)(hl:names.length=vs.length){Q:Env->aB->Prop}
  (k:∀ {s' m},Ev B pO x ⟨x.g,x.st,s'⟩->Wd B ⟨x.g,x.st,s'⟩->ER ⟨B,A',sI scope x.s.heap.objs.size cs qual func code,sc⟩ ⟨x.g,x.st,s'⟩ (HN fr ks vs) m->abR s' x.s.heap.objs.size->(∀ {a},zof (sI scope x.s.heap.objs.size cs qual func code) sc.wn a->zN x a)->Q (sI scope x.s.heap.objs.size cs qual func code) s'):
  bD (Mo B) A (newFunctionEnv scope mainGlobals cs (names.zip rs) qual func code none builtinsNs) Q E x.s:=by
 refine aq (m:=alloc (rC "frame")) (vU ?_)
 refine aq (BL _ (fun name kind cells=>by cases hkc:kind==m8 <;> simp [hkc]) _ _ _ _ ?_)
 rw[show({x.s with heap:=x.s.heap.push (rC "frame")}:aB).heap.objs.size=x.s.heap.objs.size + 1 from d9 ..]
 have kp:=Mj (x:=x) (names:=scope.names) (T:="frame")
 have hz:∀ {a},zof (sI scope x.s.heap.objs.size cs qual func code) sc.wn a->zN x a:=Vq (e:=sI scope x.s.heap.objs.size cs qual func code) S K
 exact aq (Vr (p:=⟨B,A',sI scope x.s.heap.objs.size cs qual func code,sc⟩) (x0:=x) rfl hz nk (r.kp kp) hl (w.kp kp) (Qy (e:=sI scope x.s.heap.objs.size cs qual func code) "frame" rfl rfl Ml w S K) kp.of.ev ⟨_,mY _ _ _ _ (bK _ rfl),rfl⟩ fun ev w F o=>aJ (k ev.zn w F o hz))
end
end
section
noncomputable def AtV(v:V)(r:au):Prop:=∀ {B g h},VR B g h v r
noncomputable def ak9(l:List V)(m:List au):Prop:=∀ {B g h},jV B g h l m
abbrev XF(B:Bs)(z:aH->Prop)(l:List Env)(x:fK)(e:au)(C:Nat)(st':St)(s':aB):Prop:=XRp B z l x e st' s' fun hB ea a0 h=>ud hB l ea (.ref C) a0 h
section
variable{B:Bs}{p:Pl}{A:cI}{n k C:Nat}{fr fr':Fm}{x y:fK}{s':aB}{st':St}{X:Ex}{z:aH->Prop}{l outer:List Env}{env env':Env}{e:au}{L:aH}{M:jC}{E:au->aB->Prop}{m:Str->Option au}{sc':Sc}{h:cD}
theorem Lim.ok(l:Lim B)(I:Inv B h)(S:Ec B h):h.NoLimit:=
 l.elim (fun q=>⟨_,q.1▸I.sl,q.2⟩) fun q=>q.2.elim fun mc r=>⟨mc,iK r.1 fun e=>S.keep e q.1,r.2⟩
theorem XR.leave(hfr:A.frames=some (env::outer))(hf:env.frame=some L)(q:XR B z (env::outer) x e C st' s'){Q:Unit->aB->Prop}(k:∀ {s''},XF B z (env::outer) x e C st' s''->Q () s''):bD M A (leaving env e) Q E s':=by
 unfold leaving
 refine aq (XR.noted hfr hf q fun y=>?_)
 cases y with | mk e1 sm ext sr stay inv Fd live frs no hh=>
 subst e1
 exact wpAny_landsW hh fun h' hl u=>k (.mk rfl (sm.trans (Sm.mk _ _)) ext sr stay inv Fd live (Ma u hh.2.2.1 frs) no hl)
theorem XR.pop(hf:env.frame=some L)(T:yu p.B)(c:uH p x l)(E0:Ev p.B pO x y)(hL:x.s.heap.get? L=none)(hz:∀ {a},z a->x.s.heap.get? a=none)(q:XF p.B z (env::l) y e C st' s'):XR p.B pO l x e C st' s':=by
 cases q with | mk e1 sm ext sr stay inv Fd live frs no fly=>
 have vp:zZ (env::l)=L::zZ l:=lE hf
 have mm:∀ {a},a∈zZ l->a∈zZ (env::l):=fun h=>vp▸.tail _ h
 have ne:∀ {a o},x.s.heap.get? a=some o->a∉zZ l->a∉zZ (env::l):=fun e f q=>(aY.mp (vp▸q)).elim (fun r=>cW hL (r▸e)) f
 have nz:∀ {a o},x.s.heap.get? a=some o->¬ z a:=fun e q=>cW (hz q) e
 refine .mk e1 (E0.sm.trans sm) (E0.ext.trans E0.live ext) sr stay inv (fun e t n f J=>(E0.evv e t n id).trans fun r=>Fd r t (E0.zT e n) (ne e f) (nz e)) (fun e f=>(E0.live e).elim fun J r=>live r (ne e f)) (fun e f=>?_) (fun a ha=>no a (mm ha)) (.fly ⟨fly.1,fly.2.1,fly.2.2.1.2.2,fly.2.2.2⟩)
 cases E0.Fd e (pP T (c.new f)) (c.at_ f).no id with
 | eq r=>exact⟨fun J=>(frs r (mm f)).1 (nz e),(frs r (mm f)).2⟩
 | fr _ _ _ r=>exact⟨fun J=>(frs r (mm f)).1 (nz e),(frs r (mm f)).2⟩
theorem Cx.deep(C:Cx p k fr x)(hd:p.A.depth + 1 + 2 * n<=990)(hu:p.A.units + 3 + 16 * n<=9000)(E0:Ev p.B pO x y)(w:Wd p.B y)(F:ER ⟨p.B,p.A.deeper env',env',sc'⟩ y fr' m)(hf:env'.frame=some env'.locals)(ho:abR y.s env'.locals):
  Cx ⟨p.B,p.A.deeper env',env',sc'⟩ n fr' y:=by
 refine⟨w,⟨C.ar.hand,hd,hu,?_⟩,m,F⟩
 obtain⟨l,e,c⟩:=C.ar.chain
 have c':uH p y l:=c.keep fun h f=>f.up C.wd.tab E0 (c.new h) id
 have fl:Hs y env'.locals:=by
  obtain⟨o,e1,c1⟩:=ho
  obtain⟨oL,es,k,e2,d⟩:=jq F.ns
  exact .mk F.Aj e2 (aC (e1.symm.trans e2)▸c1) d
 refine⟨env'::l,jz e,?_⟩
 cases c' with | mk el f1 f2 ff al=>
 refine .mk rfl hf hf (Heap.FunFrames.cons (by rw[F.es.kind]; decide) hf F.ns F.es.Xz ff) fun a ha=>?_
 rw[show zZ (env'::l)=env'.locals::zZ l from lE hf] at ha
 exact(aY.mp ha).elim (fun q=>q▸fl) (al a)
theorem Cx.room(C:Cx p (n + 1) fr x):p.A.depth + 1 + 2 * n<=990/\p.A.units + 3 + 16 * n<=9000/\p.A.depth < recursionLimit:=
 have d:=C.ar.depth
 ⟨ak (ak (aR (cN _ 1 _)) (aZ (show 2 * n + 1<=2 * n + 2 from dw _) _)) d,ak (ak (aR (cN _ 3 _)) (aZ (show 16 * n + 3<=16 * n + 16 from aZ (by decide) _) _)) C.ar.units,
  aA (ak (bh _ _) d) (by decide)⟩
end
inductive ala(K:lZ)(v:au)(D:List au):Prop
 | no (e:v=.none) (d:D=[])
 | at {t ot k} (e:v=.ref t) (a:K.lookup t=some ot) (d:ot.data=.seq D.toArray k)
inductive FnP(K:lZ)(fd:g8)(sc:Sc)(np:Nat)(df:List V):Prop
 | mk {as ds D} (e:fd.params=⟨[],as,none,[],[],none,ds⟩) (nd:(as.map (·.arg)).Nodup) (nk:NK sc (as.map (·.arg)) (fD np)) (av:ak9 df D) (hD:D.length<=np) (dd:ala K fd.defaults D)
structure FnH(K:lZ)(f:Nat)(fd:g8)(sc:Sc)(np:Nat)(df:List V):Prop where
 b:FnB K f fd
 par:FnP K fd sc np df
 lam:∀ t,sc.lam=some t->fd.code=.ref t.1/\fd.qualname++(".<locals>.":Str)++("<lambda>":Str)=t.2.2
 sc:abP fd.scope sc
inductive TF(B:Bs)(f:Nat)(mf:MF):Prop
 | mk {fd body sc} (H:FnH B.K f fd sc mf.np mf.df) (clo:fd.closure=[]) (bd:fd.body=.stmts body) (cl:∀ x∈sc.cl,fd.scope.names.lookup x=some .cell) (ss:Zns (At B sc) body mf.body)
section
variable{B:Bs}{A A':cI}{n:Nat}{x y:fK}{sc:Sc}{fr:Fm}{K:lZ}{X:Ex}{np f:Nat}{df vs:List V}{rs:List au}{fd:g8}{s:aB}
theorem alb{v:au}{D:List au}{M:jC}(d:ala K v D)(KI:K.In s.heap):bD M A (seqItems? v) (fun r s'=>(r.getD #[]).toList=D/\s'=s) (fun J J=>False) s:=by
 cases d with
 | no e d=>subst e d; exact aJ ⟨rfl,rfl⟩
 | «at» e a d=>
  subst e
  refine aq (m:=load _) (mR (KI _ _ a) ?_)
  rw[d]
  exact aJ ⟨rfl,rfl⟩
theorem Vs(w:Wd B x)(O:Wd B x)(H:FnH B.K f fd sc np df)(clo:fd.closure=[])(cl:∀ x∈sc.cl,fd.scope.names.lookup x=some .cell)(KI:B.K.In x.s.heap)(r:yw B x vs rs)(b:aad df np vs=some fr){Q:Env->aB->Prop}
  (k:∀ {s' m},Ev B pO x ⟨x.g,x.st,s'⟩->Wd B ⟨x.g,x.st,s'⟩->ER ⟨B,A',sI fd.scope x.s.heap.objs.size [] (fd.qualname++".<locals>.") (some f) fd.code,sc⟩ ⟨x.g,x.st,s'⟩ fr m->abR s' x.s.heap.objs.size->(∀ {a},zof (sI fd.scope x.s.heap.objs.size [] (fd.qualname++".<locals>.") (some f) fd.code) sc.wn a->zN x a)->Q (sI fd.scope x.s.heap.objs.size [] (fd.qualname++".<locals>.") (some f) fd.code) s'):
  bD (Mo B) A (bindArgs fd ⟨rs,[]⟩) (fun binds c7=>bD (Mo B) A (newFunctionEnv fd.scope fd.globals fd.closure binds (fd.qualname++".<locals>.") (some f) fd.code none fd.builtins) Q (fun J J=>False) c7) (fun J J=>False) x.s:=by
 cases H.par with | @mk as ds D e nd nk av hD dd=>
 obtain⟨⟨b1,b2⟩,eb⟩:=Ks b
 have ln:(as.map (·.arg)).length=np:=nk.length.trans cM
 have lv:=r.length
 have ld:=(av (B:=B) (g:=x.g) (h:=x.s.heap)).length
 have b2':=b2
 rw[aF,jk] at b2'
 refine cj (Cm e nd (alb dd KI) (by rw[ln,← lv]; exact b1) (by rw[ln,← lv,← ld,← b2']; exact aZ (jF _ _) _) (by rw[ln]; exact hD)) (fun binds s0 z=>?_) fun J J e=>e
 obtain⟨rfl,rfl⟩:=z
 rw[H.b.glob,clo,H.b.blt]
 have hvr:yw B x (vs++df.drop (df.length - (np - vs.length))) (rs++D.drop (D.length - ((as.map (·.arg)).length - rs.length))):=by
  rw[ln,← lv,← ld]; exact r.append (av.drop _)
 exact Jm (cs:=[]) (fr:=[]) H.lam w H.sc ⟨fun e=>nn e,fun y hy e=>(nomatch (cl y hy).symm.trans e),fun e=>nn e,fun e=>nn e,fun J e=>nn e⟩ nk hvr (ln.trans b2.symm) fun E w F o hz=>k E w (F.congr fun j=>by
  rw[Qp List.nodup_range,← eb]; unfold upd; exact(Option.or_none ..).symm) o hz
end
section
variable{B:Bs}{n:Nat}{x x0 y:fK}{p p':Pl}{X:Ex}{Q:Po}{Q':Fl->Fm->St->Prop}{fl:uY}{s':aB}{e:au}{l:List Env}{z:aH->Prop}
theorem PS.val(q:PS p (fun fl J st=>Q (qe fl) st) fl y):PV p.B Q (anV fl) y:=by
 cases q with | @mk f fr m r er q=>
 cases f with
 | next=>cases(show fl=.next from r); exact⟨_,.none,q⟩
 | cont=>cases(show fl=.cont from r); exact⟨_,.none,q⟩
 | ret v=>obtain⟨rv,e,r⟩:=r; cases e; exact⟨_,r,q⟩
theorem QT.ret{β:Type}{P:β->fK->Prop}{r:β}(E0:Ev p.B pO x y)(hB:p'.B=p.B)(C:∀ {u},Ev p.B pO x u->LK p.env x.s u.s)(hz:∀ {a},z a->x.s.heap.get? a=none)(q:QT p' z y P r s'):QT p pO x P r s':=by
 cases q with | mk ev wd lk q=>
 rw[hB] at ev wd
 have E:Ev p.B pO x _:=(E0.of.trans ev).drop fun q=>.inr (hz q)
 exact .mk E wd (C E) q
theorem QT.to{β γ:Type}{P:β->fK->Prop}{P':γ->fK->Prop}{r:β}{r':γ}(q:QT p z x P r s')(h:∀ {y},P r y->P' r' y):QT p z x P' r' s':=by cases q with | mk ev wd lk q=>exact .mk ev wd lk (h q)
theorem QX.leave{env':Env}{sc':Sc}{L:aH}{E:au->aB->Prop}{M:jC}(hl:p.A.frames=some l)(T:yu p.B)(c:uH p x l)(hf:env'.frame=some L)(E0:Ev p.B pO x y)(hL:x.s.heap.get? L=none)(hz:∀ {a},z a->x.s.heap.get? a=none)
  (q:QX ⟨p.B,p.A.deeper env',env',sc'⟩ z y X e s'){Q:Unit->aB->Prop}(k:∀ {s''},QX p pO x X e s''->Q () s''):bD M (p.A.deeper env') (leaving env' e) Q E s':=by
 cases q with | mk hfr xr q=>
 cases(jz hl).symm.trans hfr
 exact xr.leave (jz hl) hf fun y=>k (.mk hl (XR.pop hf T c E0 hL hz y) q)
theorem Cx.cz{env:Env}{sc:Sc}{fr:Fm}{L:aH}(C:Cx ⟨p.B,p.A.deeper env,env,sc⟩ n fr x)(K:Kn p.B n)(hl:p.A.frames=some l)(hf:env.frame=some L):Cz (At p.B sc) ⟨p.B,p.A.deeper env,env,sc⟩ n fr x:=
 ⟨⟨⟨rfl,rfl⟩,K,C⟩,.mk (jz hl) hf⟩
theorem aic(D:∀ {f mf},B.pg.fn f=some mf->TF B f mf)(K:Kn B n):SC B (n + 1):=by
 intro p fr x f vs rs Q X hB C r q
 subst hB
 refine rA q fun mf hf q=>rA q fun vp hb q1=>?_
 cases D hf with | @mk fd body sc H clo bd cl ss=>
 have KI:=K.b.F.at C.wd.stay
 obtain⟨o,ho,hd⟩:=H.b.at_
 obtain⟨l,hl,c⟩:=C.ar.chain
 have R:=C.room
 refine pF (lG (code:=fun env=>.func body env) R.2.2 (KI _ _ ho) hd H.b.co H.b.gen (fun {env}=>by rw[bd]) rfl (fun J J J J=>rfl) (H.b.code.cr KI) (Vs (A':=p.A.deeper (sI fd.scope x.s.heap.objs.size [] (fd.qualname++".<locals>.") (some f) fd.code)) C.wd C.wd H clo cl KI r hb fun {s1 m} E0 w1 F1 ho1 hz=>⟨K.b.lim.ok w1.inv w1.stay,El ?_⟩))
 have C1:=C.deep R.1 R.2.1 E0 w1 F1 rfl ho1
 exact bT (ss.ss (C1.cz K hl rfl) q1) (fun fl s2 z=>.ret (p':=⟨p.B,p.A.deeper _,_,sc⟩) E0 rfl C.lk hz (QT.to z PS.val)) fun e s2 q=>.of (q.leave hl C.wd.tab c rfl E0 fM hz fun q=>q)
end
end
section
section
variable{env:Env}{names:List (Str×jy)}{cs:List (Str×aH)}{x:Str}{c:aH}{kd:jy}
noncomputable def ji(env:Env):List (Str×jy)->List (Str×aH)->List (Str×aH)
 | [],cs=>cs
 | p::r,cs=>ji env r (if(p.2==.free)=true then(p.1,(env.cells.lookup p.1).getD 0)::cs else cs)
theorem R8(f:Str×jy->List (Str×aH)->Sem (ForInStep (List (Str×aH))))(hf:∀ {x k cs},f (x,k) cs=if k==.free then(cellOf env x >>= fun c=>pure (.yield ((x,c)::cs))) else pure (.yield cs))
  (h:∀ {x},(x,m9)∈names->∃ c,env.cells.lookup x=some c):forIn names cs f=pure (ji env names cs):=by
 induction names generalizing cs with
 | nil=>exact uW
 | cons p r ih=>
  obtain⟨x,k⟩:=p
  rw[pJ,hf]
  rw[show ji env ((x,k)::r) cs=ji env r (if(k==.free)=true then(x,(env.cells.lookup x).getD 0)::cs else cs) from rfl]
  by_cases q:(k==.free)=true
  ·obtain⟨c,hc⟩:=h (x:=x) (eq_of_beq q▸.head _)
   rw[if_pos q,if_pos q,hc,show cellOf env x=pure c by unfold cellOf; rw[hc]]
   exact ih fun hx=>h (.tail _ hx)
  ·rw[if_neg q,if_neg q]
   exact ih fun hx=>h (.tail _ hx)
theorem Dq{scope:jD}(h:∀ {x},(x,m9)∈scope.names->∃ c,env.cells.lookup x=some c):closureFor scope env=pure (ji env scope.names []):=by
 simp only[closureFor]
 rw[R8 (env:=env) _ (fun {x k cs}=>by cases q:(k==m9) <;> simp [q]) h]
 rfl
theorem aeA(e:(ji env names cs).lookup x=some c):cs.lookup x=some c∨(x,m9)∈names/\c=(env.cells.lookup x).getD 0:=by
 induction names generalizing cs with
 | nil=>exact .inl e
 | cons p r ih=>
  refine(ih e).elim (fun e=>?_) fun q=>.inr ⟨.tail _ q.1,q.2⟩
  by_cases q:(p.2==.free)=true
  ·rw[if_pos q] at e
   exact lD e (fun ex ec=>.inr ⟨ex▸eq_of_beq q▸.head _,ex▸ec⟩) .inl
  ·rw[if_neg q] at e; exact .inl e
theorem abS(e:∃ c,cs.lookup x=some c):∃ c,(ji env names cs).lookup x=some c:=by
 induction names generalizing cs with
 | nil=>exact e
 | cons p r ih=>
  refine ih ?_
  by_cases q:(p.2==.free)=true
  ·rw[if_pos q,aM]
   cases x==p.1 with
   | true=>exact⟨_,rfl⟩
   | false=>exact e
  ·rw[if_neg q]; exact e
theorem Vt(e:(x,m9)∈names):∃ c,(ji env names cs).lookup x=some c:=by
 induction names generalizing cs with
 | nil=>cases e
 | cons p r ih=>
  rcases aY.mp e with e | e
  ·subst e
   exact abS (cs:=(x,(env.cells.lookup x).getD 0)::cs) ⟨(env.cells.lookup x).getD 0,by rw[aM,beq_self_eq_true]⟩
  ·exact ih e
end
structure Within(sc:Sc)(scope:jD)(sc':Sc):Prop where
 fs:abP scope sc'
 free:∀ {x k},sc'.vs.lookup x=some k->scope.names.lookup x=some .free->sc.vs.lookup x=some k/\x∈sc.cl
 own:∀ {x k},sc'.vs.lookup x=some k->scope.names.lookup x≠some .free->∀ {y},sc.vs.lookup y≠some k
 fr:∀ {x},scope.names.lookup x=some .free->x∈sc.cl
 lam:∀ {t},sc'.lam=some t->sc.lam=some t
 nd:(sc.vs.map (·.1)).Nodup
noncomputable def O7(sc:Sc)(k:Nat):Bool:=sc.vs.any fun q=>q.2==k
noncomputable def Dr(sc:Sc):Fm->Fm
 | []=>[]
 | p::fr=>if O7 sc p.1=true then p::Dr sc fr else Dr sc fr
section
variable{sc sc':Sc}{fr:Fm}{k:Nat}{p:Pl}{x:fK}{m:Str->Option au}{scope:jD}{nm:Str}{A:cI}{n:Nat}{B:Bs}
theorem HY(h:O7 sc k=true):gH (Dr sc fr) k=gH fr k:=by
 induction fr with
 | nil=>rfl
 | cons q fr ih=>
  show gH (if O7 sc q.1=true then q::Dr sc fr else Dr sc fr) k=if q.1=k then some q.2 else gH fr k
  by_cases r:q.1=k
  ·rw[if_pos r,if_pos (r▸h)]; exact if_pos r
  ·rw[if_neg r,← ih]
   by_cases t:O7 sc q.1=true
   ·rw[if_pos t]; exact if_neg r
   ·rw[if_neg t]
theorem aeB(h:¬ O7 sc k=true):gH (Dr sc fr) k=.none:=by
 induction fr with
 | nil=>rfl
 | cons q fr ih=>
  show gH (if O7 sc q.1=true then q::Dr sc fr else Dr sc fr) k=.none
  by_cases t:O7 sc q.1=true
  ·rw[if_pos t]; exact(if_neg fun(r:q.1=k)=>h (r▸t)).trans ih
  ·rw[if_neg t]; exact ih
theorem aeC(h:sc.vs.lookup nm=some k):O7 sc k=true:=xU.mpr ⟨(nm,k),jh h,beq_self_eq_true k⟩
theorem alc(nd:(sc.vs.map (·.1)).Nodup)(h:O7 sc k=true):∃ y,sc.vs.lookup y=some k:=by
 obtain⟨⟨y,j⟩,hm,e⟩:=xU.mp h
 exact⟨y,eq_of_beq e▸mZ nd hm⟩
theorem Within.fc(Wi:Within p.sc scope sc')(F:ER p x fr m){y:Str}(h:(y,m9)∈scope.names):∃ c,p.env.cells.lookup y=some c:=(F.es.cn y (Wi.fr (mZ Wi.fs.nd h))).2
theorem Mp(F:ER p x fr m)(Wi:Within p.sc scope sc'):Clo p.B x scope sc' (ji p.env scope.names []) (Dr p.sc fr):=by
 have mem:∀ {y c},(ji p.env scope.names []).lookup y=some c->(y,m9)∈scope.names/\p.env.cells.lookup y=some c:=fun e=>
  (aeA e).elim (fun q=>nn q) fun q=>⟨q.1,(Wi.fc F q.1).elim fun c' r=>r.trans (by rw[q.2,r]; rfl)⟩
 refine⟨fun e=>mZ Wi.fs.nd (mem e).1,fun y J e=>Vt (jh e),fun e=>have q:=mem e; ⟨(F.cells q.2).1,F.es.cb q.2,(F.cells q.2).2⟩,fun e e'=>F.es.apart (mem e).2 (mem e').2,fun {y k v} e e'=>?_⟩
 by_cases hk:O7 p.sc k=true
 ·rw[HY hk] at e'
  obtain⟨z,hz⟩:=alc Wi.nd hk
  have hf:scope.names.lookup y=some .free:=Decidable.byContradiction fun q=>Wi.own e q hz
  have a:=Wi.free e hf
  refine⟨hf,?_⟩
  obtain⟨c,hc⟩:=Vt (env:=p.env) (cs:=[]) (jh hf)
  cases F.vars a.1 e' with
  | l h1=>rcases(F.es.cn y a.2).1 with q | q <;> exact nomatch h1.symm.trans q
  | c _ h2 h3 h4 h5=>cases(mem hc).2.symm.trans h2; exact .mk hc h3 h4 h5
 ·rw[aeB hk] at e'; exact nn e'
set_option tactic.hygienic true in
theorem Ax{outer:Env}:(relabel scope outer).names.lookup nm=scope.names.lookup nm∨(scope.names.lookup nm=some .free/\(relabel scope outer).names.lookup nm=some .cell):=by
 unfold relabel
 dsimp only
 generalize scope.names=l
 induction l with
 | nil=>exact .inl rfl
 | cons p l ih=>
  obtain⟨n,k⟩:=p
  rw[fH]
  dsimp only
  split
  ·rename_i q
   rw[aM,aM]
   cases nm==n with
   | true=>exact .inr ⟨by rw[eq_of_beq ((aL _ _).mp ((aL _ _).mp q).1).1],rfl⟩
   | false=>exact ih
  ·rw[aM,aM]
   cases nm==n with
   | true=>exact .inl rfl
   | false=>exact ih
theorem ER.relabel{env outer:Env}(F:ER ⟨B,A,env,sc⟩ x fr m):ER ⟨B,A,{env with scope:=PySem.relabel env.scope outer},sc⟩ x fr m:=by
 have rl:∀ {y k},env.kindOf y=some k->k≠.free->(PySem.relabel env.scope outer).names.lookup y=some k:=fun {y k} e hk=>(Ax (scope:=env.scope) (outer:=outer) (nm:=y)).elim (fun q=>q.trans e) fun q=>absurd (aC (e.symm.trans q.1)) hk
 have rf:∀ {y},(env.kindOf y=some .cell∨env.kindOf y=some .free)->(PySem.relabel env.scope outer).names.lookup y=some .cell∨(PySem.relabel env.scope outer).names.lookup y=some .free:=fun {y} e=>
  e.elim (fun e=>.inl (rl e nofun)) fun e=>(Ax (scope:=env.scope) (outer:=outer) (nm:=y)).elim (fun q=>.inr (q.trans e)) fun q=>.inl q.2
 have S:=F.es
 exact⟨⟨S.kind,S.glob,S.blt,S.lam,S.Xz,fun y hy=>(S.wr y hy).imp (fun e=>rl e nofun) fun q=>⟨rl q.1 nofun,q.2⟩,fun y hy=>rl (S.gn y hy) nofun,fun y hy=>⟨rf (S.cn y hy).1,(S.cn y hy).2⟩,S.inj,S.cb,S.apart⟩,F.ns,F.Aj,fun e e'=>by
  cases F.vars e e' with
  | l a b c=>exact .l (rl a nofun) b c
  | c a b c d e=>exact .c (rf a) b c d e,F.cells⟩
end
end
section
section
variable{α:Type}{M:jC}{A:cI}{E:au->aB->Prop}{s:aB}{env:Env}
theorem Vu{c:Prop}[Decidable c]{pos:Pos}{k:PUnit->Sem α}{Q:α->aB->Prop}(h:je M A (k ()) Q E s):je M A (if c then(standAt pos >>= k) else k ()) Q E s:=RX (aP (gW h)) h
noncomputable def J7(M:jC)(A:cI)(E:au->aB->Prop)(use:Option (au->Sem Unit))(Q:au->aB->Prop)(acc:au)(C:aH)(s':aB):Prop:=
 match use with
 | none=>∃ m,s'.heap.Ns C m/\∀ h' m',Heap.Ns h' C m'->dZ C s'.heap h'->Q acc {s' with heap:=h'}
 | some u=>je M A (u acc) (fun J s''=>∃ m,s''.heap.Ns C m/\∀ h' m',Heap.Ns h' C m'->dZ C s''.heap h'->Q .none {s'' with heap:=h'}) E s'
noncomputable def aeD(P:aB->Prop)(r:mQ)(s':aB):Prop:=match r with | .ok _=>P s' | .error _=>False
theorem Gm{e:cZ}{scope:jD}{pos:Pos}{newAcc first:Sem au}{g:Comprehension}{gs:List Comprehension}{cl:List (Str×aH)}{use:Option (au->Sem Unit)}
  {Q:au->aB->Prop}
  (hcl:clausesOf e=g::gs)(hs:∀ {x},foldedSetIterable g.iter env x=pure x)(hclos:closureFor scope env=pure cl)
  (hkind:scope.kind=.function)(hnames:∀ x∈scope.names,x.2=.local->scope.names.lookup x.1=some .local)
  (h:je M A first (fun x c7=>bD M A (pyIter x) (fun it Aw=>bD M A newAcc (fun acc abT=>
   bD M A (newFunctionEnv scope env.globals cl [] env.qual none .none (some env)) (fun cenv ald=>
    mj M A (.compStart e 0 it acc {cenv with scope:=relabel scope env}) (aeD (J7 M A E use Q acc cenv.locals)) ald) (fun J J=>False) abT) (fun J J=>False) Aw) (fun J J=>False) c7) E s):
  je M A (comprehension e scope env pos newAcc false first use) Q E s:=by
 unfold comprehension
 rw[hclos,hcl]
 refine aP (bT h (fun x c7 Di=>?_) fun J J q=>q)
 refine aP (gW (bY (bJ hs ?_)))
 refine aP (cO (.of (cj Di (fun it Aw Vo=>?_) fun J J q=>q.elim)))
 refine Vu (bY (cj Vo (fun acc abT aqM=>?_) fun J J q=>q.elim))
 refine aP (bL (bY (cj aqM (fun cenv ald aqN=>?_) fun J J q=>q.elim)))
 have hv:∀ x∈(scope.names.filter fun x=>(x.2==.local || x.2==.cell) && x.1 != (".0":Str)).reverse,x.2=.local->
   Env.kindOf {cenv with scope:=relabel scope env} x.1=some .local:=fun x hx hl=>lookup_relabel_local (hnames x (jG.mp (List.mem_reverse.mp hx)).1 hl)
 refine cO (aP (Jd (cO (aae (h:=none) (fun J J J J=>rfl) (Ea (A:=A.mark none) aqN fun r s' hr=>?_) nofun))))
 cases r with
 | ok f=>
  cases use with
  | none=>
   obtain⟨m,hn,hr⟩:=(show J7 M A E none Q acc cenv.locals s' from hr)
   exact aP (cO (.of (wpAny_comp_letGo (cenv:={cenv with scope:=relabel scope env}) hkind _ s' m hv hn fun h' m' hn' hs'=>bL (hr h' m' hn' hs'))))
  | some u=>
   refine aP (Fw (aP (cO (bT (show J7 M A E (some u) Q acc cenv.locals s' from hr) (fun J s'' hr'=>?_) fun J J q=>q))))
   obtain⟨m,hn,hr'⟩:=hr'
   exact bY (wpAny_comp_letGo (cenv:={cenv with scope:=relabel scope env}) hkind _ s'' m (fun x hx=>hv x ((fZ.mp hx).elim List.mem_of_mem_drop List.mem_of_mem_take)) hn fun h' m' hn' hs'=>bL (hr' h' m' hn' hs'))
 | error x=>exact(show False from hr).elim
end
noncomputable def un(h0:List aH)(y:fK):fK:=⟨⟨y.g.v,h0⟩,y.st,y.s⟩
noncomputable def hide(a:aH)(x:fK)(s':aB):fK:=⟨⟨x.g.v,a::x.g.hid⟩,x.st,s'⟩
section
variable{B:Bs}{p:Pl}{n:Nat}{fr:Fm}{x x0 y y':fK}{s':aB}{a:aH}{z:aH->Prop}{h0:List aH}{m:Str->Option au}{l:List V}{rs:List au}
theorem Gn{v:List (aH×Option aH)}{hd:List aH}{b:aH}(o:own ⟨v,a::hd⟩ b):own ⟨v,hd⟩ b∨b=a:=by
 cases o with
 | «at» e q=>exact .inl (.at e q)
 | hid q=>exact(aY.mp q).elim .inr fun q=>.inl (.hid q)
theorem Mq{v:List (aH×Option aH)}{hd:List aH}{b:aH}(o:own ⟨v,hd⟩ b):own ⟨v,a::hd⟩ b:=by
 cases o with
 | «at» e q=>exact .at e q
 | hid q=>exact .hid (.tail _ q)
theorem Tr.hide(k:Kp x.s s')(f:x.s.heap.get? a=none):Tr B x.g x.s.heap ⟨x.g.v,a::x.g.hid⟩ s'.heap:=
 ⟨id,fun e J J J n=>⟨k.at e,fun o=>(Gn o).elim n fun q=>cW f (q▸e)⟩⟩
theorem Wd.hide(w:Wd B x)(k:Kp x.s s')(f:x.s.heap.get? a=none)(l:∃ o,s'.heap.get? a=some o):Wd B (hide a x s'):=by
 have u:=w.kp k
 have S:=w.sr
 exact⟨w.tab,u.stay,u.inv,S.len,S.nd,fun e q m=>(aY.mp m).elim (fun r=>S.no f (r▸.at e q)) (S.nh e q),fun o=>(Gn o).elim S.fresh fun q=>q▸w.stay.fresh f,
  fun b q=>(aY.mp q).elim (fun q=>q▸l) fun q=>(S.hl b q).elim fun J e=>k.live e,fun e e'=>(S.obj e e').tr (.hide k f) fun J r=>k.at r⟩
theorem Cx.hide(C:Cx p n fr x)(k:Kp x.s s')(f:x.s.heap.get? a=none)(l:∃ o,s'.heap.get? a=some o):Cx p n fr (hide a x s'):=by
 have ne:∀ {b o},x.s.heap.get? b=some o->¬ own x.g b->¬ own ⟨x.g.v,a::x.g.hid⟩ b:=fun e n o=>(Gn o).elim n fun q=>cW f (q▸e)
 refine⟨C.wd.hide k f l,C.ar.keep fun J c=>c.keep fun J q=>by cases q with | mk no e c d=>exact .mk (ne e no) (k.at e) c d,C.er.elim fun m F=>⟨m,F.es,iK F.ns k.at,(jq F.ns).elim fun J q=>q.elim fun J q=>q.elim fun J q=>ne q.1 F.Aj,fun e e'=>?_,fun e=>?_⟩⟩
 ·cases F.vars e e' with
  | l q e r=>exact .l q e (r.tr (.hide k f))
  | c q l e d r=>exact .c q l (k.at e) d (r.tr (.hide k f))
 ·have q:=F.cells e
  cases q.2 with | mk e' d=>exact⟨ne e' q.1,.mk (k.at e') d⟩
theorem aie{b:aH}(o:zT (un h0 y).g b):zT y.g b:=by cases o with | mk e q=>exact .mk e q
theorem aat{b:aH}(o:zT y.g b):zT (un h0 y).g b:=by cases o with | mk e q=>exact .mk e q
theorem Ev.un(E:Ev B z y y'):Ev B z (un h0 y) (un h0 y'):=⟨E.sm,E.live,⟨E.ext.at_,rfl,fun o=>(E.ext.nw (aie o)).imp aat id⟩,fun e t n q=>E.evv e t (fun r=>n (aat r)) q⟩
theorem Tr.un(e:y.g.hid=a::h0):Tr B y.g y.s.heap (un h0 y).g y.s.heap:=⟨id,fun h J J J n=>⟨h,fun o=>n (by
 have q:=Mq (a:=a) o
 rw[← e] at q; exact q)⟩⟩
theorem Wd.un(w:Wd B y)(e:y.g.hid=a::h0):Wd B (un h0 y):=by
 have S:=w.sr
 have o:∀ {b},own (Mine.Internal.un h0 y).g b->own y.g b:=fun o=>by
  have q:=Mq (a:=a) o
  rw[← e] at q; exact q
 exact⟨w.tab,w.stay,w.inv,S.len,S.nd,fun e1 q m=>S.nh e1 q (e▸.tail _ m),fun q=>S.fresh (o q),fun b q=>S.hl b (e▸.tail _ q),fun e1 e2=>(S.obj e1 e2).tr (.un e) fun J r=>r⟩
theorem Wd.noV(w:Wd B y)(h:a∈y.g.hid):¬ zT y.g a:=fun o=>by cases o with | mk e q=>exact w.sr.nh e q h
theorem aeE(w:Wd B y)(h:a∈y.g.hid)(nb:B.hb.get? a=none)(E:Ev B z y y')(hz:¬ z a){k:Nat}(e:y.s.heap.get? a=some (nC rs k)):y'.s.heap.get? a=some (nC rs k):=by
 cases E.evv e (pP w.tab nb) (w.noV h) hz with
 | eq q=>exact q
 | fr _ c=>exact absurd (uZ c) (by decide)
theorem Tr.acc(h:a∈x.g.hid)(k:KI (is1 a) x.s s'):Tr B x.g x.s.heap x.g s'.heap:=⟨id,fun e J J J n=>⟨k.keep (fun q=>n (.hid (q▸h))) e,n⟩⟩
theorem Wd.acc(w:Wd B x)(h:a∈x.g.hid)(nb:B.hb.get? a=none)(k:KI (is1 a) x.s s')(l:∃ o,s'.heap.get? a=some o)(nf:Ai x.s.heap a):Wd B ⟨x.g,x.st,s'⟩:=by
 have kx:Kx (is1 a) x.s s':=⟨k.sm,k.keep,fun {b o} e=>by
  by_cases q:b=a
  ·exact q▸l
  ·exact⟨o,k.keep q e⟩⟩
 have S:=w.sr
 exact⟨w.tab,w.stay.kx kx fun q=>.inl (q▸nb),.one w kx nf nb,S.len,S.nd,S.nh,S.fresh,fun b q=>(S.hl b q).elim fun J e=>kx.live e,fun e e'=>(S.obj e e').tr (Tr.acc (x:=x) h k) fun q r=>k.keep (fun z=>S.nh e' q (z▸h)) r⟩
theorem Cx.acc(C:Cx p n fr x)(h:a∈x.g.hid)(nb:p.B.hb.get? a=none)(k:KI (is1 a) x.s s')(l:∃ o,s'.heap.get? a=some o)(nf:Ai x.s.heap a):Cx p n fr ⟨x.g,x.st,s'⟩:=by
 have ne:∀ {b o},¬ own x.g b->x.s.heap.get? b=some o->s'.heap.get? b=some o:=fun n e=>k.keep (fun q=>n (.hid (q▸h))) e
 refine⟨C.wd.acc h nb k l nf,C.ar.keep fun J c=>c.keep fun J q=>by cases q with | mk no e c d=>exact .mk no (ne no e) c d,C.er.elim fun m F=>⟨m,F.es,iK F.ns (ne F.Aj),F.Aj,fun e e'=>?_,fun e=>?_⟩⟩
 ·cases F.vars e e' with
  | l q e r=>exact .l q e (r.tr (.acc h k))
  | c q l e d r=>exact .c q l (ne (F.cells l).1 e) d (r.tr (.acc h k))
 ·have q:=F.cells e
  cases q.2 with | mk e' d=>exact⟨q.1,.mk (ne q.1 e') d⟩
end
end
section
noncomputable def noX:Ex:=fun J J=>False
noncomputable def Sif(τ:Pl->Prop)(ifs:List cZ)(cond:Option ME):Prop:=∀ {n p fr x Q},Cy τ p n fr x->aac (W p.B.pg n) cond fr x.st Q->
 WG p x (forIn ifs true fun c r=>if r=true then do let ok ← isTrue c p.env (eval c p.env); pure (ForInStep.yield ok) else pure (ForInStep.yield r)) (PB Q) noX
section
variable{τ:Pl->Prop}{e:cZ}{m:ME}
theorem aeF:Sif τ [] none:=fun I q=>.pure I.C q
theorem aeG(S:Sn τ e m):Sif τ [e] (some m):=fun I q=>by
 rw[pJ,if_pos rfl]
 exact aP (aP (bT (S.te I q) (fun b s' z=>bL (bL z)) fun J J q=>q))
end
structure CS(p:Pl)(x1:fK)(acc:aH)(Z:aH->Prop):Prop where
 fz:∀ {a},zE p a->x1.s.heap.get? a=none
 fi:∀ {a},Z a->x1.s.heap.get? a=none
 fa:x1.s.heap.get? acc=none
 nb:p.B.hb.get? acc=none
 no:acc∉x1.g.hid
structure CI(p:Pl)(n:Nat)(x1:fK)(acc:aH)(Z:aH->Prop)(w:V)(rw:au)(f:Fm)(lY:List V)(y:fK):Prop where
 ev:Ev p.B pO x1 (un x1.g.hid y)
 hid:y.g.hid=acc::x1.g.hid
 C:Cx p n f y
 O:Mf p.B y Z
 r:VX p.B y w rw
 ls:∃ rs k,y.s.heap.get? acc=some (nC rs k)/\yw p.B y lY rs
section
variable{τ:Pl->Prop}{p:Pl}{n i:Nat}{fr f f':Fm}{x1 y y':fK}{s':aB}{acc it:aH}{Z:aH->Prop}{w v:V}{rw rv:au}{lY vs l:List V}{kk:Sk}{Sx:Nat->cD->Prop}{Mx:Nat->au->cD->Prop}{tgt elt Em:cZ}{pt:Pt}{ks:List Nat}{ifs:List cZ}{cond:Option ME}{m:ME}{scope:jD}{pos:Pos}{X:Ex}
theorem CI.mem(I:CI p n x1 acc Z w rw f lY y):acc∈y.g.hid:=I.hid▸.head _
theorem CI.go(I:CI p n x1 acc Z w rw f lY y)(S:CS p x1 acc Z)(E:Ev p.B (zE p) y y')(C':Cx p n f' y'):CI p n x1 acc Z w rw f' lY y':=by
 obtain⟨rs,k,e,r⟩:=I.ls
 have nz:¬ zE p acc:=fun z=>by
  obtain⟨m,F⟩:=I.C.er
  cases z with
  | l q=>exact F.Aj (q▸.hid I.mem)
  | c _ q=>exact(F.cells q).1 (.hid I.mem)
 exact⟨(I.ev.of.trans E.un).drop fun q=>.inr (S.fz q),E.ext.hid.trans I.hid,C',I.O.up I.C E,I.r.goZ I.C E,rs,k,aeE I.C.wd I.mem S.nb E nz e,r.up E I.C.zns⟩
theorem CI.ki(I:CI p n x1 acc Z w rw f lY y)(S:CS p x1 acc Z)(K:KI Z y.s s')(ob:∀ {a},Z a->Jl s'.heap a):CI p n x1 acc Z w rw f lY ⟨y.g,y.st,s'⟩:=by
 obtain⟨rs,k,e,r⟩:=I.ls
 have t:=Tr.ki I.O K
 exact⟨I.ev.ki S.fi K,I.hid,I.C.ki I.O K,⟨I.O.no,I.O.nw,ob⟩,I.r.tr t,rs,k,K.keep (fun q=>I.O.no q (.hid I.mem)) e,r.tr t⟩
theorem CI.app(I:CI p n x1 acc Z w rw f lY y)(S:CS p x1 acc Z)(hr:VX p.B y v rv)(len:lY.length < lim){E:au->aB->Prop}{Q:au->aB->Prop}(k:∀ {s'},CI p n x1 acc Z w rw f (lY++[v]) ⟨y.g,y.st,s'⟩->(∀ {a o},Z a->y.s.heap.get? a=some o->s'.heap.get? a=some o)->Q .none s'):
  bD (Mo p.B) p.A (call (.builtin "list.append") [.ref acc,rv]) Q E y.s:=by
 obtain⟨rs,kk,e,r⟩:=I.ls
 refine wpAny_list_append_plain ⟨kk,e⟩ (fun h' q hs=>?_) (ak (r.length▸bH len:rs.length<=lim) jw)
 obtain⟨k',q⟩:=q
 have K:KI (is1 acc) y.s {y.s with heap:=h'}:=⟨rfl,fun n e=>(hs.2 _ n).trans e⟩
 have nZ:∀ {a},Z a->¬ is1 acc a:=fun z q=>I.O.no z (q▸.hid I.mem)
 have t:=Tr.acc (B:=p.B) I.mem K
 refine k ⟨I.ev.ki (fun {a} q=>(show a=acc from q)▸S.fa) K,I.hid,I.C.acc I.mem S.nb K ⟨_,q⟩ (wV e nofun),⟨I.O.no,I.O.nw,fun z=>by cases I.O.ob z with | mk e c n d q=>exact .mk (K.keep (nZ z) e) c n d q⟩,I.r.tr t,rs++[rv],k',q.trans (by rw[List.push_toArray]; rfl),(r.tr t).append (.cons (hr.tr t) .nil)⟩ fun z e=>K.keep (nZ z) e
theorem aeH{a b:aH}{h0:List aH}(e:y.g.hid=a::h0)(o:own (un h0 y).g b):own y.g b:=by
 have q:=Mq (a:=a) o
 rw[← e] at q; exact q
structure CE(B:Bs)(x1:fK)(acc L:aH)(lY:List V)(y:fK):Prop where
 ev:Ev B pO x1 y
 wd:Wd B y
 vr:VX B y (.lst lY) (.ref acc)
 ns:∃ m,y.s.heap.Ns L m
 no:¬ own y.g L
theorem CI.end(I:CI p n x1 acc Z w rw f lY y)(S:CS p x1 acc Z)(len:lY.length<=lim):CE p.B x1 acc p.env.locals lY (un x1.g.hid y):=by
 obtain⟨rs,k,e,r⟩:=I.ls
 obtain⟨m,F⟩:=I.C.er
 have t:=Tr.un (B:=p.B) I.hid
 refine⟨I.ev,I.C.wd.un I.hid,.lst e rfl rfl (fun o=>?_) (pP I.C.wd.tab S.nb) len (r.tr t),⟨m,F.ns⟩,fun o=>F.Aj (aeH I.hid o)⟩
 ·cases o with
  | «at» e q=>exact I.C.wd.noV I.mem (.mk e q)
  | hid q=>exact S.no q
theorem CE.ki{B:Bs}{L:aH}(c:CE B x1 acc L lY y)(O:Mf B y Z)(fi:∀ {a},Z a->x1.s.heap.get? a=none)(K:KI Z y.s s'):CE B x1 acc L lY ⟨y.g,y.st,s'⟩:=
 ⟨c.ev.ki fi K,c.wd.ki O K,c.vr.tr (Tr.ki O K),c.ns.elim fun m h=>⟨m,(jq h).elim fun J q=>q.elim fun J q=>q.elim fun J q=>iK h (K.keep (O.fld q.1 (jW q.2)))⟩,c.no⟩
inductive CJ(p:Pl)(n:Nat)(fr:Fm)(ks:List Nat)(x1:fK)(acc:aH)(Z:aH->Prop)(Sx:Nat->cD->Prop)(w:V)(rw:au)(l:List V)(G:List V->List V->St->Prop)(m:Nat)(y:fK):Prop
 | mk {i:Nat} {f:Fm} {lY:List V} (e:m + i=l.length) (I:CI p n x1 acc Z w rw f lY y) (st:Sx i y.s.heap) (ag:∀ {nm k},p.sc.vs.lookup nm=some k->k∈ks∨gH fr k=gH f k) (len:lY.length<=lim) (q:G (l.drop i) lY y.st)
noncomputable def cG(r:Rec)(pt:Pt)(cond:Option ME)(m:ME)(fr:Fm)(kk:Sk)(vs l:List V)(Q:List V->St->Prop):List V->List V->St->Prop:=fun l' a st=>Py r pt cond m fr (fun st=>ux st kk vs l) l' a st Q
theorem ER.agree{m:Str->Option au}(F:ER p y f m)(ag:∀ {nm k},p.sc.vs.lookup nm=some k->gH f' k=gH f k):ER p y f' m:=⟨F.es,F.ns,F.Aj,fun e e'=>F.vars e ((ag e).symm.trans e'),F.cells⟩
theorem Cx.agree(C:Cx p n f y)(ag:∀ {nm k},p.sc.vs.lookup nm=some k->gH f' k=gH f k):Cx p n f' y:=⟨C.wd,C.ar,C.er.elim fun m F=>⟨m,F.agree ag⟩⟩
theorem Yv{β:Type}{t:Sem β}{z:aH->Prop}{P:β->fK->Prop}(h:WT p z y t P noX):je (Mo p.B) p.A t (QT p z y P) (fun J J=>False) y.s:=bT h (fun J J q=>q) fun J J q=>by cases q with | mk _ _ q=>exact q
theorem abU{Q:List V->St->Prop}{R:PySem.Fin->aB->Prop}(hy:τ p)(K:Kn p.B (n + 1))(S:CS p x1 acc Z)(It:Vk p.B kk vs l it Z Sx Mx w rw)(N:Ptn τ tgt pt ks)(tg:Gi kk tgt)(T:Sif τ ifs cond)(U:Sn τ elt m){j:Nat}
  (c:CJ p (n + 1) fr ks x1 acc Z Sx w rw l (cG (W p.B.pg n) pt cond m fr kk vs l Q) j y)
  (hd:∀ {f lY y},CE p.B x1 acc p.env.locals lY y->Q lY y.st->R (.done f) y.s)
  (ha:∀ {k y},k < j->CJ p (n + 1) fr ks x1 acc Z Sx w rw l (cG (W p.B.pg n) pt cond m fr kk vs l Q) k y->R (.again (.compLoop (.ListComp elt [⟨tgt,Em,ifs,0⟩] scope pos) 0 (.ref it) (.ref acc) p.env)) y.s):
  je (Mo p.B) p.A (compTurn (.ListComp elt [⟨tgt,Em,ifs,0⟩] scope pos) 0 (.ref it) (.ref acc) p.env) R (fun J J=>False) y.s:=by
 cases c with | @mk i f lY e I st ag len q=>
 have q:Py (W p.B.pg n) pt cond m fr (fun st=>ux st kk vs l) (l.drop i) lY y.st Q:=q
 rw[compTurn_list]
 refine aP (gW ?_)
 cases j with
 | zero=>
  rw[fU] at e
  subst e
  rw[List.drop_length] at q
  exact bY (cj (It.stop I.C.ok st I.r q.1) (fun J s2 z=>by
   cases z with | mk K2=>
   have O2:CE p.B x1 acc p.env.locals lY (un x1.g.hid ⟨y.g,y.st,s2⟩):=(I.end S len).ki ⟨fun z o=>I.O.no z (aeH I.hid o),I.O.nw,I.O.ob⟩ S.fi K2
   exact bL (hd O2 q.2)) fun J J q=>q)
 | succ j=>
  have hi:i < l.length:=e▸Nat.lt_add_of_pos_left (iQ j)
  rw[Qx hi] at q
  refine bY (cj (It.step I.C.ok I.O st I.r q.1 (bF hi)) (fun J s2 z=>?_) fun J J q=>q)
  cases z with | @mk rv _ K2 st2 r2=>
  have I2:=I.ki S K2 fun z=>It.obm st2 z
  refine bY (cj (It.go tg st2) (fun J s3 z=>?_) fun J J e=>e.elim)
  have I3:=I2.ki S z.1 fun zz=>It.ob z.2 zz
  have r3:=r2.tr (Tr.ki I2.O z.1)
  refine rA q.2.2 fun vp hb q5=>?_
  obtain⟨fr2,hb2,a1,a2⟩:=N.ag f hb
  refine aP (bT (Yv (N.as ⟨hy,K,I3.C⟩ r3 hb2)) (fun J s4 z4=>?_) fun J J q=>q)
  cases z4 with | mk ev wd lk z4=>
  obtain⟨f',m4,er,e1,e2⟩:=z4
  subst e1
  have C4:=I3.C.upZ ev wd lk er
  have I4:=I3.go S ev C4
  have st4:=It.fr z.2 fun zz e=>I3.O.at_ I3.C ev zz e
  have ag4:∀ {nm k},p.sc.vs.lookup nm=some k->gH vp k=gH f' k:=fun h=>a1 (ag h)
  refine aP (bT (Yv (T ⟨hy,K.dn,(C4.agree ag4).dn⟩ (show aac (W p.B.pg n) cond vp _ _ from e2▸q5))) (fun b s5 z5=>?_) fun J J q=>q)
  cases z5 with | mk ev5 wd5 lk5 q5=>
  have C5:=C4.up ev5 wd5
  have I5:=I4.go S ev5.of C5
  have st5:=It.fr st4 fun zz e=>I4.O.at_ I4.C ev5.of zz e
  have ag5:∀ {nm k},p.sc.vs.lookup nm=some k->k∈ks∨gH fr k=gH f' k:=fun {nm k} h=>by
   by_cases h1:k∈ks
   ·exact .inl h1
   ·exact .inr (((ag h).resolve_left h1).trans (a2 h1).symm)
  have e':j + (i + 1)=l.length:=(eF j i).symm.trans e
  cases b with
  | false=>exact bL (ha (fG j) (.mk e' I5 st5 ag5 len q5))
  | true=>
   refine aP (aP (bT (Yv (U.ev ⟨hy,K.dn,(C5.agree ag4).dn⟩ q5)) (fun x s6 z6=>?_) fun J J q=>q))
   cases z6 with | mk ev6 wd6 lk6 q6=>
   obtain⟨v,rx,q6⟩:=q6
   have I6:=I5.go S ev6.of (C5.up ev6 wd6)
   have st6:=It.fr st5 fun zz e=>I5.O.at_ I5.C ev6.of zz e
   refine bY (I6.app S rx q.2.1 fun {s7} I7 k7=>bL (bL (ha (fG j) (.mk e' I7 (It.fr st6 k7) ag5 (by rw[aF]; exact q.2.1) q6))))
noncomputable def anY(B:Bs)(x1:fK)(acc L:aH)(Q:List V->St->Prop)(s':aB):Prop:=∃ lY y,y.s=s'/\CE B x1 acc L lY y/\Q lY y.st
theorem abV{Q:List V->St->Prop}(hy:τ p)(K:Kn p.B (n + 1))(S:CS p x1 acc Z)(It:Vk p.B kk vs l it Z Sx Mx w rw)(N:Ptn τ tgt pt ks)(tg:Gi kk tgt)(T:Sif τ ifs cond)(U:Sn τ elt m)(j:Nat){y:fK}
  (c:CJ p (n + 1) fr ks x1 acc Z Sx w rw l (cG (W p.B.pg n) pt cond m fr kk vs l Q) j y):
  mj (Mo p.B) p.A (.compLoop (.ListComp elt [⟨tgt,Em,ifs,0⟩] scope pos) 0 (.ref it) (.ref acc) p.env) (aeD (anY p.B x1 acc p.env.locals Q)) y.s:=by
 induction j using Nat.strongRecOn generalizing y with
 | ind j ih=>
  refine gM ?_
  rw[show p.A.under (.compLoop (.ListComp elt [⟨tgt,Em,ifs,0⟩] scope pos) 0 (.ref it) (.ref acc) p.env)=p.A from jT rfl]
  refine mq (m:=compTurn (.ListComp elt [⟨tgt,Em,ifs,0⟩] scope pos) 0 (.ref it) (.ref acc) p.env) (bT (abU hy K S It N tg T U c (fun e q=>⟨_,_,rfl,e,q⟩) fun lt c2=>⟨rfl,fun J J J J=>rfl,ih _ lt c2⟩) (fun J J q=>q) fun J J q=>q.elim)
theorem Yw{Q:List V->St->Prop}(hy:τ p)(K:Kn p.B (n + 1))(S:CS p x1 acc Z)(It:Vk p.B kk vs l it Z Sx Mx w rw)(N:Ptn τ tgt pt ks)(tg:Gi kk tgt)(T:Sif τ ifs cond)(U:Sn τ elt m){y:fK}(st:Sx 0 y.s.heap)(O:Ok p.B p.A y)
  (c:CJ p (n + 1) fr ks x1 acc Z Sx w rw l (cG (W p.B.pg n) pt cond m fr kk vs l Q) l.length y):
  mj (Mo p.B) p.A (.compStart (.ListComp elt [⟨tgt,Em,ifs,0⟩] scope pos) 0 (.ref it) (.ref acc) p.env) (aeD (anY p.B x1 acc p.env.locals Q)) y.s:=by
 have h0:=abV (Em:=Em) (scope:=scope) (pos:=pos) hy K S It N tg T U l.length c
 refine gM ?_
 rw[show p.A.under (.compStart (.ListComp elt [⟨tgt,Em,ifs,0⟩] scope pos) 0 (.ref it) (.ref acc) p.env)=p.A from jT rfl]
 refine mq (m:=compStart (.ListComp elt [⟨tgt,Em,ifs,0⟩] scope pos) 0 (.ref it) (.ref acc) p.env) ?_
 refine bY (m:=ask) (rR (RX (aP (bL (bL ⟨rfl,fun J J J J=>rfl,h0⟩))) (aP (Fw ?_))))
 refine aP (m:=standAt Em.pos) (gW (bY (cj (It.self O st) (fun r s2 z=>?_) fun J J q=>q.elim)))
 obtain⟨rfl,rfl⟩:=z
 exact bL ⟨rfl,fun J J J J=>rfl,h0⟩
end
end
section
section
variable{B:Bs}{sc sc':Sc}{p:Pl}{n:Nat}{fr:Fm}{x y:fK}{s':aB}{scope:jD}{X:Ex}{Q:Po}{tgt elt Em:cZ}{pt:Pt}{ks:List Nat}{ifs:List cZ}{cond:Option ME}{m:ME}{pos:Pos}{kk:Sk}{src:List ME}{A:cI}{E:au->aB->Prop}
noncomputable def aqQ(scope:jD)(L:aH)(env:Env):Env:={aib scope L (ji env scope.names []) {env with func:=none} with scope:=relabel scope env}
noncomputable def inC(p:Pl)(scope:jD)(L:aH)(sc':Sc):Pl:=⟨p.B,p.A,aqQ scope L p.env,sc'⟩
theorem R9{M:jC}{s:aB}{env:Env}{Q:Env->aB->Prop}(k:∀ c,c=aib scope s.heap.objs.size (ji env scope.names []) {env with func:=none}->Q c {s with heap:=pushCells (s.heap.push (rC "dict")) scope.names}):
  bD M A (newFunctionEnv scope env.globals (ji env scope.names []) [] env.qual none .none (some env)) Q E s:=by
 refine aq (m:=alloc (rC "dict")) (vU ?_)
 refine aq (BL _ (fun name kind cells=>by cases hkc:kind==m8 <;> simp [hkc]) _ _ _ _ ?_)
 rw[show({s with heap:=s.heap.push (rC "dict")}:aB).heap.objs.size=s.heap.objs.size + 1 from d9 ..]
 exact aq (aJ (aJ (k _ rfl)))
theorem Cx.within(C:Cx p n fr x)(Wi:Within p.sc scope sc'):Cx (inC p scope x.s.heap.objs.size sc') n (Dr p.sc fr) ⟨x.g,x.st,{x.s with heap:=pushCells (x.s.heap.push (rC "dict")) scope.names}⟩:=by
 obtain⟨m,F⟩:=C.er
 have kp:=Mj (x:=x) (names:=scope.names) (T:="dict")
 have C1:=C.up (y:=⟨x.g,x.st,_⟩) kp.ev (C.wd.kp kp)
 exact⟨C1.wd,⟨C.ar.hand,C.ar.depth,C.ar.units,C1.ar.chain.elim fun l q=>⟨l,q.1,by cases q.2 with | mk e f1 f2 ff al=>exact .mk e f1 f2 ff al⟩⟩,_,
  (Qy (A:=p.A) (e:={p.env with func:=none}) "dict" F.es.glob F.es.blt (fun t h=>F.es.lam t (Wi.lam h)) C.wd Wi.fs (Mp F Wi)).relabel (outer:=p.env)⟩
theorem Qz(I:Cy (At B sc) p (n + 1) fr x)(Wi:Within sc scope sc')(hp:∀ {nm k},sc'.vs.lookup nm=some k->scope.names.lookup nm≠some .free->k∈ks)(R:Srn (At B sc) Em kk src)(N:Ptn (At B sc') tgt pt ks)(tg:Gi kk tgt)(T:Sif (At B sc') ifs cond)(U:Sn (At B sc') elt m)
  (q:(step p.B.pg (W p.B.pg n)).e (.comp pt kk src cond m) fr x.st Q X){use:Option (au->Sem Unit)}{Qf:au->aB->Prop}(hE:∀ {e s'},QX p pO x X e s'->E e s')
  (fin:∀ {acc L u lY},CE p.B x acc L lY u->x.s.heap.get? L=none->Q (.lst lY) u.st->J7 (Mo p.B) p.A E use Qf (.ref acc) L u.s){p2:Pos}:
  je (Mo p.B) p.A (comprehension (.ListComp elt [⟨tgt,Em,ifs,0⟩] scope pos) scope p.env p2 (newList []) false (eval Em p.env) use) Qf E x.s:=by
 have Wi:Within p.sc scope sc':=I.h.s▸Wi
 obtain⟨m0,F0⟩:=I.C.er
 refine Gm (g:=⟨tgt,Em,ifs,0⟩) (gs:=[]) rfl R.fs (Dq fun h=>Wi.fc F0 h) Wi.fs.kind (fun v hv hl=>mZ Wi.fs.nd (hl▸hv)) ?_
 refine bT (R.ev I (fun q=>rA q fun l e J=>⟨l,e⟩) q) (fun rx s1 z=>?_) fun J J q=>hE q
 cases z with | @mk g1 st1 ev wd lk z=>
 obtain⟨vs,z,q⟩:=z
 have C1:=I.C.up ev wd
 refine rA q fun l el q=>cj (Qv wd ev.live z el) (fun itv s2 z=>?_) fun J J e=>e
 cases z with | @mk it Z Sx Mx w rw _ kp fresh no nw It st r=>
 have C2:=C1.up (y:=⟨g1,st1,s2⟩) kp.ev (wd.kp kp)
 refine sE ?_ (by decide)
 have anZ:(s2.heap.push (nC [] 0)).get? s2.heap.objs.size=some (nC [] 0):=bK _ rfl
 have C3:=C2.hide (a:=s2.heap.objs.size) (s':={s2 with heap:=s2.heap.push (nC [] 0)}) .push fM ⟨_,anZ⟩
 refine R9 (s:={s2 with heap:=s2.heap.push (nC [] 0)}) fun c hc=>?_
 subst hc
 have kp3:Kp s2 {s2 with heap:=s2.heap.push (nC [] 0)}:=.push
 have kp4:=Mj (x:=hide s2.heap.objs.size ⟨g1,st1,s2⟩ {s2 with heap:=s2.heap.push (nC [] 0)}) (names:=scope.names) (T:="dict")
 have C4:=C3.within Wi
 have dead:∀ {a},s2.heap.get? a=none->x.s.heap.get? a=none:=fun h=>vg ev.live (vg kp.live h)
 have fa:=dead (fM (h:=s2.heap))
 obtain⟨m3,F3⟩:=C3.er
 have S:CS (inC p scope (s2.heap.push (nC [] 0)).objs.size sc') x s2.heap.objs.size Z:=⟨fun {a} z=>dead (vg kp3.live (Vq (e:={p.env with func:=none}) (x:=hide s2.heap.objs.size ⟨g1,st1,s2⟩ {s2 with heap:=s2.heap.push (nC [] 0)}) Wi.fs (Mp F3 Wi) (by
   cases z with
   | l e=>exact .l e
   | c h e=>exact .c h e))),fresh,fa,I.C.wd.stay.fresh fa,fun h=>(I.C.wd.sr.hl _ h).elim fun J r=>cW fa r⟩
 have st4:=It.fr st fun J e=>kp4.at (kp3.at e)
 refine Ea (Yw (τ:=At B sc') (p:=inC p scope (s2.heap.push (nC [] 0)).objs.size sc') (fr:=fr) ⟨I.h.b,rfl⟩ I.K S It N tg T U st4 C4.ok (.mk (i:=0) (lY:=[]) (qQ _) ⟨(Ev.un (h0:=x.g.hid) ev).trans ((kp.trans (kp3.trans kp4)).ev (x:=un x.g.hid ⟨g1,st1,s1⟩)),congrArg (_::·) ev.ext.hid,C4,
  ⟨fun z o=>(Gn o).elim (no z) fun q=>by cases It.ob st z with | mk e=>exact cW fM (q▸e),nw,fun z=>It.ob st4 z⟩,((r.kp kp).tr (.hide (x:=⟨g1,st1,s2⟩) kp3 fM)).kp kp4,[],0,kp4.at anZ,.nil⟩ st4 (fun {nm k} h=>?_) (cL _) q)) fun r s5 z=>?_
 ·by_cases hf:scope.names.lookup nm=some .free
  ·exact .inr (HY (aeC (Wi.free h hf).1)).symm
  ·exact .inl (hp h hf)
 ·cases r with
  | error e=>exact z
  | ok f=>exact z.elim fun lY z=>z.elim fun u z=>z.1▸fin z.2.1 (dead (vg kp3.live fM)) z.2.2
theorem CE.past{acc L:aH}{lY:List V}{h':cD}{m':Str->Option au}(c:CE B x acc L lY y)(f:x.s.heap.get? L=none)(nb:B.hb.get? L=none)(hn:h'.Ns L m')(hs:dZ L y.s.heap h'):
  Ev B pO x ⟨y.g,y.st,{y.s with heap:=h'}⟩/\Wd B ⟨y.g,y.st,{y.s with heap:=h'}⟩/\VR B y.g h' (.lst lY) (.ref acc):=by
 obtain⟨m,h⟩:=c.ns
 obtain⟨o,es,k,e,d⟩:=jq h
 obtain⟨o',es',k',e',_⟩:=jq hn
 have K:Kx (is1 L) y.s {y.s with heap:=h',toks:=y.s.toks}:=.one hs.2 ⟨o',e'⟩
 exact⟨(c.ev.of.trans K.ev).drop fun {a} q=>.inr ((show a=L from q)▸f),c.wd.one K e (jW d) (uE d) nb c.no,c.vr.tr (.kx K fun {a} q=>(show a=L from q)▸uF h)⟩
theorem aav(Wi:Within sc scope sc')(hp:∀ {nm k},sc'.vs.lookup nm=some k->scope.names.lookup nm≠some .free->k∈ks)(R:Srn (At B sc) Em kk src)(N:Ptn (At B sc') tgt pt ks)(tg:Gi kk tgt)(T:Sif (At B sc') ifs cond)(U:Sn (At B sc') elt m):
  Sn (At B sc) (.ListComp elt [⟨tgt,Em,ifs,0⟩] scope pos) (.comp pt kk src cond m):=
 .mk' ⟨rfl,rfl,rfl⟩ rfl rfl fun I q=>.eq (eval_ListComp ..) (Qz (use:=none) I Wi hp R N tg T U q id fun c f q=>c.ns.elim fun m h=>⟨m,h,fun h' m' hn hs=>by
  have w:=c.past f (I.C.wd.stay.fresh f) hn hs
  exact .mk w.1 w.2.1 (I.C.lk (y:=⟨_,_,_⟩) w.1) ⟨_,w.2.2,q⟩⟩)
theorem aii{nm:Str}{p0 pos2:Pos}{k:Nat}(hx:sc.vs.lookup nm=some k)(hw:nm∈sc.wn)(Wi:Within sc scope sc')(hp:∀ {nm k},sc'.vs.lookup nm=some k->scope.names.lookup nm≠some .free->k∈ks)(R:Srn (At B sc) Em kk src)(N:Ptn (At B sc') tgt pt ks)(tg:Gi kk tgt)(T:Sif (At B sc') ifs cond)(U:Sn (At B sc') elt m):
  Zn (At B sc) (.Assign [.Name nm p0] (.ListComp elt [⟨tgt,Em,ifs,0⟩] scope pos) pos2) (.eG (.v k) (.comp pt kk src cond m)):=
 ⟨fun {n p fr x Q X} I q=>by
  obtain⟨b,hb⟩:∃ b,swapsWith (.ListComp elt [⟨tgt,Em,ifs,0⟩] scope pos) (some (.Name nm p0)) pos2.line p.env=pure b:=⟨_,rfl⟩
  have hx:=I.I.h.s▸hx
  have hw:=I.I.h.s▸hw
  cases b with
  | false=>
   rw[exec_Assign_Name p.env nm p0 _ pos2 hb]
   refine .stand (I.I.ex .all (aav Wi hp R N tg T U) q fun E1 I1 r q=>.stand (WZ.ps I1.C (WZ.name I1.C hx hw r ?_)))
   cases n with
   | zero=>exact q.elim
   | succ n=>exact q
  | true=>
   rw[exec_Assign_Name_used nm p0 _ pos2 hb]
   refine .stand (aP ?_)
   cases n with
   | zero=>exact q.elim
   | succ n=>
   refine aP (bT (Qz (n:=n) (use:=some (assign (.Name nm p0) p.env)) (Q:=fun v st=>Q .next (pC fr k v) st) (Qf:=fun J=>QT p (zE p) x (PS p Q) .next) (E:=QX p (zE p) x X) I.I.dn Wi hp R N tg T U q (fun q=>q.of) fun {acc L u lY} c f q=>?_) (fun J s2 z=>bL (bL z)) fun J J q=>q)
   have nb:=I.I.C.wd.stay.fresh f
   have C2:=I.I.C.up (y:=u) c.ev c.wd
   refine aP (gW (bT (WZ.name (X:=X) (Q:=fun fr' st'=>fr'=pC fr k (.lst lY)/\st'=u.st) C2 hx hw c.vr ⟨rfl,rfl⟩) (fun J s3 z=>?_) fun e s3 q=>q.yx I.I.C c.ev.of (fun q=>q) (I.I.C.lk c.ev)))
   cases z with | @mk g3 st3 ev3 wd3 lk3 q3=>
   obtain⟨fr3,m3,F3,rfl,e3⟩:=q3
   cases(show st3=u.st from e3)
   obtain⟨mL,hL⟩:=c.ns
   obtain⟨m0,F0⟩:=I.I.C.er
   have nl:L≠p.env.locals:=fun r=>(jq F0.ns).elim fun J q=>q.elim fun J q=>q.elim fun J q=>cW (r▸f) q.1
   have nc:∀ {y},p.env.cells.lookup y≠some L:=fun e=>by cases(F0.cells e).2 with | mk e'=>exact cW f e'
   have nz:¬ zE p L:=fun z=>by
    cases z with
    | l e=>exact nl e
    | c _ e=>exact nc e
   obtain⟨o,es,kk,e,d,r⟩:=hL
   obtain⟨o',e',d',_⟩:=(ev3.Fd e (pP c.wd.tab nb) c.no nz).at_
   refine⟨mL,⟨o',es,kk,e',d'.trans d,r⟩,fun h' m' hn hs=>?_⟩
   have K:Kx (is1 L) s3 {s3 with heap:=h',toks:=s3.toks}:=.one hs.2 ((jq hn).elim fun o q=>q.elim fun J q=>q.elim fun J q=>⟨o,q.1⟩)
   have E4:Ev p.B (is1 L) ⟨g3,u.st,s3⟩ ⟨g3,u.st,{s3 with heap:=h',toks:=s3.toks}⟩:=K.ev
   have E:Ev p.B (zE p) x ⟨g3,u.st,{s3 with heap:=h',toks:=s3.toks}⟩:=((c.ev.of.trans ev3).weaken (z':=fun a=>zE p a∨is1 L a) .inl |>.trans (E4.weaken .inr)).drop fun {a} q=>q.imp id fun q=>(show a=L from q)▸f
   refine .mk E (wd3.one K e' (jW (d'.trans d)) (uE (d'.trans d)) nb (ev3.own e c.no)) (LK.trans (I.I.C.lk c.ev) (LK.trans lk3 fun h=>⟨_,K.keep nl.symm h,rfl⟩)) (.mk (f:=.next) rfl (F3.up c.wd.tab E4 fun {a} q=>?_) q)
   exact(show a=L from q)▸⟨Fy e' (uE (d'.trans d)),nl,fun y=>nc⟩⟩
end
end
section
open Builtin Builtin.ObjectAttr
open Sem (wp)
section
variable{prog:dO}{w:cY}{A:cI}{E:au->aB->Prop}{R:mQ->aB->Prop}{h:cD}{g:Array GenState}{d:Drawn}{t:Nat}{os:vV}{K:lZ}
variable{nm q:Str}{C N:aH}{bs bm:List au}{hdct:Bool}{sn:List Str}{sub:List au}{ab:Bool}{col:Option Bool}{dd:Option aH}{k0 k1 k2 k3 k5:Option au}
theorem Sg(O:Jk bm){rest:List au}{Q:Unit->aB->Prop}(hC:h.get? C=some (excClassObj nm q C N bs bm hdct sn sub ab col dd k0 k1 k2 k3 k5 "Exception.__new__"))(hq:Q () ⟨h,g,d,t,os⟩):
  bD (model prog w) A (checkBuiltinCall "Exception.__new__" ⟨.ref C::rest,[]⟩) Q E ⟨h,g,d,t,os⟩:=wpAny_check_new_subU iZ O.e .base hC hq
theorem ale(O:Jk bm){rest:List au}(hC:h.get? C=some (excClassObj nm q C N bs bm hdct sn sub ab col dd k0 k1 k2 k3 k5 "Exception.__new__"))
  (hq:R (.ok (.ret (.ref (h.objs.size + 1)))) ⟨(h.push {cls:=.type "tuple",data:=.seq rest.toArray}).push {cls:=.ref C,data:=.fields #[.ref h.objs.size,.none,.none,.none,.bool false,.none]},g,d,t,os⟩)(hrest:rest.length<=sizeLine):
  rZ (model prog w) A (.builtin "Exception.__new__" ⟨.ref C::rest,[]⟩) R ⟨h,g,d,t,os⟩:=by
 have hends:=iZ.ends
 have hcB:(kY C::bm).contains (.type "Exception")=true:=by rw[mG,O.e,yV]
 have hcA:(kY C::bm).contains (.type "AttributeError")=false:=by rw[mG,O.a]; rfl
 have hcN:(kY C::bm).contains (.type "NameError")=false:=by rw[mG,O.n]; rfl
 refine codeAny_builtinAt iZ.entry ?_
 unfold dW.«BaseException.__new__»
 refine PySem.wpAt_bind ?_
 show PySem.wpAt _ _ _ (stack >>= _) _ _ _
 refine PySem.wpAt_bind (PySem.wpAt_stack fun p below=>wpAt_of_wpAny ?_)
 wp_walk
 refine wpAt_of_wpAny ?_
 rw[iZ.owner]
 repeat (first | with_reducible refine wpAny_madeHere_exc iZ.canon hC ?_ | with_reducible refine gZ hC ?_ | (with_reducible refine lM hC ?_; first | rw[hcB] | rw[hcA] | rw[hcN]) | wp_step)
 show R _ _
 rw[d9]
 exact hq
theorem aij(O:Jk bm)(X:K.In h){rest:List au}{f:aH}{Q:au->aB->Prop}(hC:h.get? C=some (excClassObj nm q C N bs bm hdct sn sub ab col dd k0 k1 k2 k3 k5 "Exception.__new__"))
  (hi:findIn K (.ref C) "__init__"=some (some (.ref f)))(hf:typeIn K (.ref f)=some (.type "function"))(hrest:rest.length<=sizeLine)
  (hq:bD (model prog w) (A.under (.builtin "type.__call__" ⟨.ref C::rest,[]⟩)) (call (.ref f) (.ref (h.objs.size + 1)::rest)) (fun r s'=>r=.none/\Q (.ref (h.objs.size + 1)) s') E
   ⟨(h.push {cls:=.type "tuple",data:=.seq rest.toArray}).push {cls:=.ref C,data:=.fields #[.ref h.objs.size,.none,.none,.none,.bool false,.none]},g,d,t,os⟩):
  bD (model prog w) A (call (.ref C) rest) Q E ⟨h,g,d,t,os⟩:=by
 have f1:=tc_lookup
 have f2:=tc_bind (.ref C)
 have hT:(⟨h,g,d,t,os⟩:aB).TypeIs (.ref C) "type":=⟨_,hC,rfl⟩
 refine wpAny_call (pK ?_)
 show bD _ _ (callAny (.ref C) _) _ _ _
 repeat (any_goals (first | assumption | with_reducible refine gZ hC ?_ | wp_step))
 refine⟨rfl,?_⟩
 refine codeAny_call_builtin_at (mU _ (by decide +kernel)) entry_typeCall (wpAny_check_type_call_sub hC ?_)
 repeat (first | with_reducible refine gZ hC ?_ | with_reducible refine wpAny_madeBy_exc hC ?_ | wp_step)
 refine codeAny_call_builtin_code (mU _ iZ.quiet) (Sg O hC ?_)
 refine ale O hC ?_ hrest
 show bD _ _ _ _ _ _
 have k:∀ b o,h.get? b=some o->((h.push {cls:=.type "tuple",data:=.seq rest.toArray}).push {cls:=.ref C,data:=.fields #[.ref h.objs.size,.none,.none,.none,.bool false,.none]}).get? b=some o:=fun b o e=>aW _ (aW _ e)
 have hget:((h.push {cls:=.type "tuple",data:=.seq rest.toArray}).push {cls:=.ref C,data:=.fields #[.ref h.objs.size,.none,.none,.none,.bool false,.none]}).get? (h.objs.size + 1)=some
   {cls:=.ref C,data:=.fields #[.ref h.objs.size,.none,.none,.none,.bool false,.none]}:=by heap_get
 have hcC:(kY C::bm).contains (.ref C)=true:=by simp
 have ajI:=k _ _ hC
 unfold isInstance
 repeat (first | with_reducible refine gZ hget ?_ | (with_reducible refine lM ajI ?_; rw[hcC]) | wp_step)
 refine lM ajI ?_
 rw[hcC]
 repeat (first | with_reducible refine gZ hget ?_ | wp_step)
 show bD _ _ (typeLookup (.ref C) _) _ _ _
 refine(looks_findIn (X.keeps k) hi).here (gO (aq ((bind_fn (X.keeps k) _ hf).here ?_)))
 refine aq (cj hq (fun r s' hr=>?_) fun J J x=>x)
 obtain⟨rfl,hQ⟩:=hr
 wp_walk
 exact hQ
end
section
variable{prog:dO}{w:cY}{A:cI}{E:au->aB->Prop}{s:aB}{K:lZ}{C x:aH}{ws:Array au}{name:Str}{v:au}{cd:Dc}
theorem abW{Q:Fin->aB->Prop}{tk:Tok}{b:Bool}(X:K.In s.heap)(S:Gg K C name cd)(hx:s.heap.get? x=some {cls:=.ref C,data:=.fields ws})
  (hq:∀ h' dx tk',h'.get? x=some {cls:=.ref C,dict:=some dx,data:=.fields ws}->(∀ b o,b≠x->s.heap.get? b=some o->h'.get? b=some o)->Q (.done (.ret .none)) {s with heap:=h',toks:=tk'}):
  bD (model prog w) A (storeInOwnDict (.ref x) (.ref C) (.str name tk) name v b) Q E s:=by
 obtain⟨h,g,d,t,os⟩:=s
 dsimp only at X hx hq
 refine aq (aJ (aq (aq (wpAny_loadPart hx (aq ((looks_clsIn X S.cls).at ?_))))))
 rw[S.dict]
 have hxs:x≠h.objs.size:=cB (d8 hx)
 have aaw:(h.push {cls:=.type "dict",data:=.dict #[]}).get? x=some {cls:=.ref C,data:=.fields ws}:=aW _ hx
 have gx:((h.push {cls:=.type "dict",data:=.dict #[]}).update x fun o=>{cls:=o.cls,dict:=some h.objs.size,data:=o.data,slots:=o.slots}).get? x=some {cls:=.ref C,dict:=some h.objs.size,data:=.fields ws}:=jf _ aaw rfl
 have gd:((h.push {cls:=.type "dict",data:=.dict #[]}).update x fun o=>{cls:=o.cls,dict:=some h.objs.size,data:=o.data,slots:=o.slots}).get? h.objs.size=some {cls:=.type "dict",data:=.dict #[]}:=
  (pB _ _ _ _ hxs.symm).trans (Heap.get?_push_at rfl rfl)
 have gk:∀ b o,b≠x->h.get? b=some o->((h.push {cls:=.type "dict",data:=.dict #[]}).update x fun o=>{cls:=o.cls,dict:=some h.objs.size,data:=o.data,slots:=o.slots}).get? b=some o:=fun b o hb e=>(pB _ _ _ _ hb).trans (aW _ e)
 have hnd:Heap.Ns ((h.push {cls:=.type "dict",data:=.dict #[]}).update x fun o=>{cls:=o.cls,dict:=some h.objs.size,data:=o.data,slots:=o.slots}) h.objs.size (fun J=>none):=⟨_,#[],_,gd,rfl,fun e he=>absurd he (by simp),fun J=>rfl⟩
 refine aq (vU ?_)
 refine aq (wpAny_update aaw ?_)
 refine aJ ?_
 show bD _ _ (storeInDict h.objs.size (.str name tk) name v) _ _ _
 unfold storeInDict newKeyGuard
 refine aq (aJ (aq (wpAny_nsSet1 (Heap.Ns1.of_empty hnd) fun h' hn' hs=>?_)))
 obtain⟨oD,esD,epD,hoD,hdD,hcD⟩:=hn'.count (Within.cons name v Within.nil)
 refine aq (wpAny_lookBehind hoD (by rw[hdD]; exact pastItsLine_dict (ak hcD (by rw[lO,List.length_nil,sizeLine_eq]; omega))) ?_)
 exact aJ (hq h' h.objs.size _ ((hs.2 x hxs).trans gx) fun b o hb e=>(hs.2 b (cB (d8 e))).trans (gk b o hb e))
theorem eZ{Q:Unit->aB->Prop}(X:K.In s.heap)(S:Gg K C name cd)(hx:s.heap.get? x=some {cls:=.ref C,data:=.fields ws})
  (hq:∀ h' dx tk',h'.get? x=some {cls:=.ref C,dict:=some dx,data:=.fields ws}->(∀ b o,b≠x->s.heap.get? b=some o->h'.get? b=some o)->Q () {s with heap:=h',toks:=tk'}):
  bD (model prog w) A (setAttr (.ref x) name v) Q E s:=by
 have I:InstAt s.heap x {cls:=.ref C,data:=.fields ws} C none:=⟨hx,rfl,rfl,trivial⟩
 refine set_plain X I S.sa ?_
 have SF:=PySem.F.store_object
 have sub:yc (model prog w) s.heap (isInstance (.ref x) (.type "object")) true:=I.type.andThen (looks_mroIn X S.ob)
 refine tu SF.slot.plain SF.entry (@check_slot (model prog w) _ _ {s with toks:=s.toks + 1} "object.__setattr__" "object" "__setattr__" (.ref x) [.str name s.toks,v] [] _ SF.kind SF.split sub (SF.args (.ref x) (.str name s.toks) v) ?_)
 obtain⟨bR,ha,hr⟩:=Option.bind_eq_some_iff.mp S.tk
 have hm:yc (model prog w) s.heap (mroOf (.ref C)) cd.mro:=(looks_clsIn X S.cls).andThen .now
 have L3:yc (model prog w) s.heap (storeTaker? bR) none:=by
  cases bR with
  | none=>exact .now
  | some a=>
   obtain⟨b,hb,e⟩:=gQ.mp hr
   refine(looks_takesIn X hb).andThen ?_
   cases b with
   | true=>cases e
   | false=>exact .now
 rw[osa_eq,refuse_eq]
 refine aq (aq (zq (s:={s with toks:=s.toks + 1}) I.type (aq (zq (s:={s with toks:=s.toks + 1}) hm ?_))))
 rw[S.pass]
 refine aJ (aq (zq (s:={s with toks:=s.toks + 1}) I.type (aq (zq (s:={s with toks:=s.toks + 1}) (looks_findIn X ha) (aq (zq (s:={s with toks:=s.toks + 1}) L3 ?_))))))
 exact abW (s:={s with toks:=s.toks + 1}) X S hx fun h' dx tk' a b=>hq h' dx tk' a b
end
theorem alf:findCls [] (.type "Exception") (.type "type") "__init__"=some (.val (.builtin "Exception.__init__")):=by kernel_rfl
theorem aeI:handedIn (.builtin "Exception.__init__")=true:=by decide +kernel
theorem alg:typeOf (.type "Exception")=pure (.type "type"):=rfl
theorem alh:Manifest.isStub "Exception"=false:=by decide +kernel
section
variable{B:Bs}{A:cI}{E:au->aB->Prop}{s:aB}{C x t0:aH}{v:au}{env:Env}{m:Str->Option au}
variable{nm q:Str}{N:aH}{bs bm:List au}{hdct:Bool}{sn:List Str}{sub:List au}{ab:Bool}{col:Option Bool}{dd:Option aH}{k0 k1 k2 k3 k5:Option au}
theorem aik(O:Jk bm)(hC:s.heap.get? C=some (excClassObj nm q C N bs bm hdct sn sub ab col dd k0 k1 k2 k3 k5 "Exception.__new__"))(hx:s.heap.get? x=some {cls:=.ref C,data:=.fields #[.ref t0,.none,.none,.none,.bool false,.none]}){Q:au->aB->Prop}
  (hq:∀ h' t1 tk',h'.get? x=some {cls:=.ref C,data:=.fields #[.ref t1,.none,.none,.none,.bool false,.none]}->(∀ b o,b≠x->s.heap.get? b=some o->h'.get? b=some o)->Q .none {s with heap:=h',toks:=tk'}):
  bD (Mo B) A (call (.builtin "Exception.__init__") [.ref x,v]) Q E s:=by
 obtain⟨h,g,d,t,os⟩:=s
 dsimp only at hC hx hq
 have hcB:(kY C::bm).contains (.type "Exception")=true:=by rw[mG,O.e,yV]
 have FX:=iZ
 refine wpAny_call (tu FX.init.plain FX.initEntry ?_)
 have hshort:=FX.noStar
 simp only[checkBuiltinCall,FX.initKind,FX.initSplit,FX.initRow]
 repeat (first | (with_reducible refine gZ hx ?_) | with_reducible refine gZ hC ?_ | (refine lM hC ?_; rw[hcB]) | wp_step)
 have aaw:(h.push {cls:=.type "tuple",data:=.seq #[v]}).get? x=some {cls:=.ref C,data:=.fields #[.ref t0,.none,.none,.none,.bool false,.none]}:=aW _ hx
 exact hq _ h.objs.size t (jf _ aaw rfl) fun b o hb e=>(pB _ _ _ _ hb).trans (aW _ e)
end
end
section
section
variable{B:Bs}{A:cI}{E:au->aB->Prop}{s:aB}{C x t0:aH}{v:au}{env:Env}{m:Str->Option au}{f:Nat}{cd:Dc}{rv:au}{y:Str}{ps:Pos}
variable{nm q:Str}{N:aH}{bs bm:List au}{hdct:Bool}{sn:List Str}{sub:List au}{ab:Bool}{col:Option Bool}{dd:Option aH}{k0 k1 k2 k3 k5:Option au}
theorem ali(h:cD):Frag.In [] h:=fun a o e=>by cases e
theorem abX(I:Inv B s.heap){pl:Sem Bool}{Q:au×List au->aB->Prop}(h:Q (.builtin "Exception.__init__",[]) {s with toks:=s.toks + 1}):bD (Mo B) A (getMethod (.type "Exception") "__init__" pl) Q E s:=
 method_type (K:=[]) (h₀:=wW B.L s.heap) (fF I) (ali _) alg alh alf aeI h
theorem Ay{Q:au->aB->Prop}(hk:env.scope.kind=.function)(hl:env.kindOf y=some .local)(hd:(y==("__debug__":Str))=false)(hn:s.heap.Ns env.locals m)(hv:m y=some rv)(h:Q rv s):bD (Mo B) A (eval (.Name y ps) env) Q E s:=by
 rw[eval_Name env y ps hd]
 exact aq (su (wpAny_loadName_local hk hl hn hv h))
noncomputable def zx(C:aH)(d:Option aH)(t:aH):Obj:={cls:=.ref C,dict:=d,data:=.fields #[.ref t,.none,.none,.none,.bool false,.none]}
theorem abY(O:Jk bm)(St:Gg B.K C "why" cd)(X:B.K.In s.heap)(hC:s.heap.get? C=some (excClassObj nm q C N bs bm hdct sn sub ab col dd k0 k1 k2 k3 k5 "Exception.__new__"))
  (hx:s.heap.get? x=some (zx C none t0))(hxK:∀ {a o},B.K.lookup a=some o->a≠x)(hxL:env.locals≠x)
  (I:Inv B s.heap)(hno:B.mg "Exception"=none){mb:Str->Option au}(hb:s.heap.Ns builtinsNs mb)(hv:mb "Exception"=some (.type "Exception"))
  (hk:env.scope.kind=.function)(eg:env.globals=mainGlobals)(eb:env.builtins=builtinsNs)(hn:s.heap.Ns env.locals m)(n1:env.kindOf "self"=some .local)(n2:env.kindOf "why"=some .local)(n3:env.kindOf "Exception"=some .globalImplicit)
  (m1:m "self"=some (.ref x))(m2:m "why"=some v){p1 p2 p3 p4 p5 p6 p7 p8 ap pos:Pos}(hline:(ap.endLine==pos.line)=true){Q:uY->aB->Prop}
  (hq:∀ {h' dx t1 tk'},h'.get? x=some (zx C (some dx) t1)->(∀ {b o},b≠x->s.heap.get? b=some o->h'.get? b=some o)->Q .next {s with heap:=h',toks:=tk'}):
  bD (Mo B) A (execs [.Expr (.Call (.Attribute (.Name "Exception" p1) "__init__" ap) [.Name "self" p2,.Name "why" p3] [] pos) p4,.Assign [.Attribute (.Name "self" p5) "why" p6] (.Name "why" p7) p8] env) Q E s:=by
 have hi:interactive env=false:=by unfold interactive; rw[hk]; rfl
 refine yh (wpAny_Expr ?_ hi rfl)
 rw[arm_eval_Call]
 refine aq (m:=eval (.Name "Exception" p1) env) (n8 hk n3 (loadGlobal_builtin (eg▸I.gl) hno (eb▸hb) hv ?_) rfl)
 refine aq (su ?_)
 unfold methodCall
 rw[show(backToKw pos (keywordEach [] env))=[] from rfl,show([]:List Keyword).length=0 from rfl,show methodCallForm ([Expr.Name "self" p2,Expr.Name "why" p3].length + 0) (backTo pos (starEach [Expr.Name "self" p2,Expr.Name "why" p3] env)) []=true from rfl]
 unfold methodCallPos calleeOf
 rw[hline]
 refine aq (gO (abX I (aq (aJ ?_))))
 refine callWith_builtin rfl (evalArgs_plain (ug (Ay (s:={s with toks:=s.toks + 1}) hk n1 rfl hn m1 (ug (Ay (s:={s with toks:=s.toks + 1}) hk n2 rfl hn m2 (vW ?_))))))
 refine aik (s:={s with toks:=s.toks + 1}) O hC hx fun h1 t1 tk1 hx1 hk1=>?_
 have hn1:h1.Ns env.locals m:=iK hn fun e=>hk1 _ _ hxL e
 refine yh (plainObj_wpAny_Assign_Attribute (Ay (s:={s with heap:=h1,toks:=tk1}) hk n2 rfl hn1 m2 (Ay (s:={s with heap:=h1,toks:=tk1}) hk n1 rfl hn1 m1 ?_)) rfl)
 refine eZ (s:={s with heap:=h1,toks:=tk1}) (fun a o e=>hk1 _ _ (hxK e) (X a o e)) St hx1 fun h2 dx tk2 hx2 hk2=>?_
 exact wpAny_execs_nil (hq hx2 fun hb e=>hk2 _ _ hb (hk1 _ _ hb e))
theorem abZ(F:Fb B)(J:akO B.K f)(O:Jk bm)(St:Gg B.K C "why" cd)(S:Ec B s.heap)(I:Inv B s.heap)
  (hroom:A.depth < recursionLimit)(hCK:B.K.lookup C=some (excClassObj nm q C N bs bm hdct sn sub ab col dd k0 k1 k2 k3 k5 "Exception.__new__"))
  (hx:s.heap.get? x=some (zx C none t0))(hxB:B.hb.get? x=none){Q:au->aB->Prop}
  (hq:∀ {h' dx t1 tk'},h'.get? x=some (zx C (some dx) t1)->(∀ {b o},b≠x->s.heap.get? b=some o->h'.get? b=some o)->Q .none {s with heap:=h',toks:=tk'}):
  bD (Mo B) A (call (.ref f) [.ref x,v]) Q E s:=by
 cases J with | @mk fd p1 p2 p3 p4 p5 p6 p7 p8 ap pos b clo line body par df nc n1 n2 n3=>
 cases par with | @mk as ds hp has=>
 obtain⟨o,ho,hd⟩:=b.at_
 have X:=F.F.at S
 have ne:∀ {a o},B.K.lookup a=some o->a≠x:=fun e r=>cW hxB (r▸F.F.kin _ _ e)
 have hxs:x < s.heap.objs.size:=d8 hx
 refine wpAny_call (codeAny_call_function hroom (X _ _ ho) hd b.co b.gen body (b.code.cr X) ?_)
 refine cj (Cm (rs:=[.ref x,v]) (D:=[]) hp (by rw[has]; decide) (by rw[df]; exact aJ ⟨rfl,rfl⟩) (by rw[has]; exact bf 2) (by rw[has]; exact bf 2) (cL _)) (fun binds s0 z=>?_) fun U U e=>e
 obtain⟨rfl,rfl⟩:=z
 rw[clo,has]
 refine wpAny_newFunctionEnv (binds:=[(("self":Str),.ref x),(("why":Str),v)]) nc (fun y hy=>by
  rcases aY.mp hy with rfl | hy
  ·exact n1
  ·exact aN.mp hy▸n2) (fun h1 hn1 hs1=>?_) b.kind
 have kp:Kp s0 {s0 with heap:=h1,toks:=s0.toks + 2}:=.mk' rfl fun b o e=>(hs1.2 b (cB (d8 e))).trans (aW _ e)
 have S1:Ec B h1:=S.kx (x:=⟨⟨[],[]⟩,[],s0⟩) kp fun q=>q.elim
 have I1:Inv B h1:=I.kx kp (fun q=>q.elim) id (iK I.sl kp.at)
 obtain⟨mb,hb,hv⟩:=F.F.bts
 refine⟨F.lim.ok I1 S1,codeAny_func (abY (env:=newEnv fd.scope s0.heap.objs.size fd.globals [] (fd.qualname++".<locals>.") (some f) fd.code none fd.builtins) (s:={s0 with heap:=h1,toks:=s0.toks + 2}) O St (F.F.at S1) (F.F.at S1 _ _ hCK) (kp.at hx) ne (gq hxs) I1 (F.F.gns _ F.Y.gn) (iK hb fun e=>S1.keep e F.F.bto) (hv _ _ (by decide +kernel) (by decide)) b.kind b.glob b.blt hn1 n1 n2 n3 rfl rfl line fun hx2 hk2=>hq hx2 fun hb e=>hk2 hb (kp.at e))⟩
end
end
section
section
variable{B:Bs}{p:Pl}{n:Nat}{fr:Fm}{x:fK}{s':aB}{l:List Env}{z:aH->Prop}{h h':cD}
theorem Inv.an2(I:Inv B h)(kg:∀ {o},h.get? mainGlobals=some o->h'.get? mainGlobals=some o)(kl:∀ {o},h.get? B.L=some o->h'.get? B.L=some o)(kf:∀ {a o vs},h.get? a=some o->o.data=.fields vs->h'.get? a=some o):Inv B h':=by
 refine⟨iK I.gl kg,iK I.sl kl,I.ll,fun t ht=>?_,fun t ht ps e=>?_⟩
 ·obtain⟨ps,e,ok,r⟩:=I.tb t ht
  refine⟨ps,kf e rfl,ok,fun pos cv q=>?_⟩
  obtain⟨c,oc,vs,t',h1,h2,h3,h4⟩:=r pos cv q
  exact⟨c,oc,vs,t',h1,kf h2 h3,h3,h4⟩
 ·obtain⟨ps',e',_⟩:=I.tb t ht
  exact I.tx t ht ps (aC ((kf e' rfl).symm.trans e)▸e')
theorem ail{hB hb:cD}(hn:∀ a∈zZ l,hB.get? a=none)(k:∀ {a o},h.get? a=some o->h'.get? a=some o)(f:h.FunFrames hb l):h'.FunFrames hB l:=by
 induction l with
 | nil=>trivial
 | cons e r ih=>
  obtain⟨x1,⟨L,o,x2,x3,x4,x5⟩,x6⟩:=f
  have q:zZ (e::r)=L::zZ r:=lE x2
  rw[q] at hn
  exact⟨x1,⟨L,o,x2,hn _ (.head _),k x4,x5⟩,ih (fun a h=>hn a (.tail _ h)) x6⟩
theorem XR.make(C:Cx p n fr x)(hl:p.A.frames=some l)(k:Kp x.s s'){ea K:aH}(hn:x.s.heap.get? ea=none){oe:Obj}{vs:Array au}{a0:au}(he:s'.heap.get? ea=some oe)(hc:oe.cls=.ref K)(hd:oe.data=.fields vs)(h0:vs[0]?=some a0)(h1:vs[1]?=some .none):XR p.B z l x (.ref ea) K x.st s':=by
 obtain⟨l',e,c⟩:=C.ar.chain
 cases aC (hl.symm.trans e)
 have w:=C.wd
 have keep:∀ {a o},x.s.heap.get? a=some o->a∉zZ l->(hideAll x.s.heap (zZ l)).get? a=some o:=fun e h=>hideAll_get _ e h
 have nd:∀ {a o},x.s.heap.get? a=some o->(∀ es k,o.data≠.dict es k)->a∉zZ l:=fun e d q=>by
  cases c.at_ q with | mk _ e' _ d'=>exact d _ _ ((congrArg Obj.data (aC (e.symm.trans e'))).trans d')
 have bs:∀ {a o},p.B.hb.get? a=some o->a∉zZ l:=fun e q=>cW (c.new q) e
 have nf:∀ {a},p.B.hb.get? a≠none->a∉zZ l:=fun h q=>h (c.new q)
 have ff:s'.heap.FunFrames (hideAll x.s.heap (zZ l)) l:=by
  cases c with | mk _ _ _ ff=>exact ail (fun a h=>hideAll_none _ h) k.at ff
 have dead:(hideAll x.s.heap (zZ l)).get? ea=none:=by
  cases q:(hideAll x.s.heap (zZ l)).get? ea with
  | none=>rfl
  | some o=>exact cW hn (of_hideAll _ q)
 refine .mk (g':=x.g) (hB:=hideAll x.s.heap (zZ l)) rfl k.sm .refl (w.sr.tr ⟨id,fun e d J J n=>⟨keep e (nd e fun es k q=>nomatch d.symm.trans q),n⟩⟩ fun o e=>keep e fun q=>(c.at_ q).no o)
  ⟨w.stay.glob,w.stay.adk,w.stay.stat,fun e t=>keep (w.stay.keep e t) (bs e),fun e=>(w.stay.live e).elim fun o q=>⟨o,keep q (bs e)⟩⟩
  (w.inv.an2 (fun e=>keep e (nf w.stay.glob)) (fun e=>keep e (nf w.stay.stat)) fun e d=>keep e (nd e fun es k q=>nomatch d.symm.trans q))
  (fun e J J f J=>.eq (keep e f)) (fun e f=>⟨_,keep e f⟩) (fun e J=>⟨fun J=>⟨_,k.at e⟩,_,k.at e,rfl⟩) (fun a ha=>(c.at_ ha).no) (.fresh (.mk (fun b o e=>k.at (of_hideAll _ e)) dead ff he hc hd h0 h1))
end
section
variable{B:Bs}{A:cI}{E:au->aB->Prop}{s:aB}{env:Env}{C:aH}
variable{nm q:Str}{N:aH}{bs bm:List au}{hdct:Bool}{sn:List Str}{sub:List au}{ab:Bool}{col:Option Bool}{dd:Option aH}{k0 k1 k2 k3 k5:Option au}{newId:String}
theorem Yx{x:Sem au}{Q:uY->aB->Prop}(hbase:bm.contains (.type "BaseException")=true)(hh:A.handled=none)
  (h:je (Mo B) A x (fun v c7=>∃ e t d,v=.ref e/\c7.heap.get? C=some (excClassObj nm q C N bs bm hdct sn sub ab col dd k0 k1 k2 k3 k5 newId)/\c7.heap.get? e=some (zx C d t)/\E (.ref e) c7) E s):
  je (Mo B) A (raiseStmt env (some x) none) Q E s:=by
 have hcB:(kY C::bm).contains (.type "BaseException")=true:=by rw[mG,hbase,yV]
 unfold raiseStmt
 refine aP (bT h (fun v c7 Di=>.of ?_) fun J J x=>x)
 obtain⟨e,t,d,rfl,hC,he,hE⟩:=Di
 unfold zx at he
 obtain⟨hp,g,dr,tk,os⟩:=c7
 repeat (first | with_reducible refine gZ he ?_ | with_reducible refine gZ hC ?_ | (with_reducible refine lM hC ?_; rw[hcB]) | wp_step)
 exact wpAny_raiseNew_none hh hE
end
section
variable{B:Bs}{sc:Sc}{p:Pl}{n:Nat}{fr:Fm}{x:fK}{X:Ex}{e:cZ}{m:ME}{p0 p2 pos:Pos}{nm:Str}{C:Nat}
inductive an3(p:Pl)(n:Nat)(fr:Fm)(x:fK)(C:Nat)(X:Ex)(v:au)(u:fK):Prop
 | mk {y:fK} {ea t:aH} {d:Option aH} (E:Ev p.B pO x y) (G:Cx p n fr y) (k:Kp y.s u.s) (hn:y.s.heap.get? ea=none) (e:v=.ref ea) (q:X C y.st) (he:u.s.heap.get? ea=some (zx C d t))
theorem aeJ(hg:Gl B sc nm (.ref C))(hC:C∈B.exs)(S:Sn (At B sc) e m):Zn (At B sc) (.Raise (some (.Call (.Name nm p0) [e] [] p2)) none pos) (.raise C m):=
 ⟨fun {n p fr x Q X} I q=>by
  have I:=I.I
  cases I.K.b.Y.ex C (I.h.b.symm▸hC) with | @mk nm' qn N bs bm hdct sn sub ab col dd k0 k1 k2 k3 k5 f cd hCK on ini fn J kp sto=>
  have O:=on
  refine .eq (arm_exec_Raise ..) (.stand ?_)
  have main:WG p x (eval (.Call (.Name nm p0) [e] [] p2) p.env) (an3 p (n + 1) fr x C X) X:=by
   refine(show WG p x (eval (.Name nm p0) p.env >>= fun f=>callWith p2 f [] (backTo p2 (starEach [e] p.env)) []) _ X from .look (Gh I hg ⟨rfl,rfl⟩) (I.aed (T:=fun U st=>X C st) (Ao S Ce) (fun S=>(zp kp (I.K.b.F.at S)).elim fun k q=>q.1.elim (fun e=>.fr (e▸q.2)) fun e=>.ma (e▸q.2)) q fun {rs vs y} len E1 I1 r q1=>?_))
   obtain⟨rv,rfl⟩:=List.length_eq_one_iff.mp len
   have KF:=I.K.b.F.at I1.C.wd.stay
   have kp1:Kp y.s {y.s with heap:=(y.s.heap.push {cls:=.type "tuple",data:=.seq [rv].toArray}).push (zx C none y.s.heap.objs.size)}:=FW
   have fx:y.s.heap.get? (y.s.heap.objs.size + 1)=none:=Ak (dw _)
   have hget:((y.s.heap.push {cls:=.type "tuple",data:=.seq [rv].toArray}).push (zx C none y.s.heap.objs.size)).get? (y.s.heap.objs.size + 1)=some (zx C none y.s.heap.objs.size):=by unfold zx; heap_get
   have w1:=I1.C.wd.kp kp1
   refine je.of (aij (h:=y.s.heap) O KF (KF _ _ hCK) ini fn (by decide:1<=sizeLine) (abZ (s:={y.s with heap:=(y.s.heap.push {cls:=.type "tuple",data:=.seq [rv].toArray}).push (zx C none y.s.heap.objs.size)}) I.K.b J O sto w1.stay w1.inv (aA (ak (bh _ _) (I1.C.made (K:=C) (rest:=[rv])).ar.depth) (by decide)) hCK hget (I1.C.wd.stay.fresh fx) fun {h' dx t1 tk'} hx' hk'=>⟨rfl,?_⟩))
   have kp2:Kp y.s {y.s with heap:=h',toks:=tk'}:=.mk' rfl fun b o e=>hk' (fun r=>cW fx (r▸e)) (kp1.at e)
   have E2:Ev p.B pO y ⟨y.g,y.st,{y.s with heap:=h',toks:=tk'}⟩:=kp2.ev
   exact .mk E2 (I1.C.wd.kp kp2) (I1.C.lk E2) (.mk E1 I1.C kp2 fx rfl q1 hx')
  refine Yx (nm:=nm') (q:=qn) (C:=C) (N:=N) (bs:=bs) (hdct:=hdct) (sn:=sn) (sub:=sub) (ab:=ab) (col:=col) (dd:=dd) (k0:=k0) (k1:=k1) (k2:=k2) (k3:=k3) (k5:=k5) (newId:="Exception.__new__") O.b I.C.ar.hand (aP (bT main (fun v s2 z=>?_) fun U U q=>q.of))
  cases z with | mk ev wd lk z=>
  cases z with | mk E G k hn e q he=>
  subst e
  obtain⟨l,hl,_⟩:=G.ar.chain
  have y:QX p pO _ X _ s2:=.mk hl (XR.make G hl k hn he rfl rfl rfl rfl) q
  exact aP (gW (bL ⟨_,_,_,rfl,I.K.b.F.at wd.stay _ _ hCK,he,(y.yx I.C E (fun q=>q.elim) (I.C.lk E)).of⟩))⟩
end
end
section
set_option tactic.hygienic true in
theorem Yy{pos:Pos}{a b:Int}{c cv:au}(l:List au)(ht:CV l)(h:codeAmong pos (l++[rawInt a,rawInt b,c])=some cv):codeAmong pos l=some cv∨cv=c:=by
 fun_induction CV l with
 | case1=>
  simp [codeAmong,rawInt] at h
  exact .inr h.2.symm
 | case2 a' t b' u x rest ih=>
  simp only[rN,codeAmong] at h ⊢
  split at h
  ·rename_i q; rw[if_pos q]; exact .inl h
  ·rename_i q; rw[if_neg q]; exact ih ht h
 | case3 l h1 h2=>exact ht.elim
section
variable{B:Bs}{p:Pl}{n:Nat}{fr:Fm}{x:fK}{s':aB}{t:aH×aH×Str}{ps:Array au}{h:cD}
theorem aeK(ht:t∈B.tabs):t.2.1∈B.tp:=.tail _ (fX.mpr ⟨t,ht,rfl⟩)
theorem Inv.grown(Y:Fx B)(I:Inv B x.s.heap)(ht:t∈B.tabs)(k:Kx (is1 t.2.1) x.s s')(hP:s'.heap.get? t.2.1=some (yr ps))(ok:CV ps.toList)
  (cv:∀ pos cv,codeAmong pos ps.toList=some cv->s'.heap.CodeRec cv t.2.2)(gr:∀ {old},x.s.heap.get? t.2.1=some (yr old)->∃ more,ps=old++more):Inv B s'.heap:=by
 obtain⟨po,eo,oko,_⟩:=I.tb t ht
 have nd:∀ {a o},x.s.heap.get? a=some o->(∃ es n,o.data=.dict es n)->a≠t.2.1:=fun e d q=>by
  obtain⟨es,n,d⟩:=d
  cases aC ((q▸e).symm.trans eo)
  exact nomatch d
 refine⟨(jq I.gl).elim fun J q=>q.elim fun J q=>q.elim fun J q=>iK I.gl (k.keep (nd q.1 ⟨_,_,q.2⟩)),(jq I.sl).elim fun J q=>q.elim fun J q=>q.elim fun J q=>iK I.sl (k.keep (nd q.1 ⟨_,_,q.2⟩)),I.ll,fun t' ht'=>?_,fun t' ht' ps' e'=>?_⟩
 ·by_cases q:t'.2.1=t.2.1
  ·cases Y.tnd t' ht' t ht q
   exact⟨ps,hP,ok,cv⟩
  ·obtain⟨ps',e1,ok',r⟩:=I.tb t' ht'
   refine⟨ps',k.keep q e1,ok',fun pos cv' z=>?_⟩
   obtain⟨c,oc,vs,t2,h1,h2,h3,h4⟩:=r pos cv' z
   refine⟨c,oc,vs,t2,h1,k.keep (fun q'=>?_) h2,h3,h4⟩
   cases aC ((show x.s.heap.get? t.2.1=some oc from q'▸h2).symm.trans eo)
   cases h3
   exact PyProof.Rows.triples_no_str oko _ _ ((q8 ..).trans h4)
 ·by_cases q:t'.2.1=t.2.1
  ·cases Y.tnd t' ht' t ht q
   cases aC (hP.symm.trans e')
   obtain⟨vs0,m0,b0,rfl⟩:=I.tx _ ht _ eo
   obtain⟨m1,e2⟩:=gr eo
   exact⟨vs0,m0++m1,b0,e2.trans Array.append_assoc⟩
  ·obtain⟨ps2,e1,_⟩:=I.tb t' ht'
   exact I.tx t' ht' _ (aC ((k.keep q e1).symm.trans e')▸e1)
theorem Wd.grown(Y:Fx B)(w:Wd B x)(ht:t∈B.tabs)(k:Kx (is1 t.2.1) x.s s')(i:Inv B s'.heap):Wd B ⟨x.g,x.st,s'⟩/\Ev B pO x ⟨x.g,x.st,s'⟩:=by
 have tp:=aeK ht
 obtain⟨po,eo,_⟩:=w.inv.tb t ht
 exact⟨w.kx k (fun {a} q o=>pP w.tab (w.sr.fresh o) ((show a=_ from q)▸tp)) (fun {a} q=>(show a=_ from q)▸Fy eo nofun) (fun {a} q=>.inr ((show a=_ from q)▸tp)) i,
  k.sm,k.live,.refl,fun {a o} e t n _=>.eq (k.keep (fun q=>t ((show a=_ from q)▸tp)) e)⟩
inductive Yz(h:cD)(al:aH)(params:uq)(body:cZ)(scope:jD)(clos:List (Str×aH))(qual:Str):Prop
 | mk {pm cv ctv} (e:h.get? al=some {cls:=.type "function",data:=.func (kla_fn "<lambda>" qual params body scope clos pm cv ctv)}) (c:h.CodeRec cv qual)
inductive alj(B:Bs)(x:fK)(params:uq)(body:cZ)(scope:jD)(clos:List (Str×aH))(qual:Str):au->aB->Prop
 | mk {al:aH} {s':aB} (dead:x.s.heap.get? al=none) (ev:Ev B pO x ⟨x.g,x.st,s'⟩) (wd:Wd B ⟨x.g,x.st,s'⟩) (lam:Yz s'.heap al params body scope clos qual):alj B x params body scope clos qual (.ref al) s'
theorem chd{h h':cD}{c P:aH}(e:∀ {o},h.get? c=some o->h'.get? c=some o)(d:CodeHd h c P):CodeHd h' c P:=
 d.imp fun o d=>d.imp fun vs d=>d.imp fun J d=>d.imp fun J d=>d.imp fun J d=>d.imp fun J d=>d.imp fun J d=>d.imp fun J d=>d.imp fun J d=>⟨e d.1,d.2⟩
theorem aqS{h:cD}{c P:aH}(d:CodeHd h c P):∃ o vs,h.get? c=some o/\o.cls=.type "code"/\o.data=.fields vs/\vs[11]?=some (.ref P):=
 d.imp fun o d=>d.imp fun vs d=>d.elim fun J d=>d.elim fun J d=>d.elim fun J d=>d.elim fun J d=>d.elim fun J d=>d.elim fun J d=>d.elim fun J d=>⟨d.1,d.2.1,d.2.2.1,d.2.2.2.1⟩
theorem aeL(Y:Fx p.B)(C:Cx p n fr x)(hl:p.sc.lam=some t)(ht:t∈p.B.tabs){params:uq}{body:cZ}{scope:jD}{pos:Pos}(hdef:defaultsOf params p.env=([],[]))(hfr:∀ {y},scope.names.lookup y=some .free->y∈p.sc.cl)(nd:(scope.names.map (·.1)).Nodup):
  bD (Mo p.B) p.A (eval (.Lambda params body scope pos) p.env) (alj p.B x params body scope (ji p.env scope.names []) t.2.2) (fun J J=>False) x.s:=by
 obtain⟨m,F⟩:=C.er
 have w:=C.wd
 obtain⟨hcode,an4⟩:=F.es.lam t hl
 obtain⟨hCd,hct,gne⟩:=Y.tab t ht
 obtain⟨ps,hP,ok,cvs⟩:=w.inv.tb t ht
 have an5:CodeHd x.s.heap t.1 t.2.1:=chd (fun e=>w.stay.keep e hct) hCd
 have hb:x.s.heap.BuiltinsAt p.B.mg t.2.1:=by
  cases Y.bm with | mk g n1 n2 tt e c d pl=>exact⟨_,_,g,n1,n2,fun q=>tt (q▸aeK ht),w.stay.keep e tt,c,d,pl⟩
 have hcl:=Dq (env:=p.env) (scope:=scope) fun hx=>(F.es.cn _ (hfr (mZ nd hx))).2
 have fin:∀ {al:aH} {s':aB} {ps':Array au},x.s.heap.get? al=none->Kx (is1 t.2.1) x.s s'->s'.heap.get? t.2.1=some (yr ps')->CV ps'.toList->(∀ pos cv,codeAmong pos ps'.toList=some cv->s'.heap.CodeRec cv t.2.2)->(∀ {old},x.s.heap.get? t.2.1=some (yr old)->∃ more,ps'=old++more)->
   Yz s'.heap al params body scope (ji p.env scope.names []) t.2.2->alj p.B x params body scope (ji p.env scope.names []) t.2.2 (.ref al) s':=fun d k hP ok cv gr L=>
  have q:=w.grown Y ht k (w.inv.grown Y ht k hP ok cv gr); .mk d q.2 q.1 L
 refine kla_eval hdef ?_
 rw[an4]
 cases hf:codeAmong pos ps.toList with
 | some cv=>
  refine kla_makeFunctionHit hcl F.es.glob w.inv.gl hcode an5 hP ok hf hb fun ctv h' tk hk hsz=>?_
  have hk':∀ b o,x.s.heap.get? b=some o->(h'.push {cls:=.type "function",data:=.func (kla_fn "<lambda>" t.2.2 params body scope (ji p.env scope.names []) ((p.B.mg "__name__").getD .none) cv ctv)}).get? b=some o:=fun b o e=>aW _ (hk b o e)
  exact fin (Ak hsz) (Kx.of (.mk' rfl hk')) (hk' _ _ hP) ok (fun pos cv z=>(cvs pos cv z).keeps hk') (fun e=>⟨#[],by cases aC (hP.symm.trans e); exact Array.append_empty.symm⟩) (.mk (bK _ rfl) ((cvs _ _ hf).keeps hk'))
 | none=>
  refine kla_makeFunction hcl F.es.glob w.inv.gl hcode an5 hP ok hf gne hb fun c' ctv h' tk hx hge hlt hrec hP'=>?_
  have hk':∀ b o,b≠t.2.1->x.s.heap.get? b=some o->(h'.push (kla_obj "<lambda>" t.2.2 params body scope (ji p.env scope.names []) ((p.B.mg "__name__").getD .none) c' ctv)).get? b=some o:=fun b o q e=>aW _ (hx b o q e)
  have hr:(h'.push (kla_obj "<lambda>" t.2.2 params body scope (ji p.env scope.names []) ((p.B.mg "__name__").getD .none) c' ctv)).CodeRec (.ref c') t.2.2:=hrec.push _
  have hP2:=aW (kla_obj "<lambda>" t.2.2 params body scope (ji p.env scope.names []) ((p.B.mg "__name__").getD .none) c' ctv) hP'
  refine fin (Ak (bH (aA hge hlt))) ⟨rfl,fun n e=>hk' _ _ n e,fun {a o} e=>?_⟩ hP2 (by
   rw[Array.toList_append]; exact TriplesOk_snoc _ _ _ _ ok) (fun pos cv z=>?_) (fun e=>⟨_,by cases aC (hP.symm.trans e); rfl⟩) (.mk (bK _ rfl) hr)
  ·by_cases q:a=t.2.1
   ·exact⟨_,q▸hP2⟩
   ·exact⟨o,hk' _ _ q e⟩
  ·rw[Array.toList_append] at z
   rcases Yy _ ok z with z | rfl
   ·obtain⟨c,oc,vs,t2,h1,h2,h3,h4⟩:=cvs pos cv z
    refine⟨c,oc,vs,t2,h1,hk' _ _ (fun q'=>?_) h2,h3,h4⟩
    cases aC ((show x.s.heap.get? t.2.1=some oc from q'▸h2).symm.trans hP)
    cases h3
    exact PyProof.Rows.triples_no_str ok _ _ ((q8 ..).trans h4)
   ·exact hr
end
end
section
section
variable{B:Bs}{p:Pl}{n:Nat}{fr:Fm}{x:fK}{s s':aB}{st':St}{z:aH->Prop}{l:List Env}{e:au}{F:cD->aH->au->cD->Prop}{A:cI}{env:Env}{E:au->aB->Prop}{ea C:Nat}{hB h:cD}{cls a0:au}
theorem XRp.settle{y:fK}(c:uH p y l)(T:yu p.B)(q:XRp p.B pO l y e st' s' F)(hF:∀ {hB ea a0},F hB ea a0 s'.heap->hB.StaysIn s'.heap):∃ g',Ev p.B pO y ⟨g',st',s'⟩/\Wd p.B ⟨g',st',s'⟩:=by
 cases q with | @mk ea g' hB a0 e1 sm ext sr stay inv Fd live frs no fly=>
 have k:=hF fly
 have k':∀ {a o},hB.get? a=some o->s'.heap.get? a=some o:=fun e=>k _ _ e
 refine⟨g',⟨sm,fun {a o} e=>?_,ext,fun {a o} e t n _=>?_⟩,T,⟨stay.glob,stay.adk,stay.stat,fun e t=>k' (stay.keep e t),fun e=>(stay.live e).elim fun J q=>⟨_,k' q⟩⟩,inv.an2 k' k' fun e J=>k' e,sr.tr ⟨id,fun e J J J n=>⟨k' e,n⟩⟩ fun J e=>k' e⟩
 ·by_cases f:a∈zZ l
  ·exact(frs e f).2.elim fun o' q=>⟨o',q.1⟩
  ·exact(live e f).elim fun o' q=>⟨o',k' q⟩
 ·by_cases f:a∈zZ l
  ·have q:=c.at_ f
   cases q with | mk _ e' c' _=>exact((frs e f).1 id).elim fun sl r=>.fr (c.new f) (aC (e'.symm.trans e)▸c') sl r
  ·exact(Fd e t n f id).trans fun r=>.eq (k' r)
theorem ain{M:jC}{body orelse:Sem uY}{h₀:pH}{hs:List pH}{Q:uY->aB->Prop}
  (h:je M A body (fun f c7=>match f with | .next=>je M A orelse Q E c7 | f=>Q f c7)
   (fun e c7=>je M A (noteFrame e env) (fun J Aw=>je M A (setFlight e none) (fun J abT=>je M A (handleBy e env (h₀::hs)) Q E abT) E Aw) E c7) s):
  je M A (tryStmt false body (h₀::hs) orelse [] env) Q E s:=by
 unfold tryStmt
 refine aP (Jd (bT h (fun f c7 Di=>?_) fun e c7 Di=>?_))
 ·cases f <;> first | exact Di | exact bL Di
 ·exact aP (bT Di (fun J J Vo=>aP Vo) fun J J x=>x)
set_option tactic.hygienic true in
theorem H6{M:jC}{c:Const}{k:Nat}{pos:Pos}{v:V}(h:cvl c=some v){Q:au->aB->Prop}(q:∀ {rv tk},AtV v rv->Q rv {s with toks:=tk}):bD M A (eval (.Constant c k pos) env) Q E s:=by
 rw[eval_Constant]
 cases c <;> first | exact nn h | cases aC h
 ·exact aJ (q (tk:=s.toks) fun {B g h}=>.none)
 ·exact aJ (q (tk:=s.toks) fun {B g h}=>.bool _)
 ·exact wpAny_mkInt (q fun {B g h}=>.int _ _)
 ·rename_i x
  exact wpAny_mkText (q fun {B g h}=>.str x.cps.toList _)
 ·rename_i x
  exact wpAny_mkTextBytes (q fun {B g h}=>.bytes x s.toks)
noncomputable def Vv(r1 r2:au):Obj:={cls:=.type "tuple",data:=.seq #[r1,r2]}
theorem aeM{M:jC}{c1 c2:Const}{k1 k2 kk:Nat}{p1 p2 p4 p5:Pos}{v1 v2:V}(h1:cvl c1=some v1)(h2:cvl c2=some v2){Q:uY->aB->Prop}
  (q:∀ {r1 r2 tk},AtV v1 r1->AtV v2 r2->Q (.ret (.ref s.heap.objs.size)) {s with heap:=s.heap.push (Vv r1 r2),toks:=tk}):
  bD M A (execs [.Return (some (.Tuple [.Constant c1 k1 p1,.Constant c2 k2 p2] kk p4)) p5] env) Q E s:=by
 refine yh ?_
 rw[yd]
 refine aq (su ?_)
 rw[BJ]
 refine aq (aq (su (aq ?_)))
 rw[show backTo p4 (starEach [Expr.Constant c1 k1 p1,Expr.Constant c2 k2 p2] env)=[(false,eval (.Constant c1 k1 p1) env),(false,eval (.Constant c2 k2 p2) env)] from rfl]
 refine ug (H6 h1 fun {r1 t1} a1=>ug (H6 h2 fun {r2 t2} a2=>vW ?_))
 exact qW (aJ (q a1 a2)) (by exact(by decide:2<=sizeLine))
theorem alk{M:jC}(q:ud hB l ea cls a0 h):yc M h (typeOf (.ref ea)) cls:=by
 obtain⟨_,_,_,oe,vs,T,oT,ts,a1,a2,a3,_⟩:=q
 exact a2.1▸(Looks.ld a1).andThen .now
theorem XF.k{y:fK}(q:XF B z l y e C st' s'){P:Prop}(k:∀ {ea hB a0},e=.ref ea->Inv B hB->Ec B hB->ud hB l ea (.ref C) a0 s'.heap->(∀ {h'},s'.heap.UpToSlots h'->ud hB l ea (.ref C) a0 h'->XF B z l y e C st' {s' with heap:=h'})->P):P:=by
 cases q with | mk e1 sm ext sr stay inv Fd live frs no fly=>
 exact k e1 inv stay fly fun u aqU=>.mk e1 (sm.trans (Sm.mk _ _)) ext sr stay inv Fd live (Ma u fly.2.2.1 frs) no aqU
theorem O8{y:fK}(F:Fc B)(Y:Fx B){x:V}{Q:uY->aB->Prop}(hk:env.scope.kind=.function)(eg:env.globals=mainGlobals){hds:List pH}{hs:List (Nat×V)}(H:HsR B env.scope hds hs)(e:hs.lookup C=some x)(hC:C∈B.exs)
  (X:XF B z l y (.ref ea) C st' s')(k:∀ {s'' r1 r2 v1 v2 tk},x=.tup [v1,v2]->AtV v1 r1->AtV v2 r2->XF B z l y (.ref ea) C st' s''->Q (.ret (.ref s''.heap.objs.size)) {s'' with heap:=s''.heap.push (Vv r1 r2),toks:=tk}):
  bD (Mo B) A (handleBy (.ref ea) env hds) Q E s':=by
 induction H with
 | nil=>exact nn e
 | @cons y1 np c1 k1 p1 c2 k2 p2 kk p4 p5 pos Ci v1 v2 rest hs h1 h2 h3 h4 h5 h6 hr ih=>
  refine X.k fun {ea' hB a0} he inv stay fl up=>?_
  cases he
  have stays:hB.StaysIn s'.heap:=fl.1
  have hg:s'.heap.Ns mainGlobals B.mg:=iK inv.gl fun e=>stays _ _ e
  have XK:B.K.In s'.heap:=fun a o q=>stays _ _ (stay.keep (F.kin a o q) (F.ktp a o q))
  refine wpAny_handleBy_cons (codeAny_handlers_test (n8 hk h1 (loadGlobal_global (eg▸hg) (F.gts _ _ h3) ?_) (nJ h2).d)) (by intro q; cases q)
  refine(exm_one XK (alk fl) (Y.mat C hC Ci h4)).here ?_
  rw[aM] at e
  by_cases q:C=Ci
  ·subst q
   rw[beq_self_eq_true] at e
   cases aC e
   rw[decide_eq_true rfl]
   exact codeAny_handlers_suite (PyProof.Rows.lands_againW fl fun h' fl' u=>aeM h5 h6 fun b1 b2=>k rfl b1 b2 (up u fl'))
  ·rw[beq_eq_false_iff_ne.mpr q] at e
   rw[decide_eq_false q]
   exact ih e
end
end
section
noncomputable def sc0:Sc:=⟨[],[],[],[],none⟩
section
variable{B:Bs}{sc sc':Sc}{p:Pl}{n C:Nat}{fr:Fm}{x y:fK}{s s':aB}{st':St}{X:Ex}{Q:Po}{scope:jD}{al:aH}{body:cZ}{qual:Str}{m:ME}{j9 env:Env}{z:aH->Prop}{l outer:List Env}{e:au}{L:aH}{A:cI}{E:au->aB->Prop}{M:jC}
noncomputable def Mr:uq:=⟨[],[],none,[],[],none,[]⟩
theorem aeN(C:Cx p (n + 1) fr x)(K:Kn p.B n)(hB:p.B=B)(C1:Cx ⟨p.B,p.A.deeper j9,j9,sc0⟩ n [] y)(E0:Ev p.B pO x y)(lam:Yz y.s.heap al Mr body scope (ji p.env scope.names []) qual)(Wi:Within p.sc scope sc')(hfree:∀ {nm k},sc'.vs.lookup nm=some k->scope.names.lookup nm=some .free)(Ml:sc'.lam=none)
  (hco:scope.isCoroutine=false/\scope.isGenerator=false)(S:Sn (At B sc') body m)(q:(W p.B.pg n).e m fr y.st Q X):WG ⟨p.B,p.A.deeper j9,j9,sc0⟩ y (call (.ref al) []) (PV p.B Q) X:=by
 subst hB
 cases lam with | @mk pm cv ctv ho hcd=>
 have d:=C.ar.depth
 have u:=C.ar.units
 have hd:p.A.depth + 1 + 1 + 2 * n<=990:=ak (aR (cN _ 2 _)) d
 have hu:p.A.units + 3 + 3 + 16 * n<=9000:=ak (ak (aR (cN _ 6 _)) (aZ (show 16 * n + 6<=16 * n + 16 from aZ (by decide) _) _)) u
 obtain⟨m0,F0⟩:=C.er
 have F3:=F0.up C.wd.tab E0 fun q=>q.elim
 obtain⟨l,hl,c⟩:=C1.ar.chain
 refine pF (lG (code:=fun env=>.expr body env) (aA (ak (bh _ _) (ak (bU (dw _) _) hd)) (by decide)) ho rfl hco.1 hco.2 rfl rfl (fun J J J J=>rfl) hcd ?_)
 refine cj (Cm (rs:=[]) (D:=[]) (as:=[]) (ds:=[]) rfl .nil (aJ ⟨rfl,rfl⟩) (cL _) (cL _) (cL _)) (fun binds s0 z=>?_) fun J J e=>e
 obtain⟨rfl,rfl⟩:=z
 refine Jm (A':=(p.A.deeper j9).deeper (sI scope y.s.heap.objs.size (ji p.env scope.names []) (qual++".<locals>.") (some al) cv)) (names:=[]) (ks:=[]) (vs:=[]) (rs:=[]) (fun t e=>nn (Ml▸e)) C1.wd Wi.fs (Mp (p:=p) F3 Wi) .nil .nil rfl fun E w F o hz=>⟨K.b.lim.ok w.inv w.stay,?_⟩
 have C4:=C1.deep hd hu E w (F.agree fun h=>(HY (aeC (Wi.free h (hfree h)).1)).symm) rfl o
 have C5:Cy (At p.B sc') ⟨p.B,(p.A.deeper j9).deeper (sI scope y.s.heap.objs.size (ji p.env scope.names []) (qual++".<locals>.") (some al) cv),sI scope y.s.heap.objs.size (ji p.env scope.names []) (qual++".<locals>.") (some al) cv,sc'⟩ n fr _:=⟨⟨rfl,rfl⟩,K,C4⟩
 exact Yt (bT (S.ev C5 q) (fun v s2 z=>.ret (p:=⟨p.B,p.A.deeper j9,j9,sc0⟩) (p':=⟨p.B,(p.A.deeper j9).deeper _,_,sc'⟩) E rfl C1.lk (fun q=>q.elim) z) fun e s2 q=>.of (q.leave (p:=⟨p.B,p.A.deeper j9,j9,sc0⟩) hl C1.wd.tab c rfl E fM (fun q=>q.elim) fun q=>q))
theorem aqV{func:Option aH}{code:au}{nm:Str}{v:au}{Q:Env->aB->Prop}(hk:scope.kind=.function)(hnc:∀ x∈scope.names,x.2≠.cell)(hy:scope.names.lookup nm=some .local)
  (k:∀ {h'},Kp s {s with heap:=h',toks:=s.toks + 1}->h'.Ns s.heap.objs.size (fun x=>if x=nm then some v else none)->abR {s with heap:=h',toks:=s.toks + 1} s.heap.objs.size->Q (sI scope s.heap.objs.size [] qual func code) {s with heap:=h',toks:=s.toks + 1}):
  bD M A (newFunctionEnv scope mainGlobals [] [(nm,v)] qual func code none builtinsNs) Q E s:=by
 refine aq (m:=alloc (rC "frame")) (vU ?_)
 refine aq (BL _ (fun name kind cells=>by cases hkc:kind==m8 <;> simp [hkc]) _ _ _ _ ?_)
 rw[show({s with heap:=s.heap.push (rC "frame")}:aB).heap.objs.size=s.heap.objs.size + 1 from d9 ..]
 have kp:=Mj (x:=⟨⟨[],[]⟩,[],s⟩) (names:=scope.names) (T:="frame")
 have hn:(pushCells (s.heap.push (rC "frame")) scope.names).Ns s.heap.objs.size (fun J=>none):=(Heap.Ns.new s.heap (.type "frame")).keeps (mY _ _)
 refine aq (m:=forIn [(nm,v)] PUnit.unit _) ?_
 rw[pJ]
 refine aq (aq (m:=storeName (sI scope s.heap.objs.size [] qual func code) nm v) ?_)
 rw[storeName_local (env:=sI scope s.heap.objs.size [] qual func code) hy (by show(scope.kind==.class || (scope.kind==.module && s.heap.objs.size != mainGlobals))=false; rw[hk]; rfl)]
 refine PK hn fun h' hn' hs hcl=>aJ (?_:bD M A (forIn [] PUnit.unit _) _ _ _)
 rw[uW]
 exact aJ (aJ (k (.mk' rfl fun b o e=>(hs.2 b (cB (d8 e))).trans (kp.at e)) hn' ((hcl (mY _ _ _ _ (bK _ rfl))).elim fun o q=>⟨o,q.1,q.2⟩)))
theorem ajJ{v1 v2:V}{r1 r2:au}(w:Wd B x)(a:VX B x v1 r1)(b:VX B x v2 r2):VR B x.g (x.s.heap.push (Vv r1 r2)) (.tup [v1,v2]) (.ref x.s.heap.objs.size):=
 have q:=w.new fM; .tup (vs:=[r1,r2]) (bK _ rfl) rfl rfl q.1 q.2.1 (.cons (a.kp .push) (.cons (b.kp .push) .nil))
theorem XH.land(q:XH B z l L x e C st' s'){Q:Unit->aB->Prop}(k:∀ {s''},XF B z l x e C st' s''->Q () s''):bD M A (setFlight e none) Q E s':=by
 cases q with | mk e1 sm ext sr stay inv Fd live frs no hh=>
 subst e1
 exact wpAny_landsW hh fun h' hl u=>k (.mk rfl (sm.trans (Sm.mk _ _)) ext sr stay inv Fd live (Ma u hh.2.2.1 frs) no hl)
theorem Mu{t:Sem au}{rest:List (Bool×Sem au)}{Q:List au->aB->Prop}(h:je M A t (fun v c7=>je M A (spliced rest) (fun vs Aw=>Q (v::vs) Aw) E c7) E s):je M A (spliced ((false,t)::rest)) Q E s:=
 aP (bT h (fun v c7 Di=>aP (bL (aP (cO (bT Di (fun vs Aw Vo=>bL Vo) fun J J x=>x))))) fun J J x=>x)
end
end
section
section
variable{B:Bs}{sc sc':Sc}{p:Pl}{n C:Nat}{fr:Fm}{x y:fK}{s s':aB}{st':St}{X:Ex}{Q:Po}{scope:jD}{al:aH}{body:cZ}{qual:Str}{m:ME}{j9 env:Env}{z:aH->Prop}{l outer:List Env}{e:au}{L:aH}{A:cI}{E:au->aB->Prop}{M:jC}
theorem aio{m:Str->Option au}(hk:j9.scope.kind=.function)(hg:j9.globals=mainGlobals)(hb:j9.builtins=builtinsNs)(hn:y.s.heap.Ns j9.locals m)(no:¬ own y.g j9.locals)(nb:B.hb.get? j9.locals=none)(hc:∀ {x},j9.cells.lookup x=none):ER ⟨B,A,j9,sc0⟩ y [] m:=
 ⟨⟨hk,hg,hb,fun J e=>nn e,nb,(fun J h=>nomatch h),(fun J h=>nomatch h),(fun J h=>nomatch h),fun e J=>nn e,fun e=>nn (hc.symm.trans e),fun e J=>nn (hc.symm.trans e)⟩,hn,no,fun e J=>nn e,fun e=>nn (hc.symm.trans e)⟩
theorem aeO{h:cD}{params:uq}{clos:List (Str×aH)}(lam:Yz h al params body scope clos qual):KpA (Mo B) h (.ref al):=by
 cases lam with | @mk pm cv ctv e c=>
 refine(zp (K:=[(al,{cls:=.type "function",data:=.func (kla_fn "<lambda>" qual params body scope clos pm cv ctv)})]) (M:=Mo B) (h:=h) (f:=.ref al) ?_ fun b o q=>?_).elim fun k q=>q.1.elim (fun e=>.fr (e▸q.2)) fun e=>.ma (e▸q.2)
 ·have q:∀ {o:Obj},jd al [(al,o)]=some o:=by intro o; rw[aM,beq_self_eq_true]
  unfold keepIn
  dsimp only
  rw[q]
 ·rw[aM] at q
  by_cases r:b=al
  ·subst r
   rw[beq_self_eq_true] at q
   exact aC q▸e
  ·rw[beq_eq_false_iff_ne.mpr r] at q
   exact nn q
theorem vq{α:Type}{k:Nat}{v:α}{l:List (Nat×α)}(h:l.lookup k=some v):(k,v)∈l:=by
 induction l with
 | nil=>exact nn h
 | cons a r ih=>
  rw[aM] at h
  by_cases q:k=a.1
  ·subst q
   rw[beq_self_eq_true] at h
   exact aC h▸.head _
  ·rw[beq_eq_false_iff_ne.mpr q] at h
   exact .tail _ (ih h)
theorem XRp.ref{st':St}{F:cD->aH->au->cD->Prop}(q:XRp B z l x e st' s' F):∃ ea,e=.ref ea:=by cases q with | mk e1=>exact⟨_,e1⟩
set_option tactic.hygienic true in
theorem aeP(C:Cx p (n + 1) fr x)(K:Kn p.B n)(C2:Cx ⟨p.B,p.A.deeper j9,j9,sc0⟩ n [] y)(E0:Ev p.B pO x y)(hfr:(p.A.deeper j9).frames=some (j9::outer))(hfl:j9.frame=some j9.locals)
  (hke:j9.scope.kind=.function)(ege:j9.globals=mainGlobals){m1:Str->Option au}(hn:y.s.heap.Ns j9.locals m1)(hm:m1 "call"=some (.ref al))(hkc:j9.kindOf "call"=some .local)
  (lam:Yz y.s.heap al Mr body scope (ji p.env scope.names []) qual)(Wi:Within p.sc scope sc')(hfree:∀ {nm k},sc'.vs.lookup nm=some k->scope.names.lookup nm=some .free)(Ml:sc'.lam=none)
  (hco:scope.isCoroutine=false/\scope.isGenerator=false)(S:Sn (At p.B sc') body m){h0:pH}{hr:List pH}{hs:List (Nat×V)}{sG:V}{cc:Const}(hcc:cvl cc=some sG)(H:HsR p.B j9.scope (h0::hr) hs)(alm:∀ q∈hs,q.1∈p.B.exs)
  (q:(W p.B.pg n).e m fr y.st (fun v st=>Q (.tup [sG,v]) st) (fun C st=>ok (hs.lookup C) fun x=>Q x st)){k1 kk:Nat}{p1 p2 p3 p4 p5 p6:Pos}:
  je (Mo p.B) (p.A.deeper j9) (exec (.Try [.Return (some (.Tuple [.Constant cc k1 p1,.Call (.Name "call" p2) [] [] p3] kk p4)) p5] (h0::hr) [] [] p6) j9) (fun fl s'=>∃ rv,fl=.ret rv/\QT ⟨p.B,p.A.deeper j9,j9,sc0⟩ pO y (PV p.B Q) rv s') (fun J J=>False) y.s:=by
 have tup:WG ⟨p.B,p.A.deeper j9,j9,sc0⟩ y (eval (.Tuple [.Constant cc k1 p1,.Call (.Name "call" p2) [] [] p3] kk p4) j9) (PV p.B Q) (fun C st=>ok (hs.lookup C) fun x=>Q x st):=by
  rw[BJ]
  refine aP (gW (aP ?_))
  rw[show backTo p4 (starEach [Expr.Constant cc k1 p1,Expr.Call (.Name "call" p2) [] [] p3] j9)=[(false,eval (.Constant cc k1 p1) j9),(false,eval (.Call (.Name "call" p2) [] [] p3) j9)] from rfl]
  refine Mu (.of (H6 hcc fun {r1 t1} a1=>Mu ?_))
  have kp:Kp y.s {y.s with toks:=t1}:=.tok
  have C3:=C2.up (y:=⟨y.g,y.st,{y.s with toks:=t1}⟩) kp.ev (C2.wd.kp kp)
  show je _ _ (eval (.Name "call" p2) j9 >>= fun f=>callWith p3 f [] (backTo p3 (starEach [] j9)) []) _ _ _
  refine aP (.of (Ay (s:={y.s with toks:=t1}) hke hkc rfl hn hm ?_))
  refine yE rfl (.of (evalArgs_nil3 ⟨aeO lam,?_⟩))
  refine bT (aeN C K rfl C3 (E0.trans kp.ev) lam Wi hfree Ml hco S q) (fun rv s4 z=>?_) fun e s4 x=>?_
  ·cases z with | @mk g' st' ev wd lk z=>
   obtain⟨v,hv,q4⟩:=z
   refine .of (vW (.of (qW ?_ (show [r1,rv].length<=sizeLine from(by decide:2<=sizeLine)))))
   have kp5:Kp s4 {s4 with heap:=s4.heap.push (Vv r1 rv)}:=.push
   have E5:Ev p.B pO y ⟨g',st',_⟩:=(kp.ev.trans ev).trans kp5.ev
   exact .mk E5 (wd.kp kp5) (C2.lk E5) ⟨_,ajJ (x:=⟨g',st',s4⟩) wd a1 hv,q4⟩
  ·exact x.yx C2 kp.ev (fun h=>h.elim) (C2.lk kp.ev)
 rw[arm_exec_Try]
 refine aP (gW (ain ?_))
 show je _ _ (exec (.Return (some (.Tuple [.Constant cc k1 p1,.Call (.Name "call" p2) [] [] p3] kk p4)) p5) j9 >>= fun f=>match f with | .next=>execs [] j9 | f=>pure f) _ _ _
 rw[yd]
 refine aP (aP (gW (aP (bT tup (fun rv s' z=>bL (bL ⟨rv,rfl,z⟩)) fun e s4 x=>?_))))
 cases x with | @mk l C' st4 h1 h2 h3=>
 cases hfr.symm.trans h1
 obtain⟨ea,rfl⟩:=h2.ref
 refine rA h3 fun x hx q=>.of (h2.noted hfr hfl fun hh=>.of (hh.land fun xf=>.of (O8 K.b.F K.b.Y hke ege H hx (alm (_,_) (vq hx)) xf fun hxe c1 c2 xf=>⟨_,rfl,?_⟩)))
 obtain⟨l2,hl2,c2'⟩:=C2.ar.chain
 cases hfr.symm.trans hl2
 rename_i s'' r1 r2 v1 v2 tk
 obtain⟨g6,E6,w6⟩:=XRp.settle c2' C2.wd.tab xf fun fl=>fl.1
 have kp5:Kp s'' {s'' with heap:=s''.heap.push (Vv r1 r2),toks:=tk}:=.mk' rfl fun b o e=>aW _ e
 have E5:Ev p.B pO y ⟨g6,st4,_⟩:=E6.trans kp5.ev
 exact .mk E5 (w6.kp kp5) (C2.lk E5) ⟨_,ajJ (x:=⟨g6,st4,s''⟩) w6 c1 c2,hxe▸q⟩
end
end
section
section
variable{B:Bs}{sc sc':Sc}{p:Pl}{n:Nat}{scope:jD}{body:cZ}{m:ME}{t:aH×aH×Str}
theorem YB{fr:Fm}{x:fK}{Q:Po}{X:Ex}{f:Nat}{sG:V}{hs:List (Nat×V)}{al:aH}(C0:Cx p (n + 1) fr x)(K:Kn p.B n)(cat:ahK p.B f sG hs)(lamO:Yz x.s.heap al Mr body scope (ji p.env scope.names []) t.2.2)(Wi:Within p.sc scope sc')
  (hfree:∀ {nm k},sc'.vs.lookup nm=some k->scope.names.lookup nm=some .free)(Ml:sc'.lam=none)(hco:scope.isCoroutine=false/\scope.isGenerator=false)(S:Sn (At p.B sc') body m)
  (q:(W p.B.pg n).e m fr x.st (fun v st=>Q (.tup [sG,v]) st) (fun C st=>ok (hs.lookup C) fun x=>Q x st)):WG p x (call (.ref f) [.ref al]) (PV p.B Q) X:=by
 cases cat with | @mk fd h0 hr cc k1 p1 p2 p3 kk p4 p5 p6 b clo hbody hcc par df nc n1 H alm=>
 cases par with | @mk as ds hp has=>
 obtain⟨o,ho,hd⟩:=b.at_
 have KI:=K.b.F.at C0.wd.stay
 have R:=C0.room
 obtain⟨l,hl,c⟩:=C0.ar.chain
 have ln:(as.map (·.arg)).length=1:=by rw[has]; rfl
 refine bT (E:=fun J J=>False) (Q:=QT p pO x (PV p.B Q)) ?_ (fun J J q=>q) fun J J q=>q.elim
 refine pF (lG (code:=fun env=>.func _ env) R.2.2 (KI _ _ ho) hd b.co b.gen (fun {env}=>by rw[hbody]) rfl (fun J J J J=>rfl) (b.code.cr KI) ?_)
 refine cj (Cm (rs:=[.ref al]) (D:=[]) hp (by rw[has]; decide) (by rw[df]; exact aJ ⟨rfl,rfl⟩) (aR ln.symm) (aR ln) (cL _)) (fun binds s0 z=>?_) fun J J e=>e
 obtain⟨rfl,rfl⟩:=z
 rw[clo,has,show J6 [("call":Str)] [kY al] []=[(("call":Str),kY al)] from rfl,b.glob,b.blt]
 refine aqV b.kind nc n1 fun {h2} kp2 hn2 hoL=>?_
 have w2:=C0.wd.kp kp2
 have F2:=aio (B:=p.B) (y:=⟨x.g,x.st,{x.s with heap:=h2,toks:=x.s.toks + 1}⟩) (A:=p.A.deeper (sI fd.scope x.s.heap.objs.size [] (fd.qualname++".<locals>.") (some f) fd.code)) (j9:=sI fd.scope x.s.heap.objs.size [] (fd.qualname++".<locals>.") (some f) fd.code) b.kind rfl rfl hn2
  (fun q=>(C0.wd.sr.live q).elim fun o e=>nn (fM.symm.trans e)) (C0.wd.stay.fresh fM) (Mi (fun z=>nc _ z rfl))
 have C2:=C0.deep R.1 R.2.1 kp2.ev w2 F2 rfl hoL
 refine⟨K.b.lim.ok w2.inv w2.stay,El (bT (E:=fun J J=>False) (Q:=fun fl s'=>∃ rv,fl=.ret rv/\QT ⟨p.B,p.A.deeper (sI fd.scope x.s.heap.objs.size [] (fd.qualname++".<locals>.") (some f) fd.code),sI fd.scope x.s.heap.objs.size [] (fd.qualname++".<locals>.") (some f) fd.code,sc0⟩ pO ⟨x.g,x.st,{x.s with heap:=h2,toks:=x.s.toks + 1}⟩ (PV p.B Q) rv s') ?_ (fun fl s' z=>?_) fun J J q=>q.elim)⟩
 ·have aqW:Yz h2 al Mr body scope (ji p.env scope.names []) t.2.2:=by
   cases lamO with | mk e c=>exact .mk (kp2.at e) (c.keeps fun J J e=>kp2.at e)
  show je (Mo p.B) _ (exec (.Try _ (h0::hr) [] [] p6) _ >>= fun f=>match f with | .next=>execs [] _ | f=>pure f) _ _ _
  exact aP (bT (aeP (m1:=fun x=>if x=("call":Str) then some (.ref al) else none) C0 K C2 kp2.ev (jz hl) rfl b.kind rfl hn2 (if_pos rfl) n1 aqW Wi hfree Ml hco S hcc H alm q) (fun fl s' z=>z.elim fun rv z=>z.1▸bL ⟨rv,rfl,z.2⟩) fun J J q=>q)
 ·obtain⟨rv,rfl,z⟩:=z
  exact .ret (p':=⟨p.B,p.A.deeper _,_,sc0⟩) kp2.ev rfl C0.lk (fun q=>q.elim) z
theorem aeQ{nm:Str}{p0 pos pos2:Pos}{f:Nat}{sG:V}{hs:List (Nat×V)}(hg:Gl B sc nm (.ref f))(hc:(f,sG,hs)∈B.cats)(hl:sc.lam=some t)(ht:t∈B.tabs)(Wi:Within sc scope sc')
  (hfree:∀ {nm k},sc'.vs.lookup nm=some k->scope.names.lookup nm=some .free)(Ml:sc'.lam=none)(hco:scope.isCoroutine=false/\scope.isGenerator=false)(S:Sn (At B sc') body m):Sn (At B sc) (.Call (.Name nm p0) [.Lambda Mr body scope pos] [] pos2) (.heard f sG hs m):=
 .mk' (Ck (nJ hg.ok).s) rfl rfl fun {n p fr x Q X} I q=>by
  have K:=I.K
  obtain⟨b,s⟩:=I.h
  subst b
  subst s
  obtain⟨cat,kf⟩:=K.b.cat hc
  refine(show WG p x (eval (.Name nm p0) p.env >>= fun f=>callWith pos2 f [] (backTo pos2 (starEach [.Lambda Mr body scope pos] p.env)) []) _ X from .look (r:=.ref f) (Gh I hg ⟨rfl,rfl⟩) ?_)
  refine yE rfl (.of (evalArgs_plain (ug (cj (aeL (params:=Mr) (body:=body) (pos:=pos) K.b.Y I.C hl ht rfl Wi.fr Wi.fs.nd) (fun rv s1 z=>vW ?_) fun J J e=>False.elim e))))
  cases z with | @mk al _ dead E1 w1 lamO=>
  exact⟨(zp (M:=Mo p.B) kf (K.b.F.at w1.stay)).elim fun k q=>q.1.elim (fun e=>.fr (e▸q.2)) fun e=>.ma (e▸q.2),WT.later I.C E1 (YB (I.C.up E1 w1) I.dn.K cat lamO Wi hfree Ml hco S q)⟩
end
end
section
section
variable{B:Bs}{sc sc':Sc}{scope:jD}
theorem aln(F:Fb B)(D:∀ {f mf},B.pg.fn f=some mf->TF B f mf)(n:Nat):Kn B n:=by
 induction n with
 | zero=>exact⟨F,fun h=>(kW _ h).elim⟩
 | succ n ih=>
  refine⟨F,fun {k} h=>(Nat.lt_succ_iff_lt_or_eq.mp h).elim (fun h=>ih.c h) fun h=>?_⟩
  subst h
  cases k with
  | zero=>exact fun J J J q=>False.elim q
  | succ k=>exact aic D ⟨F,fun h=>ih.c (cU h)⟩
noncomputable def YC:jy->Nat
 | .free=>1
 | .local=>2
 | .cell=>3
 | .globalImplicit=>4
 | _=>5
theorem aip{k:jy}(h:YC k=1):k=.free:=by cases k <;> first | rfl | cases h
theorem alo{k:jy}(h:YC k=2):k=.local:=by cases k <;> first | rfl | cases h
theorem aiq{k:jy}(h:YC k=3):k=.cell:=by cases k <;> first | rfl | cases h
theorem air{k:jy}(h:YC k=4):k=.globalImplicit:=by cases k <;> first | rfl | cases h
noncomputable def lN(scope:jD)(x:Str):Nat:=((scope.names.lookup x).map YC).getD 0
theorem Gp{x:Str}{i:Nat}(h:lN scope x=i + 1):∃ k,scope.names.lookup x=some k/\YC k=i + 1:=by
 unfold lN at h
 cases q:scope.names.lookup x with
 | none=>rw[q] at h; cases h
 | some k=>rw[q] at h; exact⟨k,rfl,h⟩
theorem J8{x:Str}(h:lN scope x=1):scope.names.lookup x=some .free:=(Gp h).elim fun k q=>aip q.2▸q.1
theorem alp{x:Str}(h:lN scope x=2):scope.names.lookup x=some .local:=(Gp h).elim fun k q=>alo q.2▸q.1
theorem Sh{x:Str}(h:lN scope x=3):scope.names.lookup x=some .cell:=(Gp h).elim fun k q=>aiq q.2▸q.1
theorem ais{x:Str}(h:lN scope x=4):scope.names.lookup x=some .globalImplicit:=(Gp h).elim fun k q=>air q.2▸q.1
theorem an7{x:Str}{k:jy}(h:scope.names.lookup x=some k):lN scope x=YC k:=by unfold lN; rw[h]; rfl
noncomputable def ajK(sc:Sc)(scope:jD)(lam:Option (aH×aH×Str)):Sc:=
 let base:=sc.vs.foldl (fun a p=>Nat.max a (p.2 + 1)) 0
 let own:=(scope.names.filter fun p=>(dF (YC p.2) 2 || dF (YC p.2) 3) && !(p.1==(".0":Str))).map (·.1)
 {vs:=(own.zipIdx.map fun p=>(p.1,base + p.2))++(scope.names.filter fun p=>dF (YC p.2) 1).filterMap fun p=>(sc.vs.lookup p.1).map fun k=>(p.1,k)
  wn:=own
  gl:=(scope.names.filter fun p=>dF (YC p.2) 4).map (·.1)
  cl:=(scope.names.filter fun p=>dF (YC p.2) 3 || dF (YC p.2) 1).map (·.1)
  lam:=lam}
noncomputable def isFn:ScopeKind->Bool
 | .function=>true
 | _=>false
theorem Ss{k:ScopeKind}(h:isFn k=true):k=.function:=by cases k <;> first | rfl | exact ff h
structure FnW(scope:jD)(sc:Sc):Prop where
 k:isFn scope.kind=true
 nd:(scope.names.map (·.1)).Nodup
 inj:(sc.vs.map (·.2)).Nodup
 wn:∀ x∈sc.wn,lN scope x=2∨lN scope x=3
 gl:∀ x∈sc.gl,lN scope x=4
 cl:∀ x∈sc.cl,lN scope x=3∨lN scope x=1
noncomputable instance:Decidable (FnW scope sc):=decidable_of_iff ((isFn scope.kind=true/\(scope.names.map (·.1)).Nodup)/\((sc.vs.map (·.2)).Nodup/\∀ x∈sc.wn,lN scope x=2∨lN scope x=3)/\(∀ x∈sc.gl,lN scope x=4)/\∀ x∈sc.cl,lN scope x=3∨lN scope x=1)
 ⟨fun h=>⟨h.1.1,h.1.2,h.2.1.1,h.2.1.2,h.2.2.1,h.2.2.2⟩,fun h=>⟨⟨h.k,h.nd⟩,⟨h.inj,h.wn⟩,h.gl,h.cl⟩⟩
theorem aeR{l:List (Str×Nat)}(nd:(l.map (·.2)).Nodup){x y:Str}{k:Nat}(hx:(x,k)∈l)(hy:(y,k)∈l):x=y:=by
 induction l with
 | nil=>cases hx
 | cons p r ih=>
  have q:=dj.mp nd
  exact(aY.mp hx).elim (fun e=>(aY.mp hy).elim (fun e'=>congrArg (·.1) (e.trans e'.symm)) fun hy=>(q.1 (fX.mpr ⟨_,hy,congrArg (·.2) e⟩)).elim) fun hx=>
   (aY.mp hy).elim (fun e'=>(q.1 (fX.mpr ⟨_,hx,congrArg (·.2) e'⟩)).elim) fun hy=>ih q.2 hx hy
theorem FnW.ok(h:FnW scope sc):abP scope sc:=
 ⟨Ss h.k,h.nd,fun e e'=>aeR h.inj (jh e) (jh e'),fun x m=>(h.wn x m).imp alp Sh,fun x m=>ais (h.gl x m),fun x m=>(h.cl x m).imp Sh J8⟩
structure WiW(sc:Sc)(scope:jD)(sc':Sc):Prop where
 f:FnW scope sc'
 vs:∀ p∈sc'.vs,(lN scope p.1=1/\sc.vs.lookup p.1=some p.2/\p.1∈sc.cl)∨(lN scope p.1≠1/\∀ q∈sc.vs,q.2≠p.2)
 fr:∀ p∈scope.names,YC p.2=1->p.1∈sc.cl
 lam:sc'.lam=none∨sc'.lam=sc.lam
 nd:(sc.vs.map (·.1)).Nodup
noncomputable instance:Decidable (WiW sc scope sc'):=decidable_of_iff ((FnW scope sc'/\∀ p∈sc'.vs,(lN scope p.1=1/\sc.vs.lookup p.1=some p.2/\p.1∈sc.cl)∨(lN scope p.1≠1/\∀ q∈sc.vs,q.2≠p.2))/\((∀ p∈scope.names,YC p.2=1->p.1∈sc.cl)/\(sc'.lam=none∨sc'.lam=sc.lam))/\(sc.vs.map (·.1)).Nodup)
 ⟨fun h=>⟨h.1.1,h.1.2,h.2.1.1,h.2.1.2,h.2.2⟩,fun h=>⟨⟨h.f,h.vs⟩,⟨h.fr,h.lam⟩,h.nd⟩⟩
theorem WiW.ok(h:WiW sc scope sc'):Within sc scope sc':=
 ⟨h.f.ok,fun e f=>(h.vs _ (jh e)).elim (fun q=>q.2) fun q=>(q.1 (an7 f)).elim,fun {x k} e n {y} e'=>(h.vs _ (jh e)).elim (fun q=>n (J8 q.1)) fun q=>q.2 _ (jh e') rfl,fun e=>h.fr _ (jh e) rfl,
  fun e=>h.lam.elim (fun q=>nn (q.symm.trans e)) fun q=>q.symm.trans e,h.nd⟩
end
end
section
section
variable{α β:Type}{P:α->Prop}{R:β->Prop}
noncomputable def oE(o:Option {a:α // P a})(k:∀ a,P a->Option {b:β // R b}):Option {b:β // R b}:=match o with | some q=>k q.1 q.2 | none=>none
noncomputable def wj(c:Prop)[Decidable c](k:c->Option {b:β // R b}):Option {b:β // R b}:=if h:c then k h else none
noncomputable def opt(o:Option α)(k:∀ a,o=some a->Option {b:β // R b}):Option {b:β // R b}:=match o,k with | some a,k=>k a rfl | none,_=>none
noncomputable def alt(a b:Option {b:β // R b}):Option {b:β // R b}:=match a with | some q=>some q | none=>b
noncomputable def yes{a:α}(h:P a):Option {a:α // P a}:=some ⟨a,h⟩
end
noncomputable def alq(B:Bs):Prop:=∀ {sc p1 p2 p3 e pos m},Gb B sc "sorted" (.builtin "sorted")->Gb B sc "set" (.type "set")->Sn (At B sc) e m->Sn (At B sc) (.Call (.Name "sorted" p1) [.Call (.Name "set" p2) [e] [] p3] [] pos) (.bi .qd [m])
noncomputable def eK:cZ->Nat
 | .Set .. =>1
 | .ListComp .. =>2
 | .SetComp .. =>2
 | .DictComp .. =>2
 | .Tuple .. =>3
 | .List .. =>4
 | _=>0
noncomputable def eCn(e:cZ):Option {q:Str×Pos×cZ×Pos // e=.Call (.Name q.1 q.2.1) [q.2.2.1] [] q.2.2.2}:=match e with
 | .Call (.Name x p) [a] [] pos=>some ⟨(x,p,a,pos),rfl⟩
 | _=>none
noncomputable def ncB(e:cZ):Bool:= !(dF (eK e) 2)
theorem ajL{e:cZ}(h:ncB e=true):Nc e:=by cases e <;> first | exact rfl | exact ff h
noncomputable def nfB(e:cZ):Bool:= !(dF (eK e) 1)
theorem an9{e:cZ}(h:nfB e=true):Nf e:=by cases e <;> first | exact rfl | exact ff h
noncomputable def aoa(e:cZ):Bool:=dF (eK e) 3
noncomputable def tgB(k:Sk)(t:cZ):Bool:=match k with
 | .enum=>aoa t
 | _=>true
theorem ajM{k:Sk}{t:cZ}(h:tgB k t=true):Gi k t:=fun e=>by
 subst e
 cases t <;> first | exact⟨_,_,_,rfl⟩ | exact ff h
section
variable(B:Bs)(mu:List Nat)
abbrev TrE(sc:Sc)(e:cZ):=Option {m:ME // Sn (At B sc) e m}
noncomputable def glB(sc:Sc)(x:Str):Option {v:au // Gl B sc x v}:=wj (x∈sc.gl) fun h1=>wj (yD x=true) fun h2=>opt (B.gt.lookup x) fun J h3=>yes ⟨h1,h2,h3⟩
noncomputable def gbB(sc:Sc)(x:Str)(v:au):Option {u:au // Gb B sc x u/\u=v}:=
 wj (x∈sc.gl) fun h1=>wj (yD x=true) fun h2=>wj (x∈B.gn) fun h3=>wj (bootBuiltins x=some v) fun h4=>yes ⟨⟨h1,h2,h3,h4⟩,rfl⟩
noncomputable def bnB{β:Type}{R:β->Prop}(sc:Sc)(x:Str)(v:au)(k:Gb B sc x v->Option {b:β // R b}):Option {b:β // R b}:=oE (gbB B sc x v) fun J h=>k (h.2▸h.1)
noncomputable def ait(a:Str):(l:List Str)->Option {f:Nat // l[f]?=some a}
 | []=>none
 | x::r=>alt (wj (x=a) fun h=>yes (a:=0) (h▸rfl)) (oE (ait a r) fun f hf=>yes (a:=f + 1) hf)
noncomputable def biT(x:Str):Option Bi:=jd x [("len",.len),("sum",.sum),("bytes",.bytes),("ord",.ord),("chr",.chr),("all",.all),("sorted",.sorted),("int",.int),("str",.str),("max",.max),("min",.min)]
noncomputable def bmT(x:Str)(n:Nat):Option Bm:=if x="get" then(if dF n 1 then some .Xg else some .Oi) else jd x [("append",.append),("pop",.pop),("split",.split),("join",.join),("extend",.Kr)]
section
variable(r:∀ sc e,TrE B sc e)(sc:Sc)
noncomputable def YD:(es:List cZ)->Option {ms:List ME // T8 (At B sc) es ms}
 | []=>yes Ce
 | e::es=>oE (r sc e) fun J h=>oE (YD es) fun J t=>yes (Ao h t)
noncomputable def trO(e:Option cZ):Option {m:Option ME // So (At B sc) e m}:=match e with
 | none=>yes ahT
 | some e=>oE (r sc e) fun J h=>yes (ahU h)
noncomputable def aqZ(e:List cZ):Option {m:Option ME // Sif (At B sc) e m}:=match e with
 | []=>yes aeF
 | [e]=>oE (r sc e) fun J h=>yes (aeG h)
 | _=>none
abbrev TrS(e:cZ):=Option {p:Sk×List ME // Srn (At B sc) e p.1 p.2}
noncomputable def aq0(e:cZ):TrS B sc e:=wj (nfB e=true) fun h=>oE (r sc e) fun m q=>yes (a:=(.plain,[m])) (abJ (an9 h) q)
noncomputable def ajO(e:cZ):TrS B sc e:=alt (oE (eCn e) fun z hz=>alt (wj (z.1="range") fun h=>bnB B sc "range" (.type "range") fun g=>oE (r sc z.2.2.1) fun m q=>yes (a:=(.range,[m])) (hz▸h▸abK g q))
   (wj (z.1="enumerate") fun h=>bnB B sc "enumerate" (.type "enumerate") fun g=>oE (r sc z.2.2.1) fun m q=>yes (a:=(.enum,[m])) (hz▸h▸aex g q))) (aq0 B r sc e)
end
abbrev TrP(sc:Sc)(t:cZ):=Option {p:Pt×List Nat // Ptn (At B sc) t p.1 p.2}
noncomputable def aob(sc:Sc):(es:List cZ)->Option {ks:List Nat // Nms (At B sc) es ks}
 | []=>yes ah9
 | .Name x _::es=>opt (sc.vs.lookup x) fun J h=>wj (x∈sc.wn) fun hw=>oE (aob sc es) fun J t=>yes (aev h hw t)
 | _=>none
noncomputable def aoc(sc:Sc)(t:cZ):TrP B sc t:=match t with
 | .Name x _=>opt (sc.vs.lookup x) fun k h=>wj (x∈sc.wn) fun hw=>yes (a:=(.v k,[k])) (anT h hw)
 | .Tuple es _ _=>oE (aob B sc es) fun ks t=>yes (a:=(.t (ks.map .v),ks)) (anU t)
 | _=>none
noncomputable def aeS(scope:jD)(sc':Sc)(ks:List Nat):Prop:=∀ p∈sc'.vs,lN scope p.1=1∨p.2∈ks
noncomputable instance {scope:jD}{sc':Sc}{ks:List Nat}:Decidable (aeS scope sc' ks):=inferInstanceAs (Decidable (∀ p∈sc'.vs,lN scope p.1=1∨p.2∈ks))
theorem aeT{scope:jD}{sc':Sc}{ks:List Nat}(h:aeS scope sc' ks){x:Str}{k:Nat}(e:sc'.vs.lookup x=some k)(n:scope.names.lookup x≠some .free):k∈ks:=(h _ (jh e)).elim (fun q=>(n (J8 q)).elim) id
structure CpP(B:Bs)(sc:Sc)(elt tgt Em:cZ)(ifs:List cZ)(scope:jD)(q:Pt×Sk×List ME×Option ME×ME):Prop where
 ex:∃ sc' ks,Within sc scope sc'/\(∀ {nm k},sc'.vs.lookup nm=some k->scope.names.lookup nm≠some .free->k∈ks)/\Srn (At B sc) Em q.2.1 q.2.2.1/\Ptn (At B sc') tgt q.1 ks/\Gi q.2.1 tgt/\Sif (At B sc') ifs q.2.2.2.1/\Sn (At B sc') elt q.2.2.2.2
noncomputable def aoe(r:∀ sc e,TrE B sc e)(sc:Sc)(elt tgt Em:cZ)(ifs:List cZ)(scope:jD):Option {q:Pt×Sk×List ME×Option ME×ME // CpP B sc elt tgt Em ifs scope q}:=
 (fun sc'=>wj (WiW sc scope sc') fun h1=>oE (aoc B sc' tgt) fun p hp=>wj (aeS scope sc' p.2) fun h2=>oE (ajO B r sc Em) fun s hs=>wj (tgB s.1 tgt=true) fun h3=>oE (aqZ B r sc' ifs) fun c hc=>oE (r sc' elt) fun m hm=>
  yes (a:=(p.1,s.1,s.2,c,m)) ⟨⟨sc',p.2,h1.ok,aeT h2,hs,hp,ajM h3,hc,hm⟩⟩) (ajK sc scope sc.lam)
end
end
section
section
variable{B:Bs}{sc:Sc}{elt tgt Em:cZ}{ifs:List cZ}{scope:jD}{q:Pt×Sk×List ME×Option ME×ME}
theorem CpP.sn{pos:Pos}(h:CpP B sc elt tgt Em ifs scope q):Sn (At B sc) (.ListComp elt [⟨tgt,Em,ifs,0⟩] scope pos) (.comp q.1 q.2.1 q.2.2.1 q.2.2.2.1 q.2.2.2.2):=h.ex.elim fun J q=>q.elim fun J q=>aav q.1 q.2.1 q.2.2.1 q.2.2.2.1 q.2.2.2.2.1 q.2.2.2.2.2.1 q.2.2.2.2.2.2
theorem CpP.zn{nm:Str}{p0 pos pos2:Pos}{k:Nat}(hx:sc.vs.lookup nm=some k)(hw:nm∈sc.wn)(h:CpP B sc elt tgt Em ifs scope q):Zn (At B sc) (.Assign [.Name nm p0] (.ListComp elt [⟨tgt,Em,ifs,0⟩] scope pos) pos2) (.eG (.v k) (.comp q.1 q.2.1 q.2.2.1 q.2.2.2.1 q.2.2.2.2)):=
 h.ex.elim fun J q=>q.elim fun J q=>aii hx hw q.1 q.2.1 q.2.2.1 q.2.2.2.1 q.2.2.2.2.1 q.2.2.2.2.2.1 q.2.2.2.2.2.2
end
noncomputable def alr(v:au):Option {f:aH // v=.ref f}:=match v with
 | .ref f=>yes (P:=fun g=>kY f=.ref g) rfl
 | _=>none
noncomputable def tlB(e:cZ):Bool:=dF (eK e) 3 || dF (eK e) 4
noncomputable def swN(tgt e:cZ):Bool:= !(tlB tgt && aoa e)
theorem als{B:Bs}{g:Nat×V×List (Nat×V)->Bool}{c:Nat×V×List (Nat×V)}{f:Nat}(h:B.cats.find? g=some c)(hf:c.1=f):(f,c.2.1,c.2.2)∈B.cats:=hf▸(show(c.1,c.2.1,c.2.2)∈B.cats from oW h)
theorem alu{tgt e:cZ}{env:Env}(h:swN tgt e=true):swappedStores [tgt] e env=pure none:=by
 cases tgt <;> first | exact rfl | (cases e <;> first | exact rfl | exact ff h)
section
variable(B:Bs)(ss:alq B)(mu:List Nat)(r:∀ sc e,TrE B sc e)(sc:Sc)
abbrev TrC(x:Str)(p:Pos)(es:List cZ)(pos:Pos):=TrE B sc (.Call (.Name x p) es [] pos)
variable(x:Str)(p:Pos)(es:List cZ)(pos:Pos)
noncomputable def ajP(scope:jD)(sc':Sc):Prop:=∀ p∈sc'.vs,lN scope p.1=1
noncomputable instance {scope:jD}{sc':Sc}:Decidable (ajP scope sc'):=inferInstanceAs (Decidable (∀ p∈sc'.vs,lN scope p.1=1))
noncomputable def aiu:TrC B sc x p es pos:=match es with
 | [.Lambda ⟨[],[],none,[],[],none,[]⟩ body scope _]=>oE (glB B sc x) fun v hg=>oE (alr v) fun f e=>opt (B.cats.find? fun c=>dF c.1 f) fun c hc=>wj (c.1=f) fun hf=>opt sc.lam fun t hl=>wj (t∈B.tabs) fun ht=>
  (fun(sc':Sc) (h0:sc'.lam=none)=>wj (WiW sc scope sc') fun h1=>wj (ajP scope sc') fun h2=>wj (scope.isCoroutine=false/\scope.isGenerator=false) fun h3=>oE (r sc' body) fun m hm=>
   yes (aeQ (e▸hg) (als hc hf) hl ht h1.ok (fun e=>J8 (h2 _ (jh e))) h0 h3 hm)) (ajK sc scope none) rfl
 | _=>none
noncomputable def aq1:TrC B sc x p es pos:=oE (glB B sc x) fun v hg=>oE (alr v) fun f e=>oE (YD B r sc es) fun J hl=>alt (wj ((B.pg.fn f).isSome=true) fun hf=>yes (ahZ (e▸hg) hf hl)) (opt (B.ini f) fun J hi=>yes (ak1 (e▸hg) hi hl))
noncomputable def aq2:TrC B sc x p es pos:=opt (biT x) fun b J=>opt (biF b) fun f hb=>bnB B sc x f fun g=>oE (YD B r sc es) fun J hl=>yes (anA hb g hl)
include ss in
noncomputable def aof:TrC B sc x p es pos:=match es with
 | [e]=>oE (eCn e) fun z hz=>wj (x="sorted") fun h=>wj (z.1="set") fun h'=>bnB B sc "sorted" (.builtin "sorted") fun g=>bnB B sc "set" (.type "set") fun g'=>oE (r sc z.2.2.1) fun J hm=>yes (hz▸h▸h'▸ss g g' hm)
 | _=>none
noncomputable def aq3:TrC B sc x p es pos:=match es with
 | []=>wj (x="bytearray") fun h=>bnB B sc "bytearray" (.type "bytearray") fun g=>yes (h▸aef g)
 | _=>none
noncomputable def alv:TrC B sc x p es pos:=alt (aq1 B r sc x p es pos) (alt (aiu B r sc x p es pos) (alt (aq2 B r sc x p es pos) (alt (aof B ss r sc x p es pos) (aq3 B sc x p es pos))))
noncomputable def alw(o:cZ)(a:Str)(ap:Pos):TrE B sc (.Call (.Attribute o a ap) es [] pos):=wj ((ap.endLine==pos.line)=true) fun h1=>wj (es.length<=25) fun hz=>oE (r sc o) fun J hm=>oE (YD B r sc es) fun J hl=>
 alt (opt (bmT a es.length) fun b J=>opt (bmD b) fun d hb=>wj (d.a=a) fun ha=>yes (ha▸anF h1 hb hm hl hz)) (oE (ait a B.nms) fun J hn=>yes (aeh h1 hn hm hl hz))
noncomputable def aq4(e:cZ):TrE B sc e:=match e with
 | .Constant c _ _=>opt (cvl c) fun J h=>yes (ad7 h)
 | .Name x _=>alt (opt (sc.vs.lookup x) fun J h=>wj (yD x=true) fun ho=>yes (akR h ho)) (oE (glB B sc x) fun rv hg=>opt (gvl rv) fun J hv=>yes (ahL hg hv))
 | .Attribute o a _=>oE (r sc o) fun J hm=>oE (ait a B.nms) fun J hf=>yes (ahS hm hf)
 | .BinOp l op e _=>opt (opv op) fun J ho=>oE (r sc l) fun J ha=>oE (r sc e) fun J hb=>yes (akT ho ha hb)
 | .UnaryOp op e _=>oE (r sc e) fun J hm=>(match op with
  | .USub=>yes (akU hm)
  | .Not=>yes (akV hm)
  | _=>none)
 | .BoolOp _ es _=>oE (YD B r sc es) fun J hl=>yes (ahN hl)
 | .Compare l ops es _=>oE (r sc l) fun J ha=>(match ops,es with
  | [op],[b]=>wj (behindInMarks op b=false) fun h=>oE (r sc b) fun J hb=>yes (akX h ha hb)
  | [_,op2],[b,c]=>wj (behindInMarks op2 c=false) fun h=>oE (r sc b) fun J hb=>oE (r sc c) fun J hc=>yes (ahO h ha hb hc)
  | _,_=>none)
 | .IfExp c a b _=>oE (r sc c) fun J hc=>oE (r sc a) fun J ha=>oE (r sc b) fun J hb=>yes (akW hc ha hb)
 | .Tuple es _ _=>wj (es.length<=1000) fun h=>oE (YD B r sc es) fun J hl=>yes (akY h hl)
 | .List es pos=>wj (es.length<=1000) fun h=>oE (YD B r sc es) fun J hl=>alt (wj (mu.any (dF pos.line)=true) fun J=>yes (ahQ h hl)) (yes (ahP h hl))
 | .Dict [] [] _=>yes ahR
 | .Subscript o i _=>oE (r sc o) fun J ha=>(match i with
  | .Slice lo hi none _=>oE (trO B r sc lo) fun J hl=>oE (trO B r sc hi) fun J hh=>yes (aec ha hl hh)
  | i=>oE (r sc i) fun J hb=>yes (akZ ha hb))
 | .ListComp elt [⟨tgt,it,ifs,ia⟩] scope pos=>wj (ia=0) fun h=>oE (aoe B r sc elt tgt it ifs scope) fun J q=>yes (h▸q.sn)
 | .Call f es [] pos=>(match f with
  | .Name x p=>alv B ss r sc x p es pos
  | .Attribute o a ap=>alw B r sc es pos o a ap
  | _=>none)
 | _=>none
end
end
section
section
variable(B:Bs)(ss:alq B)(mu:List Nat)
noncomputable def trE(n:Nat):∀ sc e,TrE B sc e:=Nat.rec (fun J J=>none) (fun J r sc e=>aq4 B ss mu r sc e) n
section
variable(r:∀ sc e,TrE B sc e)(sc:Sc)
abbrev TrT(sc:Sc)(e:cZ):=Option {t:Tg // Tn (At B sc) e t}
noncomputable def alx(rt:∀ sc e,TrT B sc e)(sc:Sc):(es:List cZ)->Option {t:List Tg // Tns (At B sc) es t}
 | []=>yes ah0
 | e::es=>oE (rt sc e) fun J h=>oE (alx rt sc es) fun J t=>yes (aei h t)
noncomputable def aq5(rt:∀ sc e,TrT B sc e)(e:cZ):TrT B sc e:=match e with
 | .Name x _=>opt (sc.vs.lookup x) fun J h=>wj (x∈sc.wn) fun hw=>yes (aqB h hw)
 | .Attribute o a _=>oE (r sc o) fun J hm=>oE (ait a B.nms) fun J hf=>yes (anH hm hf)
 | .Subscript o i _=>oE (r sc o) fun J ha=>oE (r sc i) fun J hb=>yes (ak2 ha hb)
 | .Tuple es _ _=>oE (alx B rt sc es) fun J hl=>yes (anI hl)
 | _=>none
noncomputable def trT(n:Nat):∀ sc e,TrT B sc e:=Nat.rec (fun J J=>none) (fun J rt sc e=>aq5 B r sc rt e) n
noncomputable def aq6(tgt e:cZ):Option {t:Tg // Tn (At B sc) tgt t/\∀ {p},At B sc p->Sw tgt t e p}:=alt (wj (swN tgt e=true) fun h=>oE (trT B r 5 sc tgt) fun J ht=>yes ⟨ht,fun J=>.no (alu h)⟩) (match tgt,e with
 | .Tuple ts _ _,.Tuple es _ _=>wj ((es.all (foldedForSure 8) || !(es.all (constantsAlone 8)))=true) fun h=>oE (alx B (trT B r 5) sc ts) fun J hl=>yes ⟨anI hl,fun hp=>ak3 hl h hp⟩
 | _,_=>none)
abbrev TrZ(sc:Sc)(x:uf):=Option {m:MS // Zn (At B sc) x m}
noncomputable def aog{x:uf}(o:TrZ B sc x):{m:MS // Zn (At B sc) x m}:=match o with
 | some q=>q
 | none=>⟨_,ael⟩
noncomputable def YF(rs:∀ sc x,{m:MS // Zn (At B sc) x m})(sc:Sc):(l:List uf)->{m:List MS // Zns (At B sc) l m}
 | []=>⟨[],ah2⟩
 | x::l=>⟨(rs sc x).1::(YF rs sc l).1,aek (rs sc x).2 (YF rs sc l).2⟩
noncomputable def aq8(tgt e:cZ)(pos:Pos):TrZ B sc (.Assign [tgt] e pos):=alt (wj (ncB e=true) fun hc=>oE (aq6 B r sc tgt e) fun J ht=>oE (r sc e) fun J hm=>yes (ak5 (ajL hc) ht.2 ht.1 hm)) (match tgt,e with
 | .Name y _,.ListComp elt [⟨tgt,it,ifs,ia⟩] scope _=>opt (sc.vs.lookup y) fun J h=>wj (y∈sc.wn) fun hw=>wj (ia=0) fun hi=>oE (aoe B r sc elt tgt it ifs scope) fun J q=>yes (hi▸q.zn h hw)
 | _,_=>none)
noncomputable def aq9(rs:∀ sc x,{m:MS // Zn (At B sc) x m})(x:uf):TrZ B sc x:=match x with
 | .Expr e _=>wj (ncB e=true) fun h=>oE (r sc e) fun J hm=>yes (ah3 (ajL h) hm)
 | .Pass _=>yes ah4
 | .Continue _=>yes ah5
 | .Return none _=>yes ah6
 | .Return (some e) _=>oE (r sc e) fun J hm=>yes (ak4 hm)
 | .Assign [tgt] e pos=>aq8 B r sc tgt e pos
 | .If c a b _=>oE (r sc c) fun J hm=>yes (anM hm (YF B rs sc a).2 (YF B rs sc b).2)
 | .While c a [] _=>oE (r sc c) fun J hm=>yes (aen hm (YF B rs sc a).2)
 | .For tgt it a [] _=>oE (ajO B r sc it) fun s hs=>wj (tgB s.1 tgt=true) fun hg=>oE (aoc B sc tgt) fun J hp=>yes (ak7 hs hp (ajM hg) (YF B rs sc a).2)
 | .Raise (some (.Call (.Name y _) [e] [] _)) none _=>oE (glB B sc y) fun J hg=>oE (alr _) fun C h=>wj (C∈B.exs) fun hx=>oE (r sc e) fun J hm=>yes (aeJ (h▸hg) hx hm)
 | _=>none
end
noncomputable def trS(N n:Nat):∀ sc x,{m:MS // Zn (At B sc) x m}:=Nat.rec (fun J J=>⟨_,ael⟩) (fun J rs sc x=>aog B sc (aq9 B (trE B ss mu N) sc rs x)) n
noncomputable def trB(sc:Sc)(l:List uf):{m:List MS // Zns (At B sc) l m}:=YF B (trS B ss mu 40 20) sc l
end
end
section
noncomputable def mkT(place:Array Nat)(led:Bool):SetTable:=⟨7,place,#[],0,led,0,true⟩
theorem aiv:∀ led:Bool,∀ i:Fin 8,∀ h:Fin 16,(match(mkT #[i.val] led).freeSlot (h.val:Int) with | some (j,d)=> !d && decide (j < 8) && decide (j≠i.val) | none=>false)=true:=by decide +kernel
theorem aeU:∀ led:Bool,∀ h:Fin 16,(mkT #[] led).freeSlot (h.val:Int)=some (h.val % 8,false):=by decide +kernel
theorem Dt:Slot "set" "__iter__" "set.__iter__":=.of (owner:="set") (n:="__iter__") (by rw[cP,bO]; kernel_rfl) (by decide +kernel) (by decide +kernel) (by decide +kernel)
  (by first | exact .inl (by decide +kernel) | exact .inr (by decide +kernel)) (by rw[j7]; kernel_rfl)
theorem kJ:Slot "set_iterator" "__next__" "set_iterator.__next__":=.of (owner:="set_iterator") (n:="__next__") (by rw[cP,bO]; kernel_rfl) (by decide +kernel) (by decide +kernel) (by decide +kernel)
  (by first | exact .inl (by decide +kernel) | exact .inr (by decide +kernel)) (by rw[j7]; kernel_rfl)
theorem zy:Slot "set_iterator" "__iter__" "set_iterator.__iter__":=.of (owner:="set_iterator") (n:="__iter__") (by rw[cP,bO]; kernel_rfl) (by decide +kernel) (by decide +kernel) (by decide +kernel)
  (by first | exact .inl (by decide +kernel) | exact .inr (by decide +kernel)) (by rw[j7]; kernel_rfl)
theorem Mw:entryFor table "set.__iter__"=some dW.«frozenset.__iter__»:=Bx (id':="frozenset.__iter__") (by kernel_rfl) rfl (by decide +kernel) (by kernel_rfl)
theorem H7:entryFor table "set_iterator.__iter__"=some dW.«dict_keyiterator.__iter__»:=Bx (id':="dict_keyiterator.__iter__") (by kernel_rfl) rfl (by decide +kernel) (by kernel_rfl)
theorem O9(a:au):argsOk "set.__iter__" ⟨[a],[]⟩:=by unfold argsOk; kernel_rfl
theorem zA(a:au):argsOk "set_iterator.__next__" ⟨[a],[]⟩:=by unfold argsOk; kernel_rfl
theorem JV(a:au):argsOk "set_iterator.__iter__" ⟨[a],[]⟩:=by unfold argsOk; kernel_rfl
theorem w7:entryFor table "set_iterator.__next__"=some dW.«set_iterator.__next__»:=xZ (by kernel_rfl)
theorem aiw:typeLookup (.type "set") "__len__"=pure (some (.builtin "set.__len__")):=by rw[cP,bO]; kernel_rfl
section
variable{prog:dO}{w:cY}{A:cI}{E:au->aB->Prop}{s:aB}{r:aH}{Q:Bool->aB->Prop}
theorem aeV(hT:s.TypeIs (.ref r) "set")(h:Q false s):bD (model prog w) A (uh (.ref r)) Q E s:=by
 unfold uh
 refine aq (cQ hT aiw ?_)
 generalize hid:("set.__len__":String)=id0
 wp_delta
 rw[show splitId id0=some ("set","__len__") from by subst hid; decide +kernel]
 subst hid
 refine aq (lV (T:="set") (b:=true) hT (by rw[j7]; kernel_rfl) ?_)
 refine jH (fun hab=>absurd hab (by decide)) (fun J=>?_)
 refine jH (fun J=>?_) (fun hab=>absurd (by decide +kernel) hab)
 refine aq (za hT ?_)
 exact aJ h
end
end
section
noncomputable def rD(es:Array (Int×au))(ep:Nat)(t:SetTable):Obj:={cls:=.type "set",dict:=none,data:=.set es ep t}
noncomputable abbrev zU(w:cY):Bool:=w.params.followText "set-order"
noncomputable def oU(w:cY)(a:aH)(ep:Nat)(es:Array (Int×au)):Array (Int×au):=if zU w then pickOrder (w.params.setOrder a ep) es else es
noncomputable def sl(b:Bool)(place:Array Nat):Nat->Nat
 | 0=>0
 | i + 1=>if b then 0 else place.getD i 0 + 1
structure En(es:Array (Int×au))(place:Array Nat):Prop where
 n:place.size=es.size
 le:es.size<=7
 at_:∀ i,i<=es.size->lX place (sl false place i)=i
theorem En.fits{es:Array (Int×au)}{place:Array Nat}{led:Bool}(r:En es place):(mkT place led).fits es.size=true:=by
 show(place.size==es.size && decide (place.size + 0<=7))=true
 have:=r.le
 rw[r.n,BEq.rfl,decide_eq_true (by omega)]; rfl
section
variable{prog:dO}{w:cY}{A:cI}{E:au->aB->Prop}{s:aB}{a:aH}{es:Array (Int×au)}{ep:Nat}{place:Array Nat}
theorem YG{Q:Bool->aB->Prop}(h:Q (zU w) s):bD (model prog w) A setsByText Q E s:=aq (rR (aJ h))
theorem YH(r:En es place)(ho:s.heap.get? a=some (rD es ep (mkT place (!zU w)))){Q:Array (Int×au)->aB->Prop}(h:Q (oU w a ep es) s):bD (model prog w) A (setWalk a) Q E s:=by
 unfold setWalk
 refine aq (jE ho rfl r.fits ?_)
 dsimp only
 refine aq (YG ?_)
 unfold oU at h
 cases hb:zU w with
 | true=>
  rw[hb,if_pos rfl] at h
  rw[if_pos rfl]
  exact aq (rR (aJ h))
 | false=>
  rw[hb,if_neg bC] at h
  rw[if_neg bC]
  refine jH (fun c=>rK (show false=true from c)) fun J=>?_
  refine aq (bJ (a:=()) rfl ?_)
  exact aJ h
theorem YJ(r:En es place)(ho:s.heap.get? a=some (rD es ep (mkT place (!zU w)))){i:Nat}(hi:i<=es.size){Q:Option (au×Nat)->aB->Prop}
  (h:Q (((oU w a ep es)[i]?).map fun e=>(e.2,sl (zU w) place (i + 1))) s):bD (model prog w) A (setNext a (sl (zU w) place i) i ep) Q E s:=by
 have ra:=r.at_ i hi
 unfold setNext
 refine aq (jE ho rfl r.fits ?_)
 dsimp only
 refine aq (YG ?_)
 cases hb:zU w with
 | true=>
  rw[if_pos rfl]
  rw[hb] at h
  refine jH (fun c=>by simp at c) fun J=>?_
  refine aq (YH r ho ?_)
  refine aJ ?_
  cases i <;> exact h
 | false=>
  rw[if_neg bC]
  rw[hb] at h
  unfold oU at h
  rw[hb,if_neg bC] at h
  refine jH (fun c=>rK (show false=true from c)) fun J=>?_
  refine aq (bJ (a:=()) rfl ?_)
  refine aJ ?_
  show Q (match es[lX place (sl false place i)]?,place[lX place (sl false place i)]? with | some (_,x),some j=>some (x,j + 1) | _,_=>none) s
  rw[ra]
  rcases yW i es.size with lt | ge
  ·have lt':i < place.size:=by rw[r.n]; exact lt
   rw[fO lt] at h ⊢
   rw[fO lt']
   have e:sl false place (i + 1)=place[i] + 1:=by
    show place.getD i 0 + 1=_
    rw[tZ,fO lt']; rfl
   rw[e] at h
   exact h
  ·rw[jP ge] at h ⊢
   exact h
end
end
section
noncomputable def Eo(sl:Nat)(i:Nat)(a:aH)(n ep:Nat):Obj:={cls:=.type "set_iterator",data:=.fields #[.int sl 0,.int i 0,.ref a,.int n 0,.int ep 0]}
section
variable{prog:dO}{w:cY}{A:cI}{E:au->aB->Prop}{s:aB}{a I:aH}{es:Array (Int×au)}{ep:Nat}{place:Array Nat}
theorem yG{led:Bool}(ho:s.heap.get? a=some (rD es ep (mkT place led))):s.TypeIs (.ref a) "set":=⟨_,ho,rfl⟩
theorem YK(r:En es place)(ho:s.heap.get? a=some (rD es ep (mkT place (!zU w)))){Q:au->aB->Prop}
  (hQ:Q (.ref s.heap.objs.size) {s with heap:=s.heap.push (Eo 0 0 a es.size ep)}):bD (model prog w) A (pyIter (.ref a)) Q E s:=by
 refine wpAny_pyIter_slot (yG ho) Dt (lW Dt (yG ho) Mw ?_ (O9 _))
 unfold dW.«frozenset.__iter__»
 refine aq (bJ (a:=a) rfl ?_)
 refine aq (m:=Builtin.Frozenset.sizeOf a) ?_
 unfold Builtin.Frozenset.sizeOf setEntries
 refine aq (aq (jE ho rfl r.fits (aJ ?_)))
 refine aJ ?_
 dsimp only
 refine aq (m:=setDrawn a) ?_
 unfold setDrawn
 refine aq (jE ho rfl r.fits ?_)
 dsimp only
 refine aq (YG ?_)
 refine bJ (a:=false) (by cases zU w <;> rfl) ?_
 rw[if_neg bC]
 refine aq (aJ ?_)
 refine aq (wpAny_setEpoch_of ho rfl r.fits ?_)
 exact aq (lC (aJ ⟨_,rfl,"set_iterator",_,⟨_,bK _ rfl,rfl⟩,kJ.lookup,hQ⟩))
theorem Sv{k i n:Nat}(hit:s.heap.get? I=some (Eo k i a n ep)){Q:au->aB->Prop}(h:Q (.ref I) s):bD (model prog w) A (pyIter (.ref I)) Q E s:=by
 have hT:s.TypeIs (.ref I) "set_iterator":=⟨_,hit,rfl⟩
 refine wpAny_pyIter_slot hT zy (lW zy hT H7 ?_ (JV _))
 show bD _ _ (ret (.ref I)) _ _ s
 exact aJ ⟨_,rfl,"set_iterator",_,hT,kJ.lookup,h⟩
theorem Vw(r:En es place)(ho:s.heap.get? a=some (rD es ep (mkT place (!zU w)))){i:Nat}(hit:s.heap.get? I=some (Eo (sl (zU w) place i) i a es.size ep))(hi:i<=es.size){Q:PySem.Fin->aB->Prop}
  (h:bD (model prog w) A (match((oU w a ep es)[i]?).map fun e=>(e.2,sl (zU w) place (i + 1)) with
   | some (x,next)=>do
    setField (.ref I) 0 (rawInt next)
    setField (.ref I) 1 (rawInt ((i:Int) + 1))
    ret x
   | none=>do
    setField (.ref I) 2 .none
    let e ← newExc (.type "StopIteration") []
    raiseNew e) Q E s):bD (model prog w) A (dW.«set_iterator.__next__» ⟨[.ref I],[]⟩) Q E s:=by
 unfold dW.«set_iterator.__next__»
 refine aq (bJ (a:=(.ref I,[])) rfl ?_)
 dsimp only
 refine aq (wpAny_fieldsOf hit rfl ?_)
 dsimp only
 refine aq (m:=setEntries a) ?_
 unfold setEntries
 refine aq (jE ho rfl r.fits (aJ ?_))
 dsimp only
 rw[if_neg (by simp)]
 refine aq ?_
 simp only[cH]
 exact YJ r ho hi h
theorem Vx(r:En es place)(ho:s.heap.get? a=some (rD es ep (mkT place (!zU w)))){i:Nat}(hit:s.heap.get? I=some (Eo (sl (zU w) place i) i a es.size ep))(hi:i < es.size){e:Int×au}(hx:(oU w a ep es)[i]?=some e)
  {Q:Option au->aB->Prop}(hQ:∀ h',h'.get? I=some (Eo (sl (zU w) place (i + 1)) (i + 1) a es.size ep)->dZ I s.heap h'->Q (some e.2) {s with heap:=h'}):
  bD (model prog w) A (pyNext (.ref I)) Q E s:=by
 have hT:s.TypeIs (.ref I) "set_iterator":=⟨_,hit,rfl⟩
 unfold pyNext
 refine aq (wN (qt (name:=yZ "__next__") hT kJ (lW kJ hT w7 (Vw r ho hit (bH hi) ?_) (zA _))))
 rw[hx]
 refine aq (u0 hit (by simp) fun h1 e1 s1=>?_)
 refine aq (u0 (s:={s with heap:=h1}) e1 (by simp) fun h2 e2 s2=>?_)
 exact aJ ⟨_,rfl,aJ (hQ h2 e2 (s1.trans s2))⟩
theorem YL(hh:A.handled=none)(r:En es place)(ho:s.heap.get? a=some (rD es ep (mkT place (!zU w))))(hit:s.heap.get? I=some (Eo (sl (zU w) place es.size) es.size a es.size ep))(hn:(oU w a ep es).size=es.size)
  {Q:Option au->aB->Prop}(hQ:∀ h',Heap.ExtBut I s.heap h'->Q none {s with heap:=h'}):bD (model prog w) A (pyNext (.ref I)) Q E s:=by
 have hT:s.TypeIs (.ref I) "set_iterator":=⟨_,hit,rfl⟩
 unfold pyNext
 refine aq (wN (qt (name:=yZ "__next__") hT kJ (lW kJ hT w7 (Vw r ho hit (bf _) ?_) (zA _))))
 rw[jP (by rw[hn]; exact bf _)]
 refine aq (u0 hit (by simp) fun h1 e1 s1=>?_)
 show bD _ _ (newExc (.type "StopIteration") [] >>= _) _ _ _
 refine aq ?_
 simp only[newExc,newTuple]
 refine aq (lC ?_ (by size_fits))
 refine aq (m:=firstArgMember _ _) (bJ (a:=n7) (by first | rfl | (simp only[firstArgMember]; rfl)) ?_)
 refine lC ?_ (by size_fits)
 simp only[raiseNew]
 refine aq (wpAny_handled ?_)
 rw[show A.in1.handled=none from hh]
 refine aq (aJ (wpAny_throw ?_))
 refine aq (lV (T:="StopIteration") (b:=true) ⟨_,bK _ rfl,rfl⟩ isSubtype_stop ?_)
 exact aJ (hQ _ ((s1.extBut.push _).push _))
theorem ab0(hh:A.handled=none)(r:En es place)(hn:(oU w a ep es).size=es.size)(hne:a≠I):
  Walks prog w A I [I,a] [I] es.size (fun i v=>((oU w a ep es)[i]?).map (·.2)=some v) (fun i h=>h.get? I=some (Eo (sl (zU w) place i) i a es.size ep)/\h.get? a=some (rD es ep (mkT place (!zU w)))) where
 sub:=fun b hb=>by simp at hb; simp [hb]
 frame:=fun J J J st hk=>⟨hk I (by simp) _ st.1,hk a (by simp) _ st.2⟩
 item:=fun i s Q E hi st hQ=>by
  have lt:i < (oU w a ep es).size:=by rw[hn]; exact hi
  refine Vx r st.2 st.1 hi (fO lt) fun h' hit' hs'=>?_
  exact hQ _ h' s.toks (by rw[fO lt]; rfl) ⟨hit',(hs'.2 a hne).trans st.2⟩ fun b o hb e=>hs'.extBut b o (fun h=>hb (by simp [h])) e
 done:=fun s Q E st hQ=>YL hh r st.2 st.1 hn fun h' he'=>hQ h' s.toks fun b o hb e=>he' b o (fun h=>hb (by simp [h])) e
 self:=fun J J J J st hQ=>Sv st.1 hQ
theorem aiy(r:En es place)(hn:(oU w a ep es).size=es.size):KdlSrc prog w "set" a a es.size (fun i v=>((oU w a ep es)[i]?).map (·.2)=some v) (fun h=>h.get? a=some (rD es ep (mkT place (!zU w)))) where
 type:=fun J ho=>yG ho
 there:=fun J ho=>⟨d8 ho,d8 ho⟩
 keep:=fun J J ho hk=>hk a (.inl rfl) _ ho
 notList:=by decide
 notTuple:=by decide
 hint:=fun J J J J ho hq=>aeV (yG ho) hq
 iter:=fun J s hh ho=>⟨_,_,(fun J J hq=>YK r ho hq),ab0 hh r hn (cB (d8 ho)),⟨bK _ rfl,aW _ ho⟩⟩
end
end
theorem ara(led:Bool)(k:Fin 16)(x:au):layNew (mkT #[] led) #[] (k.val:Int) x=(#[((k.val:Int),x)],mkT #[k.val % 8] led,false,false):=by
 unfold layNew
 rw[aeU]
 rfl
theorem arb(led:Bool)(i:Fin 8)(e:Int×au)(k:Fin 16)(x:au):∃ j:Fin 8,j≠i/\layNew (mkT #[i.val] led) #[e] (k.val:Int) x=
  if i.val < j.val then(#[e,((k.val:Int),x)],mkT #[i.val,j.val] led,false,false) else(#[((k.val:Int),x),e],mkT #[j.val,i.val] led,false,false):=by
 have f:=aiv led i k
 cases q:(mkT #[i.val] led).freeSlot (k.val:Int) with
 | none=>rw[q] at f; cases f
 | some p=>
  obtain⟨j,d⟩:=p
  rw[q] at f
  simp only[aL,gB,decide_eq_true_eq] at f
  obtain⟨⟨rfl,h8⟩,ne⟩:=f
  refine⟨⟨j,h8⟩,fun z=>ne (by rw[← z]),?_⟩
  unfold layNew
  rw[q]
  have bl:lX #[i.val] j=if i.val < j then 1 else 0:=by
   simp [lX,SetTable.below.go]
  by_cases c:i.val < j
  ·rw[if_pos c] at bl ⊢
   have pt:(mkT #[i.val] led).put j=(mkT #[i.val,j] led,1):=by
    unfold SetTable.put
    rw[show(mkT #[i.val] led).place=#[i.val] from rfl,bl]
    rfl
   dsimp only
   rw[pt]
   rfl
  ·rw[if_neg c] at bl ⊢
   have pt:(mkT #[i.val] led).put j=(mkT #[j,i.val] led,0):=by
    unfold SetTable.put
    rw[show(mkT #[i.val] led).place=#[i.val] from rfl,bl]
    rfl
   dsimp only
   rw[pt]
   rfl
theorem aoh:∀ i j:Fin 8,i.val < j.val->∀ n:Fin 3,lX #[i.val,j.val] (sl false #[i.val,j.val] n.val)=n.val:=by decide +kernel
theorem aoi:∀ i:Fin 8,∀ n:Fin 2,lX #[i.val] (sl false #[i.val] n.val)=n.val:=by decide +kernel
theorem En.one(i:Fin 8)(e:Int×au):En #[e] #[i.val]:=⟨rfl,by simp,fun n hn=>aoi i ⟨n,dM hn⟩⟩
theorem En.two{i j:Fin 8}(h:i.val < j.val)(e f:Int×au):En #[e,f] #[i.val,j.val]:=⟨rfl,by simp,fun n hn=>aoh i j h ⟨n,dM hn⟩⟩
theorem aeW(k:Fin 16):hashInt (k.val:Int)=(k.val:Int):=by revert k; decide +kernel
section
open PySem.Spec
section
variable{prog:dO}{w:cY}{A:cI}{E:au->aB->Prop}{s:aB}{a:aH}{es es':Array (Int×au)}{ep:Nat}{place Az:Array Nat}{led:Bool}
theorem uJ{k:Int}{t:Tok}:(intKind prog w).is k (.int k t)=true:=intKind_is _ _ _ _
theorem aiz{k:Int}{t:Tok}(ho:s.heap.get? a=some (rD es ep (mkT place led)))(hf:(mkT place led).fits es.size=true)(hel:ElemsOf (intKind prog w) es.toList)(hb:es.size < scanBound){j:Nat}
  (hj:es.toList.findIdx? (fun e=>(intKind prog w).is k e.2)=some j){Q:Bool->aB->Prop}(h:Q false s):bD (model prog w) A (setAddHashed a (.int k t) (hashInt k)) Q E s:=by
 unfold setAddHashed setAddHashedIn
 refine gO (aq (jE ho rfl hf ?_))
 dsimp only
 rw[byScan_of rfl hb hel]
 simp only[↓reduceIte]
 unfold setAddByScan
 refine aq ?_
 refine aq (pZ ?_)
 refine aq (wpAny_setScan_of (knd:=intKind prog w) (k:=k) uJ ho rfl hf hel ?_)
 rw[hj]
 exact aJ (aJ h)
theorem aiA{k:Int}{t:Tok}(ho:s.heap.get? a=some (rD es ep (mkT place led)))(hf:(mkT place led).fits es.size=true)(hel:ElemsOf (intKind prog w) es.toList)(hb:es.size < scanBound)
  (hj:es.toList.findIdx? (fun e=>(intKind prog w).is k e.2)=none)(hl:layNew (mkT place led) es (hashInt k) (.int k t)=(es',mkT Az led,false,false))(aeX:(mkT Az led).tooFull=false)(hz:es'.size<=sizeLine)
  {Q:Bool->aB->Prop}(h:∀ h',dZ a s.heap h'->h'.get? a=some (rD es' (ep + 1) (mkT Az led))->Q true {s with heap:=h'}):bD (model prog w) A (setAddHashed a (.int k t) (hashInt k)) Q E s:=by
 unfold setAddHashed setAddHashedIn
 refine gO (aq (jE ho rfl hf ?_))
 dsimp only
 rw[byScan_of rfl hb hel]
 simp only[↓reduceIte]
 unfold setAddByScan
 refine aq ?_
 refine aq (pZ ?_)
 refine aq (wpAny_setScan_of (knd:=intKind prog w) (k:=k) uJ ho rfl hf hel ?_)
 rw[hj]
 dsimp only
 rw[hl]
 dsimp only
 refine aq (bJ (a:=()) rfl ?_)
 refine jH (fun J=>?_) fun c=>absurd rfl c
 refine aq (bJ (a:=true) rfl ?_)
 rw[if_pos rfl]
 refine aq (wpAny_storeSet_of ho rfl ?_ hz)
 rw[aeX]
 refine jH (fun c=>by simp at c) fun J=>?_
 have hg:=jf (Obj.putSet es' (mkT Az led)) ho rfl
 exact aJ (aJ (h _ (jO ..) hg))
end
section
variable{prog:dO}{w:cY}{A:cI}{R:mQ->aB->Prop}{I:aH}{fp wr:List aH}{G:Array GenState->Array GenState->Prop}{n:Nat}{P:Nat->au->Prop}{St:Nat->aB->Prop}
theorem aoj(W:WalksS prog w A.in1 I fp wr G n P St)(S:aH)(hSf:S∉fp)(Inv:Nat->cD->Prop)(hkeep:∀ i h h',Inv i h->(∀ o,h.get? S=some o->h'.get? S=some o)->Inv i h')
  (hadd:∀ i v (s:aB) (Q:Bool->aB->Prop) (E:au->aB->Prop),i < n->P i v->Inv i s.heap->(∀ r h',dZ S s.heap h'->Inv (i + 1) h'->Q r {s with heap:=h',toks:=s.toks + 1})->bD (model prog w) A.in1 (setAdd S v) Q E s):
  ∀(k i:Nat) (s:aB),n - i=k->i<=n->St i s->Inv i s.heap->(∀ s',Moved (S::wr) G s s'->Inv n s'.heap->R (.ok (.ret .none)) s')->
   rZ (model prog w) A (.builtin "set.update.loop" ⟨[.ref S,.ref I],[]⟩) R s:=by
 have hSw:S∉wr:=fun h=>hSf (W.sub _ h)
 have hsub:∀ b∈wr,b∈S::wr:=fun b hb=>List.mem_cons_of_mem _ hb
 intro k
 induction k with
 | zero=>
  intro i s hk hi hst hS hR
  have hin:i=n:=zG hi (Nat.le_of_sub_eq_zero hk)
  subst hin
  refine pL F.entry_set_update_loop ?_
  rw[jx qu _]
  show bD _ A.in1 (pyNext (.ref I) >>= _) _ _ s
  refine aq (W.done s _ _ hst fun s' hm=>?_)
  show bD _ A.in1 (ret n7) _ _ s'
  exact aJ (hR s' (hm.mono hsub) (hkeep _ _ _ hS fun o ho=>hm.heap S o hSw ho))
 | succ k ih=>
  intro i s hk hi hst hS hR
  have hlt:i < n:=Nat.lt_of_sub_ne_zero (hk▸Nat.succ_ne_zero k)
  refine pL F.entry_set_update_loop ?_
  rw[jx qu _]
  show bD _ A.in1 (pyNext (.ref I) >>= _) _ _ s
  refine aq (W.item i s _ _ hlt hst fun v s' hP hst' hm=>?_)
  show bD _ A.in1 (holding [v] (setAdd S v) >>= _) _ _ s'
  refine aq (gO ?_)
  refine hadd i v s' _ _ hlt hP (hkeep _ _ _ hS fun o ho=>hm.heap S o hSw ho) fun r h' hsb hSi=>?_
  refine aJ ⟨sy qu _,ih (i + 1) _ (by rw[Nat.sub_succ,hk]; rfl) hlt (W.frame _ s' _ _ hst' (dw _) fun b hb o e=>?_) hSi fun s'' hm'' hS''=>?_⟩
  ·rw[hsb.2 b (fun h:b=S=>hSf (by rw[← h]; exact hb))]; exact e
  ·refine hR s'' (Moved.trans W.gtrans ((hm.mono hsub).then_heap (dw _) fun b o hb e=>?_) hm'') hS''
   rw[hsb.2 b (fun h:b=S=>hb (by rw[h]; exact List.mem_cons_self))]; exact e
end
end
section
open PySem.Spec
noncomputable def el(k:_root_.Fin 16)(t:Tok):Int×au:=((k.val:Int),.int (k.val:Int) t)
def aeY(w:cY)(a b:_root_.Fin 16)(ta tb:Tok)(S:aH)(h:cD):Prop:=
 ∃ es ep place,h.get? S=some (rD es ep (mkT place (!zU w)))/\En es place/\((a=b/\es=#[el a ta])∨(a≠b/\(es=#[el a ta,el b tb]∨es=#[el b tb,el a ta])))
def Sy(w:cY)(a b:_root_.Fin 16)(ta tb:Tok)(S:aH):Nat->cD->Prop
 | 0=>fun h=>∃ ep,h.get? S=some (rD #[] ep (mkT #[] (!zU w)))
 | 1=>fun h=>∃ ep,h.get? S=some (rD #[el a ta] ep (mkT #[a.val % 8] (!zU w)))
 | _=>aeY w a b ta tb S
section
variable{prog:dO}{w:cY}{A:cI}{E:au->aB->Prop}{s:aB}{a b:_root_.Fin 16}{ta tb:Tok}{S:aH}
theorem Sy.keep:∀ i h h',Sy w a b ta tb S i h->(∀ o,h.get? S=some o->h'.get? S=some o)->Sy w a b ta tb S i h'
 | 0,_,_,q,k=>q.elim fun ep e=>⟨ep,k _ e⟩
 | 1,_,_,q,k=>q.elim fun ep e=>⟨ep,k _ e⟩
 | _ + 2,_,_,q,k=>q.elim fun es q=>q.elim fun ep q=>q.elim fun pl q=>⟨es,ep,pl,k _ q.1,q.2⟩
theorem aly:ElemsOf (intKind prog w) (#[]:Array (Int×au)).toList:=fun e he=>nomatch he
theorem YM:ElemsOf (intKind prog w) (#[el a ta]:Array (Int×au)).toList:=fun e he=>by
 obtain rfl:e=el a ta:=by simpa using he
 exact⟨⟨(a.val:Int),uJ,(aeW a).symm⟩,rfl⟩
theorem aok{i:Nat}{led:Bool}:(mkT #[i] led).tooFull=false:=by simp [SetTable.tooFull,wO,mkT]
theorem ajQ{i j:Nat}{led:Bool}:(mkT #[i,j] led).tooFull=false:=by simp [SetTable.tooFull,wO,mkT]
theorem aol{led:Bool}:(mkT #[] led).fits 0=true:=by simp [SetTable.fits,wO,mkT]
theorem aeZ{i:Nat}{led:Bool}:(mkT #[i] led).fits 1=true:=by simp [SetTable.fits,wO,mkT]
theorem sz2{n:Nat}(h:n<=2):n<=sizeLine:=by rw[sizeLine_eq]; omega
theorem ajR{n:Nat}(h:n<=2):n < scanBound:=by unfold scanBound; omega
theorem Mz{es es':Array (Int×au)}{place Az:Array Nat}{led:Bool}{ep:Nat}{k:_root_.Fin 16}{t:Tok}(ho:s.heap.get? S=some (rD es ep (mkT place led)))(hf:(mkT place led).fits es.size=true)(hel:ElemsOf (intKind prog w) es.toList)(hb:es.size<=2)
  (hj:es.toList.findIdx? (fun e=>(intKind prog w).is (k.val:Int) e.2)=none)(hl:layNew (mkT place led) es (k.val:Int) (.int (k.val:Int) t)=(es',mkT Az led,false,false))(aeX:(mkT Az led).tooFull=false)(hz:es'.size<=2)
  {Q:Bool->aB->Prop}(h:∀ h',dZ S s.heap h'->h'.get? S=some (rD es' (ep + 1) (mkT Az led))->Q true {s with heap:=h'}):bD (model prog w) A (setAddHashed S (.int (k.val:Int) t) (hashInt (k.val:Int))) Q E s:=
 aiA ho hf hel (ajR hb) hj (by rw[aeW]; exact hl) aeX (sz2 hz) h
theorem ard{Q:Bool->aB->Prop}(i:Sy w a b ta tb S 0 s.heap)(h:∀ r h',dZ S s.heap h'->Sy w a b ta tb S 1 h'->Q r {s with heap:=h',toks:=s.toks + 1}):bD (model prog w) A (setAdd S (.int (a.val:Int) ta)) Q E s:=by
 obtain⟨ep,ho⟩:=i
 unfold setAdd
 refine gO (aq ((intKind prog w).pyHash (k:=(a.val:Int)) uJ ?_))
 exact Mz (s:={s with toks:=s.toks + 1}) ho aol aly (cL _) rfl (ara (!zU w) a (.int (a.val:Int) ta)) aok (dw 1) fun h' sb e=>h _ h' sb ⟨_,e⟩
theorem arf{Q:Bool->aB->Prop}(i:Sy w a b ta tb S 1 s.heap)(h:∀ r h',dZ S s.heap h'->Sy w a b ta tb S 2 h'->Q r {s with heap:=h',toks:=s.toks + 1}):bD (model prog w) A (setAdd S (.int (b.val:Int) tb)) Q E s:=by
 obtain⟨ep,ho⟩:=i
 unfold setAdd
 refine gO (aq ((intKind prog w).pyHash (k:=(b.val:Int)) uJ ?_))
 by_cases q:a=b
 ·subst q
  refine aiz (s:={s with toks:=s.toks + 1}) (j:=0) ho aeZ YM (ajR (dw 1)) ?_ ?_
  ·show([el a ta].findIdx? fun e=>(intKind prog w).is (a.val:Int) e.2)=some 0
   rw[uT,if_pos (show(intKind prog w).is (a.val:Int) (el a ta).2=true from uJ)]
  ·have:=h false s.heap (Heap.SameBut.refl _ _) ⟨_,_,_,ho,.one ⟨a.val % 8,mH _ (by decide)⟩ _,.inl ⟨rfl,rfl⟩⟩
   exact this
 ·obtain⟨j,hj,l⟩:=arb (!zU w) ⟨a.val % 8,mH _ (by decide)⟩ (el a ta) b (.int (b.val:Int) tb)
  have nf:([el a ta].findIdx? fun e=>(intKind prog w).is (b.val:Int) e.2)=none:=by
   rw[List.findIdx?_eq_none_iff]
   intro x hx
   obtain rfl:=aN.mp hx
   cases c:(intKind prog w).is (b.val:Int) (el a ta).2 with
   | false=>rfl
   | true=>
    have:=(intKind prog w).inj (el a ta).2 _ _ c uJ
    exact absurd (_root_.Fin.ext (by omega)) q
  have hb:(((b.val:Int),Value.int (b.val:Int) tb):Int×au)=el b tb:=rfl
  by_cases c:a.val % 8 < j.val
  ·rw[if_pos c] at l
   exact Mz (s:={s with toks:=s.toks + 1}) ho aeZ YM (dw 1) nf l ajQ (bf 2) fun h' sb e=>h _ h' sb ⟨_,_,_,e,.two (i:=⟨a.val % 8,mH _ (by decide)⟩) c _ _,.inr ⟨q,.inl rfl⟩⟩
  ·rw[if_neg c] at l
   have c':j.val < a.val % 8:=by
    have:j.val≠a.val % 8:=fun z=>hj (_root_.Fin.ext z)
    omega
   exact Mz (s:={s with toks:=s.toks + 1}) ho aeZ YM (dw 1) nf l ajQ (bf 2) fun h' sb e=>h _ h' sb ⟨_,_,_,e,.two (j:=⟨a.val % 8,mH _ (by decide)⟩) c' _ _,.inr ⟨q,.inr rfl⟩⟩
theorem H8(a:au){Q₁:au->aB->Prop}(h:Q₁ (.ref s.heap.objs.size) {s with heap:=s.heap.push (rD #[] 0 (mkT #[] (!zU w)))}):
  rZ (model prog w) A (.call (.builtin "set.__new__") ⟨[.type "set",a],[]⟩) (wants Q₁ E) s:=by
 refine pK ?_
 show bD _ A.in1 (do checkBuiltinCall "set.__new__" ⟨[.type "set",a],[]⟩; again (.builtin "set.__new__" ⟨[.type "set",a],[]⟩)) _ _ s
 refine aq (bJ (PySem.F.newCall_set_1 a) (aJ ⟨sy PySem.F.plain_set_new _,pL PySem.F.entry_set_new ?_⟩))
 rw[jx PySem.F.plain_set_new _]
 unfold dW.«set.__new__» Builtin.Frozenset.newClass
 have hsub:=sub_set_self
 obtain⟨hp,g,d,tk,os⟩:=s
 dsimp only
 wp_walk
 refine rR (aJ ?_)
 dsimp only
 simp only[newObj]
 refine aq (vU (aJ ?_))
 exact aJ h
end
end
section
open PySem.Spec
section
variable{prog:dO}{w:cY}{A:cI}{E:au->aB->Prop}{s:aB}{a b:_root_.Fin 16}{ta tb:Tok}
set_option maxHeartbeats 3200000 in
theorem ab1{l:aH}{Q:au->aB->Prop}(hh:A.handled=none)(hl:s.heap.IsList l #[.int (a.val:Int) ta,.int (b.val:Int) tb])
  (h:∀(h':cD) (tk:Nat),aeY w a b ta tb s.heap.objs.size h'->(∀ b o,b < s.heap.objs.size->s.heap.get? b=some o->h'.get? b=some o)->Q (.ref s.heap.objs.size) {s with heap:=h',toks:=tk}):
  bD (model prog w) A (call (.type "set") [.ref l]) Q E s:=by
 obtain⟨c,tl,hmro⟩:=PySem.F.called_set.mro
 have hmade:=PySem.F.called_set.made
 have hsub:=PySem.F.called_set.sub
 refine wpAny_call (pK ?_)
 show bD _ _ (callAny (.type "set") _) _ _ _
 refine aJ ⟨mU _ (by decide +kernel),pL PySem.F.entry_type_call ?_⟩
 rw[Around.under_plain (weight_type_call_type "set" [.ref l] []) rfl]
 have h1:=PySem.F.called_set.notType
 have h2:=PySem.F.called_set.canCreate
 have hct:=PySem.F.typeCall_set_1 (.ref l)
 repeat (any_goals (first | assumption | wp_step))
 refine codeAny_mono (H8 (.ref l) (E:=E) (Q₁:=fun obj c7=>obj=.ref s.heap.objs.size/\c7={s with heap:=s.heap.push (rD #[] 0 (mkT #[] (!zU w)))}) ⟨rfl,rfl⟩) fun r c7 hr=>?_
 cases r with
 | error e=>exact hr
 | ok fl=>
  cases fl with
  | ret obj=>
   obtain⟨rfl,rfl⟩:=hr
   have hS:(s.heap.push (rD #[] 0 (mkT #[] (!zU w)))).get? s.heap.objs.size=some (rD #[] 0 (mkT #[] (!zU w))):=bK _ rfl
   have hT:Shared.TypeIs {s with heap:=s.heap.push (rD #[] 0 (mkT #[] (!zU w)))} (.ref s.heap.objs.size) "set":=⟨_,hS,rfl⟩
   have hli:=PySem.F.called_set.init.lookup
   have hbi:=PySem.F.called_set.init.bind (.ref s.heap.objs.size)
   repeat (any_goals (first | assumption | wp_step))
   refine codeAny_mono (tu (R:=wants (fun r Aw=>r=.none/\∃ h' tk,Aw={s with heap:=h',toks:=tk}/\aeY w a b ta tb s.heap.objs.size h'/\
     (∀ b o,b < s.heap.objs.size->s.heap.get? b=some o->h'.get? b=some o)) E) PySem.F.called_set.init.plain PySem.F.entry_set_init (check_set_init_1 hT ?_)) fun arh Aw ae0=>?_
   ·obtain⟨ol,hol,hcl,nl,hdl⟩:=hl
    obtain⟨ocls,odict,odata,oslots⟩:=ol
    simp only at hcl hdl
    subst hcl; subst hdl
    have hol':(s.heap.push (rD #[] 0 (mkT #[] (!zU w)))).get? l=some {cls:=.type "list",dict:=odict,data:=.seq #[.int (a.val:Int) ta,.int (b.val:Int) tb] nl,slots:=oslots}:=aW _ hol
    have hsls:=PySem.F.sub_list_set
    have hslf:=PySem.F.sub_list_frozenset
    have hne:(Value.type "list"==Value.type "dict")=false:=by decide
    have hl1:(s.heap.push (rD #[] 0 (mkT #[] (!zU w)))).IsList l #[.int (a.val:Int) ta,.int (b.val:Int) tb]:=⟨_,hol',rfl,nl,rfl⟩
    unfold dW.«set.__init__» noKeywords Builtin.Frozenset.updateFrom
    generalize hPI:pyIter=PI
    wp_walk
    subst hPI
    refine wpAny_pyIter_list hl1 ?_
    refine aq (wpAny_runValue ?_)
    have hlS:l < s.heap.objs.size:=d8 hol
    have hh3:A.in1.in1.in1.handled=none:=by simp [hh]
    have hneI:l≠(s.heap.push (rD #[] 0 (mkT #[] (!zU w)))).objs.size:=by
     rw[d9]; exact cB (cU hlS)
    have hSf:s.heap.objs.size∉[(s.heap.push (rD #[] 0 (mkT #[] (!zU w)))).objs.size,l]:=by
     rw[d9]; simp only[aY,dK,or_false,not_or]
     exact⟨cB (fG _),gq hlS⟩
    refine aoj ((Walks.list hh3 _ l hneI #[.int (a.val:Int) ta,.int (b.val:Int) tb]).toS) s.heap.objs.size hSf (Sy w a b ta tb s.heap.objs.size) Sy.keep ?hadd 2 0 _ rfl (cL _)
     ⟨⟨_,bK _ rfl,rfl,rfl⟩,(hl1.push _)⟩ ⟨0,aW _ hS⟩ ?hR
    case hadd=>
     intro i v s' Q' E' hi hv iv k
     match i,hi,hv,iv,k with
     | 0,_,hv,iv,k=>
      obtain rfl:v=.int (a.val:Int) ta:=(aC hv).symm
      exact ard iv k
     | 1,_,hv,iv,k=>
      obtain rfl:v=.int (b.val:Int) tb:=(aC hv).symm
      exact arf iv k
     | i + 2,hi,_,_,_=>exact absurd hi (by simp)
    case hR=>
     intro s' hm hS'
     obtain⟨h',g',d',tk',os'⟩:=s'
     have eg:g'=s.gens:=hm.gens
     have ed:d'=s.drawn:=hm.drawn
     have eo:os'=s.os:=hm.os
     subst eg; subst ed; subst eo
     show bD _ _ _ _ _ _
     refine aJ ?_
     show bD _ _ (ret n7) _ _ _
     refine aJ ⟨rfl,h',tk',rfl,hS',fun b o hb e=>?_⟩
     have hb1:b≠s.heap.objs.size:=cB hb
     have hb2:b≠(s.heap.push (rD #[] 0 (mkT #[] (!zU w)))).objs.size:=by
      rw[d9]; exact cB (cU hb)
     exact hm.heap b o (by simp only[aY,dK,or_false,not_or]; exact⟨hb1,hb2⟩) (aW _ (aW _ e))
   ·cases arh with
    | error e=>exact ae0
    | ok aom=>
     cases aom with
     | ret r=>
      obtain⟨rfl,h',tk,rfl,hS',hk'⟩:=ae0
      repeat (any_goals (first | assumption | wp_step))
      exact h _ _ hS' hk'
     | _=>exact ae0.elim
  | _=>exact hr.elim
end
end
section
open PySem.Spec
theorem aon{α:Type}(f:Nat->Nat)(x:α):pickOrder f #[x]=#[x]:=by
 show pickOrder.go f 1 0 [x] #[]=_
 unfold pickOrder.go
 have:f 0 % ([x]:List α).length=0:=Nat.mod_one _
 rw[this]
 rfl
theorem lt2:∀ {n:Nat},n < 2->n=0∨n=1
 | 0,_=>.inl rfl | 1,_=>.inr rfl
 | n + 2,h=>absurd h (gK.mpr (mX 2 n))
theorem aoo{α:Type}(f:Nat->Nat)(x y:α):pickOrder f #[x,y]=#[x,y]∨pickOrder f #[x,y]=#[y,x]:=by
 show pickOrder.go f 2 0 [x,y] #[]=_∨pickOrder.go f 2 0 [x,y] #[]=_
 have h1:∀ z:α,∀ o,pickOrder.go f 1 1 [z] o=o.push z:=fun z o=>by
  unfold pickOrder.go
  have:f 1 % ([z]:List α).length=0:=Nat.mod_one _
  rw[this]
  rfl
 unfold pickOrder.go
 have:f 0 % ([x,y]:List α).length=0∨f 0 % ([x,y]:List α).length=1:=by
  have:=mH (f 0) (show 0 < ([x,y]:List α).length by simp)
  exact lt2 this
 rcases this with e | e
 ·rw[e]; exact .inl (h1 y #[x])
 ·rw[e]; exact .inr (h1 x #[y])
inductive H9(a b:_root_.Fin 16):List V->List au->Prop where
 | one {ta}:a=b->H9 a b [.int (a.val:Int)] [.int (a.val:Int) ta]
 | ab {ta tb}:a≠b->H9 a b [.int (a.val:Int),.int (b.val:Int)] [.int (a.val:Int) ta,.int (b.val:Int) tb]
 | ba {ta tb}:a≠b->H9 a b [.int (b.val:Int),.int (a.val:Int)] [.int (b.val:Int) tb,.int (a.val:Int) ta]
theorem ab2{w:cY}{a b:_root_.Fin 16}{ta tb:Tok}{S:aH}{ep:Nat}{es:Array (Int×au)}(h:(a=b/\es=#[el a ta])∨(a≠b/\(es=#[el a ta,el b tb]∨es=#[el b tb,el a ta]))):
  (oU w S ep es).size=es.size/\es.size<=2/\∃ l,H9 a b l ((oU w S ep es).toList.map (·.2)):=by
 have o1:∀ x,oU w S ep #[x]=#[x]:=fun x=>by unfold oU; rw[aon]; exact ite_self _
 have o2:∀ x y,oU w S ep #[x,y]=#[x,y]∨oU w S ep #[x,y]=#[y,x]:=fun x y=>by
  unfold oU
  by_cases c:zU w=true
  ·rw[if_pos c]; exact aoo _ x y
  ·rw[if_neg c]; exact .inl rfl
 rcases h with⟨e,rfl⟩ | ⟨ne,rfl | rfl⟩
 ·rw[o1]; exact⟨rfl,by simp,_,.one e⟩
 ·rcases o2 (el a ta) (el b tb) with q | q <;> rw[q]
  ·exact⟨rfl,by simp,_,.ab ne⟩
  ·exact⟨rfl,by simp,_,.ba ne⟩
 ·rcases o2 (el b tb) (el a ta) with q | q <;> rw[q]
  ·exact⟨rfl,by simp,_,.ba ne⟩
  ·exact⟨rfl,by simp,_,.ab ne⟩
theorem aiB{B:Bs}{g:G}{h:cD}{a b:_root_.Fin 16}{l:List V}{vs:List au}(w:H9 a b l vs):jV B g h l vs:=by
 cases w with
 | one=>exact .cons (.int _ _) .nil
 | ab=>exact .cons (.int _ _) (.cons (.int _ _) .nil)
 | ba=>exact .cons (.int _ _) (.cons (.int _ _) .nil)
theorem ajS{a b:Int}:ltB (.int a) (.int b)=decide (a < b):=by
 rw[Bool.eq_iff_iff]
 simp [ltB,ltK,adb]
 exact decide_eq_true_iff
theorem Vy{a b:_root_.Fin 16}{l:List V}{vs:List au}(w:H9 a b l vs):l.length<=2/\jK l=true/\sH l=sH (zu [.int (a.val:Int),.int (b.val:Int)]):=by
 have dd:zu [.int (a.val:Int),.int (b.val:Int)]=if a=b then [V.int (b.val:Int)] else [.int (a.val:Int),.int (b.val:Int)]:=by
  have k:jA (.int (a.val:Int)) (.int (b.val:Int))=decide (a=b):=by
   show decide ((a.val:Int)=(b.val:Int))=decide (a=b)
   exact decide_eq_decide.mpr ⟨fun h=>_root_.Fin.ext (by omega),fun h=>by rw[h]⟩
  show(if(List.any [V.int (b.val:Int)] (jA (.int (a.val:Int))))=true then zu [.int (b.val:Int)] else _::zu [.int (b.val:Int)])=_
  rw[wL,k]
  by_cases q:a=b <;> simp [q,zu]
 cases w with
 | one e=>subst e; rw[dd,if_pos rfl]; exact⟨by simp,rfl,rfl⟩
 | ab ne=>rw[dd,if_neg ne]; exact⟨bf 2,rfl,rfl⟩
 | ba ne=>
  rw[dd,if_neg ne]
  refine⟨bf 2,rfl,?_⟩
  have q:a.val≠b.val:=fun z=>ne (_root_.Fin.ext z)
  show(if ltB (.int (a.val:Int)) (.int (b.val:Int))=true then [V.int (a.val:Int),.int (b.val:Int)] else [.int (b.val:Int),.int (a.val:Int)])=(if ltB (.int (b.val:Int)) (.int (a.val:Int))=true then [V.int (b.val:Int),.int (a.val:Int)] else [.int (a.val:Int),.int (b.val:Int)])
  rw[ajS,ajS]
  rcases Nat.lt_or_gt_of_ne q with c | c
  ·rw[if_pos (decide_eq_true (by omega)),if_neg (by rw[decide_eq_false (by omega)]; exact bC)]
  ·rw[if_neg (by rw[decide_eq_false (by omega)]; exact bC),if_pos (decide_eq_true (by omega))]
end
section
open PySem.Spec
section
variable{B:Bs}{A:cI}{x:fK}{sc:Sc}
set_option tactic.hygienic true in
theorem MJ{v:V}{i:Int}(h:Ra v=some i):∃ a:_root_.Fin 16,v=.int (a.val:Int):=by
 cases v <;> first | exact nn h | skip
 rename_i j
 have q:=(Ks (show gd (0<=j/\j < 16) j=some i from h)).1
 exact⟨⟨j.toNat,(Int.toNat_lt q.1).mpr q.2⟩,congrArg V.int (lH q.1).symm⟩
theorem VR.int_inv{g:G}{h:cD}{i:Int}{rv:au}(r:VR B g h (.int i) rv):∃ t,rv=.int i t:=by
 cases r; exact⟨_,rfl⟩
theorem JW(O:Ok B A x){a b:_root_.Fin 16}{ta tb:Tok}{S:aH}(m:aeY B.w a b ta tb S x.s.heap){z:V}(es:rT (zu [.int (a.val:Int),.int (b.val:Int)])=some z):WL B A x (call (.builtin "sorted") [.ref S]) z:=
 nH es fun q=>by
  obtain⟨el,ep,pl,ho,rise,hm⟩:=m
  obtain⟨z1,z2,l,wk⟩:=ab2 (w:=B.w) (S:=S) (ep:=ep) hm
  obtain⟨y1,y2,y3⟩:=Vy wk
  refine kdu_sorted (aiy (prog:=B.prog) rise z1) O.hand (fF O.wd.inv) fN ho (ak z2 (sz2 (bf 2))) fun D' h' tk vs F' N' l1 hl hv=>?_
  have hvs:vs=(oU B.w S ep el).toList.map (·.2):=List.ext_getElem? fun j=>by
   rw[jB,show(oU B.w S ep el).toList[j]?=(oU B.w S ep el)[j]? from q8]
   rcases yW j vs.length with c | c
   ·rw[bF c]
    exact(hv j vs[j] (bF c)).symm
   ·rw[cR c,jP (by rw[z1,← hl]; exact c)]; rfl
  subst hvs
  rw[← y3]
  exact HB O.wd F' N' l1 (La N' l1) (aiB wk) ⟨y2,aA y1 (by decide)⟩
theorem ae1:alq B:=fun {sc p1 p2 p3 e pos m} g1 g2 S=>
 .mk' (Ck (nJ g1.ok).s) rfl rfl fun {n p fr x Q X} I q=>by
  have inner:WG p x (eval (.Call (.Name "set" p2) [e] [] p3) p.env) (fun r y=>∃ S a b ta tb z,r=.ref S/\aeY p.B.w a b ta tb S y.s.heap/\rT (zu [.int (a.val:Int),.int (b.val:Int)])=some z/\Q z y.st) X:=
   I.Ly (T:=fun vs st=>ok (JH st .qd vs) fun u=>Q u st) (Ao S Ce) (Cd I g2 ⟨rfl,rfl⟩) w5 q fun {rs vs y} E1 I1 rr q1=>rA q1 fun u e q=>tQ (f:=Ku y.st) e rr fun {a ra} r e=>by
    refine gR (show bnd (iw y.st a) _=some u from e) fun l hl e=>?_
    obtain⟨la,vs,rfl,hl,hr,_⟩:=um I1.C.wd r hl
    revert hl
    refine aap e hr fun {va vb r1 r2} h1 h2 e=>gR e fun i ha e=>gR e fun j hb e hl=>?_
    obtain⟨a,rfl⟩:=MJ ha
    obtain⟨b,rfl⟩:=MJ hb
    obtain⟨ta,rfl⟩:=VR.int_inv h1
    obtain⟨tb,rfl⟩:=VR.int_inv h2
    refine je.of (ab1 I1.ok.hand hl fun h' tk m k=>?_)
    have kp:Kp y.s {y.s with heap:=h',toks:=tk}:=.mk' rfl fun b o e=>k b o (d8 e) e
    have Ek:Ev p.B pO y ⟨y.g,y.st,{y.s with heap:=h',toks:=tk}⟩:=kp.ev
    exact .mk Ek (I1.C.wd.kp kp) (I1.C.lk Ek) ⟨_,a,b,ta,tb,u,rfl,m,e,q⟩
  refine(show WG p x (eval (.Name "sorted" p1) p.env >>= fun f=>callWith pos f [] (backTo pos (starEach [.Call (.Name "set" p2) [e] [] p3] p.env)) []) _ X from .look (r:=.builtin "sorted") (Cd I g1 ⟨rfl,rfl⟩) ?_)
  rw[show backTo pos (starEach [Expr.Call (.Name "set" p2) [e] [] p3] p.env)=[(false,eval (.Call (.Name "set" p2) [e] [] p3) p.env)] from rfl]
  refine yE rfl (Lx rfl (Mu (bT inner (fun v s1 z=>.of (vW ?_)) fun J J q=>q)))
  cases z with | mk ev wd lk z=>
  obtain⟨S,a,b,ta,tb,u,rfl,m,es,q2⟩:=z
  exact⟨yF wd.stay,WT.later I.C ev (.leaf (I.C.up ev wd) (JW (I.to (I.C.up ev wd)).ok m es) q2)⟩
end
end
noncomputable def ae2:List Str:="octets"::"number"::"at"::"left"::"take"::"whole"::"text"::"read"::"block"::"dnode"::"salt"::"bits"::"sector"::"slab"::"record"::"fan"::"dnodes"::"ring"::"defer"::"most_record"::"uber"::"config"::"zap"::"shape"::"add"::"write"::"many"::"sort"::"mode"::"size"::"links"::"parent"::"made"::"changed"::"bonus"::"set_bonus"::"view"::"root"::"find"::"objset"::"now"::"seen"::"unlinked"::"opened"::"want_mode"::"place_for"::"change"::"add_file"::"file_at"::"cut"::"drop"::"drop_name"::"kind"::"most"::"top"::"put"::"symlink"::"target"::"names"::"stat"::"open_file"::"shut_file"::"truncate"::"create"::"make_dir"::"set_mode"::"objects"::"remove"::"clear_unlinked"::[]
noncomputable def gtL:List (Str×au):=("Misused",.ref 99)::("Corrupt",.ref 51)::("octets_of",.ref 171)::("text_octets",.ref 176)::("number_of",.ref 166)::("octets_text",.ref 181)::("BITS",.int 32 545)::("LONGEST",.int 28 596)::("NUMBER",.int 8 586)::("Sink",.ref 226)::("MICRO",.int 1 574)::("padded",.ref 287)::("Cursor",.ref 276)::("MICRO_HEAD",.int 7 580)::("FAT",.int 2 576)::("first_block",.ref 418)::("fat_head",.ref 364)::("zap_hash",.ref 294)::("table_entry",.ref 432)::("leaf_find",.ref 397)::("sort_of",.ref 371)::("first_bits",.ref 301)::("block_at",.ref 425)::("FAT_HEAD",.int 18 582)::("micro_rows",.ref 329)::("table_of",.ref 437)::("leaf_rows",.ref 404)::("micro_octets",.ref 322)::("salt_of",.ref 308)::("want_row",.ref 315)::("put_fat",.ref 535)::("make_fat",.ref 509)::("leaf_for",.ref 523)::("put_leaf",.ref 530)::("put_head",.ref 516)::("zap_find",.ref 442)::("Missing",.ref 75)::("MOST_SIGNS",.int 28 983)::("is_entry_name",.ref 550)::("InvalidName",.ref 111)::("SORTS",.int 4 981)::("want_entry_name",.ref 557)::("zap_put",.ref 497)::("look_up",.ref 564)::("zap_take",.ref 502)::("zap_all",.ref 449)::("ZNODE",.int 21 1055)::("LINK_SORT",.int 2 1041)::("Znode",.ref 607)::("znode_of",.ref 625)::("znode_octets",.ref 618)::("load_znode",.ref 632)::("FOLDER_SORT",.int 1 1039)::("NotFolder",.ref 135)::("parts_of",.ref 644)::("want_folder",.ref 656)::("MOST_LINKS",.int 8 1147)::("link_target",.ref 649)::("Loops",.ref 159)::("start_of",.ref 663)::("walked",.ref 670)::("InvalidPath",.ref 123)::("MASTER_OBJECT",.int 1 1208)::("ROOT_NAME",.str "root" 1210)::("IsFolder",.ref 147)::("entries",.ref 583)::("new_zap",.ref 492)::("FOLDER",.int 9 1328)::("store_znode",.ref 639)::("UNLINKED_NAME",.str "unlinked" 1336)::("FileTree",.ref 933)::("MASTER",.int 14 1330)::("UNLINKED",.int 15 1332)::("FileView",.ref 757)::("ahead_of",.ref 677)::("Exists",.ref 87)::("MOST_MODE",.int 65535 1338)::("FILE",.int 8 1326)::("put_entry",.ref 571)::("FILE_SORT",.int 0 1037)::("MOST_SIZE",.int 4294967295 1344)::("take_entry",.ref 578)::("MemDnode",.ref 954)::("round_up",.ref 478)::("_law_heard",.ref 1071)::("MemSet",.ref 1053)::("make_tree",.ref 768)::("_law_ends_right",.ref 1086)::("Shape",.ref 467)::("_law_links_right",.ref 1076)::("_law_digit",.ref 1064)::("_law_reads_right",.ref 1081)::("_law_open_right",.ref 1091)::[]
noncomputable def gnL:List Str:=["Exception","len","sum","bytes","ord","chr","all","sorted","max","min","int","str","range","enumerate","bytearray","set"]
noncomputable def Gq:List (aH×aH×Str):=[(1075,1073,"_law_links_right.<locals>.<lambda>"),(1080,1078,"_law_reads_right.<locals>.<lambda>"),(1085,1083,"_law_ends_right.<locals>.<lambda>")]
section
noncomputable def iy(g:aH->Option Obj):List Nat->lZ
 | []=>[]
 | a::r=>match g a with | some o=>(a,o)::iy g r | none=>iy g r
theorem MK{g:aH->Option Obj}{a:aH}{o:Obj}{l:List Nat}:(iy g l).lookup a=some o->g a=some o/\a∈l:=by
 induction l with
 | nil=>intro e; cases e
 | cons b r ih=>
  intro e
  unfold iy at e
  cases hb:g b with
  | none=>rw[hb] at e; exact⟨(ih e).1,.tail _ (ih e).2⟩
  | some ob=>
   rw[hb] at e
   dsimp only at e
   rw[aM] at e
   cases q:a==b with
   | true=>rw[q] at e; rw[eq_of_beq q]; cases e; exact⟨hb,.head _⟩
   | false=>rw[q] at e; exact⟨(ih e).1,.tail _ (ih e).2⟩
noncomputable def nsG(g:aH->Option Obj)(a:aH)(name:Str):Option au:=match g a with
 | some o=>(match o.data with | .dict es _=>nsFind es name | _=>none)
 | none=>none
noncomputable def bB(w:cY)(h:cD)(L:aH):Bs:=
 {prog:=PySem.Challenge.pw_np0217_02,w:=w,hb:=h,nms:=ae2,mg:=h.nsMap mainGlobals,L:=L,ms:=h.nsMap L,tabs:=Gq,K:=iy h.get? J1,pg:=gF,gt:=gtL,gn:=gnL,ini:=fun C=>anb.lookup C,exs:=Xn,cats:=anc}
noncomputable abbrev tpL(L:aH):List aH:=L::Gq.map (·.2.1)
noncomputable def ae3(f:Nat):Str:=ae2.getD f Str.empty
section
variable(K:lZ)
noncomputable def ajT(p:Nat×Nat):Bool:=uc p.2 ae2.length && hasDictIn K p.1 && plainGet K p.1 (ae3 p.2) && findIn K (.ref p.1) (ae3 p.2)==some none &&
 findIn K (.ref p.1) "__setattr__"==some (some (.builtin "object.__setattr__")) && plainOver K p.1 && takerIn K p.1 (ae3 p.2)==some none
noncomputable def ajU(p:Nat×Nat):Bool:=makesIn K p.1 && findIn K (.ref p.1) "__init__"==some (some (.ref p.2)) && typeIn K (.ref p.2)==some (.type "function") && keepIn K (.ref p.1) && (gF.fn p.2).isSome
noncomputable def alz(p:Nat×Nat×Nat):Bool:=uc p.2.1 ae2.length && plainGet K p.1 (ae3 p.2.1) && findIn K (.ref p.1) (ae3 p.2.1)==some (some (.ref p.2.2)) && PySem.W.isFn K (.ref p.2.2) && (gF.fn p.2.2).isSome
end
noncomputable def ab3(g:aH->Option Obj)(K:lZ):Bool:=
 ([0,1,2,3].all fun b=>(g b).isSome) && (gtL.all fun p=>nsG g mainGlobals p.1==some p.2) && (gnL.all fun x=>(nsG g mainGlobals x).isNone) &&
 ana.all (ajT K) && anb.all (ajU K) && meL.all (alz K)
def LOk(L:aH):Prop:=L=1∨L=2
theorem ae4{L:aH}(hL:LOk L):∀ a∈J1,a∉tpL L:=by rcases hL with rfl | rfl <;> decide +kernel
theorem ab4:ae2.Nodup:=by decide +kernel
theorem le3:∀ n:Nat,n<=3->n∈[0,1,2,3]
 | 0,_=>.head _ | 1,_=>.tail _ (.head _) | 2,_=>.tail _ (.tail _ (.head _)) | 3,_=>.tail _ (.tail _ (.tail _ (.head _)))
 | n + 4,h=>absurd h (Nat.not_le.mpr (mX 4 n))
theorem Fc.of{w:cY}{h:cD}{L:aH}(hL:LOk L)(hb:∃ mb,h.Ns builtinsNs mb/\∀ x v,bootBuiltins x=some v->x≠"__name__"->mb x=some v)(e:ab3 h.get? (iy h.get? J1)=true):Fc (bB w h L):=by
 unfold ab3 at e
 simp only[aL,bx] at e
 obtain⟨⟨⟨⟨⟨e1,e2⟩,e3⟩,e4⟩,e5⟩,e6⟩:=e
 refine⟨fun a o q=>(MK q).1,fun a o q=>ae4 hL a (MK q).2,ab4,fun b hle=>?_,fun x v q=>?_,fun x hx=>?_,hb,(show builtinsNs∉tpL L by rcases hL with rfl | rfl <;> decide +kernel),fun {C f} q=>?_,fun {C f} q=>?_,fun {C nm f} q=>?_⟩
 ·have:b∈[0,1,2,3]:=le3 b hle
  intro q
  have z:=e1 b this
  rw[show(bB w h L).hb=h from rfl] at q
  rw[q] at z; cases z
 ·have:=e2 _ (jh q)
  exact eq_of_beq this
 ·exact oX.mp (e3 x hx)
 ·obtain⟨p,hp,hq⟩:=xU.mp q
  rw[aL] at hq
  obtain rfl:=eV hq.1
  obtain rfl:=eV hq.2
  have z:=e4 p hp
  unfold ajT at z
  simp only[aL,beq_iff_eq] at z
  obtain⟨⟨⟨⟨⟨⟨z1,z2⟩,z3⟩,z4⟩,z5⟩,z6⟩,z7⟩:=z
  exact⟨cA z1,z2,z3,z4,z5,z6,z7⟩
 ·have z:=e5 _ (vq q)
  unfold ajU at z
  simp only[aL,beq_iff_eq] at z
  obtain⟨⟨⟨⟨z1,z2⟩,z3⟩,z4⟩,z5⟩:=z
  exact⟨z1,z2,z3,z4,z5⟩
 ·obtain⟨p,hp,rfl⟩:=gQ.mp q
  have hq:=List.find?_some hp
  rw[aL] at hq
  obtain rfl:=eV hq.1
  obtain rfl:=eV hq.2
  have z:=e6 p (oW hp)
  unfold alz at z
  simp only[aL,beq_iff_eq] at z
  obtain⟨⟨⟨⟨z1,z2⟩,z3⟩,z4⟩,z5⟩:=z
  exact⟨cA z1,z2,z3,z4⟩
section
variable{α β:Type}
theorem ab5{o:Option α}{f:α->Option β}{b:β}(e:o.bind f=some b):∃ a,o=some a/\f a=some b:=by cases o with | none=>exact nomatch e | some a=>exact⟨a,rfl,e⟩
end
noncomputable def alB:au->Option aH | .ref a=>some a | _=>none
noncomputable def ae5:au->Option Str | .str s _=>some s | _=>none
noncomputable def ae6:au->Option (Array UInt8) | .bytes s _=>some s | _=>none
noncomputable def ae7:au->Option Int | .int s _=>some s | _=>none
noncomputable def aax:au->Option Bool | .bool s=>some s | _=>none
noncomputable def J9:au->Bool | .none=>true | _=>false
theorem aay{v:au}{a:aH}(e:alB v=some a):v=.ref a:=by cases v <;> first | exact congrArg kY (aC e) | exact nn e
theorem SJ{v:au}{a:Str}(e:ae5 v=some a):∃ t,v=.str a t:=by cases v <;> first | exact⟨_,congrArg (Value.str · _) (aC e)⟩ | exact nn e
theorem ab6{v:au}{a:Array UInt8}(e:ae6 v=some a):∃ t,v=.bytes a t:=by cases v <;> first | exact⟨_,congrArg (Value.bytes · _) (aC e)⟩ | exact nn e
theorem aaz{v:au}{a:Int}(e:ae7 v=some a):∃ t,v=.int a t:=by cases v <;> first | exact⟨_,congrArg (Value.int · _) (aC e)⟩ | exact nn e
theorem Vz{v:au}{a:Bool}(e:aax v=some a):v=.bool a:=by cases v <;> first | exact congrArg Value.bool (aC e) | exact nn e
theorem Ep{v:au}(e:J9 v=true):v=.none:=by cases v <;> first | rfl | exact ff e
noncomputable def ajV:Data->Option g8 | .func fd=>some fd | _=>none
noncomputable def aoq:Data->Option (Array au) | .seq D _=>some D | _=>none
noncomputable def Gr:Data->Option (Array au) | .fields vs=>some vs | _=>none
theorem ae8{d:Data}{x}(e:ajV d=some x):d=.func x:=by cases d <;> first | exact congrArg Data.func (aC e) | exact nn e
theorem aiC{d:Data}{x}(e:aoq d=some x):∃ k,d=.seq x k:=by cases d <;> first | exact⟨_,congrArg (Data.seq · _) (aC e)⟩ | exact nn e
theorem Ba{d:Data}{x}(e:Gr d=some x):d=.fields x:=by cases d <;> first | exact congrArg Data.fields (aC e) | exact nn e
noncomputable def Pa(K:lZ)(f:Nat):Option g8:=(K.lookup f).bind fun o=>ajV o.data
theorem Ia{K:lZ}{f:Nat}{fd:g8}(e:Pa K f=some fd):∃ o,K.lookup f=some o/\o.data=.func fd:=(ab5 e).elim fun o q=>⟨o,q.1,ae8 q.2⟩
noncomputable def ark(scope:jD)(args:List Str)(lam:Option (aH×aH×Str)):Sc:=
 let own:=args++(scope.names.filter fun p=>(p.2==.local || p.2==.cell) && !(args.any fun a=>a==p.1)).map (·.1)
 {vs:=own.zipIdx,wn:=own,gl:=(scope.names.filter fun p=>p.2==.globalImplicit).map (·.1),cl:=(scope.names.filter fun p=>p.2==.cell).map (·.1),lam:=lam}
noncomputable def ae9(fd:g8):Sc:=ark fd.scope (fd.params.args.map (·.arg)) (Gq.find? fun t=>fd.code==.ref t.1)
noncomputable def Bb(fd:g8):List uf:=match fd.body with
 | .stmts b=>b
 | _=>[]
noncomputable def aaA:FuncBody->Bool
 | .stmts _=>true
 | _=>false
noncomputable def YQ(K:lZ)(fd:g8):Bool:=(alB fd.code).any fun c=>(K.lookup c).any fun o=>(Gr o.data).any fun ws=>(ws[1]?:Option au).any fun v=>(ae5 v).any fun q=>q==fd.qualname
theorem QB{K:lZ}{fd:g8}(e:YQ K fd=true):RV K fd.code fd.qualname:=
 (eO e).elim fun J h1=>(eO h1.2).elim fun J h2=>(eO h2.2).elim fun J h3=>(eO h3.2).elim fun J h4=>(eO h4.2).elim fun J h5=>
  (SJ h5.1).elim fun J h6=>.mk (aay h1.1) h2.1 (Ba h3.1) (h4.1.trans (congrArg some (h6.trans (congrArg (Value.str · _) (eq_of_beq h5.2)))))
noncomputable def MN(p:uq):Option (List Arg×List cZ):=bif p.posonlyargs.isEmpty && p.vararg.isNone && p.kwonlyargs.isEmpty && p.kw_defaults.isEmpty && p.kwarg.isNone then some (p.args,p.defaults) else none
theorem Jo{p:uq}{as:List Arg}{ds:List cZ}(e:MN p=some (as,ds)):p=⟨[],as,none,[],[],none,ds⟩:=by
 cases p with | mk a b c d f g h=>
 have e:(bif a.isEmpty && c.isNone && d.isEmpty && f.isEmpty && g.isNone then some (b,h) else none)=some (as,ds):=e
 cases q:(a.isEmpty && c.isNone && d.isEmpty && f.isEmpty && g.isNone) with
 | false=>rw[q] at e; exact nn e
 | true=>
  rw[q] at e
  have e2:=Prod.mk.inj (aC e)
  simp only[aL,jo,oX] at q
  rw[q.1.1.1.1,q.1.1.1.2,q.1.1.2,q.1.2,q.2,e2.1,e2.2]
noncomputable def aor:V->au->Bool
 | .none,r=>J9 r
 | .bool b,r=>(aax r).any fun c=>b==c
 | .int i,r=>(ae7 r).any fun c=>i==c
 | .str x,r=>(ae5 r).any fun s=>s==txt x
 | .bytes b,r=>(ae6 r).any fun c=>c==b.toArray
 | _,_=>false
theorem aiD:∀ {v:V} {r:au},aor v r=true->AtV v r
 | .none,_,e=>Ep e▸.none
 | .bool b,_,e=>(eO e).elim fun J q=>Vz q.1▸eq_of_beq q.2▸.bool b
 | .int b,_,e=>(eO e).elim fun J q=>(aaz q.1).elim fun J k=>k▸eq_of_beq q.2▸.int b _
 | .str b,_,e=>(eO e).elim fun J q=>(SJ q.1).elim fun J k=>k▸eq_of_beq q.2▸.str b _
 | .bytes b,_,e=>(eO e).elim fun J q=>(ab6 q.1).elim fun J k=>k▸eq_of_beq q.2▸.bytes b _
 | .ref _,_,e | .tup _,_,e | .lst _,_,e=>ff e
noncomputable def afa:List V->List au->Bool
 | [],m=>m.isEmpty
 | v::l,m=>m.head?.any (aor v) && afa l m.tail
theorem ht{α:Type}{m:List α}{r:α}(e:m.head?=some r):m=r::m.tail:=by cases m with | nil=>exact nomatch e | cons a l=>rw[aC e]; rfl
theorem VB:∀ {l:List V} {m:List au},afa l m=true->ak9 l m
 | [],m,e=>(jo.mp e)▸.nil
 | v::l,m,e=>have q:=cg.mp e; (eO q.1).elim fun r k=>ht k.1▸.cons (aiD k.2) (VB q.2)
noncomputable def afb(K:lZ)(d:au)(df:List V)(np:Nat):Bool:=(J9 d && df.isEmpty) ||
 (alB d).any fun t=>(K.lookup t).any fun o=>(aoq o.data).any fun D=>afa df D.toList && Nat.ble D.toList.length np
theorem ab7{K:lZ}{d:au}{df:List V}{np:Nat}(e:afb K d df np=true):∃ D,ak9 df D/\D.length<=np/\ala K d D:=
 (tU.mp e).elim (fun q=>have k:=cg.mp q; ⟨[],jo.mp k.2▸.nil,cL _,.no (Ep k.1) rfl⟩)
  fun q=>(eO q).elim fun t h1=>(eO h1.2).elim fun o h2=>(eO h2.2).elim fun D h3=>(aiC h3.1).elim fun k h4=>have h5:=cg.mp h3.2
   ⟨D.toList,VB h5.1,cA h5.2,.at (aay h1.1) h2.1 (by rw[Array.toArray_toList]; exact h4)⟩
noncomputable def alC(sc:Sc):List Str->List Nat->Bool
 | [],m=>m.isEmpty
 | x::xs,m=>(m.head?.any fun k=>sc.vs.lookup x==some k && decide (x∈sc.wn)) && alC sc xs m.tail
theorem aaB{sc:Sc}:∀ {xs:List Str} {ks:List Nat},alC sc xs ks=true->NK sc xs ks
 | [],m,e=>(jo.mp e)▸.nil
 | x::xs,m,e=>have q:=cg.mp e; (eO q.1).elim fun r k=>ht k.1▸have z:=cg.mp k.2; .cons (eq_of_beq z.1) (of_decide_eq_true z.2) (aaB q.2)
noncomputable def ajW(fd:g8)(sc:Sc):Bool:=match sc.lam with
 | none=>true
 | some t=>fd.code==.ref t.1 && fd.qualname++(".<locals>.":Str)++("<lambda>":Str)==t.2.2
noncomputable def afc(K:lZ)(fd:g8)(sc:Sc)(np:Nat)(df:List V):Bool:=
 !fd.scope.isCoroutine && !fd.scope.isGenerator && dF fd.globals mainGlobals && dF fd.builtins builtinsNs && YQ K fd &&
 ((MN fd.params).any fun p=>decide ((p.1.map (·.arg)).Nodup) && dF p.1.length np && alC sc (p.1.map (·.arg)) (fD np)) && afb K fd.defaults df np && ajW fd sc && decide (FnW fd.scope sc)
theorem afd{K:lZ}{f:Nat}{fd:g8}{sc:Sc}{np:Nat}{df:List V}(hf:Pa K f=some fd)(e:afc K fd sc np df=true):FnH K f fd sc np df:=by
 unfold afc at e
 simp only[aL,gB,decide_eq_true_eq] at e
 obtain⟨⟨⟨⟨⟨⟨⟨⟨h1,h2⟩,h3⟩,h4⟩,h5⟩,h6⟩,h7⟩,h8⟩,h9⟩:=e
 obtain⟨⟨as,ds⟩,hp,h6⟩:=eO h6
 simp only[aL,decide_eq_true_eq] at h6
 obtain⟨D,d1,d2,d3⟩:=ab7 h7
 refine⟨⟨Ia hf,h1,h2,eV h3,eV h4,QB h5,Ss h9.k⟩,.mk (Jo hp) h6.1.1 (aaB h6.2) d1 d2 d3,fun t ht=>?_,h9.ok⟩
 unfold ajW at h8
 rw[ht] at h8
 rw[aL] at h8
 exact⟨eq_of_beq h8.1,eq_of_beq h8.2⟩
noncomputable def afe(K:lZ)(p:Nat×MF):Bool:=(Pa K p.1).any fun fd=>fd.closure.isEmpty && aaA fd.body && afc K fd (ae9 fd) p.2.np p.2.df && decide (∀ x∈(ae9 fd).cl,lN fd.scope x=3)
noncomputable def muL:List Nat:=[131,767,784,804,829]
noncomputable def turn(B:Bs)(f:Nat):List MS:=match Pa B.K f with
 | some fd=>(trB B ae1 muL (ae9 fd) (Bb fd)).1
 | none=>[]
theorem TF.of{B:Bs}{p:Nat×MF}(e:afe B.K p=true)(eb:turn B p.1=p.2.body):TF B p.1 p.2:=by
 obtain⟨fd,hf,e⟩:=eO e
 simp only[aL,decide_eq_true_eq] at e
 obtain⟨⟨⟨e1,e2⟩,e3⟩,e4⟩:=e
 unfold turn at eb
 rw[hf] at eb
 refine .mk (body:=Bb fd) (sc:=ae9 fd) (afd hf e3) (jo.mp e1) ?_ (fun x hx=>Sh (e4 x hx)) (eb▸(trB B ae1 muL (ae9 fd) (Bb fd)).2)
 unfold Bb
 cases q:fd.body <;> rw[q] at e2 <;> first | rfl | cases e2
theorem alD{w:cY}{h:cD}{L:aH}(hL:LOk L)(hs:h.Ns L (h.nsMap L))(el:h.NoLimit):Lim (bB w h L):=by
 rcases hL with rfl | rfl
 ·exact .inr ⟨(show cStatics∉tpL 1 by decide +kernel),el⟩
 ·obtain⟨_,n,z⟩:=el
  exact .inl ⟨rfl,(hs.agree n _).trans z⟩
theorem aos{B:Bs}(e:Xc.all (afe B.K)=true)(eb:Xc.map (fun p=>turn B p.1)=Xc.map (·.2.body)){f:Nat}{mf:MF}(q:Xc.lookup f=some mf):TF B f mf:=
 have m:=vq q; TF.of (p:=(f,mf)) (bx.mp e _ m) (List.map_inj_left.mp eb _ m)
end
noncomputable def VD:List au->List au
 | .ref _::r=>VD r
 | l=>l
theorem Jp(self:au):∀ {l:List au},refuseLoop self "__setattr__" (VD l)=pure ()->refuseLoop self "__setattr__" l=pure ()
 | .ref c::r,e=>by rw[refuseLoop_ref]; exact Jp self e
 | [],e=>e
 | .none::_,e=>e | .ellipsis::_,e=>e | .notImplemented::_,e=>e | .bool _::_,e=>e | .int _ _::_,e=>e | .float _ _::_,e=>e
 | .str _ _::_,e=>e | .bytes _ _::_,e=>e | .type _::_,e=>e | .builtin _::_,e=>e
noncomputable def aiE(x:uf):List uf:=match x with
 | .FunctionDef _ _ b _ _ _ _ _ _ _=>b
 | .ClassDef _ _ _ b _ _ _ _ _ _ _=>b
 | _=>[]
noncomputable def at_(l:List uf):Nat->List uf
 | 0=>(match l with | x::_=>aiE x | []=>[])
 | n + 1=>at_ l.tail n
noncomputable def b35:List uf:=at_ (at_ PySem.Challenge.pw_np0217_02.main.body 2) 0
noncomputable def Jq:List uf:=at_ PySem.Challenge.pw_np0217_02.main.body 120
theorem YS:∃ p1 p2 p3 p4 p5 p6 p7 p8 ap pos,(ap.endLine==pos.line)=true/\b35=[.Expr (.Call (.Attribute (.Name "Exception" p1) "__init__" ap) [.Name "self" p2,.Name "why" p3] [] pos) p4,.Assign [.Attribute (.Name "self" p5) "why" p6] (.Name "why" p7) p8]:=by
 refine⟨?a1,?a2,?a3,?a4,?a5,?a6,?a7,?a8,?a9,?a0,?e,?f⟩
 case f=>exact Eq.refl b35
 case e=>exact Eq.refl true
theorem YT{w:cY}{h:cD}{L:aH}(scope:jD)(hk:∀ x∈[("Exists":Str),"InvalidPath","IsFolder","Loops","Misused","Missing","NotFolder"],scope.names.lookup x=some .globalImplicit):
  ∃ h0 ht cc k1 p1 p2 p3 kk p4 p5 p6,Jq=[.Try [.Return (some (.Tuple [.Constant cc k1 p1,.Call (.Name "call" p2) [] [] p3] kk p4)) p5] (h0::ht) [] [] p6]/\cvl cc=some eE/\HsR (bB w h L) scope (h0::ht) vY:=by
 refine⟨?a1,?a2,?a3,?a4,?a5,?a6,?a7,?a8,?a9,?a0,?b1,?e,?f,?g⟩
 case e=>exact Eq.refl Jq
 case f=>exact Eq.refl (some eE)
 have G:∀ x C,gtL.lookup x=some (.ref C)->(bB w h L).gt.lookup x=some (.ref C):=fun J J e=>e
 iterate 7 refine .cons (hk _ (by decide +kernel)) (by decide +kernel) (G _ _ (by decide +kernel)) (by decide +kernel:_∈Xn) (Eq.refl _) (Eq.refl _) ?_
 exact .nil
noncomputable def yH(K:lZ)(f:Nat):List uf:=match Pa K f with
 | some fd=>Bb fd
 | none=>[]
theorem Jr{K:lZ}{f:Nat}{fd:g8}{b:List uf}(h:Pa K f=some fd)(e:yH K f=b):Bb fd=b:=by
 unfold yH at e
 rw[h] at e; exact e
noncomputable def Ka(K:lZ)(fd:g8)(names:List Str):Bool:=
 fd.closure.isEmpty && aaA fd.body && !fd.scope.isCoroutine && !fd.scope.isGenerator && dF fd.globals mainGlobals && dF fd.builtins builtinsNs && YQ K fd &&
 ((MN fd.params).any fun p=>p.1.map (·.arg)==names) && J9 fd.defaults && isFn fd.scope.kind && (fd.scope.names.all fun p=>match p.2 with | .cell=>false | _=>true) &&
 (names.all fun x=>match fd.scope.names.lookup x with | some .local=>true | _=>false)
structure aiG(K:lZ)(f:Nat)(fd:g8)(names:List Str):Prop where
 b:FnB K f fd
 cl:fd.closure=[]
 body:fd.body=.stmts (Bb fd)
 par:akN fd names
 df:fd.defaults=.none
 nc:∀ x∈fd.scope.names,x.2≠.cell
 loc:∀ x∈names,fd.scope.names.lookup x=some .local
set_option tactic.hygienic true in
theorem MP{K:lZ}{f:Nat}{fd:g8}{names:List Str}(hf:Pa K f=some fd)(e:Ka K fd names=true):aiG K f fd names:=by
 unfold Ka at e
 simp only[aL,gB,bx] at e
 obtain⟨⟨⟨⟨⟨⟨⟨⟨⟨⟨⟨h1,h2⟩,h3⟩,h4⟩,h5⟩,h6⟩,h7⟩,h8⟩,h9⟩,h10⟩,h11⟩,h12⟩:=e
 obtain⟨⟨as,ds⟩,hp,h8⟩:=eO h8
 refine⟨⟨Ia hf,h3,h4,eV h5,eV h6,QB h7,Ss h10⟩,jo.mp h1,?_,.mk (Jo hp) (eq_of_beq h8),?_,fun x hx q=>?_,fun x hx=>?_⟩
 ·unfold Bb
  cases q:fd.body <;> rw[q] at h2 <;> first | rfl | cases h2
 ·exact Ep h9
 ·have:=h11 x hx
  rw[q] at this; cases this
 ·have:=h12 x hx
  split at this
  ·rename_i q; exact q
  ·cases this
noncomputable def Kc:Option jy->Bool
 | some .globalImplicit=>true
 | _=>false
theorem M4{k:Option jy}(e:Kc k=true):k=some .globalImplicit:=by
 unfold Kc at e
 split at e
 ·rfl
 ·cases e
noncomputable def afg(K:lZ)(f:Nat):Bool:=(Pa K f).any fun fd=>Ka K fd ["self","why"] && Kc (fd.scope.names.lookup ("Exception":Str))
theorem ab8{K:lZ}{f:Nat}(e:afg K f=true)(eb:yH K f=b35):akO K f:=by
 obtain⟨fd,hf,e⟩:=eO e
 rw[aL] at e
 have P:=MP hf e.1
 obtain⟨p1,p2,p3,p4,p5,p6,p7,p8,ap,pos,b1,b2⟩:=YS
 exact .mk P.b P.cl b1 (P.body.trans (by rw[Jr hf eb,b2])) P.par P.df P.nc (P.loc _ (.head _)) (P.loc _ (.tail _ (.head _))) (M4 e.2)
noncomputable def bmL:List au:=[.ref 38,.type "Exception",.type "BaseException",.type "object"]
noncomputable def aot:Data->Option Dc | .cls c=>some c | _=>none
theorem aiH{d:Data}{x}(e:aot d=some x):d=.cls x:=by cases d <;> first | exact congrArg Data.cls (aC e) | exact nn e
theorem alE{o:Obj}{c d s}(h1:o.cls=c)(h2:o.data=d)(h3:o.slots=s):o=⟨c,o.dict,d,s⟩:=by rw[← h1,← h2,← h3]
theorem aou{cd:Dc}{m}(h1:cd.mro=m)(h2:cd.hasDict=true)(h3:cd.hasDel=false):cd=⟨cd.name,cd.bases,m,cd.ns,cd.qualname,true,cd.slotNames,cd.subclasses,cd.abstract,cd.collection,false⟩:=by rw[← h1,← h2,← h3]
noncomputable def slA(o:Obj):Array (Option au):=#[o.slots.getD 0 none,o.slots.getD 1 none,o.slots.getD 2 none,o.slots.getD 3 none,some (.builtin "Exception.__new__"),o.slots.getD 5 none]
noncomputable def afh(K:lZ)(C:Nat):Bool:=(K.lookup C).any fun o=>(o.cls==.type "type" && o.slots==slA o) && (aot o.data).any fun cd=>cd.mro==.ref C::bmL && (cd.hasDict && !cd.hasDel)
theorem aov:Jk bmL:=⟨by decide +kernel,by decide +kernel,by decide +kernel,by decide +kernel⟩
theorem ab9{K:lZ}{C:Nat}(e:afh K C=true):∃ nm q N bs sn sub ab col dd k0 k1 k2 k3 k5,K.lookup C=some (excClassObj nm q C N bs bmL true sn sub ab col dd k0 k1 k2 k3 k5 "Exception.__new__"):=
 (eO e).elim fun o h=>have h1:=cg.mp h.2; have h2:=cg.mp h1.1; (eO h1.2).elim fun cd k=>have k1:=cg.mp k.2; have k2:=cg.mp k1.2
  ⟨cd.name,cd.qualname,cd.ns,cd.bases,cd.slotNames,cd.subclasses,cd.abstract,cd.collection,o.dict,_,_,_,_,_,h.1.trans (congrArg some (alE (eq_of_beq h2.1) ((aiH k.1).trans (congrArg Data.cls (aou (eq_of_beq k1.1) k2.1 (gB _▸k2.2)))) (eq_of_beq h2.2)))⟩
noncomputable def afi(K:lZ)(C:Nat):Bool:=afh K C && findIn K (.ref C) "__init__"==some (some (.ref 35)) && typeIn K (.ref 35)==some (.type "function") && afg K 35 && keepIn K (.ref C) &&
 findIn K (.ref C) "__setattr__"==some (some (.builtin "object.__setattr__")) && takerIn K C "why"==some none && mroIn K C (.type "object")==some true
theorem afj{K:lZ}{C:Nat}(e:afi K C=true)(eb:yH K 35=b35):anx K C:=by
 unfold afi at e
 simp only[aL,beq_iff_eq] at e
 obtain⟨⟨⟨⟨⟨⟨⟨h1,h2⟩,h3⟩,h4⟩,h5⟩,h6⟩,h7⟩,h8⟩:=e
 obtain⟨nm,q,N,bs,sn,sub,ab,col,dd,k0,k1,k2,k3,k5,ho⟩:=ab9 h1
 have hcl:clsIn K C=some {name:=nm,bases:=bs,mro:=.ref C::bmL,ns:=N,qualname:=q,hasDict:=true,slotNames:=sn,subclasses:=sub,abstract:=ab,collection:=col,hasDel:=false}:=by
  delta clsIn
  rw[ho]
 exact .mk ho aov h2 h3 (ab8 h4 eb) h5 ⟨h6,h7,hcl,rfl,h8,fun self=>Jp self (PySem.F.store_Exception.passes self)⟩
noncomputable def afk(K:lZ):Bool:=(Pa K 1071).any fun fd=>Ka K fd ["call"] && [("Exists":Str),"InvalidPath","IsFolder","Loops","Misused","Missing","NotFolder"].all fun x=>Kc (fd.scope.names.lookup x)
theorem aow:∀ p∈vY,p.1∈Xn:=by
 have:vY.all (fun p=>decide (p.1∈Xn))=true:=by decide +kernel
 exact fun p hp=>of_decide_eq_true (bx.mp this p hp)
theorem afl{w:cY}{h:cD}{L:aH}(e:afk (iy h.get? J1)=true)(eb:yH (iy h.get? J1) 1071=Jq){f:Nat}{sG:V}{hs:List (Nat×V)}(hc:(f,sG,hs)∈(bB w h L).cats):ahK (bB w h L) f sG hs:=by
 cases(aN.mp hc:(f,sG,hs)=(1071,eE,vY))
 obtain⟨fd,hf,e⟩:=eO e
 rw[aL] at e
 have P:=MP hf e.1
 obtain⟨h0,ht,cc,k1,p1,p2,p3,kk,p4,p5,p6,b1,b2,b3⟩:=YT (w:=w) (h:=h) fd.scope fun x hx=>M4 (bx.mp e.2 x hx)
 exact .mk P.b P.cl (P.body.trans (by rw[Jr hf eb,b1])) b2 P.par P.df P.nc (P.loc _ (.head _)) b3 aow
theorem acd{v:au}(e:(ae5 v).isSome=true):∃ a b,v=.str a b:=(cV.mp e).elim fun a q=>(SJ q).elim fun t k=>⟨a,t,k⟩
theorem QC{v:au}(e:(ae7 v).isSome=true):∃ a b,v=.int a b:=(cV.mp e).elim fun a q=>(aaz q).elim fun t k=>⟨a,t,k⟩
theorem YW{v:au}(e:(aax v).isSome=true):∃ a,v=.bool a:=(cV.mp e).elim fun a q=>⟨a,Vz q⟩
noncomputable def SM(g:aH->Option Obj)(c P:Nat):Bool:=(g c).any fun o=>o.cls==.type "code" && (Gr o.data).any fun vs=>vs[11]?==some (.ref P) && vs.getD 11 .none==.ref P && (ae5 (vs.getD 18 .none)).isSome && (ae7 (vs.getD 7 .none)).isSome &&
   (aax (vs.getD 9 .none)).isSome && (ae7 (vs.getD 10 .none)).isSome && !(dF c P)
theorem YX{h:cD}{c P:Nat}(e:SM h.get? c P=true):CodeHd h c P:=by
 obtain⟨o,ho,e⟩:=eO e
 rw[aL] at e
 obtain⟨vs,hv,e2⟩:=eO e.2
 simp only[aL,beq_iff_eq,gB] at e2
 obtain⟨⟨⟨⟨⟨⟨f2,f3⟩,f4⟩,f5⟩,f6⟩,f7⟩,f8⟩:=e2
 obtain⟨a1,a2,f4⟩:=acd f4
 obtain⟨a3,a4,f5⟩:=QC f5
 obtain⟨a5,f6⟩:=YW f6
 obtain⟨a6,a7,f7⟩:=QC f7
 exact⟨o,vs,a1,a2,a3,a4,a5,a6,a7,ho,eq_of_beq e.1,Ba hv,f2,f3,f4,f5,f6,f7,mJ f8⟩
noncomputable def SN(o:Obj):Bool:=o.cls==.none && o.dict.isNone && ((Gr o.data).any fun vs=>vs.toList.isEmpty) && o.slots.toList.isEmpty
theorem M5{o:Obj}(e:SN o=true):o={cls:=.none,data:=.fields #[]}:=by
 obtain⟨c,d,dt,sl⟩:=o
 unfold SN at e
 simp only[aL,beq_iff_eq,oX,jo] at e
 obtain⟨⟨⟨rfl,rfl⟩,e3⟩,e4⟩:=e
 obtain⟨vs,hv,e5⟩:=eO e3
 obtain rfl:=Ba hv
 obtain rfl:vs=#[]:=xR.mp (jo.mp e5)
 obtain rfl:sl=#[]:=xR.mp e4
 rfl
noncomputable def VF(g:aH->Option Obj)(t:aH×aH×Str):Bool:=SM g t.1 t.2.1 && (g t.2.1).any SN
noncomputable def aaC:Data->Bool | .plain=>true | _=>false
theorem YZ{d:Data}(e:aaC d=true):d=.plain:=by cases d <;> first | rfl | exact ff e
noncomputable def alF(g:aH->Option Obj):Bool:=nsG g mainGlobals "__builtins__"==some (.ref 4) && (g 4).any fun o=>o.cls==.type "module" && o.dict==some builtinsNs && aaC o.data
noncomputable def ace(g:aH->Option Obj)(K:lZ):Bool:=Gq.all (VF g) && alF g && (Xn.all fun C=>Xn.all fun C'=>exmOne K (.ref C) (.ref C')==some (dF C C')) && Xn.all (afi K) && afk K
theorem Y0{L:aH}(hL:LOk L):∀ t∈Gq,t.1∉tpL L/\mainGlobals≠t.2.1:=by rcases hL with rfl | rfl <;> decide +kernel
theorem afm:∀ t∈Gq,∀ t'∈Gq,t.2.1=t'.2.1->t=t':=by decide +kernel
theorem aox{w:cY}{h:cD}{L:aH}(hL:LOk L)(hg:h.Ns mainGlobals (h.nsMap mainGlobals))(hs:h.Ns L (h.nsMap L))(eb:[35,1071].map (yH (iy h.get? J1))=[b35,Jq])(e:ace h.get? (iy h.get? J1)=true):Fx (bB w h L)/\(∀ {f sG hs},(f,sG,hs)∈(bB w h L).cats->ahK (bB w h L) f sG hs)/\Inv (bB w h L) h:=by
 unfold ace at e
 simp only[aL,bx] at e
 obtain⟨⟨⟨⟨e1,e2⟩,e3⟩,e4⟩,e5⟩:=e
 refine⟨⟨fun t ht=>?_,?_,?_,(by decide +kernel:("Exception":Str)∈gnL),fun C hC C' hC'=>?_,fun C hC=>afj (e4 C hC) (gb eb).1⟩,afl e5 (gb (gb eb).2).1,hg,hs,(show L < mainGlobals by rcases hL with rfl | rfl <;> decide),fun t ht=>?_,fun t ht ps e=>?_⟩
 ·have:=e1 t ht
  unfold VF at this
  rw[aL] at this
  exact⟨YX this.1,Y0 hL t ht⟩
 ·exact afm
 ·unfold alF at e2
  rw[aL] at e2
  obtain⟨o,ho,b⟩:=eO e2.2
  simp only[aL,beq_iff_eq] at b
  refine .mk (eq_of_beq e2.1) (by decide) (by decide) (show 4∉tpL L by rcases hL with rfl | rfl <;> decide +kernel) ho b.1.1 b.1.2 (YZ b.2)
 ·have:=eq_of_beq (e3 C hC C' hC')
  refine this.trans (congrArg some ?_)
  cases q:dF C C' with
  | true=>exact(decide_eq_true (eV q)).symm
  | false=>exact(decide_eq_false (mJ q)).symm
 ·have:=e1 t ht
  unfold VF at this
  rw[aL] at this
  obtain⟨o,ho,b⟩:=eO this.2
  obtain rfl:=M5 b
  exact⟨#[],ho,trivial,fun pos cv q=>nomatch q⟩
 ·have:=e1 t ht
  unfold VF at this
  rw[aL] at this
  obtain⟨o,ho,b⟩:=eO this.2
  obtain rfl:=M5 b
  have ho:h.get? t.2.1=_:=ho
  rw[ho] at e; cases e
  exact⟨#[],#[],ho,rfl⟩
section
abbrev M6:Ctx:=⟨.builtin "claim.caller" {},none,none,[],none⟩
theorem afn:Nd (.builtin "claim.caller" {}):=fun J J J J=>(show false=false from rfl)
theorem Y4:Pz M6:=⟨afn,fun x hx=>absurd (show x∈([]:List (Code×Pos)) from hx) dK⟩
theorem aaD{M:jC}{t:Sem PySem.Fin}{R:mQ->aB->Prop}{s:aB}
  (h:je M callerA t (fun fin s'=>∃ f,fin=.done f/\R (.ok f) s') (fun e s'=>R (.error e) s') s)(p:Pos):
  Sem.wp M M6 t (Sem.finPost M M6 R) (fun e J s'=>R (.error e) s') p s:=
 vP M M6 t (fun fin p' s' q=>by obtain⟨f,rfl,z⟩:=q; exact z) (fun J J J q=>q) p s (h M6 p caller_in Y4)
section
variable{B:Bs}{n:Nat}{x:fK}{f:Nat}{vs:List V}{rs:List au}{Q:Po}
theorem acf(D:∀ {f mf},B.pg.fn f=some mf->TF B f mf)(K:Kn B n)(hn:callerA.depth + 1 + 2 * n<=990)(hu:callerA.units + 3 + 16 * n<=9000)(w:Wd B x)(r:yw B x vs rs)(q:(W B.pg (n + 1)).c f vs x.st Q (fun J J=>False)):
  je (Mo B) callerA (call (.ref f) rs) (fun v s'=>∃ g' st',Ev B pO x ⟨g',st',s'⟩/\Wd B ⟨g',st',s'⟩/\PV B Q v ⟨g',st',s'⟩) (fun J J=>False) x.s:=by
 refine rA q fun mf hf q=>rA q fun vp hb q1=>?_
 cases D hf with | @mk fd body sc H clo bd cl ss=>
 have KI:=K.b.F.at w.stay
 obtain⟨o,ho,hd⟩:=H.b.at_
 refine pF (lG (code:=fun env=>.func body env) (by decide) (KI _ _ ho) hd H.b.co H.b.gen (fun {env}=>by rw[bd]) rfl (fun J J J J=>rfl) (H.b.code.cr KI) (Vs (A':=callerA.deeper (sI fd.scope x.s.heap.objs.size [] (fd.qualname++".<locals>.") (some f) fd.code)) w w H clo cl KI r hb fun {s1 m} E0 w1 F1 ho1 hz=>⟨K.b.lim.ok w1.inv w1.stay,El ?_⟩))
 have fl:Hs ⟨x.g,x.st,s1⟩ x.s.heap.objs.size:=by
  obtain⟨o,e1,c1⟩:=ho1
  obtain⟨oL,es,k,e2,d⟩:=jq F1.ns
  exact .mk F1.Aj e2 (aC (e1.symm.trans e2)▸c1) d
 have hfr:(callerA.deeper (sI fd.scope x.s.heap.objs.size [] (fd.qualname++".<locals>.") (some f) fd.code)).frames=some [sI fd.scope x.s.heap.objs.size [] (fd.qualname++".<locals>.") (some f) fd.code]:=jz rfl
 have C1:Cx ⟨B,callerA.deeper (sI fd.scope x.s.heap.objs.size [] (fd.qualname++".<locals>.") (some f) fd.code),sI fd.scope x.s.heap.objs.size [] (fd.qualname++".<locals>.") (some f) fd.code,sc⟩ n vp ⟨x.g,x.st,s1⟩:=
  ⟨w1,⟨rfl,hn,hu,_,hfr,.mk rfl rfl rfl (Heap.FunFrames.cons (by rw[F1.es.kind]; decide) rfl F1.ns F1.es.Xz trivial) fun a ha=>aN.mp (show a∈[x.s.heap.objs.size] from ha)▸fl⟩,_,F1⟩
 refine bT (ss.ss (⟨⟨⟨rfl,rfl⟩,K,C1⟩,.mk hfr rfl⟩:Cz (At B sc) _ n vp _) q1) (fun fl s2 z=>?_) fun e s2 q=>?_
 ·cases z with | mk ev wd lk q=>
  exact⟨_,_,(E0.of.trans ev).drop fun q=>.inr (hz q),wd,PS.val q⟩
 ·cases q with | mk _ _ h=>exact h.elim
end
end
noncomputable abbrev uK:OpenRow:=PySem.Challenge.rw_np0217_02.row
theorem Js{g g':aH->Option Obj}(k:∀ b o,g b=some o->g' b=some o):∀ {l:List Nat},(l.all fun a=>(g a).isSome)=true->iy g' l=iy g l
 | [],_=>rfl
 | a::r,e=>by
  have e':((g a).isSome && r.all fun a=>(g a).isSome)=true:=e
  rw[aL] at e'
  obtain⟨o,ho⟩:=cV.mp e'.1
  show(match g' a with | some o=>(a,o)::iy g' r | none=>iy g' r)=(match g a with | some o=>(a,o)::iy g r | none=>iy g r)
  rw[ho,k a o ho]
  show(a,o)::iy g' r=_
  rw[Js k e'.2]
theorem Gs{g g':aH->Option Obj}(k:∀ b o,g b=some o->g' b=some o){a:aH}{p:Obj->Bool}(e:(g a).any p=true):(g' a).any p=true:=by
 cases h:g a with
 | none=>rw[h] at e; cases e
 | some o=>rw[h] at e; rw[k a o h]; exact e
theorem VG{g g':aH->Option Obj}(k:∀ b o,g b=some o->g' b=some o){a:aH}(e:(g a).isSome=true)(x:Str):nsG g' a x=nsG g a x:=by
 obtain⟨o,ho⟩:=cV.mp e
 unfold nsG; rw[ho,k a o ho]
noncomputable def Jt(g:aH->Option Obj)(K:lZ):Bool:=ab3 g K && Xc.all (afe K) && ace g K
noncomputable def VH(g:aH->Option Obj)(a:aH):Bool:=(g a).any fun o=>match o.data with | .dict es _=>es.all (fun e=>match e.key with | .str _ _=>true | _=>false) | _=>false
theorem afo{h:cD}{a:aH}(e:VH h.get? a=true):h.isNs a=true:=by
 unfold VH at e
 unfold Heap.isNs
 cases q:h.get? a with
 | none=>rw[q] at e; cases e
 | some o=>rw[q] at e; exact e
theorem Y5{g g':aH->Option Obj}(k:∀ b o,g b=some o->g' b=some o){K:lZ}(e:Jt g K=true):Jt g' K=true:=by
 unfold Jt at e ⊢
 rw[aL,aL] at e ⊢
 obtain⟨⟨e1,e2⟩,e3⟩:=e
 have e1':=e1
 unfold ab3 at e1 ⊢
 simp only[aL] at e1 ⊢
 obtain⟨⟨⟨⟨⟨a1,a2⟩,a3⟩,a4⟩,a5⟩,a6⟩:=e1
 have h3:(g mainGlobals).isSome=true:=bx.mp a1 3 (by decide)
 have ns:=VG k h3
 refine⟨⟨⟨⟨⟨⟨⟨?_,?_⟩,?_⟩,a4⟩,a5⟩,a6⟩,e2⟩,?_⟩
 ·refine bx.mpr fun b hb=>?_
  obtain⟨o,ho⟩:=cV.mp (bx.mp a1 b hb)
  rw[k b o ho]; rfl
 ·refine bx.mpr fun p hp=>?_
  rw[ns]; exact bx.mp a2 p hp
 ·refine bx.mpr fun p hp=>?_
  rw[ns]; exact bx.mp a3 p hp
 ·unfold ace at e3 ⊢
  simp only[aL] at e3 ⊢
  obtain⟨⟨⟨⟨b1,b2⟩,b3⟩,b4⟩,b5⟩:=e3
  refine⟨⟨⟨⟨bx.mpr fun t ht=>?_,?_⟩,b3⟩,b4⟩,b5⟩
  ·have:=bx.mp b1 t ht
   unfold VF SM at this ⊢
   rw[aL] at this ⊢
   exact⟨Gs k this.1,Gs k this.2⟩
  ·unfold alF at b2 ⊢
   rw[aL] at b2 ⊢
   rw[ns]
   exact⟨b2.1,Gs k b2.2⟩
theorem SQ{h:cD}{a:aH}{m:Str->Option au}(n:h.Ns a m):h.Ns a (h.nsMap a):=by
 obtain⟨o,es,ep,ho,hd,sk,_⟩:=n
 refine⟨o,es,ep,ho,hd,sk,fun name=>?_⟩
 unfold Heap.nsMap
 rw[ho]
 show nsFind es name=(match o.data with | .dict es _=>nsFind es name | _=>none)
 rw[hd]
theorem aaE{K:lZ}{f:Nat}{fd:g8}(e:Pa K f=some fd):keepIn K (.ref f)=true:=by
 obtain⟨⟨c,d,dt,sl⟩,ho,hd⟩:=Ia e
 cases(show dt=.func fd from hd)
 unfold keepIn
 dsimp only
 rw[ho]
structure Gu(w:cY)(h:cD)(L:aH):Prop where
 F:Fb (bB w h L)
 D:∀ {f mf},(bB w h L).pg.fn f=some mf->TF (bB w h L) f mf
 I:Inv (bB w h L) h
 T:yu (bB w h L)
 S:Ec (bB w h L) h
theorem aiI{w:cY}{h:cD}{L:aH}(hL:LOk L){mg mb:Str->Option au}(e:Jt h.get? (iy h.get? J1)=true)(eb:Xc.map (fun p=>turn (bB w h L) p.1)=Xc.map (·.2.body))(ec:[35,1071].map (yH (iy h.get? J1))=[b35,Jq])
  (g:h.Ns mainGlobals mg)(b:h.Ns builtinsNs mb)(hb:∀ x:Str,x≠"__name__"->mb x=bootBuiltins x)(nl:h.NoLimit)(is1:h.isNs 1=true):Gu w h L:=by
 unfold Jt at e
 rw[aL,aL] at e
 obtain⟨⟨e1,e2⟩,e3⟩:=e
 have e1':=e1
 unfold ab3 at e1'
 simp only[aL] at e1'
 have low:∀ b∈[0,1,2,3],h.get? b≠none:=fun b m q=>by
  have:=bx.mp e1'.1.1.1.1.1 b m
  rw[q] at this; cases this
 obtain⟨mc,nc,hm⟩:=nl
 have nL:h.Ns L (h.nsMap L):=by
  rcases hL with rfl | rfl
  ·exact .of_isNs is1
  ·exact SQ nc
 have F:=Fc.of (w:=w) hL ⟨mb,b,fun x v q hx=>(hb x hx).trans q⟩ e1
 obtain⟨Y,K,I⟩:=aox (w:=w) hL (SQ g) nL ec e3
 refine⟨⟨F,Y,alD hL nL ⟨mc,nc,hm⟩,fun {f} q=>?_,fun {C nm f} q=>?_,fun hc=>⟨K hc,?_⟩⟩,aos (B:=bB w h L) e2 eb,I,fun a ha=>?_,⟨low 3 (by decide),low 1 (by decide),(show h.get? L≠none by rcases hL with rfl | rfl; exact low 1 (by decide); exact low 2 (by decide)),fun q J=>q,fun q=>⟨_,q⟩⟩⟩
 ·obtain⟨mf,hf⟩:=cV.mp q
  obtain⟨fd,h1,_⟩:=eO (bx.mp e2 _ (vq (show Xc.lookup f=some mf from hf)))
  exact aaE h1
 ·obtain⟨p,hp,rfl⟩:=gQ.mp q
  have z:=bx.mp e1'.2 p (oW hp)
  unfold alz at z
  rw[aL] at z
  exact z.2
 ·cases(aN.mp hc:_=(1071,eE,vY))
  unfold ace afk at e3
  rw[aL] at e3
  obtain⟨fd,h1,_⟩:=eO e3.2
  exact aaE h1
 ·rcases aY.mp ha with rfl | ha
  ·obtain⟨o,_,_,q,_⟩:=nL; exact⟨o,q⟩
  ·obtain⟨t,ht,rfl⟩:=fX.mp ha
   obtain⟨ps,q,_⟩:=I.tb t ht
   exact⟨_,q⟩
theorem aiJ:∀ {x:WData},WShape.has [] x .int=true->∃ i,x=.int i
 | .int i,_=>⟨i,rfl⟩
 | .none,e | .bool _,e | .str _,e | .list _,e | .tuple _,e | .dict _,e | .float _,e | .bytes _,e | .bytearray _,e | .set _,e | .obj ..,e=>ff e
theorem aaF:∀ {xs:List WData},tM [] xs .int=true->∃ is:List Int,xs=is.map qw
 | [],_=>⟨[],rfl⟩
 | x::xs,e=>
  have e':=(cg.mp (show(WShape.has [] x .int && tM [] xs .int)=true from e))
  (aiJ e'.1).elim fun i q=>(aaF e'.2).elim fun is r=>⟨i::is,by rw[q,r]; rfl⟩
theorem Ju:∀ {is:List Int} {i:Int},i∈is->WData.weight (.int i)<=zL (is.map qw)
 | j::is,i,h=>by
  show WData.weight (.int i)<=WData.weight (.int j) + 1 + zL (is.map qw)
  rcases aY.mp h with rfl | h
  ·omega
  ·have:=Ju h; omega
set_option tactic.hygienic true in
theorem acg{is:List Int}(h:WData.layableAll [.list (is.map qw)]=true):∀ i∈is,qz i=true:=fun i hi=>by
 unfold WData.layableAll WData.layable at h
 simp only[List.all_cons,List.all_nil,Bool.and_true,aL,decide_eq_true_eq] at h
 have w1:zL (is.map qw)<=2 ^ 20:=h.2
 have w2:=ak (Ju hi) w1
 have w3:jN i<=2 ^ 20:=w2
 unfold qz
 refine decide_eq_true ?_
 unfold jN at w3
 split at w3
 ·rename_i q
  have:i=0:=by simpa using q
  subst this; decide
 ·omega
theorem afp:∀ {d:WData},WShape.has [] d (.list .int)=true->∃ xs,d=.list xs/\tM [] xs .int=true
 | .list xs,e=>⟨xs,rfl,(rY _).symm.trans (show(tM [] xs .int || false)=true from e)⟩
 | .int _,e | .none,e | .bool _,e | .str _,e | .tuple _,e | .dict _,e | .float _,e | .bytes _,e | .bytearray _,e | .set _,e | .obj ..,e=>ff e
theorem afq(i j:Int):less? (.int i) (.int j)=some (decide (i < j)):=rfl
theorem ach{xs:List WData}(h:PySem.Challenge.rw_np0217_02.pre.holds [] {args:=[.list xs]}=true):¬ (63:Int) < (xs.length:Int):=fun q=>by
 have e:less? (.int 63) (.int (xs.length:Int))=some true:=(afq _ _).trans (congrArg some (decide_eq_true q))
 have h2:(fun b:Option Bool=>(match(match(match b.map oA with | some (oA b)=>some (oA !b) | _=>none) with | some (oA false)=>some (oA false) | some (oA true)=>some (oA true) | _=>none) with | some (oA true)=>true | _=>false)) (less? (.int 63) (.int (xs.length:Int)))=true:=h
 rw[e] at h2; exact ff h2
theorem afr{args:List WData}(h:uK.claim.pre args=true):∃ is:List Int,args=[.list (is.map qw)]/\is.length<=63:=by
 have h1:=pre_splitW (r:=uK.toRowW) h
 refine(hasAllW_cons h1.1).elim fun d q=>q.elim fun r q=>?_
 refine(afp q.2.1).elim fun xs z=>(aaF z.2).elim fun is zi=>⟨is,?_,?_⟩
 ·rw[q.1,z.1,zi,hasAllW_nil q.2.2]
 ·have h2:=h1.2
  rw[q.1,z.1,zi,hasAllW_nil q.2.2] at h2
  have:=ach h2
  rw[aQ] at this
  exact jQ.mp (dh.mp this)
theorem aci(args:List WData):uK.claim.post args (.bool true) args=true:=by
 show(match some (oA (same (.bool true) (.bool true))) with | some (.bool true)=>true | _=>false)=true
 rw[show same (.bool true) (.bool true)=true by first | decide | (unfold same; rfl)]
end
end Mine.Internal
namespace Mine.Internal.S
section
@[irreducible] noncomputable def stk{α:Type}(o:Option α):Option α:=Classical.choose (⟨o,rfl⟩:∃ x,x=o)
theorem SX{α:Type}(o:Option α):stk o=o:=by delta stk; exact Classical.choose_spec (⟨o,rfl⟩:∃ x,x=o)
@[irreducible] noncomputable def ifb(b:Bool)(A B:Prop):Prop:=if b=true then A else B
theorem S5(b:Bool)(A B:Prop):ifb b A B=if b=true then A else B:=by delta ifb; rfl
abbrev TF:=List (Option V)
noncomputable def wu:TF->Nat->Option V
 | [],_=>.none
 | x::_,0=>x
 | _::r,k + 1=>wu r k
noncomputable def wA:TF->Nat->V->TF
 | [],0,v=>[some v]
 | _::r,0,v=>some v::r
 | [],k + 1,v=>.none::wA [] k v
 | x::r,k + 1,v=>x::wA r k v
def leT(a b:TF):Prop:=∀ k v,wu a k=some v->wu b k=some v
mutual
noncomputable def xg:Pt->V->TF->Option TF
 | .v k,v,fr=>some (wA fr k v)
 | .t ps,v,fr=>iT (fun vs=>Y6 ps vs fr) v
noncomputable def Y6:List Pt->List V->TF->Option TF
 | [],vs,fr=>(match vs with | []=>some fr | _::_=>.none)
 | p::ps,vs,fr=>(match vs with | []=>.none | v::vs=>bnd (xg p v fr) fun fr=>Y6 ps vs fr)
end
noncomputable def ajX(df:List V)(np:Nat)(args:List V):Option TF:=
 let all:=args++df.drop (df.length - (np - args.length))
 gd (args.length<=np/\all.length=np) (all.map some)
inductive T where
 | leaf (p:Prop)
 | opV (o:Option V) (K:V->T)
 | opP (o:Option (V×St)) (K:V->St->T)
 | opN (o:Option Nat) (K:Nat->T)
 | opL (o:Option (List V)) (K:List V->T)
 | Y7 (b:Bool) (A B:T)
 | gen (F:Po->Ex->Prop) (K:V->St->T) (X:Nat->St->T)
 | genS (F:(Fl->TF->St->Prop)->Ex->Prop) (K:Fl->TF->St->T) (X:Nat->St->T)
noncomputable def den:T->Prop
 | .leaf p=>p
 | .opV o K=>ok o fun a=>den (K a)
 | .opP o K=>ok o fun a=>den (K a.1 a.2)
 | .opN o K=>ok o fun a=>den (K a)
 | .opL o K=>ok o fun a=>den (K a)
 | .Y7 b A B=>ifb b (den A) (den B)
 | .gen F K X=>F (fun v st=>den (K v st)) fun c st=>den (X c st)
 | .genS F K X=>F (fun f v st=>den (K f v st)) fun c st=>den (X c st)
abbrev S6:=V->St->T
abbrev vd:=Nat->St->T
abbrev zV:=Fl->TF->St->T
structure M7 where
 e:ME->TF->St->S6->vd->T
 t:ME->TF->St->(Bool->St->T)->vd->T
 a:Tg->V->TF->St->(TF->St->T)->vd->T
 s:MS->TF->St->zV->vd->T
noncomputable def okT{α:Type}(o:Option α)(Q:α->T):T:=match o with | some a=>Q a | .none=>.leaf False
noncomputable def tI(f:Int->T):V->T | .int i=>f i | _=>.leaf False
noncomputable def tB(f:Bool->T):V->T | .bool i=>f i | _=>.leaf False
noncomputable def tR(f:Nat->T):V->T | .ref i=>f i | _=>.leaf False
noncomputable def tT(f:List V->T):V->T | .tup i=>f i | _=>.leaf False
noncomputable def tN(p:T):V->T | .none=>p | _=>.leaf False
noncomputable def tx(A:TF->St->T)(Q:zV):zV | .next=>A | .cont=>Q .cont | .ret v=>Q (.ret v)
noncomputable def nrT(A:TF->St->Prop)(Q:Fl->TF->St->Prop):Fl->TF->St->Prop | .next,fr,st=>∃ fr0,leT fr0 fr/\A fr0 st | .cont,fr,st=>∃ fr0,leT fr0 fr/\A fr0 st | .ret v,fr,st=>Q (.ret v) fr st
noncomputable def iop:Bop->Int->Int->Option V
 | .add,x,y=>some (.int (x + y))
 | .sub,x,y=>some (.int (x - y))
 | _,_,_=>.none
noncomputable def aoB(op:Bop)(a b:V):Option V:=iI (fun x=>iI (iop op x) b) a
noncomputable def alG(st:St)(op:Bop)(a b:V)(K:V->T):T:=match aoB op a b with | some v=>K v | .none=>.opV (stk (Oj st op a b)) K
noncomputable def icp:Cop->Int->Int->Option Bool
 | .lt,x,y=>some (decide (x < y))
 | .le,x,y=>some (decide (x<=y))
 | .gt,x,y=>some (decide (x > y))
 | .ge,x,y=>some (decide (x ≥ y))
 | .eq,x,y=>some (decide (x=y))
 | .ne,x,y=>some (!decide (x=y))
 | _,_,_=>.none
noncomputable def aoC(op:Cop)(a b:V):Option Bool:=iI (fun x=>iI (icp op x) b) a
noncomputable def qC{α β:Type}(f:α->β)(o:Option α):Option β:=match o with | some a=>some (f a) | .none=>.none
noncomputable def aft(st:St)(op:Cop)(a b:V)(K:V->T):T:=match aoC op a b with | some v=>K (.bool v) | .none=>.opV (stk (qC .bool (cop st op a b))) K
noncomputable def meth(P:Pg)(st:St)(i nm:Nat):Option Nat:=bnd (ur st i) fun p=>if(gH p.2 nm).isSome=true then .none else P.me p.1 nm
section
variable(r:M7)
noncomputable def esT:List ME->TF->St->(List V->St->T)->vd->T
 | [],_,st,Q,_=>Q [] st
 | m::l,fr,st,Q,X=>r.e m fr st (fun v st=>esT l fr st (fun vs st=>Q (v::vs) st) X) X
noncomputable def afu(oR:Bool):List ME->TF->St->S6->vd->T
 | [],_,_,_,_=>.leaf False
 | m::l,fr,st,Q,X=>(match l with
  | []=>r.e m fr st Q X
  | _::_=>r.e m fr st (fun v st=>tB (fun b=>.Y7 (b==oR) (afu oR l fr st Q X) (Q (.bool b) st)) v) X)
noncomputable def afv(oR:Bool):List ME->TF->St->(Bool->St->T)->vd->T
 | [],_,st,Q,_=>Q oR st
 | m::l,fr,st,Q,X=>r.t m fr st (fun b st=>.Y7 (b==oR) (afv oR l fr st Q X) (Q b st)) X
noncomputable def aiK:Option ME->TF->St->(Option V->St->T)->vd->T
 | .none,_,st,Q,_=>Q .none st
 | some m,fr,st,Q,X=>r.e m fr st (fun v st=>Q (some v) st) X
noncomputable def tC:List MS->TF->St->zV->vd->T
 | [],fr,st,Q,_=>Q .next fr st
 | m::l,fr,st,Q,X=>r.s m fr st (tx (fun fr st=>tC l fr st Q X) Q) X
noncomputable def ajZ:Option ME->TF->St->(Bool->St->Prop)->Prop
 | .none,_,st,Q=>Q true st
 | some m,fr,st,Q=>den (r.t m fr st (fun b st=>.leaf (Q b st)) fun J J=>.leaf False)
noncomputable def Du(pt:Pt)(cond:Option ME)(elt:ME)(fr:TF)(live:St->Prop):List V->List V->St->(List V->St->Prop)->Prop
 | [],acc,st,Q=>live st/\Q acc st
 | x::l,acc,st,Q=>live st/\acc.length < lim/\ok (xg pt x fr) fun fr'=>ajZ r cond fr' st fun b st=>
  if b=true then den (r.e elt fr' st (fun v st=>.leaf (Du pt cond elt fr live l (acc++[v]) st Q)) fun J J=>.leaf False)
  else Du pt cond elt fr live l acc st Q
noncomputable def VK(pt:Pt)(body:List MS)(live:St->Prop):List V->TF->St->(Fl->TF->St->Prop)->Ex->Prop
 | [],fr,st,Q,_=>live st/\Q .next fr st
 | x::l,fr,st,Q,X=>live st/\ok (xg pt x fr) fun fr=>den (tC r body fr st (fun f fr st=>.leaf (nrT (fun fr st=>VK pt body live l fr st Q X) Q f fr st)) fun c st=>.leaf (X c st))
noncomputable def Y8(c:ME)(body:List MS)(fr:TF)(st:St)(Q:Fl->TF->St->Prop)(X:Ex):Prop:=
 ∃ (I:Nat->TF->St->Prop) (n:Nat),I n fr st/\∀ n fr st,I n fr st->den (r.t c fr st (fun b st=>.Y7 b
  (tC r body fr st (fun f fr st=>.leaf (nrT (fun fr st=>∃ m,m < n/\I m fr st) Q f fr st)) fun c st=>.leaf (X c st)) (.leaf (Q .next fr st))) fun c st=>.leaf (X c st))
noncomputable def alH:List Tg->List V->TF->St->(TF->St->T)->vd->T
 | [],vs,fr,st,Q,_=>(match vs with | []=>Q fr st | _::_=>.leaf False)
 | t::ts,vs,fr,st,Q,X=>(match vs with | []=>.leaf False | v::vs=>r.a t v fr st (fun fr st=>alH ts vs fr st Q X) X)
end
noncomputable def aj0(P:Pg)(c:Nat->List V->St->Po->Ex->Prop)(r:M7):M7 where
 e:=fun m fr st Q X=>match m with
  | .aj v=>Q v st
  | .aD k=>okT (wu fr k) fun v=>Q v st
  | .bR o f=>r.e o fr st (fun v st=>.opV (stk (Q9 st v f)) fun x=>Q x st) X
  | .bin op a b=>r.e a fr st (fun va st=>r.e b fr st (fun vb st=>alG st op va vb fun x=>Q x st) X) X
  | .neg a=>r.e a fr st (fun v st=>tI (fun i=>Q (.int (-i)) st) v) X
  | .not a=>r.e a fr st (fun v st=>tB (fun b=>Q (.bool (!b)) st) v) X
  | .bool oR l=>afu r oR l fr st Q X
  | .cmp a op b=>r.e a fr st (fun va st=>r.e b fr st (fun vb st=>aft st op va vb fun x=>Q x st) X) X
  | .z8 a op1 b op2 c=>r.e a fr st (fun va st=>r.e b fr st (fun vb st=>aft st op1 va vb (tB fun x=>
    .Y7 x (r.e c fr st (fun vc st=>aft st op2 vb vc fun y=>Q y st) X) (Q (.bool false) st))) X) X
  | .ite c a b=>r.t c fr st (fun t st=>.Y7 t (r.e a fr st Q X) (r.e b fr st Q X)) X
  | .tup l=>esT r l fr st (fun vs st=>Q (.tup vs) st) X
  | .jJ l=>esT r l fr st (fun vs st=>Q (.lst vs) st) X
  | .Fg l=>esT r l fr st (fun vs st=>Q (.ref st.length) (st++[.list vs])) X
  | .dict=>Q (.ref st.length) (st++[.dict []])
  | .qy a i=>r.e a fr st (fun va st=>r.e i fr st (fun vi st=>.opV (stk (Fi st va vi)) fun x=>Q x st) X) X
  | .slice a lo hi=>r.e a fr st (fun va st=>aiK r lo fr st (fun vl st=>aiK r hi fr st (fun vh st=>.opV (stk (uw st va vl vh)) fun x=>Q x st) X) X) X
  | .comp pt k src cond elt=>esT r src fr st (fun vs st=>.opL (stk (lF st k vs)) fun l=>.gen (fun Q J=>Du r pt cond elt fr (fun st=>ux st k vs l) l [] st (fun acc st=>Q (.lst acc) st)) Q X) X
  | .call f args=>esT r args fr st (fun vs st=>.gen (c f vs st) Q X) X
  | .bk nm o args=>r.e o fr st (fun v st=>tR (fun i=>.opN (stk (meth P st i nm)) fun f=>esT r args fr st (fun vs st=>.gen (c f (.ref i::vs) st) Q X) X) v) X
  | .new C f args=>esT r args fr st (fun vs st=>.gen (c f (.ref st.length::vs) (st++[.inst C []])) (fun v st'=>tN (Q (.ref st.length) st') v) (fun J J=>.leaf False)) X
  | .bi b args=>esT r args fr st (fun vs st=>.opV (stk (JH st b vs)) fun x=>Q x st) X
  | .Ub=>Q (.ref st.length) (st++[.ba []])
  | .bm m o args=>r.e o fr st (fun v st=>.Y7 (bmk st m v) (esT r args fr st (fun vs st=>.opP (stk (Z7 st m v vs)) Q) X) (.leaf False)) X
  | .heard _ sG hs body=>r.e body fr st (fun v st=>Q (.tup [sG,v]) st) (fun C st=>okT (hs.lookup C) fun x=>Q x st)
 t:=fun m fr st Q X=>match m with
  | .not a=>r.t a fr st (fun b st=>Q (!b) st) X
  | .bool oR l=>afv r oR l fr st Q X
  | .ite c a b=>r.t c fr st (fun t st=>.Y7 t (r.t a fr st Q X) (r.t b fr st Q X)) X
  | m=>r.e m fr st (fun v st=>tB (fun b=>Q b st) v) X
 a:=fun t v fr st Q X=>match t with
  | .v k=>Q (wA fr k v) st
  | .t l=>tT (fun vs=>if l.length=vs.length then alH r l vs fr st Q X else .leaf False) v
  | .at o f=>r.e o fr st (fun vo st=>.opP (stk (qC (Prod.mk V.none) (Ac P.has st vo f v))) fun J st=>Q fr st) X
  | .sub o i=>r.e o fr st (fun vo st=>r.e i fr st (fun vi st=>.opP (stk (qC (Prod.mk V.none) (Ab st vo vi v))) fun J st=>Q fr st) X) X
 s:=fun m fr st Q X=>match m with
  | .expr e=>r.e e fr st (fun J st=>Q .next fr st) X
  | .pass=>Q .next fr st
  | .cont=>Q .cont fr st
  | .ret e=>aiK r e fr st (fun v st=>Q (.ret (v.getD .none)) fr st) X
  | .eG t e=>r.e e fr st (fun v st=>r.a t v fr st (fun fr st=>Q .next fr st) X) X
  | .ite c a b=>r.t c fr st (fun t st=>.Y7 t (tC r a fr st Q X) (tC r b fr st Q X)) X
  | .while c body=>.genS (Y8 r c body fr st) Q X
  | .for pt k src body=>esT r src fr st (fun vs st=>.opL (stk (lF st k vs)) fun l=>.genS (VK r pt body (fun st=>ux st k vs l) l fr st) Q X) X
  | .raise C arg=>r.e arg fr st (fun J st=>X C st) X
noncomputable def arl:M7:=⟨fun J J J J J=>.leaf False,fun J J J J J=>.leaf False,fun J J J J J J=>.leaf False,fun J J J J J=>.leaf False⟩
noncomputable def E(P:Pg)(c:Nat->List V->St->Po->Ex->Prop):Nat->M7
 | 0=>arl
 | n + 1=>aj0 P c (E P c n)
end
section
abbrev zW(g:TF)(fr:Fm):Prop:=∀ k v,wu g k=some v->gH fr k=some v
abbrev LeV(K:S6)(Q:Po):Prop:=∀ v st,den (K v st)->Q v st
abbrev LeB(K:Bool->St->T)(Q:Bool->St->Prop):Prop:=∀ v st,den (K v st)->Q v st
abbrev LeX(K:vd)(Q:Ex):Prop:=∀ v st,den (K v st)->Q v st
abbrev LeA(K:TF->St->T)(Q:Fm->St->Prop):Prop:=∀ g fr st,zW g fr->den (K g st)->Q fr st
abbrev LeP(K:TF->St->Prop)(Q:Fm->St->Prop):Prop:=∀ g fr st,zW g fr->K g st->Q fr st
abbrev LeS(K:zV)(Q:Fl->Fm->St->Prop):Prop:=∀ f,LeA (K f) (Q f)
abbrev LeQ(K:Fl->TF->St->Prop)(Q:Fl->Fm->St->Prop):Prop:=∀ f,LeP (K f) (Q f)
structure Sim(r:M7)(r':Rec):Prop where
 e:∀ {m g fr st K Q X X'},zW g fr->den (r.e m g st K X)->LeV K Q->LeX X X'->r'.e m fr st Q X'
 t:∀ {m g fr st K Q X X'},zW g fr->den (r.t m g st K X)->LeB K Q->LeX X X'->r'.t m fr st Q X'
 a:∀ {m v g fr st K Q X X'},zW g fr->den (r.a m v g st K X)->LeA K Q->LeX X X'->r'.a m v fr st Q X'
 s:∀ {m g fr st K Q X X'},zW g fr->den (r.s m g st K X)->LeS K Q->LeX X X'->r'.s m fr st Q X'
theorem aoF{fr:Fm}{k:Nat}{v:V}:gH (pC fr k v) k=some v:=by
 induction fr with
 | nil=>exact if_pos rfl
 | cons p r ih=>
  by_cases e:p.1=k
  ·exact(congrArg (gH · k) (if_pos e)).trans (if_pos rfl)
  ·exact(congrArg (gH · k) (if_neg e)).trans ((if_neg e).trans ih)
theorem aoG{fr:Fm}{j k:Nat}{v w:V}(n:k≠j)(h:gH fr k=some w):gH (pC fr j v) k=some w:=by
 induction fr with
 | nil=>cases h
 | cons p r ih=>
  have h:(if p.1=k then some p.2 else gH r k)=some w:=h
  by_cases e:p.1=j
  ·exact(congrArg (gH · k) (if_pos e)).trans ((if_neg n.symm).trans ((if_neg fun q=>n (q.symm.trans e)).symm.trans h))
  ·refine(congrArg (gH · k) (if_neg e)).trans ?_
   by_cases q:p.1=k
   ·exact(if_pos q).trans ((if_pos q).symm.trans h)
   ·exact(if_neg q).trans (ih ((if_neg q).symm.trans h))
theorem afw{v:V}:∀ {k:Nat} {g:TF},wu (wA g k v) k=some v
 | 0,[]=>rfl
 | 0,_::_=>rfl
 | k + 1,[]=>afw (k:=k) (g:=[])
 | k + 1,_::g=>afw (k:=k) (g:=g)
theorem afx:∀ {k j:Nat} {v:V},j≠k->wu (wA [] k v) j=.none
 | 0,0,_,n=>absurd rfl n
 | 0,_ + 1,_,_=>rfl
 | _ + 1,0,_,_=>rfl
 | k + 1,j + 1,_,n=>afx (k:=k) fun e=>n (congrArg _ e)
theorem afy{v:V}:∀ {k j:Nat} {g:TF},j≠k->wu (wA g k v) j=wu g j
 | k,j,[],n=>afx n
 | 0,0,_::_,n=>absurd rfl n
 | 0,_ + 1,_::_,_=>rfl
 | _ + 1,0,_::_,_=>rfl
 | k + 1,j + 1,_::g,n=>afy (k:=k) (g:=g) fun e=>n (congrArg _ e)
theorem zW.set{g:TF}{fr:Fm}(h:zW g fr){k:Nat}{v:V}:zW (wA g k v) (pC fr k v):=fun j x e=>by
 by_cases q:j=k
 ·subst q; exact aC (afw.symm.trans e)▸aoF
 ·exact aoG q (h j x ((afy q).symm.trans e))
theorem zW.le{a b:TF}{fr:Fm}(h:zW b fr)(l:leT a b):zW a fr:=fun k v e=>h k v (l k v e)
theorem le_refl{a:TF}:leT a a:=fun J J h=>h
theorem Ib{a b:TF}{k:Nat}{v:V}(n:wu a k=.none)(h:leT a b):leT a (wA b k v):=fun j x e=>by
 by_cases q:j=k
 ·subst q; exact nn (n.symm.trans e)
 ·exact(afy q).trans (h j x e)
theorem okM{α:Type}{o:Option α}{Q Q':α->Prop}(h:ok o Q)(k:∀ a,Q a->Q' a):ok o Q':=by cases o with | none=>exact h | some a=>exact k a h
mutual
theorem afz:∀(p:Pt) {v:V} {g g':TF} {fr:Fm},xg p v g=some g'->zW g fr->∃ fr',Fj p v fr=some fr'/\zW g' fr'
 | .v k,v,g,g',fr,h,F=>bV (motive:=fun g'=>∃ fr',Fj (.v k) v fr=some fr'/\zW g' fr') h ⟨_,rfl,F.set⟩
 | .t ps,v,g,g',fr,h,F=>akr (P:=fun v=>∃ fr',Fj (.t ps) v fr=some fr'/\zW g' fr') h fun vs h=>afA ps h F
theorem afA:∀(ps:List Pt) {vs:List V} {g g':TF} {fr:Fm},Y6 ps vs g=some g'->zW g fr->∃ fr',Dz ps vs fr=some fr'/\zW g' fr'
 | [],[],g,g',fr,h,F=>bV (motive:=fun g'=>∃ fr',Dz [] [] fr=some fr'/\zW g' fr') h ⟨_,rfl,F⟩
 | [],_::_,_,_,_,h,_=>nn h
 | _::_,[],_,_,_,h,_=>nn h
 | p::ps,v::vs,g,g',fr,h,F=>gR h fun g1 e h=>(afz p e F).elim fun vp q=>(afA ps h q.2).elim fun fr' q'=>⟨fr',(congrArg (bnd · fun fr=>Dz ps vs fr) q.1).trans q'.1,q'.2⟩
end
theorem zW.args:∀(l:List V) (i:Nat) (k:Nat) (v:V),wu (l.map some) k=some v->gH ((eX i l.length).zip l) (i + k)=some v
 | [],_,_,_,h=>nn h
 | x::l,i,0,v,h=>(if_pos rfl).trans h
 | x::l,i,k + 1,v,h=>(if_neg fun e=>cB (iG (iQ k)) e).trans ((congrArg (gH _) (cN i 1 k).symm).trans (zW.args l (i + 1) k v h))
theorem alI{df args:List V}{np:Nat}{g:TF}(h:ajX df np args=some g):∃ fr,aad df np args=some fr/\zW g fr:=
 nH (motive:=fun g=>∃ fr,aad df np args=some fr/\zW g fr) h fun c=>⟨_,if_pos c,fun k v e=>by
  have:=zW.args _ 0 k v e
  rw[fU,c.2,← lu] at this
  exact this⟩
section
variable{r:M7}{r':Rec}(S:Sim r r'){g:TF}{fr:Fm}{st:St}{X:vd}{X':Ex}(x:LeX X X')
theorem okS{α:Type}{o:Option α}{Q Q':α->Prop}(h:ok (stk o) Q)(k:∀ a,Q a->Q' a):ok o Q':=okM (SX o▸h) k
theorem okE{α:Type}{o:Option α}{a:α}{Q:α->Prop}(e:o=some a)(h:Q a):ok o Q:=by rw[e]; exact h
theorem okD{α:Type}{o:Option α}{Q:α->T}{Q':α->Prop}(h:den (okT o Q))(k:∀ a,den (Q a)->Q' a):ok o Q':=by cases o with | none=>exact h | some a=>exact k a h
theorem aoI{c:Prop}[Decidable c]{A B A' B':Prop}(h:if c then A else B)(k:A->A')(k':B->B'):if c then A' else B':=by
 by_cases q:c
 ·rw[if_pos q] at h ⊢; exact k h
 ·rw[if_neg q] at h ⊢; exact k' h
theorem afB{b:Bool}{A B A' B':Prop}(h:ifb b A B)(k:A->A')(k':B->B'):if b=true then A' else B':=aoI (S5 b A B▸h) k k'
theorem aoJ{b i:Bool}{A B A' B':Prop}(h:ifb (b==i) A B)(k:A->A')(k':B->B'):if b=i then A' else B':=by
 rw[S5] at h
 by_cases q:b=i
 ·rw[if_pos (beq_iff_eq.mpr q)] at h; rw[if_pos q]; exact k h
 ·rw[if_neg fun e=>q (beq_iff_eq.mp e)] at h; rw[if_neg q]; exact k' h
theorem vBD{f:Bool->T}{f':Bool->Prop}{v:V}(h:den (tB f v))(k:∀ b,den (f b)->f' b):vB f' v:=by cases v <;> first | exact k _ h | exact h
theorem vID{f:Int->T}{f':Int->Prop}{v:V}(h:den (tI f v))(k:∀ b,den (f b)->f' b):vI f' v:=by cases v <;> first | exact k _ h | exact h
theorem vRD{f:Nat->T}{f':Nat->Prop}{v:V}(h:den (tR f v))(k:∀ b,den (f b)->f' b):vR f' v:=by cases v <;> first | exact k _ h | exact h
theorem vTD{f:List V->T}{f':List V->Prop}{v:V}(h:den (tT f v))(k:∀ b,den (f b)->f' b):vT f' v:=by cases v <;> first | exact k _ h | exact h
theorem vND{f:T}{f':Prop}{v:V}(h:den (tN f v))(k:den f->f'):vN f' v:=by cases v <;> first | exact k h | exact h
theorem nxD{A:TF->St->T}{A':Fm->St->Prop}{Q:zV}{Q':Fl->Fm->St->Prop}(k:LeA A A')(q:LeS Q Q'):LeS (tx A Q) (nx A' Q')
 | .next=>k
 | .cont=>q .cont
 | .ret x=>q (.ret x)
theorem alJ{st:St}{op:Bop}{x y:Int}{v:V}(h:iop op x y=some v):Oj st op (.int x) (.int y)=some v:=by cases op <;> first | exact h | exact nn h
theorem alK{st:St}{op:Cop}{x y:Int}{v:Bool}(h:icp op x y=some v):cop st op (.int x) (.int y)=some v:=by cases op <;> first | exact h | exact nn h
theorem aro{op:Bop}{a b:V}{K:V->T}{Q:V->Prop}(h:den (alG st op a b K))(q:∀ v,den (K v)->Q v):ok (Oj st op a b) Q:=by
 unfold alG at h
 cases e:aoB op a b with
 | none=>rw[e] at h; exact okS h q
 | some v=>
  rw[e] at h
  rw[show Oj st op a b=some v from Xh (P:=fun a=>Oj st op a b=_) e fun x e=>Xh (P:=fun b=>Oj st op _ b=_) e fun y e=>alJ e]
  exact q v h
theorem afC{α β:Type}{f:α->β}{o:Option α}{K:β->Prop}{Q:α->Prop}(h:ok (stk (qC f o)) K)(q:∀ a,K (f a)->Q a):ok o Q:=by
 rw[SX] at h
 cases o with | none=>exact h | some a=>exact q a h
theorem alL{op:Cop}{a b:V}{K:V->T}{Q:Bool->Prop}(h:den (aft st op a b K))(q:∀ v,den (K (.bool v))->Q v):ok (cop st op a b) Q:=by
 unfold aft at h
 cases e:aoC op a b with
 | none=>rw[e] at h; exact afC h q
 | some v=>
  rw[e] at h
  rw[show cop st op a b=some v from Xh (P:=fun a=>cop st op a b=_) e fun x e=>Xh (P:=fun b=>cop st op _ b=_) e fun y e=>alK e]
  exact q v h
theorem aoK{P:Pg}{i nm:Nat}{K:Nat->T}{Q:Nat->Prop}(h:den (.opN (stk (meth P st i nm)) K))(q:∀ v,den (K v)->Q v):ok (ur st i) fun p=>gH p.2 nm=.none/\ok (P.me p.1 nm) Q:=by
 have h:ok (bnd (ur st i) _) _:=SX (meth P st i nm)▸(h:ok (stk _) _)
 cases e:ur st i with
 | none=>rw[e] at h; exact h
 | some p=>
  rw[e] at h
  have h:ok (if(gH p.2 nm).isSome=true then .none else P.me p.1 nm) fun a=>den (K a):=h
  by_cases g:(gH p.2 nm).isSome=true
  ·rw[if_pos g] at h; exact h.elim
  ·rw[if_neg g] at h; exact⟨Option.not_isSome_iff_eq_none.mp g,okM h q⟩
theorem aoL{b:Bool}{A:T}(h:den (.Y7 b A (.leaf False))):b=true/\den A:=by
 have h:ifb b (den A) False:=h
 rw[S5] at h
 cases b with | true=>exact⟨rfl,h⟩ | false=>exact False.elim h
theorem arp{c:Prop}[Decidable c]{A:T}(h:den (if c then A else .leaf False)):c/\den A:=by
 by_cases e:c
 ·rw[if_pos e] at h; exact⟨e,h⟩
 ·rw[if_neg e] at h; exact False.elim h
theorem nrM{A:TF->St->Prop}{A':Fm->St->Prop}{Q:Fl->TF->St->Prop}{Q':Fl->Fm->St->Prop}(k:LeP A A')(q:LeQ Q Q'):LeQ (nrT A Q) (nr A' Q')
 | .next=>fun J J J F h=>h.elim fun J h=>k _ _ _ (F.le h.1) h.2
 | .cont=>fun J J J F h=>h.elim fun J h=>k _ _ _ (F.le h.1) h.2
 | .ret x=>q (.ret x)
include S
theorem aoM(F:zW g fr){m:Option ME}{Q Q':Bool->St->Prop}(h:ajZ r m g st Q)(q:∀ v st,Q v st->Q' v st):aac r' m fr st Q':=by
 cases m with
 | none=>exact q _ _ h
 | some m=>exact S.t F h q fun J J=>id
theorem afD(F:zW g fr){pt:Pt}{cond:Option ME}{elt:ME}{live:St->Prop}{Q Q':List V->St->Prop}(q:∀ v st,Q v st->Q' v st):∀ {l acc:List V} {st:St},Du r pt cond elt g live l acc st Q->Py r' pt cond elt fr live l acc st Q'
 | [],_,_,h=>⟨h.1,q _ _ h.2⟩
 | _::_,_,_,h=>⟨h.1,h.2.1,rA h.2.2 fun J e h=>(afz pt e F).elim fun J b=>okE b.1 (aoM S b.2 h fun J J h=>aoI h (fun h=>S.e b.2 h (fun J J=>afD F q) fun J J=>id) (afD F q))⟩
include x
theorem esD(F:zW g fr):∀ {l:List ME} {st:St} {K:List V->St->T} {Q:List V->St->Prop},den (esT r l g st K X)->(∀ v st,den (K v st)->Q v st)->Ue r' l fr st Q X'
 | [],_,_,_,h,q=>q _ _ h
 | _::_,_,_,_,h,q=>S.e F h (fun J J h=>esD F h fun J J=>q _ _) x
theorem aj2(F:zW g fr){i:Bool}{K:S6}{Q:Po}(q:LeV K Q):∀ {l:List ME} {st:St},den (afu r i l g st K X)->Z8 r' i l fr st Q X'
 | [],_,h=>h
 | [_],_,h=>S.e F h q x
 | _::_::_,_,h=>S.e F h (fun J J h=>vBD h fun J h=>aoJ h (aj2 F q) (q _ _)) x
theorem aj3(F:zW g fr){i:Bool}{K:Bool->St->T}{Q:Bool->St->Prop}(q:LeB K Q):∀ {l:List ME} {st:St},den (afv r i l g st K X)->Z9 r' i l fr st Q X'
 | [],_,h=>q _ _ h
 | _::_,_,h=>S.t F h (fun J J h=>aoJ h (aj3 F q) (q _ _)) x
theorem alM(F:zW g fr){m:Option ME}{st:St}{K:Option V->St->T}{Q:Option V->St->Prop}(h:den (aiK r m g st K X))(q:∀ v st,den (K v st)->Q v st):Xm r' m fr st Q X':=by
 cases m with
 | none=>exact q _ _ h
 | some m=>exact S.e F h (fun J J=>q _ _) x
theorem ssD{K:zV}{Q:Fl->Fm->St->Prop}(q:LeS K Q):∀ {l:List MS} {g:TF} {fr:Fm} {st:St},zW g fr->den (tC r l g st K X)->ssW r' l fr st Q X'
 | [],_,_,_,F,h=>q _ _ _ _ F h
 | _::_,_,_,_,F,h=>S.s F h (nxD (fun J J J=>ssD q) q) x
omit x in
theorem aj4{pt:Pt}{body:List MS}{live:St->Prop}{X:Ex}(x:∀ v st,X v st->X' v st){Q:Fl->TF->St->Prop}{Q':Fl->Fm->St->Prop}(q:LeQ Q Q'):∀ {l:List V} {g:TF} {fr:Fm} {st:St},zW g fr->VK r pt body live l g st Q X->Rb r' pt body live l fr st Q' X'
 | [],_,_,_,F,h=>⟨h.1,q _ _ _ _ F h.2⟩
 | _::_,_,_,_,F,h=>⟨h.1,rA h.2 fun J e h=>(afz pt e F).elim fun J b=>okE b.1 (ssD S (X:=fun c st=>.leaf (X c st)) x (K:=fun f g st=>.leaf (nrT (fun g st=>VK r pt body live _ g st Q X) Q f g st)) (Q:=nr (fun fr st=>Rb r' pt body live _ fr st Q' X') Q') (nrM (A:=fun g st=>VK r pt body live _ g st Q X) (A':=fun fr st=>Rb r' pt body live _ fr st Q' X') (fun J J J F h=>aj4 x q F h) q) b.2 h)⟩
omit x in
theorem alN{c:ME}{body:List MS}{X:Ex}(x:∀ v st,X v st->X' v st){P:Pg}{Q:Fl->TF->St->Prop}{Q':Fl->Fm->St->Prop}(q:LeQ Q Q')(F:zW g fr)(h:Y8 r c body g st Q X):(step P r').s (.while c body) fr st Q' X':=by
 obtain⟨I,n,h1,h2⟩:=h
 refine Exists.intro (fun n fr st=>∃ g,zW g fr/\I n g st) (Exists.intro n (And.intro ⟨g,F,h1⟩ fun n fr st i=>?_))
 obtain⟨g,F,i⟩:=i
 exact S.t F (h2 n g st i) (fun J J h=>afB h (ssD S (X:=fun c st=>.leaf (X c st)) x (K:=fun f g st=>.leaf (nrT (fun g st=>∃ m,m < n/\I m g st) Q f g st)) (Q:=nr (fun fr st=>∃ m,m < n/\∃ g,zW g fr/\I m g st) Q') (nrM (A:=fun g st=>∃ m,m < n/\I m g st) (A':=fun fr st=>∃ m,m < n/\∃ g,zW g fr/\I m g st) (fun g J J F h=>h.elim fun m h=>⟨m,h.1,g,F,h.2⟩) q) F) (q _ _ _ _ F)) x
theorem aoN{K:TF->St->T}{Q:Fm->St->Prop}(q:LeA K Q):∀ {l:List Tg} {vs:List V} {g:TF} {fr:Fm} {st:St},zW g fr->den (alH r l vs g st K X)->aa9 r' l vs fr st Q X'
 | [],[],_,_,_,F,h=>q _ _ _ F h
 | [],_::_,_,_,_,_,h=>h
 | _::_,[],_,_,_,_,h=>h
 | _::_,_::_,_,_,_,F,h=>S.a F h (fun J J J=>aoN q) x
end
theorem afE{α:Type}{o:Option α}{Q:α->T}{P:Prop}(h:den (okT o Q))(k:∀ a,o=some a->den (Q a)->P):P:=by cases o with | none=>exact h.elim | some a=>exact k a rfl h
theorem Sim.up{P:Pg}{c:Nat->List V->St->Po->Ex->Prop}{r:M7}{r':Rec}(S:Sim r r')
  (C:∀ {f a st Q X Q' X'},c f a st Q X->(∀ v st,Q v st->Q' v st)->(∀ v st,X v st->X' v st)->r'.c f a st Q' X'):Sim (aj0 P c r) (step P r') where
 e {m g fr st K Q X X'} F h q x:=by
  cases m with
  | aj v=>exact q _ _ h
  | aD k=>exact afE h fun v e h=>okE (F k v e) (q _ _ h)
  | bR o f=>exact S.e F h (fun J J h=>okS h fun J=>q _ _) x
  | bin op a b=>exact S.e F h (fun J J h=>S.e F h (fun J J h=>aro h fun J=>q _ _) x) x
  | neg a=>exact S.e F h (fun J J h=>vID h fun J=>q _ _) x
  | not a=>exact S.e F h (fun J J h=>vBD h fun J=>q _ _) x
  | bool i l=>exact aj2 S x F q h
  | cmp a op b=>exact S.e F h (fun J J h=>S.e F h (fun J J h=>alL h fun J=>q _ _) x) x
  | z8 a op b op2 c=>exact S.e F h (fun J J h=>S.e F h (fun J J h=>alL h fun J h=>afB h (fun h=>S.e F h (fun J J h=>alL h fun J=>q _ _) x) (q _ _)) x) x
  | ite c a b=>exact S.t F h (fun J J h=>afB h (fun h=>S.e F h q x) (fun h=>S.e F h q x)) x
  | tup l=>exact esD S x F h fun J J=>q _ _
  | jJ l=>exact esD S x F h fun J J=>q _ _
  | Fg l=>exact esD S x F h fun J J=>q _ _
  | dict=>exact q _ _ h
  | qy a i=>exact S.e F h (fun J J h=>S.e F h (fun J J h=>okS h fun J=>q _ _) x) x
  | slice a lo hi=>exact S.e F h (fun J J h=>alM S x F h fun J J h=>alM S x F h fun J J h=>okS h fun J=>q _ _) x
  | comp pt k src cond elt=>exact esD S x F h fun J J h=>okS h fun J h=>afD S F (fun J J=>q _ _) h
  | call f args=>exact esD S x F h fun J J h=>C h q x
  | bk nm o args=>exact S.e F h (fun J J h=>vRD h fun J h=>aoK h fun J h=>esD S x F h fun J J h=>C h q x) x
  | new C' f args=>exact esD S x F h fun J J h=>C h (fun J J h=>vND h (q _ _)) fun J J=>id
  | bi b args=>exact esD S x F h fun J J h=>okS h fun J=>q _ _
  | Ub=>exact q _ _ h
  | bm m o args=>exact S.e F h (fun v st h=>⟨(aoL h).1,esD S x F (aoL h).2 fun J J h=>okS h fun J=>q _ _⟩) x
  | heard f sG hs b=>exact S.e F h (fun J J=>q _ _) fun J J h=>okD h fun J=>q _ _
 t {m g fr st K Q X X'} F h q x:=by
  cases m with
  | not a=>exact S.t F h (fun J J=>q _ _) x
  | bool i l=>exact aj3 S x F q h
  | ite c a b=>exact S.t F h (fun J J h=>afB h (fun h=>S.t F h q x) (fun h=>S.t F h q x)) x
  | _=>exact S.e F h (fun J J h=>vBD h fun J=>q _ _) x
 a {m v g fr st K Q X X'} F h q x:=by
  cases m with
  | v k=>exact q _ _ _ F.set h
  | t l=>exact vTD h fun vs h=>(arp h).elim fun e h=>⟨e,aoN S x q F h⟩
  | «at» o f=>exact S.e F h (fun J J h=>afC h fun J=>q _ _ _ F) x
  | sub o i=>exact S.e F h (fun J J h=>S.e F h (fun J J h=>afC h fun J=>q _ _ _ F) x) x
 s {m g fr st K Q X X'} F h q x:=by
  cases m with
  | expr e=>exact S.e F h (fun J J=>q _ _ _ _ F) x
  | pass=>exact q _ _ _ _ F h
  | cont=>exact q _ _ _ _ F h
  | ret e=>exact alM S x F h fun J J=>q _ _ _ _ F
  | eG t e=>exact S.e F h (fun J J h=>S.a F h (fun J J J=>q _ _ _ _) x) x
  | ite c a b=>exact S.t F h (fun J J h=>afB h (ssD S x q F) (ssD S x q F)) x
  | «while» c body=>exact alN S x q F h
  | «for» pt k src body=>exact esD S x F h fun J J h=>okS h fun J h=>aj4 S x q F h
  | raise C arg=>exact S.e F h (fun J J=>x _ _) x
noncomputable def Cl(P:Pg)(n f:Nat)(a:List V)(st:St)(Q:Po)(X:Ex):Prop:=∀ j (Q':Po) (X':Ex),(∀ v st,Q v st->Q' v st)->(∀ v st,X v st->X' v st)->(W P (23 * n + j)).c f a st Q' X'
theorem aj5{P:Pg}{n j:Nat}:∀ k,Sim (E P (Cl P n) k) (W P (23 * n + j + k))
 | 0=>⟨fun J h J J=>h.elim,fun J h J J=>h.elim,fun J h J J=>h.elim,fun J h J J=>h.elim⟩
 | k + 1=>(aj5 k).up (P:=P) fun h q x=>jU _ j k▸h (j + k) _ _ q x
noncomputable def run(P:Pg)(c:Nat->List V->St->Po->Ex->Prop)(f:Nat)(a:List V)(st:St)(Q:Po)(X:Ex):T:=
 okT (P.fn f) fun mf=>okT (ajX mf.df mf.np a) fun g=>tC (E P c 22) mf.body g st (fun fl J st=>.leaf (Q (qe fl) st)) fun c st=>.leaf (X c st)
structure Wm(P:Pg) where
 C:Nat->Nat->List V->St->Po->Ex->Prop
 h:∀ {n f a st Q X},den (run P (C n) f a st Q X)->C (n + 1) f a st Q X
noncomputable def wm{P:Pg}:Wm P:=⟨Cl P,fun {n f a st Q X} h j Q' X' q x=>by
 rw[show 23 * (n + 1) + j=23 * n + j + 22 + 1 by rw[Bv,cN]]
 exact afE h fun mf h1 h=>afE h fun g h2 h=>(alI h2).elim fun fr F=>okE h1 (okE F.1
  (ssD (K:=fun fl J st=>.leaf (Q (qe fl) st)) (X:=fun c st=>.leaf (X c st)) (aj5 22) x (fun J J J J J=>q _ _) F.2 h))⟩
noncomputable def oV:T->Option V | .opV o _=>o | _=>.none
noncomputable def nV:T->V->T | .opV _ K,a=>K a | _,_=>.leaf True
noncomputable def oP:T->Option (V×St) | .opP o _=>o | _=>.none
noncomputable def nP:T->V->St->T | .opP _ K,a,s=>K a s | _,_,_=>.leaf True
noncomputable def oN:T->Option Nat | .opN o _=>o | _=>.none
noncomputable def nN:T->Nat->T | .opN _ K,a=>K a | _,_=>.leaf True
noncomputable def oL:T->Option (List V) | .opL o _=>o | _=>.none
noncomputable def nL:T->List V->T | .opL _ K,a=>K a | _,_=>.leaf True
noncomputable def oB:T->Option Bool | .Y7 b _ _=>some b | _=>.none
noncomputable def nB:T->Bool->T | .Y7 _ A B,b=>if b=true then A else B | _,_=>.leaf True
noncomputable def oG:T->Po->Ex->Prop | .gen F _ _=>F | _=>fun J J=>False
noncomputable def nG:T->V->St->T | .gen _ K _,a,s=>K a s | _,_,_=>.leaf True
noncomputable def xG:T->Nat->St->T | .gen _ _ K,a,s=>K a s | .genS _ _ K,a,s=>K a s | _,_,_=>.leaf True
noncomputable def oS:T->(Fl->TF->St->Prop)->Ex->Prop | .genS F _ _=>F | _=>fun J J=>False
noncomputable def nS:T->Fl->TF->St->T | .genS _ K _,f,a,s=>K f a s | _,_,_,_=>.leaf True
theorem aaG{α:Type}{o:Option α}{a:α}{Q:α->Prop}(e:o=some a)(h:Q a):ok o Q:=by rw[e]; exact h
section
variable{t:T}
theorem dV{a:V}(e:oV t=some a)(h:den (nV t a)):den t:=by cases t <;> first | exact nn e | exact aaG e h
theorem dP{a:V}{s:St}(e:oP t=some (a,s))(h:den (nP t a s)):den t:=by cases t <;> first | exact nn e | exact aaG e h
theorem dN{a:Nat}(e:oN t=some a)(h:den (nN t a)):den t:=by cases t <;> first | exact nn e | exact aaG e h
theorem dL{a:List V}(e:oL t=some a)(h:den (nL t a)):den t:=by cases t <;> first | exact nn e | exact aaG e h
theorem dB{b:Bool}(e:oB t=some b)(h:den (nB t b)):den t:=by
 cases t <;> first | exact nn e | skip
 cases aC e
 refine Eq.mpr (S5 _ _ _) ?_
 cases b <;> exact h
theorem dG(h:oG t (fun v st=>den (nG t v st)) fun c st=>den (xG t c st)):den t:=by cases t <;> first | exact h | exact h.elim
theorem dS(h:oS t (fun f v st=>den (nS t f v st)) fun c st=>den (xG t c st)):den t:=by cases t <;> first | exact h | exact h.elim
end
end
local macro_rules
 | `(tactic| o_shape)=>`(tactic| (show let t:=_; den t); intro t)
section
variable{w:Wm gF}
theorem bl{n m:Nat}(h:Nat.ble n m=true):n<=m:=cA h
theorem aaH{α:Type}{c:Prop}[Decidable c]{a:α}(h:c):gd c a=some a:=if_pos h
theorem iC{α β:Type}{o:Option α}{a:α}{f:α->Option β}{b:β}(e:o=some a)(h:f a=some b):bnd o f=some b:=by rw[e]; exact h
theorem qx{b:Bool}(e:b=true):some b=some true:=congrArg some e
theorem qX{b:Bool}(e:b=false):some b=some false:=congrArg some e
theorem zX{c:Prop}{i:Decidable c}(h:c):some (@decide c i)=some true:=congrArg some (decide_eq_true h)
theorem G5{c:Prop}{i:Decidable c}(h:¬c):some (@decide c i)=some false:=congrArg some (decide_eq_false h)
theorem afF{c:Prop}{i:Decidable c}(h:¬c):some (!@decide c i)=some true:=congrArg (fun b=>some (!b)) (decide_eq_false h)
theorem Pb{c:Prop}{i:Decidable c}(h:c):some (!@decide c i)=some false:=congrArg (fun b=>some (!b)) (decide_eq_true h)
theorem Gv{c:Prop}{i:Decidable c}(h:¬c):some (@decide c i==false)=some true:=congrArg (fun b=>some (b==false)) (decide_eq_false h)
theorem Y9{c:Prop}{i:Decidable c}(h:c):some (@decide c i==false)=some false:=congrArg (fun b=>some (b==false)) (decide_eq_true h)
theorem afG{c:Prop}{i:Decidable c}(h:c):some (@decide c i==true)=some true:=congrArg (fun b=>some (b==true)) (decide_eq_true h)
theorem aoO{c:Prop}{i:Decidable c}(h:¬c):some (@decide c i==true)=some false:=congrArg (fun b=>some (b==true)) (decide_eq_false h)
theorem fP{α:Type}{o:Option α}{a:α}(h:o=some a):stk o=some a:=(SX o).trans h
def Is(st:St)(i:Nat)(o:O):Prop:=st[i]?=some o
def No(st:St)(i:Nat):Prop:=st[i]?=none
section
variable{st:St}
theorem S7{i C:Nat}{fs:List (Nat×V)}(e:Is st i (.inst C fs)):ur st i=some (C,fs):=iC e rfl
theorem yI{i:Nat}{l:List V}(e:Is st i (.list l)):tD st i=some l:=iC e rfl
theorem oH{i:Nat}{l:List (V×V)}(e:Is st i (.dict l)):dictAt st i=some l:=iC e rfl
theorem afH{i:Nat}{l:List UInt8}(e:Is st i (.ba l)):ada st i=some l:=iC e rfl
theorem aU{i C:Nat}{fs:List (Nat×V)}{f:Nat}{v:V}(e:Is st i (.inst C fs))(g:gH fs f=some v):stk (Q9 st (.ref i) f)=some v:=fP (iC (S7 e) g)
theorem aX{i C nm f:Nat}{fs:List (Nat×V)}(e:Is st i (.inst C fs))(g:(if(gH fs nm).isSome=true then .none else gF.me C nm)=some f):stk (meth gF st i nm)=some f:=fP (iC (S7 e) g)
theorem dJ{i C:Nat}{fs:List (Nat×V)}{f:Nat}{v:V}(e:Is st i (.inst C fs))(l:uc fs.length 100=true)(g:gF.has C f=true):stk (qC (Prod.mk V.none) (Ac gF.has st (.ref i) f v))=some (.none,st.set i (.inst C (pC fs f v))):=
 fP (congrArg (qC (Prod.mk V.none)) (iC (S7 e) (aaH ⟨cA l,g⟩):Ac gF.has st (.ref i) f v=some (st.set i (.inst C (pC fs f v)))))
theorem iM{st g:St}{i:Nat}{o:O}(h:Is st i o):Is (st++g) i o:=(gU (bW.mp h).1).trans h
theorem cC{st g:St}{o:O}:Is (st++o::g) st.length o:=by
 unfold Is; rw[gJ (bf _),oK]; rfl
theorem eZ{st:St}{x y:O}:(st++[x]).set st.length y=st++[y]:=by rw[List.set_append_right _ _ (bf _),oK]; rfl
theorem kE{o:Option (V×St)}{v:V}{s s':St}(e:o=some (v,s))(h:s=s'):o=some (v,s'):=h▸e
theorem Dj{o:Option V}{v v':V}(e:o=some v)(h:v=v'):o=some v':=h▸e
theorem Gw{x:Int}(h:x.natAbs < 18446744073709551616):qz x=true:=decide_eq_true (by
 by_cases h0:x.natAbs=0
 ·rw[h0]; decide
 ·exact aK ((Nat.log2_lt h0 (k:=64)).mpr h) (by decide))
theorem VL{x y:Int}(h1:x.natAbs < 18446744073709551616)(h2:y.natAbs < 18446744073709551616):stk (Oj st .mul (.int x) (.int y))=some (.int (x * y)):=fP ((if_pos ⟨Gw h1,Gw h2⟩))
theorem VN{x y:List Nat}:stk (qC V.bool (cop st .eq (.str x) (.str y)))=some (.bool (decide (x=y))):=fP (rfl)
theorem VP{x y:List Nat}:stk (qC V.bool (cop st .ne (.str x) (.str y)))=some (.bool (!decide (x=y))):=fP (rfl)
theorem aaI{x y:List UInt8}:stk (qC V.bool (cop st .eq (.bytes x) (.bytes y)))=some (.bool (decide (x=y))):=fP (rfl)
theorem aoP{x y:List UInt8}:stk (qC V.bool (cop st .ne (.bytes x) (.bytes y)))=some (.bool (!decide (x=y))):=fP (rfl)
theorem Gx{op:Cop}{x y:V}{b:Bool}(h:cop st op x y=some b):stk (qC V.bool (cop st op x y))=some (.bool b):=fP (by rw[h]; rfl)
theorem yJ{x y:Int}(h1:0 < y)(h2:y < 18446744073709551616):stk (Oj st .fdiv (.int x) (.int y))=some (.int (x / y)):=fP ((if_pos ⟨h1,h2⟩))
theorem sJ{x y:Int}(h1:0 < y):stk (Oj st .mod (.int x) (.int y))=some (.int (x % y)):=fP ((if_pos h1))
theorem aj6{x y:Int}(h1:0<=x)(h2:x<=256)(h3:0<=y)(h4:y<=64):stk (Oj st .pow (.int x) (.int y))=some (.int (x ^ y.toNat)):=fP ((if_pos ⟨h1,h2,h3,h4⟩))
noncomputable def p8:Int:=((256 ^ 8:Nat):Int)
theorem arq:stk (Oj st .pow (.int 256) (.int 8))=some (.int p8):=fP ((show _=_ from rfl))
theorem M8:stk (Oj st .pow (.int 2) (.int 32))=some (.int 4294967296):=fP ((show _=_ from rfl))
theorem aoQ{x y:Int}(h1:0<=y)(h2:y<=4096)(h3:x.natAbs < 18446744073709551616):stk (Oj st .shl (.int x) (.int y))=some (.int (x * 2 ^ y.toNat)):=fP ((if_pos ⟨h1,h2,h3⟩))
theorem aoR{x y:Int}(h1:0<=y):stk (Oj st .shr (.int x) (.int y))=some (.int (x / 2 ^ y.toNat)):=fP ((if_pos h1))
theorem alO{x y:Int}(h1:0<=x)(h2:0<=y):stk (Oj st .band (.int x) (.int y))=some (.int ((x.toNat &&& y.toNat:Nat):Int)):=fP ((if_pos ⟨h1,h2⟩))
theorem nM{x y:List UInt8}(h1:x.length + y.length<=lim):stk (Oj st .add (.bytes x) (.bytes y))=some (.bytes (x++y)):=fP ((if_pos h1))
theorem iD{x y:List Nat}(h1:x.length + y.length<=lim):stk (Oj st .add (.str x) (.str y))=some (.str (x++y)):=fP ((if_pos h1))
theorem Ie{x y:List V}(h1:x.length + y.length<=lim):stk (Oj st .add (.lst x) (.lst y))=some (.lst (x++y)):=fP ((if_pos h1))
theorem gY{x:List UInt8}(h1:x.length<=lim):stk (JH st .len [.bytes x])=some (.int x.length):=fP ((if_pos h1))
theorem aiL{x:List Nat}(h1:x.length<=lim):stk (JH st .len [.str x])=some (.int x.length):=fP ((if_pos h1))
theorem M9{α β:Type}{f:V->Option β}{g:α->V}{φ:α->β}(k:∀ a,f (g a)=some (φ a)):∀ l:List α,Px f (l.map g)=some (l.map φ)
 | []=>rfl
 | a::l=>iC (k a) (iC (M9 k l) rfl)
section
variable{α:Type}{l:List α}
theorem aoS{φ:α->Int}{s:Int}(e:(l.map φ).sum=s):stk (JH st .sum [.lst (l.map fun a=>V.int (φ a))])=some (.int s):=fP (iC (M9 (φ:=φ) (fun J=>rfl) l) (e▸rfl))
theorem afI{φ:α->Bool}(e:∀ a∈l,φ a=true):stk (JH st .all [.lst (l.map fun a=>V.bool (φ a))])=some (.bool true):=
 fP (iC (M9 (φ:=φ) (fun J=>rfl) l) (congrArg (fun b=>some (V.bool b)) (by rw[oM,bx]; exact e)))
theorem Ig{φ:α->Int}{m:List UInt8}(h:∀ a∈l,0<=φ a/\φ a < 256)(e:(l.map fun a=>Z4 (φ a))=m):stk (JH st .bytes [.lst (l.map fun a=>V.int (φ a))])=some (.bytes m):=
 fP (iC (M9 (φ:=φ) (fun J=>rfl) l) ((if_pos (by rw[oM,bx]; exact fun a m=>decide_eq_true (h a m))).trans (congrArg (fun b=>some (V.bytes b)) (gw.trans e))))
end
theorem Cp{n:Int}(h1:0<=n)(h2:n<=lim):stk (JH st .bytes [.int n])=some (.bytes (bQ n.toNat 0)):=fP ((if_pos ⟨h1,h2⟩))
theorem Za{i:Nat}{l:List UInt8}(e:Is st i (.ba l)):stk (JH st .bytes [.ref i])=some (.bytes l):=fP ((iC (afH e) rfl))
theorem Gy{n:Int}(h1:0<=n)(h2:n<=lim):stk (lF st .range [.int n])=some ((fD n.toNat).map fun(i:Nat)=>V.int i):=fP ((if_pos ⟨h1,h2⟩))
theorem Kd{l:List UInt8}{a b:Int}(h1:l.length<=lim):stk (uw st (.bytes l) (some (.int a)) (some (.int b)))=some (.bytes (cut l (some a) (some b))):=fP ((if_pos h1))
theorem Gz{l:List UInt8}{b:Int}(h1:l.length<=lim):stk (uw st (.bytes l) .none (some (.int b)))=some (.bytes (cut l .none (some b))):=fP ((if_pos h1))
theorem afJ{l:List UInt8}{b:Int}(h1:l.length<=lim):stk (uw st (.bytes l) (some (.int b)) .none)=some (.bytes (cut l (some b) .none)):=fP ((if_pos h1))
theorem vA{α:Type}{o:Option α}{a:α}(e:o=some a):o.isSome=true:=by rw[e]; rfl
theorem aoT{i:Nat}{l:List UInt8}(e:Is st i (.ba l)):bmk st .Kr (.ref i)=true:=vA (afH e)
theorem Nb{i:Nat}{l:List V}(e:Is st i (.list l)):bmk st .append (.ref i)=true:=vA (yI e)
theorem aoU{i:Nat}{l:List (V×V)}(e:Is st i (.dict l)):bmk st .Oi (.ref i)=true:=vA (oH e)
theorem afK{i:Nat}{l:List (V×V)}(e:Is st i (.dict l)):bmk st .pop (.ref i)=true:=vA (oH e)
theorem afL{i:Nat}{l m:List UInt8}(e:Is st i (.ba l))(h1:l.length + m.length < lim):stk (Z7 st .Kr (.ref i) [.bytes m])=some (.none,st.set i (.ba (l++m))):=fP ((iC (afH e) (if_pos h1)))
theorem Bc{i:Nat}{l:List V}{v:V}(e:Is st i (.list l))(h1:l.length < lim):stk (Z7 st .append (.ref i) [v])=some (.none,st.set i (.list (l++[v]))):=fP ((iC (yI e) (if_pos h1)))
theorem Zb{α:Type}{l:List α}{φ:α->List Nat}{s r:List Nat}(h1:((l.map φ).map mC).sum + (l.map φ).length<=1048576)(h2:s.length<=16)(e:tO s (l.map φ)=r):stk (Z7 st .join (.str s) [.lst (l.map fun a=>V.str (φ a))])=some (.str r,st):=
 fP (iC (M9 (φ:=φ) (fun J=>rfl) l) (e▸if_pos ⟨h1,h2⟩))
theorem aiM{s:List Nat}{c:Nat}(h1:s.length + 2<=lim):stk (Z7 st .split (.str s) [.str [c]])=some (.lst ((jg c s).map .str),st):=fP ((if_pos h1))
theorem aj7{i:Nat}(h:i < 256):stk (JH st .chr [.int i])=some (.str [i]):=fP ((if_pos (by omega)))
end
noncomputable def tg:O->Nat | .dict _=>0 | .list _=>1 | .ba _=>2 | .inst c _=>c + 3
theorem afM{x y:O}(h:dF (tg y) (tg x)=false)(e:x=y):False:=mJ h (congrArg tg e.symm)
def Ke(A:List Nat)(st st':St):Prop:=∀ j o,j∉A->Is st j o->Is st' j o
theorem Ke.rE{st st':St}{j:Nat}{o:O}(k:Ke [] st st')(h:Is st j o):Is st' j o:=k j o dK h
theorem Ke.rfl{A:List Nat}{st:St}:Ke A st st:=fun J J J h=>h
theorem Ke.app{A:List Nat}{st g:St}:Ke A st (st++g):=fun J J J h=>iM h
theorem Ke.trans{A:List Nat}{a b c:St}(h:Ke A a b)(k:Ke A b c):Ke A a c:=fun j o n e=>k j o n (h j o n e)
theorem Ke.mono{A B:List Nat}{a b:St}(h:Ke A a b)(s:A ⊆ B):Ke B a b:=fun j o n e=>h j o (fun m=>n (s m)) e
theorem fQ{st:St}{i:Nat}{o x:O}(h:Is st i x):Is (st.set i o) i o:=List.getElem?_set_self (bW.mp h).1
theorem bZ{st:St}{i j:Nat}{o x y:O}(h:Is st i x)(h':Is st j y)(ne:dF (tg x) (tg y)=false):Is (st.set i o) j y:=
 (nR fun e:i=j=>afM ne (aC (h'.symm.trans ((e▸h:Is st j x))))).trans h'
theorem Ke.set{st:St}{i:Nat}{o:O}:Ke [i] st (st.set i o):=fun j J n h=>(nR fun e:i=j=>n (e▸List.mem_singleton_self i)).trans h
theorem vC{st:St}{i:Nat}{x:O}(h:Is st i x)(e:No st i):False:=nomatch h.symm.trans e
theorem Ke.fresh{a b c:St}{l:List Nat}(h:Ke [] a b)(k:Ke l b c)(f:∀ i∈l,No a i):Ke [] a c:=fun j o J e=>k j o (fun m=>vC e (f j m)) (h j o dK e)
theorem Ke.miss{A:List Nat}{a b:St}{i:Nat}(h:Ke A a b)(m:i∉A)(e:No b i):No a i:=Option.eq_none_iff_forall_not_mem.mpr fun o q=>vC (h i o m q) e
theorem Ke.V0{a b:St}{i:Nat}(h:Ke [] a b)(e:No b i):No a i:=h.miss dK e
theorem rF{st:St}:No st st.length:=cR (bf _)
theorem aaJ{st:St}{o:O}:No st ((st++[o]).length):=cR (by rw[aF]; exact bh _ _)
abbrev noX:vd:=fun J J=>.leaf False
abbrev lfV(K:Po):S6:=fun v st=>.leaf (K v st)
abbrev Od(K:Ex):vd:=fun v st=>.leaf (K v st)
abbrev lfB(K:Bool->St->Prop):Bool->St->T:=fun v st=>.leaf (K v st)
section
variable{r:M7}{pt:Pt}{c elt:ME}{cond:Option ME}{fr:TF}{live:St->Prop}{st:St}{Q:List V->St->Prop}
theorem qD{α:Type}{L:List α}{g:α->V}(f:α->V)(hl:live st)(hn:L.length < lim)
  (hx:∀ a∈L,∀(K:Po),K (f a) st->ok (xg pt (g a) fr) fun fr'=>den (r.e elt fr' st (lfV K) noX))(h:Q (L.map f) st):Du r pt .none elt fr live (L.map g) [] st Q:=by
 have go:∀(L:List α) (acc:List V),acc.length + L.length < lim->(∀ a∈L,∀(K:Po),K (f a) st->ok (xg pt (g a) fr) fun fr'=>den (r.e elt fr' st (lfV K) noX))->Q (acc++L.map f) st->Du r pt .none elt fr live (L.map g) acc st Q:=by
  intro L
  induction L with
  | nil=>exact fun acc J J h=>⟨hl,bN acc▸h⟩
  | cons a L ih=>exact fun acc hn hx h=>⟨hl,aA (bh _ _) hn,hx a (.head _) _ (ih (acc++[f a]) (by rw[aF,jU,fB [f a].length]; exact hn) (fun y hy=>hx y (.tail _ hy)) (by rw[bw]; exact h))⟩
 exact go L [] (show 0 + L.length < lim from(fU L.length).symm▸hn) hx h
theorem Ng{α:Type}{L:List α}{g:α->V}(p:α->Bool)(f:α->V)(hl:live st)(hn:L.length < lim)
  (hc:∀ a∈L,∀(K:Bool->St->Prop),K (p a) st->ok (xg pt (g a) fr) fun fr'=>den (r.t c fr' st (lfB K) noX))
  (hx:∀ a∈L,∀(K:Po),K (f a) st->ok (xg pt (g a) fr) fun fr'=>den (r.e elt fr' st (lfV K) noX))(h:Q ((L.filter p).map f) st):Du r pt (some c) elt fr live (L.map g) [] st Q:=by
 have go:∀(L:List α) (acc:List V),acc.length + L.length < lim->(∀ a∈L,∀(K:Bool->St->Prop),K (p a) st->ok (xg pt (g a) fr) fun fr'=>den (r.t c fr' st (lfB K) noX))->(∀ a∈L,∀(K:Po),K (f a) st->ok (xg pt (g a) fr) fun fr'=>den (r.e elt fr' st (lfV K) noX))->Q (acc++(L.filter p).map f) st->Du r pt (some c) elt fr live (L.map g) acc st Q:=by
  intro L
  induction L with
  | nil=>exact fun acc J J J h=>⟨hl,bN acc▸h⟩
  | cons a L ih=>
   intro acc hn hc hx h
   have hn':acc.length + (1 + L.length) < lim:=fB L.length 1▸hn
   refine⟨hl,aA (bh _ _) hn,rA (hc a (.head _) (fun b st'=>b=p a/\st'=st) ⟨rfl,rfl⟩) fun fr' e J=>?_⟩
   have C:∀(K:Bool->St->Prop),K (p a) st->den (r.t c fr' st (lfB K) noX):=fun K k=>(by have:=hc a (.head _) K k; rw[e] at this; exact this)
   have Y:∀(K:Po),K (f a) st->den (r.e elt fr' st (lfV K) noX):=fun K k=>(by have:=hx a (.head _) K k; rw[e] at this; exact this)
   rw[e]
   refine C _ ?_
   cases q:p a with
   | true=>
    rw[List.filter_cons_of_pos q] at h
    exact Y _ (ih (acc++[f a]) (by rw[aF,jU]; exact hn') (fun y hy=>hc y (.tail _ hy)) (fun y hy=>hx y (.tail _ hy)) (by rw[bw]; exact h))
   | false=>
    rw[List.filter_cons_of_neg (q▸bC)] at h
    exact ih acc (aA (aZ (mX _ _) _) hn') (fun y hy=>hc y (.tail _ hy)) (fun y hy=>hx y (.tail _ hy)) h
 exact go L [] (show 0 + L.length < lim from(fU L.length).symm▸hn) hc hx h
abbrev lfS(K:Fl->TF->St->Prop):zV:=fun f g st=>.leaf (K f g st)
theorem GC{body:List MS}{Q:Fl->TF->St->Prop}{X:Ex}{α β:Type}{g:α->V}(g0:TF)(I:β->List α->St->Prop)(hl:∀ b l st,I b l st->live st)(h0:∀ b st,I b [] st->Q .next g0 st)
  (hs:∀ b x l st,I b (x::l) st->∀(K:Fl->TF->St->Prop),(∀ g st b,leT g0 g->I b l st->K .next g st)->(∀ g st b,leT g0 g->I b l st->K .cont g st)->(∀ v g st,Q (.ret v) g st->K (.ret v) g st)->
   ok (xg pt (g x) g0) fun g=>den (tC r body g st (lfS K) (Od X))):
  ∀ b l st,I b l st->VK r pt body live (l.map g) g0 st Q X
 | b,[],st,h=>⟨hl _ _ _ h,h0 _ _ h⟩
 | b,x::l,st,h=>⟨hl _ _ _ h,hs b x l st h _ (fun J J b e i=>⟨g0,e,GC g0 I hl h0 hs b l _ i⟩) (fun J J b e i=>⟨g0,e,GC g0 I hl h0 hs b l _ i⟩) fun J J J h=>h⟩
theorem aaK{v:V}:∀ {n k:Nat} {b:TF},wu (b.take n) k=some v->wu b k=some v
 | 0,_,_,h=>nn h
 | _ + 1,_,[],h=>nn h
 | _ + 1,0,_::_,h=>h
 | n + 1,k + 1,_::_,h=>aaK (n:=n) (k:=k) h
theorem vD{a b:TF}(n:Nat)(h:b.take n=a):leT a b:=fun J J e=>aaK (h▸e)
theorem aiN{c:ME}{body:List MS}{Q:Fl->TF->St->Prop}{X:Ex}{α β γ:Type}(F:α->β->γ->TF)(I:α->β->γ->Nat->St->Prop)(a:α)(b:β)(d:γ)(n:Nat)(h0:I a b d n st)
  (hs:∀ a b d n st,I a b d n st->∀(K:Fl->TF->St->Prop),(∀ g st a b d m,leT (F a b d) g->m < n->I a b d m st->K .next g st/\K .cont g st)->(∀ v g st,Q (.ret v) g st->K (.ret v) g st)->
   den (r.t c (F a b d) st (fun q st=>.Y7 q (tC r body (F a b d) st (lfS K) (Od X)) (.leaf (Q .next (F a b d) st))) (Od X))):Y8 r c body (F a b d) st Q X:=
 ⟨fun n fr st=>∃ a b d,fr=F a b d/\I a b d n st,n,⟨a,b,d,rfl,h0⟩,fun n fr st ⟨a,b,d,e,i⟩=>e▸hs a b d n st i _ (fun g st a b d m l q i=>⟨⟨_,l,m,q,a,b,d,rfl,i⟩,⟨_,l,m,q,a,b,d,rfl,i⟩⟩) fun J J J h=>h⟩
end
theorem sO{st:St}{n:Int}(h1:0<=n)(h2:n<=lim):ux st .range [.int n] ((fD n.toNat).map fun(i:Nat)=>.int i):=aaH ⟨h1,h2⟩
end
section
variable{w:Wm gF}
noncomputable def le:Nat->Nat->List UInt8
 | 0,_=>[]
 | k + 1,x=>UInt8.ofNat x::le k (x / 256)
noncomputable def de:List UInt8->Nat
 | []=>0
 | b::r=>b.toNat + 256 * de r
theorem nq:∀(k x:Nat),(le k x).length=k
 | 0,_=>rfl
 | k + 1,x=>congrArg (· + 1) (nq k (x / 256))
theorem afN:∀(k x:Nat),x < 256 ^ k->de (le k x)=x
 | 0,x,h=>(Nat.lt_one_iff.mp h).symm
 | k + 1,x,h=>by
  show(UInt8.ofNat x).toNat + 256 * de (le k (x / 256))=x
  rw[afN k (x / 256) (Nat.div_lt_of_lt_mul (by rw[lq]; exact h)),UInt8.toNat_ofNat']
  exact Nat.mod_add_div x 256
def rG(s:List Nat):Prop:=∀ c∈s,32<=c/\c < 127
noncomputable def tb(s:List Nat):List UInt8:=s.map UInt8.ofNat
theorem qF(s:List Nat):(tb s).length=s.length:=aQ _
theorem aoW(p:Nat):(8 * (p:Int)).toNat=8 * p:=cH (8 * p)
theorem afO:∀(l:List UInt8) (p:Nat),(((eX p l.length).zip l).map fun q=>((q.2.toNat:Int) * 2 ^ (8 * (q.1:Int)).toNat)).sum=((de l * 2 ^ (8 * p):Nat):Int)
 | [],p=>by show(0:Int)=((0 * 2 ^ (8 * p):Nat):Int); rw[Nat.zero_mul]; rfl
 | b::r,p=>by
  rw[lO,List.range'_succ,pR,fH,List.sum_cons,afO r (p + 1),aoW]
  show((b.toNat * 2 ^ (8 * p) + de r * 2 ^ (8 * (p + 1)):Nat):Int)=(((b.toNat + 256 * de r) * 2 ^ (8 * p):Nat):Int)
  rw[Bv 8 p 1,Nat.pow_add,Nat.add_mul,lq (2 ^ (8 * p)),← Nat.mul_assoc,lq (de r)]
theorem alP{n:Nat}(h:n<=510):n < lim:=aA h (cA rfl)
theorem pI{n:Nat}(h:n < 1000):n < lim:=aG h (cA rfl)
theorem afP{n:Nat}(h:n < 511):(n:Int).natAbs < 18446744073709551616:=aG (pW n▸h) (cA rfl)
theorem aoX{n:Nat}(h:n < 511):8 * (n:Int)<=4096:=jQ.mpr (o8 8 (cX (aG h (cA rfl)):n<=512))
theorem nn8{n:Nat}:0<=8 * (n:Int):=aO (8 * n)
theorem jr{n m:Nat}(h:n < m):(n:Int) < m:=fu.mpr h
theorem dU{n m:Nat}(h:n<=m):(n:Int)<=m:=jQ.mpr h
theorem afQ{l:List UInt8}:((fD l.length).zip l).length=l.length:=by rw[List.length_zip,cM,Nat.min_self]
theorem lt8{k:Nat}(hk:k<=8):k < lim:=aA hk (cA rfl)
theorem GD{n:Nat}{st:St}{Q:Po}{X:Ex}{l:List UInt8}(hl:l.length<=510)(h:Q (.int (de l)) st):w.C (n + 1) 166 [.bytes l] st Q X:=by
 refine w.h (dL (fP rfl) (dG ?_))
 refine qD (fun p=>.int ((p.2.toNat:Int) * 2 ^ (8 * (p.1:Int)).toNat)) rfl (alP (ak (aR afQ) hl)) (fun p hm=>?_) ?_
 ·have ha:p.1 < 511:=aK (qM.mp (List.of_mem_zip hm).1) (fJ hl)
  exact fun K hK=>dV (VL (by decide) (afP ha)) (dV (aoQ nn8 (aoX ha) (afP (aG p.2.toNat_lt (by decide)))) hK)
 ·exact dV (aoS ((congrArg (fun z=>List.sum (xQ _ (List.zip z l))) lu).trans ((afO l 0).trans (congrArg Int.ofNat (Nat.mul_one _))))) h
theorem alQ(x:Nat):x &&& 255=x % 256:=Nat.and_two_pow_sub_one_eq_mod x 8
theorem afR:∀(k p x:Nat),((eX p k).map fun i=>UInt8.ofNat (x / 2 ^ (8 * i)))=le k (x / 2 ^ (8 * p))
 | 0,_,_=>rfl
 | k + 1,p,x=>by
  rw[List.range'_succ,fH,afR k (p + 1) x]
  show _=UInt8.ofNat (x / 2 ^ (8 * p))::le k (x / 2 ^ (8 * p) / 256)
  rw[Nat.div_div_eq_div_mul,Bv 8 p 1,Nat.pow_add]
theorem aiO(x:Nat):Z4 ((x % 256:Nat):Int)=UInt8.ofNat x:=UInt8.toNat_inj.mp (by
 show(UInt8.ofNat (Int.toNat ((x % 256:Nat):Int))).toNat=_
 rw[cH,UInt8.toNat_ofNat',UInt8.toNat_ofNat']; exact Nat.mod_mod x 256)
theorem aiP(k x:Nat):((fD k).map fun i=>Z4 (((x / 2 ^ (8 * i)) % 256:Nat):Int))=le k x:=by
 rw[lJ fun i J=>aiO (x / 2 ^ (8 * i)),lu,afR k 0 x,Nat.mul_zero,Nat.pow_zero,Nat.div_one]
theorem alR(x i:Nat):(x:Int) / 2 ^ (8 * (i:Int)).toNat=((x / 2 ^ (8 * i):Nat):Int):=by rw[aoW]; push_cast; rfl
theorem alS(k:Nat):(256:Int) ^ (k:Int).toNat=((256 ^ k:Nat):Int):=by rw[cH]; push_cast; rfl
theorem S8{n:Nat}{st:St}{Q:Po}{X:Ex}{x k:Nat}(hk:k<=8)(hx:x < 256 ^ k)(h:Q (.bytes (le k x)) st):w.C (n + 1) 171 [.int x,.int k] st Q X:=by
 refine w.h (dB (zX ((aO x))) (dV (aj6 (by decide) (by decide) (aO k) (dU (ak hk (by decide)))) (dB (Pb ((alS k▸jr hx))) (dL (Gy (aO k) (dU (bH (lt8 hk)))) (dG ?_)))))
 refine qD (fun i=>.int ((x / 2 ^ (8 * i) % 256:Nat):Int)) (sO (aO k) (dU (bH (lt8 hk)))) ((cM).symm▸lt8 hk) (fun i hm=>?_) ?_
 ·have hm:i < 511:=aG (qM.mp hm) (aA hk (by decide))
  exact fun K hK=>dV (VL (by decide) (afP hm)) (dV ((aoR nn8).trans (congrArg (fun v=>some (V.int v)) (alR x i))) (dV ((alO (aO _) (by decide)).trans (congrArg (fun v:Nat=>some (V.int v)) (alQ _))) hK))
 ·exact dV (Ig (fun i J=>⟨aO _,jr (mH _ (by decide))⟩) (aiP k x)) h
theorem aoY(c:Nat)(h:c < 127):(UInt8.ofNat c).toNat=c:=by rw[UInt8.toNat_ofNat']; exact Nat.mod_eq_of_lt (aG h (by decide))
theorem S9{s:List Nat}(h:rG s):(tb s).map UInt8.toNat=s:=
 gw.trans ((lJ fun c hc=>aoY c (h c hc).2).trans (qg s))
theorem fit{c:Nat}{l:List Nat}(h:rG l)(m:c∈l):decide ((32:Int)<=c)=true/\decide ((c:Int) < 127)=true:=⟨decide_eq_true (dU (h c m).1),decide_eq_true (jr (h c m).2)⟩
theorem nO{n:Nat}{st:St}{Q:Po}{X:Ex}{s:List Nat}(hs:rG s)(hl:s.length < 1000)(h:Q (.bytes (tb s)) st):w.C (n + 1) 176 [.str s] st Q X:=
 w.h (dL (fP rfl) (dG (qD (fun c:Nat=>V.int (c:Int)) rfl (pI hl) (fun c J=>fun K hK=>dV (fP rfl) hK)
  (dL (fP rfl) (dG (qD (fun c:Nat=>V.bool (decide ((c:Int) < 127))) rfl (pI hl) (fun c m=>fun K hK=>dB (qx (fit hs m).1) hK)
   (dV (afI fun c m=>(fit hs m).2) (dB (qX rfl) (dV (Ig (fun c m=>⟨aO c,jr (aG (hs c m).2 (by decide))⟩) rfl) h)))))))))
theorem Er:∀ l:List Nat,tO [] (l.map fun c=>[c])=l
 | []=>rfl
 | [_]=>rfl
 | x::y::l=>congrArg (x::·) (Er (y::l))
theorem aoZ:∀ l:List Nat,((l.map fun c=>[c]).map mC).sum=l.length
 | []=>rfl
 | x::l=>by rw[lO,fH,fH,List.sum_cons,aoZ l]; exact fB _ _
theorem aj8{l:List Nat}(h:l.length < 1000):((l.map fun c=>[c]).map mC).sum + (l.map fun c=>[c]).length<=1048576:=by
 rw[aoZ,aQ]; exact ak (fY (bH h) (bH h)) (by decide)
theorem Nh{n:Nat}{st:St}{Q:Po}{X:Ex}{l:List UInt8}(hs:rG (l.map UInt8.toNat))(hl:l.length < 1000)(h:Q (.str (l.map UInt8.toNat)) st):w.C (n + 1) 181 [.bytes l] st Q X:=
 have hl':(l.map UInt8.toNat).length < 1000:=aQ (as:=l) UInt8.toNat▸hl
 w.h (dL (a:=l.map fun b:UInt8=>V.int (b.toNat:Int)) (fP rfl) (dG (qD (fun b:UInt8=>V.bool (decide ((b.toNat:Int) < 127))) rfl (pI hl) (fun b m=>fun K hK=>dB (qx (fit hs (gV m)).1) hK)
  (dV (afI fun c m=>(fit hs (gV m)).2) (dB (qX rfl) (dB (qx rfl) (dL (a:=l.map fun b:UInt8=>V.int (b.toNat:Int)) (fP rfl) (dG (qD (fun b:UInt8=>V.str [b.toNat]) rfl (pI hl) (fun b J=>fun K hK=>dV (aj7 b.toNat_lt) hK)
   (dP ((congrArg (fun z=>stk (Z7 st .join (.str []) [.lst z])) (gw (l:=l) (f:=UInt8.toNat) (g:=fun c=>V.str [c])).symm).trans (Zb (aj8 hl') (by decide) (Er _))) h))))))))))
noncomputable def snF(b:Nat):List (Nat×V):=[(0,.ref b)]
noncomputable abbrev snk(b:Nat):O:=.inst 226 (snF b)
structure Snk(st0 st:St)(i b:Nat)(l:List UInt8):Prop where
 k:Ke [] st0 st
 n:No st0 b
 i:Is st i (snk b)
 b:Is st b (.ba l)
theorem Ke.fr{a b c:St}{i:Nat}(h:Ke [] a b)(n:No a i)(k:Ke [i] b c):Ke [] a c:=h.fresh k fun j m=>aN.mp m▸n
section
variable{n i b:Nat}{st0 st:St}{Q:Po}{X:Ex}{l:List UInt8}
theorem Snk.set(s:Snk st0 st i b l){l':List UInt8}:Snk st0 (st.set b (.ba l')) i b l':=⟨s.k.fr s.n .set,s.n,bZ s.b s.i rfl,fQ s.b⟩
theorem V1(h:∀ st' b,Snk st st' st.length b []->Q .none st'):w.C (n + 1) 195 [.ref st.length] (st++[.inst 226 []]) Q X:=
 w.h (dP (dJ (iM cC) rfl rfl)
  (h _ _ ⟨.fr (Ke.app.trans Ke.app) rF Ke.set,aaJ (o:=.inst 226 []),fQ (iM cC),bZ (iM cC) cC rfl⟩))
variable(s:Snk st0 st i b l)
include s
theorem jc{x k:Nat}(hk:k<=8)(hx:x < 256 ^ k)(hl:l.length < 2000)(h:∀ st',Snk st0 st' i b (l++le k x)->Q .none st'):w.C (n + 2) 202 [.ref i,.int x,.int k] st Q X:=
 w.h (dV (aU s.i rfl) (dB (qx (aoT s.b)) (dG (S8 hk hx
  (dP (afL s.b (aK (jZ hl (nq k x▸hk)) (by decide))) (h _ s.set))))))
theorem acj{t:List Nat}(hs:rG t)(hn:t.length < 256)(hl:l.length < 1000)(h:∀ st',Snk st0 st' i b (l++le 1 t.length++tb t)->Q .none st'):w.C (n + 4) 216 [.ref i,.str t] st Q X:=
 w.h (dG (nO hs (aG hn (by decide))
  (dN (aX s.i rfl) (dV (Dj (gY (ak (aR (qF t)) (bH (aG hn (by decide))))) (congrArg (fun n:Nat=>V.int n) (qF t))) (dG (jc s (k:=1) (by decide) hn (aG hl (by decide)) fun st1 s1=>
   dV (aU s1.i rfl) (dB (qx (aoT s1.b)) (dP (afL s1.b (by rw[aF,nq,qF]; exact aG (Nat.add_lt_add (Nat.add_lt_add_right hl 1) hn) (by decide))) (h _ s1.set)))))))))
theorem Ni(h:Q (.bytes l) st):w.C (n + 1) 223 [.ref i] st Q X:=w.h (dV (aU s.i rfl) (dV (Za s.b) h))
end
end
section
variable{w:Wm gF}
noncomputable def arv(l:List UInt8)(a:Nat):List (Nat×V):=[(0,.bytes l),(2,.int a)]
noncomputable def cur(l:List UInt8)(a:Nat):O:=.inst 276 (arv l a)
theorem Cq(n a:Nat):yp n a=min a n:=if_neg (dh.mpr (aO a))
theorem V2{α:Type}(l:List α)(b:Nat):l.take (min b l.length)=l.take b:=by
 rcases qR b l.length with h | h
 ·rw[zH h]
 ·rw[rO h,xV,jR h]
theorem V3{α:Type}(l:List α)(a n:Nat)(hn:l.length<=n):l.drop (min a n)=l.drop a:=by
 rcases qR a n with h | h
 ·rw[zH h]
 ·rw[rO h,qT hn,qT (ak hn h)]
theorem aaL{α:Type}(l:List α)(a b:Nat):cut l (some (a:Int)) (some (b:Int))=(l.take b).drop a:=by
 show(l.take (yp l.length _)).drop (yp l.length _)=_
 rw[Cq,Cq,V2,V3 _ _ _ (sZ b l)]
theorem aaM{α:Type}{l x r:List α}{a:Nat}(h:l.drop a=x++r):cut l (some (a:Int)) (some ((a:Int) + x.length))=x:=
 (aaL l a (a + x.length)).trans (by rw[Bu,h,Nat.add_sub_cancel_left]; exact List.take_left' rfl)
theorem uo{α:Type}{l x r:List α}{a:Nat}(h:l.drop a=x++r):l.drop (a + x.length)=r:=by
 rw[← List.drop_drop,h,List.drop_left]
theorem afS{α:Type}{l x r:List α}{a:Nat}(h:l.drop a=x++r):x.length<=l.length - a:=by
 rw[← jk,h,aF]; exact bh _ _
theorem Cr{α:Type}{l x r:List α}{a:Nat}(h:l.drop a=x++r)(ha:a<=l.length):a + x.length<=l.length:=fB a _▸Nat.add_le_of_le_sub ha (afS h)
theorem Dv{n:Nat}(h:n < 1000):n<=lim:=bH (pI h)
section
variable{n a i:Nat}{st:St}{Q:Po}{X:Ex}{l:List UInt8}
theorem Zc(h:Q .none (st++[cur l a])):w.C (n + 1) 245 [.ref st.length,.bytes l,.int a] (st++[.inst 276 []]) Q X:=
 w.h (dP (kE (dJ cC rfl rfl) eZ) (dP (kE (dJ cC rfl rfl) eZ) h))
variable(hi:Is st i (cur l a))(hl:l.length < 1000)
include hi hl
theorem afT(h:Q (.int (l.length - a)) st):w.C (n + 1) 252 [.ref i] st Q X:=
 w.h (dV (aU hi rfl) (dV (gY (Dv hl)) (dV (aU hi rfl) h)))
variable(ha:a<=l.length)
include ha
theorem V4{x r:List UInt8}{m:Nat}(hm:x.length=m)(hd:l.drop a=x++r)(h:Q (.bytes x) (st.set i (cur l (a + m)))):w.C (n + 2) 259 [.ref i,.int m] st Q X:=by
 subst hm; exact
 w.h (dN (aX hi rfl) (dG (afT hi hl (dB (G5 ((dh.mpr (Int.le_sub_left_of_add_le (dU (Cr hd ha))))))
  (dV (aU hi rfl) (dV (aU hi rfl) (dV (aU hi rfl) (dV ((Kd (Dv hl)).trans (congrArg (fun v=>some (V.bytes v)) (aaM hd))) (dV (fP rfl)
   (dV (aU hi rfl) (dP (dJ hi rfl rfl) h)))))))))))
theorem Es{r:List UInt8}{k x:Nat}(hd:l.drop a=le k x++r)(hx:x < 256 ^ k)(hk:k<=8)(h:Q (.int x) (st.set i (cur l (a + k)))):
  w.C (n + 3) 266 [.ref i,.int k] st Q X:=
 w.h (dN (aX hi rfl) (dG (V4 hi hl ha (nq k x) hd (dG (GD (ak (aR (nq k x)) (ak hk (by decide))) (show Q (.int (de (le k x))) _ from(afN k x hx).symm▸h))))))
theorem afU{r:List UInt8}{s:List Nat}(hd:l.drop a=le 1 s.length++(tb s++r))(hs:rG s)(hn:s.length < 200)(h:Q (.str s) (st.set i (cur l (a + 1 + s.length)))):w.C (n + 4) 273 [.ref i] st Q X:=
 have h1:a + 1<=l.length:=nq 1 s.length▸Cr hd ha
 w.h (dN (aX hi rfl) (dN (aX hi rfl) (dG (Es (k:=1) hi hl ha hd (aG hn (by decide)) (by decide)
  (dG (V4 (fQ hi) hl h1 (qF s) (uo hd) (dG (Nh ((S9 hs).symm▸hs) (aA (aR (qF s)) (aG hn (by decide))) (by rw[S9 hs]; exact(qU (l:=st) (i:=i) (cur l (a + 1)) (b:=cur l (a + 1 + s.length))).symm▸h)))))))))
end
theorem acn{n:Nat}{st:St}{Q:Po}{X:Ex}{l:List UInt8}{k:Nat}(h1:l.length<=k)(h2:k < 1000)(h:Q (.bytes (l++bQ (k - l.length) 0)) st):w.C (n + 1) 287 [.bytes l,.int k] st Q X:=
 have hl:=Dv (aA h1 h2)
 have e:(k:Int) - l.length=((k - l.length:Nat):Int):=(Int.ofNat_sub h1).symm
 w.h (dV (gY hl) (dB (G5 ((dh.mpr (dU h1)))) (dV (fP rfl) (dV (gY hl)
  (dV ((Cp (e▸aO _) (e▸dU (ak (jF _ _) (Dv h2)))).trans (congrArg (fun z:Int=>some (V.bytes (bQ z.toNat 0))) e))
   (dV (nM (by rw[eY,cH,dD h1]; exact Dv h2)) h))))))
theorem Tc{n:Nat}{st:St}{Q:Po}{X:Ex}{x:Nat}(hx:x < 4294967296)(h:Q (.int ((x * 2654435761 + 40503) % 4294967296:Nat)) st):w.C (n + 1) 308 [.int x] st Q X:=
 w.h (dV (VL (aG (pW x▸hx) (by decide)) (by decide)) (dV M8 (dV (sJ (by decide)) h)))
end
section
variable{w:Wm gF}
abbrev Row:=List Nat×Nat
noncomputable def wC(r:Row):V:=.tup [.str r.1,.int r.2]
noncomputable def Et(r:Row):List UInt8:=le 1 r.1.length++(tb r.1++le 8 r.2)
noncomputable def qG(rs:List Row):List UInt8:=(rs.map Et).flatten
noncomputable def Zd(salt n:Nat):List UInt8:=le 1 1++le 4 salt++le 2 n
noncomputable def xq(salt:Nat)(rs:List Row):List UInt8:=Zd salt rs.length++qG rs
structure afV(r:Row):Prop where
 g:rG r.1
 l:r.1.length<=28
 x:r.2 < 256 ^ 8
theorem Ze(r:Row):(Et r).length=9 + r.1.length:=by
 unfold Et; rw[aF,aF,nq,nq,qF,fB r.1.length,← jU]
theorem Td(r:Row)(rs:List Row):qG (r::rs)=Et r++qG rs:=rfl
theorem QD(a b:List Row):qG (a++b)=qG a++qG b:=by
 unfold qG; rw[cu,List.flatten_append]
theorem aco(a:List Row)(r:Row):qG (a++[r])=qG a++Et r:=by
 rw[QD,Td]; exact congrArg _ (bN _)
theorem V5(salt n:Nat):(Zd salt n).length=7:=by unfold Zd; rw[aF,aF,nq,nq,nq]
theorem afW{α:Type}(a b:List α):a.length<=(a++b).length:=by rw[aF]; exact bh _ _
theorem arw{n:Nat}(h:n < 256 ^ 8):(n:Int) < p8:=fu.mpr h
section
variable{n:Nat}{st:St}{Q:Po}{X:Ex}
theorem V6{s:List Nat}{x:Nat}(hs:rG s)(h0:0 < s.length)(h1:s.length<=28)(hx:x < 256 ^ 8)(h:Q .none st):w.C (n + 2) 315 [.str s,.int x] st Q X:=
 w.h (dG (nO hs (aA h1 (bl rfl)) (dV (Dj (gY (ak (aR (qF s)) (ak h1 (bl rfl)))) (congrArg (fun n:Nat=>V.int n) (qF s)))
  (dB (zX ((jr h0))) (dB (Pb ((dU h1))) (dB (zX ((aO x))) (dV arq (dB (Pb ((arw hx))) h))))))))
structure MoI(st st':St)(rs:List Row)(salt b:Nat)(d r:List Row):Prop where
 e:rs=d++r
 s:Snk st st' st.length b (Zd salt rs.length++qG d)
theorem MoI.len{st st':St}{rs d r:List Row}{salt b k:Nat}(i:MoI st st' rs salt b d r)(hk:(xq salt rs).length<=k):(Zd salt rs.length++qG d).length<=k:=
 ak (afW _ (qG r)) (ak (aR (by rw[bw,← QD,← i.e]; rfl)) hk)
theorem MoI.end{st st':St}{rs d:List Row}{salt b:Nat}(i:MoI st st' rs salt b d []):Snk st st' st.length b (xq salt rs):=by
 have e:=i.e
 rw[bN] at e
 have s:=i.s
 rw[← e] at s; exact s
theorem MoI.next{st st1 st':St}{rs d r:List Row}{y:Row}{salt b:Nat}(i:MoI st st1 rs salt b d (y::r))(s:Snk st st' st.length b (Zd salt rs.length++qG d++le 1 y.1.length++tb y.1++le 8 y.2)):MoI st st' rs salt b (d++[y]) r:=
 ⟨by rw[i.e,bw]; rfl,by rw[aco,← bw]; unfold Et; rw[← bw,← bw]; exact s⟩
theorem ao0{a b c:List UInt8}(h:a.length < 1000)(hb:b.length<=1)(hc:c.length<=28):(a++b++c).length < 2000:=by
 rw[aF,aF]; exact aK (jZ (jZ h hb) hc) (bl rfl)
theorem JX{salt k:Nat}{rs:List Row}(h1:salt < 4294967296)(hn:rs.length < 60)(hr:∀ r∈rs,afV r)(hk:(xq salt rs).length<=k)(h2:k < 1000)
  (h:∀ st',Ke [] st st'->Q (.bytes (xq salt rs++bQ (k - (xq salt rs).length) 0)) st'):w.C (n + 5) 322 [.int salt,.lst (rs.map wC),.int k] st Q X:=by
 refine w.h ?_; o_shape
 refine dG (V1 fun st1 b s=>?_); o_shape
 refine dN (aX s.i rfl) (dG (jc s (x:=1) (k:=1) (bl rfl) (bl rfl) (bl rfl) fun st2 s=>?_)); o_shape
 refine dN (aX s.i rfl) (dG (jc s (k:=4) (bl rfl) h1 (bl rfl) fun st3 s=>?_)); o_shape
 refine dN (aX s.i rfl) (dV (Dj (fP rfl) (congrArg (fun n:Nat=>V.int n) (aQ _))) (dG (jc s (k:=2) (bl rfl) (aG hn (bl rfl)) (bl rfl) fun st4 s=>?_))); o_shape
 refine dL (fP rfl) (dS (GC (g:=wC) _ (fun d r st'=>MoI st st' rs salt b d r) (fun J J J J=>rfl) (fun d st' i=>?_) (fun d y r st' i K kn J J=>?_) [] _ _ ⟨rfl,(bN _).symm▸s⟩))
 ·have s:=i.end
  exact dN (aX s.i rfl) (dG (Ni s (dV (gY (ak hk (Dv h2))) (dB (zX (dU hk)) (dG (acn hk h2 (h _ s.k)))))))
 ·have q:=hr y (i.e▸cT _ (.head _))
  have s:=i.s
  have hd:=aA (i.len hk) h2
  refine dN (aX s.i rfl) (dG (acj s q.g (aA q.l (bl rfl)) hd fun st6 s=>?_)); o_shape
  exact dN (aX s.i rfl) (dG (jc s (k:=8) (bl rfl) q.x (ao0 hd (aR (nq 1 _)) (ak (aR (qF _)) q.l)) fun st7 s=>kn _ _ _ (Ib rfl (Ib rfl le_refl)) (i.next s)))
end
end
section
variable{w:Wm gF}
structure Rw(st0 st:St)(i j:Nat)(l:List UInt8)(a:Nat)(d:List Row):Prop where
 k:Ke [] st0 st
 ni:No st0 i
 nj:No st0 j
 i:Is st i (cur l a)
 j:Is st j (.list (d.map wC))
section
variable{st0 st:St}{i j a:Nat}{l:List UInt8}{d:List Row}
theorem Rw.cur(s:Rw st0 st i j l a d){b:Nat}:Rw st0 (st.set i (cur l b)) i j l b d:=⟨s.k.fr s.ni .set,s.ni,s.nj,fQ s.i,bZ s.i s.j rfl⟩
theorem Rw.add(s:Rw st0 st i j l a d){y:Row}:Rw st0 (st.set j (.list (d.map wC++[wC y]))) i j l a (d++[y]):=⟨s.k.fr s.nj .set,s.ni,s.nj,bZ s.j s.i rfl,by rw[cu]; exact fQ s.j⟩
end
theorem acp(salt:Nat)(rs:List Row)(t:List UInt8):(xq salt rs++t).drop 5=le 2 rs.length++(qG rs++t):=by
 unfold xq Zd
 rw[bw,bw]
 exact List.drop_left' (by rw[aF,nq,nq])
theorem afX{l t:List UInt8}{a:Nat}{y:Row}{r:List Row}(hd:l.drop a=qG (y::r)++t):l.drop a=le 1 y.1.length++(tb y.1++(le 8 y.2++(qG r++t))):=by
 rw[hd,Td]; unfold Et; rw[bw,bw,bw]
structure RI(st st':St)(rs:List Row)(t l:List UInt8)(d r:List Row)(a n:Nat):Prop where
 e:rs=d++r
 n:n=r.length
 s:Rw st st' st.length (st++[cur l 7]).length l a d
 hd:l.drop a=qG r++t
 ha:a<=l.length
section
variable{n:Nat}{st:St}{Q:Po}{X:Ex}{salt:Nat}{rs:List Row}{t:List UInt8}
theorem rU(hn:rs.length < 60)(hr:∀ r∈rs,afV r)(hl:(xq salt rs++t).length < 1000)
  (h:∀ st' j,Ke [] st st'->No st j->Is st' j (.list (rs.map wC))->Q (.ref j) st'):w.C (n + 5) 329 [.bytes (xq salt rs++t)] st Q X:=by
 have h5:=acp salt rs t
 have h7:(xq salt rs++t).drop 7=qG rs++t:=by have:=uo h5; rw[nq] at this; exact this
 have l7:7<=(xq salt rs++t).length:=by unfold xq; rw[bw,aF,V5]; exact bh _ _
 revert h5 h7 l7 hl
 generalize xq salt rs++t=l
 intro hl h5 h7 l7
 have hs:cut l (some 5) (some 7)=le 2 rs.length:=aaM h5
 have nl:=bH (aG hn (bl rfl:60 < lim))
 refine w.h (dG (Zc (a:=7) (dV (Dj (Kd (Dv hl)) (congrArg V.bytes hs)) (dG (GD (ak (aR (nq 2 _)) (bl rfl)) ?_)))))
 rw[afN 2 rs.length (aG hn (bl rfl))]
 o_shape
 refine dL (Gy (aO _) (dU nl)) (dS (GC (g:=fun i:Nat=>V.int i) _ (fun(b:List Row×List Row×Nat) q st'=>RI st st' rs t l b.1 b.2.1 b.2.2 q.length)
   (fun J J J J=>sO (aO _) (dU nl)) (fun b st' i=>?_) (fun b x q st' i K kn J J=>?_) ([],rs,7) _ _ ⟨rfl,cM,⟨Ke.app.trans Ke.app,rF,aaJ,iM cC,cC⟩,h7,l7⟩))
 ·have e:=i.e
  rw[fL i.n.symm,bN] at e
  exact h _ _ i.s.k i.s.nj (e▸i.s.j)
 ·cases b with | mk d b=>cases b with | mk r a=>cases r with
  | nil=>cases i.n
  | cons y r=>
   have q:=hr y (i.e▸cT _ (.head _))
   have d1:=afX i.hd
   have a1:a + 1<=l.length:=Cr d1 i.ha
   have d2:=uo d1
   have a2:a + 1 + y.1.length<=l.length:=qF y.1▸Cr d2 a1
   have d3:l.drop (a + 1 + y.1.length)=_:=qF y.1▸uo d2
   have s:=i.s
   have c:=s.cur (b:=a + 1 + y.1.length)
   have c2:=c.cur (b:=a + 1 + y.1.length + 8)
   refine dN (aX s.i rfl) (dG (afU s.i hl i.ha d1 q.g (aA q.l (bl rfl)) (dB (qx (Nb c.j)) (dN (aX c.i rfl) (dG (Es (k:=8) c.i hl a2 d3 q.x (bl rfl)
    (dP (Bc c2.j ?_) (kn _ _ (d++[y],r,a + 1 + y.1.length + 8) (Ib rfl (Ib rfl le_refl)) ⟨by rw[i.e,bw]; rfl,jt i.n,c2.add,uo d3,Cr d3 a2⟩))))))))
   rw[aQ]; exact aA (afW d (y::r)) (i.e▸aG hn (bl rfl))
theorem yK(hl:(xq salt rs++t).length < 1000)(h:Q (.int 1) st):w.C (n + 1) 371 [.bytes (xq salt rs++t)] st Q X:=by
 have e:Fi st (.bytes (xq salt rs++t)) (.int 0)=some (.int 1):=iC (if_pos ⟨Int.le_refl _,Dv hl⟩) rfl
 exact w.h (dV (fP e) (dV (fP rfl) (dB (qX rfl) (dV (fP e) h))))
end
end
section
variable{w:Wm gF}
structure Md where
 a:Nat
 kind:Nat
 block:Nat
 most:Int
 bonus:List UInt8
 data:List UInt8
structure Ms where
 i:Nat
 sh:Nat
 d:Nat
 o:Nat
 top:Nat
 obs:List (Nat×Md)
noncomputable def Ms.get(σ:Ms)(n:Nat):Option Md:=σ.obs.lookup n
noncomputable def wF(l:List (Nat×Md))(n:Nat)(f:Md->Md):List (Nat×Md):=l.map fun p=>(p.1,if p.1=n then f p.2 else p.2)
noncomputable def Ms.upd(σ:Ms)(n:Nat)(f:Md->Md):Ms:={σ with obs:=wF σ.obs n f}
noncomputable def Ms.del(σ:Ms)(n:Nat):Ms:={σ with obs:=σ.obs.filter fun p=> !(p.1==n)}
noncomputable def Ms.A(σ:Ms):List Nat:=σ.i::σ.sh::σ.d::σ.o::σ.obs.map (·.2.a)
noncomputable def dictOf(g:Md->V)(l:List (Nat×Md)):List (V×V):=l.map fun p=>(.int p.1,g p.2)
noncomputable def gA(m:Md):V:=.ref m.a
noncomputable def gD(m:Md):V:=.bytes m.data
noncomputable def dnF(m:Md):List (Nat×V):=[(52,.int m.kind),(8,.int m.block),(53,.int m.most),(34,.bytes m.bonus)]
noncomputable def dnO(m:Md):O:=.inst 954 (dnF m)
noncomputable def msF(σ:Ms):List (Nat×V):=[(23,.ref σ.sh),(16,.ref σ.d),(0,.ref σ.o),(54,.int σ.top)]
noncomputable def msO(σ:Ms):O:=.inst 1053 (msF σ)
noncomputable def shO:O:=.inst 467 [(12,.int 16),(13,.int 32),(14,.int 32),(15,.int 4),(16,.int 4),(17,.int 4),(18,.int 2),(19,.int 128),(20,.int 192),(21,.int 160),(22,.int 512)]
structure Rep(σ:Ms)(st:St):Prop where
 hi:Is st σ.i (msO σ)
 hsh:Is st σ.sh shO
 hd:Is st σ.d (.dict (dictOf gA σ.obs))
 ho:Is st σ.o (.dict (dictOf gD σ.obs))
 hn:∀ p∈σ.obs,Is st p.2.a (dnO p.2)
 ne:σ.d≠σ.o
 ks:(σ.obs.map (·.1)).Pairwise (· < ·)
 kt:∀ p∈σ.obs,p.1<=σ.top
 an:(σ.obs.map (·.2.a)).Nodup
 sz:∀ p∈σ.obs,p.2.data.length < 2000/\0 < p.2.block/\p.2.block<=1000/\p.2.bonus.length < 100
 fw:σ.obs.length<=σ.top
 tw:σ.top < 100000
theorem Rep.mono{σ:Ms}{st st':St}{L:List Nat}(r:Rep σ st)(k:Ke L st st')(h:∀ x∈σ.A,x∉L):Rep σ st' where
 hi:=k _ _ (h _ (.head _)) r.hi
 hsh:=k _ _ (h _ (.tail _ (.head _))) r.hsh
 hd:=k _ _ (h _ (.tail _ (.tail _ (.head _)))) r.hd
 ho:=k _ _ (h _ (.tail _ (.tail _ (.tail _ (.head _))))) r.ho
 hn:=fun p hp=>k _ _ (h _ (.tail _ (.tail _ (.tail _ (.tail _ (gV (f:=fun p:Nat×Md=>p.2.a) hp)))))) (r.hn p hp)
 ne:=r.ne
 ks:=r.ks
 kt:=r.kt
 an:=r.an
 sz:=r.sz
 fw:=r.fw
 tw:=r.tw
theorem Rep.ke{σ:Ms}{st st':St}(r:Rep σ st)(k:Ke [] st st'):Rep σ st':=r.mono k fun J J=>dK
theorem sS(g:Md->V)(l:List (Nat×Md))(n:Int):mD (dictOf g l) (.int n)=true:=by
 unfold mD dictOf; rw[oM,bx]; intro x _; rfl
theorem vG{a b:Nat}:jA (.int a) (.int b)=(b==a):=by
 show decide ((a:Int)=b)=(b==a)
 by_cases e:a=b
 ·subst e; rw[decide_eq_true rfl,BEq.rfl]
 ·rw[decide_eq_false (by omega)]; exact(beq_eq_false_iff_ne.mpr fun q=>e q.symm).symm
theorem Te(g:Md->V)(n:Nat):∀ l:List (Nat×Md),u9 (dictOf g l) (.int n)=(l.lookup n).map g
 | []=>rfl
 | (k,m)::r=>by
  show(if jA (.int k) (.int n) then some (g m) else u9 (dictOf g r) (.int n))=_
  rw[vG,aM,Te g n r]
  cases n==k <;> rfl
theorem aaN{f:Md->Md}{n:Nat}:∀ l:List (Nat×Md),(∀ p∈l,p.1≠n)->wF l n f=l
 | [],_=>rfl
 | (k,m)::r,h=>by
  show(k,if k=n then f m else m)::wF r n f=_
  rw[if_neg (h _ (.head _)),aaN r fun p hp=>h p (.tail _ hp)]
theorem aaO{g:Md->V}{f:Md->Md}{n:Nat}{m:Md}:∀ l:List (Nat×Md),(l.map (·.1)).Pairwise (· < ·)->l.lookup n=some m->pD (dictOf g l) (.int n) (g (f m))=dictOf g (wF l n f)
 | [],_,e=>by cases e
 | (k,w)::r,p,e=>by
  show(if jA (.int k) (.int n) then(V.int k,g (f m))::dictOf g r else(V.int k,g w)::pD (dictOf g r) (.int n) (g (f m)))=(V.int k,g (if k=n then f w else w))::dictOf g (wF r n f)
  rw[aM] at e
  rw[vG]
  rw[fH,jl] at p
  cases q:n==k with
  | true=>
   rw[q] at e
   cases e
   have:=eq_of_beq q
   rw[if_pos this.symm,aaN r fun x hx=>by have:=p.1 x.1 (gV (f:=fun y:Nat×Md=>y.1) hx); omega]
   rfl
  | false=>
   rw[q] at e
   have:=beq_eq_false_iff_ne.mp q
   have hk:¬ k=n:=fun z=>this z.symm
   rw[if_neg hk,← aaO r p.2 e]
   rfl
theorem Ih{g:Md->V}{f:Md->Md}(n:Nat)(h:∀ m,g (f m)=g m)(l:List (Nat×Md)):dictOf g (wF l n f)=dictOf g l:=by
 unfold dictOf wF
 rw[gw]
 refine lJ fun p J=>?_
 show(V.int p.1,g (if p.1=n then f p.2 else p.2))=_
 split
 ·rw[h]
 ·rfl
theorem Nj{g:Md->V}{n:Nat}{m:Md}:∀ l:List (Nat×Md),(∀ p∈l,p.1 < n)->pD (dictOf g l) (.int n) (g m)=dictOf g (l++[(n,m)])
 | [],_=>rfl
 | (k,w)::r,h=>by
  show(if jA (.int k) (.int n) then _ else(V.int k,g w)::pD (dictOf g r) (.int n) (g m))=(V.int k,g w)::dictOf g (r++[(n,m)])
  have:k < n:=h _ (.head _)
  rw[vG,beq_eq_false_iff_ne.mpr (by omega),Nj r fun p hp=>h p (.tail _ hp)]
  rfl
theorem Tf{g:Md->V}{n:Nat}:∀ l:List (Nat×Md),qY (dictOf g l) (.int n)=dictOf g (l.filter fun p=> !(p.1==n))
 | []=>rfl
 | (k,w)::r=>by
  show(if jA (.int k) (.int n) then qY (dictOf g r) (.int n) else(V.int k,g w)::qY (dictOf g r) (.int n))=_
  rw[vG,dY,Tf r]
  rw[show(n==k)=(k==n) from Bool.beq_comm]
  cases k==n <;> rfl
section
variable{st:St}{d:Nat}{k:V}{l:List (V×V)}(e:Is st d (.dict l))(f:mD l k=true)(z:Jb k=true)
include e f z
theorem Ti{v:V}(g:u9 l k=some v):stk (Fi st (.ref d) k)=some v:=fP (by
 show(match tD st d with | some l=>iI (nth l) k | .none=>ahl st d k)=_
 rw[show tD st d=.none from(congrArg (bnd · ac9) e)]
 exact iC (oH e) (iC (if_pos ⟨z,f⟩) g))
theorem afZ{b:Bool}(g:(u9 l k).isSome=b):inv st k (.ref d)=some b:=by
 unfold inv
 rw[show oZ st (.ref d)=some l from oH e]
 exact g▸if_pos ⟨z,f⟩
theorem Tj{b:Bool}(g:(u9 l k).isSome=b):stk (qC V.bool (cop st .Ja k (.ref d)))=some (.bool (!b)):=Gx (iC (afZ e f z g) rfl)
theorem arz{b:Bool}(g:(u9 l k).isSome=b):stk (qC V.bool (cop st .inn k (.ref d)))=some (.bool b):=Gx (afZ e f z g)
theorem Nk{v:V}(n:l.length < lim):stk (qC (Prod.mk V.none) (Ab st (.ref d) k v))=some (.none,st.set d (.dict (pD l k v))):=
 fP (congrArg (qC (Prod.mk V.none)) (iC (oH e) (if_pos ⟨z,f,n⟩):Ab st (.ref d) k v=some (st.set d (.dict (pD l k v)))))
theorem Zf{v:V}(g:u9 l k=some v):stk (Z7 st .pop (.ref d) [k])=some (v,st.set d (.dict (qY l k))):=fP (iC (oH e) (iC (if_pos ⟨z,f⟩) (iC g rfl)))
theorem alT{v w:V}(g:(u9 l k).getD w=v):stk (Z7 st .Oi (.ref d) [k,w])=some (v,st):=fP (iC (oH e) (g▸if_pos ⟨z,f⟩))
end
end
section
variable{w:Wm gF}
theorem Bd{st:St}{i j:Nat}{o x:O}(n:i≠j)(h:Is st j x):Is (st.set i o) j x:=(nR n).trans h
theorem Ii(l:List (Nat×Md))(n:Nat)(f:Md->Md):(wF l n f).map (·.1)=l.map (·.1):=by
 unfold wF; rw[gw]; rfl
theorem Ij{f:Md->Md}(fa:∀ m,(f m).a=m.a)(l:List (Nat×Md))(n:Nat):(wF l n f).map (·.2.a)=l.map (·.2.a):=by
 unfold wF; rw[gw]
 refine lJ fun p J=>?_
 show(if p.1=n then f p.2 else p.2).a=_
 split
 ·exact fa _
 ·rfl
theorem xu{f:Md->Md}{l:List (Nat×Md)}{n:Nat}{p:Nat×Md}(h:p∈wF l n f):∃ q∈l,p.1=q.1/\(p.2=q.2/\q.1≠n∨p.2=f q.2/\q.1=n):=by
 obtain⟨q,hq,rfl⟩:=fX.mp h
 refine⟨q,hq,rfl,?_⟩
 by_cases e:q.1=n
 ·exact .inr ⟨if_pos e,e⟩
 ·exact .inl ⟨if_neg e,e⟩
theorem kO{n:Nat}{m:Md}:∀ {l:List (Nat×Md)},l.lookup n=some m->(n,m)∈l
 | (k,w)::r,e=>by
  rw[aM] at e
  cases q:n==k with
  | true=>rw[q] at e; cases e; rw[eq_of_beq q]; exact .head _
  | false=>rw[q] at e; exact .tail _ (kO e)
theorem Rep.one{σ:Ms}{st:St}(r:Rep σ st){p q:Nat×Md}(hp:p∈σ.obs)(hq:q∈σ.obs)(e:p.1=q.1):p=q:=by
 have:=r.ks
 rw[List.pairwise_map] at this
 revert hp hq
 generalize σ.obs=l at this ⊢
 induction l with
 | nil=>nofun
 | cons x l ih=>
  rw[jl] at this
  intro hp hq
  rcases aY.mp hp with h1 | h1 <;> rcases aY.mp hq with h2 | h2
  ·rw[h1,h2]
  ·subst h1; have:=this.1 _ h2; omega
  ·subst h2; have:=this.1 _ h1; omega
  ·exact ih this.2 h1 h2
theorem Rep.apart{σ:Ms}{st:St}(r:Rep σ st){p q:Nat×Md}(hp:p∈σ.obs)(hq:q∈σ.obs)(e:p.2.a=q.2.a):p=q:=by
 have:=r.an
 revert hp hq this
 generalize σ.obs=l
 induction l with
 | nil=>nofun
 | cons x l ih=>
  intro hp hq this
  rw[fH,dj] at this
  rcases aY.mp hp with h1 | h1 <;> rcases aY.mp hq with h2 | h2
  ·rw[h1,h2]
  ·subst h1; exact absurd (e▸gV (f:=fun p:Nat×Md=>p.2.a) h2) this.1
  ·subst h2; exact absurd (e▸gV (f:=fun p:Nat×Md=>p.2.a) h1) this.1
  ·exact ih h1 h2 this.2
noncomputable def wD(x:List UInt8)(m:Md):Md:={m with data:=x}
noncomputable def wM(x:Int)(m:Md):Md:={m with most:=x}
noncomputable def wB(x:List UInt8)(m:Md):Md:={m with bonus:=x}
theorem Rep.aiQ{σ:Ms}{st:St}{n:Nat}{m:Md}{x:List UInt8}(r:Rep σ st)(g:σ.get n=some m)(hx:x.length < 2000):
  Rep (σ.upd n (wD x)) (st.set σ.o (.dict (pD (dictOf gD σ.obs) (.int n) (.bytes x)))) where
 hi:=bZ r.ho r.hi rfl
 hsh:=bZ r.ho r.hsh rfl
 hd:=by
  show Is (st.set σ.o _) σ.d (.dict (dictOf gA (wF σ.obs n (wD x))))
  rw[Ih (f:=wD x) n (g:=gA) (fun J=>rfl)]; exact Bd (fun e=>r.ne e.symm) r.hd
 ho:=by
  have:=aaO (g:=gD) (f:=wD x) σ.obs r.ks g
  have e:gD (wD x m)=.bytes x:=rfl
  rw[e] at this
  rw[this]
  exact fQ r.ho
 hn:=fun p hp=>by
  obtain⟨q,hq,e1,e2 | e2⟩:=xu (f:=wD x) hp
  ·rw[e2.1]; exact bZ r.ho (r.hn q hq) rfl
  ·rw[e2.1]; exact bZ r.ho (r.hn q hq) rfl
 ne:=r.ne
 ks:=by rw[show(σ.upd n (wD x)).obs=wF σ.obs n (wD x) from rfl,Ii]; exact r.ks
 kt:=fun p hp=>by obtain⟨q,hq,e1,_⟩:=xu (f:=wD x) hp; rw[e1]; exact r.kt q hq
 an:=by
  show((wF σ.obs n (wD x)).map (·.2.a)).Nodup
  rw[Ij (f:=wD x) fun J=>rfl]; exact r.an
 sz:=fun p hp=>by
  obtain⟨q,hq,e1,e2 | e2⟩:=xu (f:=wD x) hp
  ·rw[e2.1]; exact r.sz q hq
  ·rw[e2.1]; exact⟨hx,(r.sz q hq).2⟩
 fw:=by rw[show(σ.upd n (wD x)).obs.length=σ.obs.length from aQ _]; exact r.fw
 tw:=r.tw
theorem Rep.akb{σ:Ms}{st:St}{n:Nat}{m:Md}{f:Md->Md}(r:Rep σ st)(g:σ.get n=some m)(fa:∀ m,(f m).a=m.a)(fd:∀ m,(f m).data=m.data)(fb:∀ m,(f m).block=m.block)(fz:∀ m:Md,m.bonus.length < 100->(f m).bonus.length < 100):
  Rep (σ.upd n f) (st.set m.a (dnO (f m))):=by
 have hm:=r.hn _ (kO g)
 exact {
 hi:=bZ hm r.hi rfl
 hsh:=bZ hm r.hsh rfl
 hd:=by
  show Is (st.set m.a _) σ.d (.dict (dictOf gA (wF σ.obs n f)))
  rw[Ih n (g:=gA) (fun m=>congrArg V.ref (fa m))]; exact bZ hm r.hd rfl
 ho:=by
  show Is (st.set m.a _) σ.o (.dict (dictOf gD (wF σ.obs n f)))
  rw[Ih n (g:=gD) (fun m=>congrArg V.bytes (fd m))]; exact bZ hm r.ho rfl
 hn:=fun p hp=>by
  obtain⟨q,hq,e1,e2 | e2⟩:=xu hp
  ·rw[e2.1]; exact Bd (fun e=>e2.2 (by rw[← r.apart (kO g) hq e])) (r.hn q hq)
  ·have:=r.one (kO g) hq e2.2.symm
   rw[e2.1,← this,fa]
   exact fQ hm
 ne:=r.ne
 ks:=by rw[show(σ.upd n f).obs=wF σ.obs n f from rfl,Ii]; exact r.ks
 kt:=fun p hp=>by obtain⟨q,hq,e1,_⟩:=xu hp; rw[e1]; exact r.kt q hq
 an:=by rw[show(σ.upd n f).obs=wF σ.obs n f from rfl,Ij fa]; exact r.an
 sz:=fun p hp=>by
  obtain⟨q,hq,e1,e2 | e2⟩:=xu hp
  ·rw[e2.1]; exact r.sz q hq
  ·have:=r.sz q hq
   rw[e2.1,fd,fb]; exact⟨this.1,this.2.1,this.2.2.1,fz _ this.2.2.2⟩
 fw:=by rw[show(σ.upd n f).obs.length=σ.obs.length from aQ _]; exact r.fw
 tw:=r.tw}
theorem Rep.mA{σ:Ms}{n:Nat}{m:Md}(g:σ.get n=some m):m.a∈σ.A:=.tail _ (.tail _ (.tail _ (.tail _ (gV (f:=fun p:Nat×Md=>p.2.a) (kO g)))))
theorem Ke.in{A:List Nat}{st:St}{j:Nat}{o:O}(h:j∈A):Ke A st (st.set j o):=Ke.set.mono fun x hx=>by rw[aN.mp hx]; exact h
section
variable{n k:Nat}{st:St}{Q:Po}{X:Ex}{σ:Ms}{m:Md}
theorem Tp(g:σ.get k=some m):u9 (dictOf gA σ.obs) (.int k)=some (.ref m.a):=(Te gA k σ.obs).trans (congrArg (Option.map gA) g)
theorem aaP(g:σ.get k=some m):u9 (dictOf gD σ.obs) (.int k)=some (.bytes m.data):=(Te gD k σ.obs).trans (congrArg (Option.map gD) g)
theorem Rep.sd(r:Rep σ st)(g:σ.get k=some m):m.data.length < 2000:=(r.sz _ (kO g)).1
theorem Rep.sl(r:Rep σ st)(g:σ.get k=some m):m.data.length<=lim:=bH (aG (r.sd g) (bl rfl))
theorem Rep.oct(r:Rep σ st)(g:σ.get k=some m):stk (Fi st (.ref σ.o) (.int k))=some (.bytes m.data):=Ti r.ho (sS gD _ _) rfl (aaP g)
theorem sU(r:Rep σ st)(g:σ.get k=some m)(h:Q (.ref m.a) st):w.C (n + 1) 993 [.ref σ.i,.int k] st Q X:=
 w.h (dV (aU r.hi rfl) (dV (Tj r.hd (sS gA _ _) rfl (vA (Tp g))) (dB (qX rfl) (dV (aU r.hi rfl) (dV (Ti r.hd (sS gA _ _) rfl (Tp g)) h)))))
theorem af0{α:Type}(l:List α)(a k:Nat):cut l (some (a:Int)) (some ((a:Int) + k))=(l.drop a).take k:=
 (aaL l a (a + k)).trans (by rw[Bu,Nat.add_sub_cancel_left])
theorem Bf{α:Type}(l:List α)(k:Nat):cut l .none (some (k:Int))=l.take k:=by
 show(l.take (yp l.length _)).drop 0=_
 rw[Cq,qP,V2]
theorem V7{α:Type}(l:List α)(k:Nat):cut l (some (k:Int)) .none=l.drop k:=by
 show(l.take l.length).drop (yp l.length _)=_
 rw[Cq,xV,V3 _ _ _ (bf _)]
noncomputable def qH(l:List UInt8)(a k:Nat):List UInt8:=(l.drop a).take k++bQ (k - ((l.drop a).take k).length) 0
theorem Nm{a b:Nat}(h:b<=a):(a:Int) - b=((a - b:Nat):Int):=(Int.ofNat_sub h).symm
theorem af2{c x:Nat}(h:x<=c)(hc:c<=lim):stk (JH st .bytes [.int ((c:Int) - x)])=some (.bytes (bQ (c - x) 0)):=by
 rw[Nm h]; exact Cp (aO _) (dU (ak (jF _ _) hc))
theorem Np{a c:Nat}(r:Rep σ st)(g:σ.get k=some m)(hc:c < 2000)(h:Q (.bytes (qH m.data a c)) st):w.C (n + 2) 1007 [.ref σ.i,.int k,.int a,.int c] st Q X:=by
 have hc:c<=lim:=bH (aG hc (bl rfl))
 have s2:((m.data.drop a).take c).length<=c:=lK _ _
 refine w.h (dN (aX r.hi rfl) (dG (sU r g ?_))); o_shape
 exact dB (Gv (dh.mpr (aO a))) (dB (Gv (dh.mpr (aO c))) (dB (qX rfl) (dV (aU r.hi rfl) (dV (r.oct g) (dV (Dj (Kd (r.sl g)) (congrArg V.bytes (af0 m.data a c)))
  (dV (fP rfl) (dV (gY (ak s2 hc)) (dV (af2 s2 hc) (dV (nM (by rw[eY,dD s2]; exact hc)) h)))))))))
noncomputable def JZ(l:List UInt8)(b:Nat):List UInt8:=l++bQ ((l.length + b - 1) / b * b - l.length) 0
theorem Zg(a b:Nat)(hb:0 < b):a<=(a + b - 1) / b * b/\(a + b - 1) / b * b < a + b:=by
 have h1:=Nat.div_add_mod (a + b - 1) b
 have h2:=mH (a + b - 1) hb
 rw[lq] at h1
 generalize (a + b - 1) / b * b=y at h1 ⊢
 generalize (a + b - 1) % b=x at h1 h2
 constructor <;> omega
theorem V8(l:List UInt8)(b:Nat)(hb:0 < b):(JZ l b).length=(l.length + b - 1) / b * b:=by
 unfold JZ; rw[aF,eY]; exact dD (Zg l.length b hb).1
theorem V9{a b:Nat}(hb:0 < b)(hb2:b<=1000)(ha:a < 2000)(h:Q (.int (((a + b - 1) / b * b:Nat):Int)) st):w.C (n + 1) 478 [.int a,.int b] st Q X:=by
 have e:(a:Int) + b - 1=((a + b - 1:Nat):Int):=Nm (b:=1) (ak hb (mX b a))
 have hd:(a + b - 1) / b < 4000:=aA (Nat.div_le_self _ _) (aA (jF _ _) (aG (jZ ha hb2) (bl rfl)))
 refine w.h (dV (Dj (yJ (jr hb) (jr (aA hb2 (bl rfl)))) (congrArg (fun z:Int=>V.int (z / b)) e)) (dV (VL ?_ ?_) h))
 ·exact aG hd (bl rfl)
 ·exact aA hb2 (bl rfl)
theorem Tq(σ:Ms)(n k:Nat)(f:Md->Md):(σ.upd n f).get k=if k=n then(σ.get k).map f else σ.get k:=by
 unfold Ms.get Ms.upd
 dsimp only
 generalize σ.obs=l
 induction l with
 | nil=>exact(ite_self none).symm
 | cons p r ih=>
  show jd k ((p.1,if p.1=n then f p.2 else p.2)::wF r n f)=if k=n then(jd k ((p.1,p.2)::r)).map f else jd k ((p.1,p.2)::r)
  rw[aM,aM,ih]
  cases q:k==p.1 with
  | true=>
   rw[eq_of_beq q]
   by_cases e:p.1=n
   ·rw[if_pos e]; exact(if_pos e).symm
   ·rw[if_neg e]; exact(if_neg e).symm
  | false=>exact rfl
theorem Wa{f:Md->Md}(g:σ.get k=some m):(σ.upd k f).get k=some (f m):=by rw[Tq,if_pos rfl,g]; rfl
theorem Rep.few(r:Rep σ st){g:Md->V}:(dictOf g σ.obs).length < lim:=aA (ak (aR (aQ _)) r.fw) (aG r.tw (bl rfl))
theorem aaQ{x:List UInt8}(r:Rep σ st)(g:σ.get k=some m)(hx:x.length + m.block < 2000)
  (h:∀ st' z,Rep ((σ.upd k (wD (JZ x m.block))).upd k (wM z)) st'->Ke σ.A st st'->Q .none st'):w.C (n + 2) 1036 [.ref σ.i,.int k,.bytes x] st Q X:=by
 have hm:=r.hn _ (kO g)
 have sz:=(r.sz _ (kO g)).2
 have hb:=sz.1
 have pg:=Zg x.length m.block hb
 have pl:(x.length + m.block - 1) / m.block * m.block<=lim:=bH (aG pg.2 (aG hx (bl rfl)))
 have hl:x.length<=lim:=ak pg.1 pl
 have hx1:x.length < 2000:=aA (bh _ _) hx
 have r1:=r.aiQ g (x:=JZ x m.block) (aA (aR (V8 x m.block hb)) (aG pg.2 hx))
 refine w.h (dN (aX r.hi rfl) (dG (sU r g (dV (gY hl) (dV (aU hm rfl) (dG (V9 hb sz.2.1 hx1 ?_))))))); o_shape
 refine dV (gY hl) (dV (af2 pg.1 pl) (dV (nM (by rw[eY,dD pg.1]; exact pl)) (dV (aU r.hi rfl) (dP (Nk r.ho (sS gD _ _) rfl r.few)
  (dV (aU (bZ r.ho hm rfl) rfl) (dV (yJ (jr hb) (jr (aA sz.2.1 (bl rfl)))) (dP (dJ (bZ r.ho hm rfl) rfl rfl) ?_)))))))
 exact h _ _ (r1.akb (f:=wM _) (Wa g) (fun J=>rfl) (fun J=>rfl) (fun J=>rfl) (fun J q=>q)) ((Ke.in (.tail _ (.tail _ (.tail _ (.head _))))).trans (Ke.in (Rep.mA g)))
theorem Nq{x:List UInt8}(r:Rep σ st)(g:σ.get k=some m)(h0:0 < x.length)(hx:x.length + m.data.length + m.block < 2000)
  (h:∀ st' z,Rep ((σ.upd k (wD (JZ (x++m.data.drop x.length) m.block))).upd k (wM z)) st'->Ke σ.A st st'->Q .none st'):w.C (n + 3) 1043 [.ref σ.i,.int k,.int 0,.bytes x] st Q X:=by
 have hl:x.length<=lim:=bH (aA (ak (bh _ _) (bh _ _)) (aG hx (bl rfl)))
 have e0:stk (JH st .max [.int 0,.int (0 - (m.data.length:Int))])=some (.int 0):=fP (congrArg (fun z=>some (V.int z)) (tK (Int.sub_le_self 0 (aO _))))
 have e1:cut m.data .none (some 0)=[]:=Bf m.data 0
 have e2:cut m.data (some (0 + (x.length:Int))) .none=m.data.drop x.length:=by rw[tX]; exact V7 m.data x.length
 have e3:m.data++bQ (Int.toNat 0) 0=m.data:=bN _
 have s3:(m.data.drop x.length).length<=m.data.length:=(ak (aR jk) (jF _ _))
 have s4:(x++m.data.drop x.length).length<=x.length + m.data.length:=by rw[aF]; exact aZ s3 _
 refine w.h (dN (aX r.hi rfl) (dG (sU r g ?_))); o_shape
 refine dB (qX rfl) (dV (gY hl) (dB (zX (jr h0)) (dV (aU r.hi rfl) (dV (r.oct g) (dV (aU r.hi rfl) (dV (r.oct g) (dV (gY (r.sl g)) (dV e0 (dV (Cp (Int.le_refl _) (aO lim)) (dV (Dj (nM (ak (aR aF.symm) (ak (aR (congrArg mC e3)) (r.sl g)))) (congrArg V.bytes e3)) ?_))))))))))
 refine dN (aX r.hi rfl) (dV (Dj (Gz (r.sl g)) (congrArg V.bytes e1)) (dV (fP rfl) (dV (nM (ak (aR (fU _)) hl)) (dV (gY hl) (dV (Dj (afJ (r.sl g)) (congrArg V.bytes e2)) (dV (nM ?_) (dG (aaQ r g ?_ h))))))))
 ·exact bH (aA (ak (aR aF.symm) (ak s4 (bh _ m.block))) (aG hx (bl rfl)))
 ·exact aA (bU s4 _) hx
theorem aiR{a:Nat}(r:Rep σ st)(g:σ.get k=some m)(hx:m.data.length + m.block < 2000)
  (h:a < m.data.length->∀ st' z,Rep ((σ.upd k (wD (JZ (m.data.take a) m.block))).upd k (wM z)) st'->Ke σ.A st st'->Q .none st')(h':m.data.length<=a->Q .none st):w.C (n + 3) 1050 [.ref σ.i,.int k,.int a] st Q X:=by
 refine w.h (dB (G5 (dh.mpr (aO a))) (dN (aX r.hi rfl) (dG (sU r g (dV (aU r.hi rfl) (dV (r.oct g) (dV (gY (r.sl g)) ?_))))))); o_shape
 by_cases q:a < m.data.length
 ·exact dB (zX (jr q)) (dN (aX r.hi rfl) (dV (aU r.hi rfl) (dV (r.oct g) (dV (Dj (Gz (r.sl g)) (congrArg V.bytes (Bf m.data a))) (dG (aaQ r g (aA (bU (sZ _ _) _) hx) (h q)))))))
 ·exact dB (G5 fun e=>q (fu.mp e)) (h' (gP q))
theorem acq{x:List UInt8}(r:Rep σ st)(g:σ.get k=some m)(hx:x.length < 100)
  (h:∀ st',Rep (σ.upd k (wB x)) st'->Ke σ.A st st'->Q .none st'):w.C (n + 2) 1029 [.ref σ.i,.int k,.bytes x] st Q X:=
 w.h (dV (fP rfl) (dN (aX r.hi rfl) (dG (sU r g (dP (dJ (r.hn _ (kO g)) rfl rfl) (h _ (r.akb (f:=wB x) g (fun J=>rfl) (fun J=>rfl) (fun J=>rfl) (fun J J=>hx)) (Ke.in (Rep.mA g))))))))
theorem Rep.drop(r:Rep σ st):Rep (σ.del k) ((st.set σ.d (.dict (qY (dictOf gA σ.obs) (.int k)))).set σ.o (.dict (qY (dictOf gD σ.obs) (.int k)))):=by
 have o1:=Bd r.ne r.ho (o:=.dict (qY (dictOf gA σ.obs) (.int k)))
 exact {
 hi:=bZ o1 (bZ r.hd r.hi rfl) rfl
 hsh:=bZ o1 (bZ r.hd r.hsh rfl) rfl
 hd:=Bd (fun e=>r.ne e.symm) (by rw[Tf]; exact fQ r.hd)
 ho:=by rw[Tf (g:=gD)]; exact fQ o1
 hn:=fun p hp=>bZ o1 (bZ r.hd (r.hn p (jG.mp hp).1) rfl) rfl
 ne:=r.ne
 ks:=r.ks.sublist (pq.map _)
 kt:=fun p hp=>r.kt p (jG.mp hp).1
 an:=r.an.sublist (pq.map _)
 sz:=fun p hp=>r.sz p (jG.mp hp).1
 fw:=ak (gj _ _) r.fw
 tw:=r.tw}
theorem af3(r:Rep σ st)(g:σ.get k=some m)(h:∀ st',Rep (σ.del k) st'->Ke σ.A st st'->Q .none st'):w.C (n + 2) 1022 [.ref σ.i,.int k] st Q X:=by
 have o1:=Bd r.ne r.ho (o:=.dict (qY (dictOf gA σ.obs) (.int k)))
 have hi:=bZ r.hd r.hi rfl (o:=.dict (qY (dictOf gA σ.obs) (.int k)))
 refine w.h (dN (aX r.hi rfl) (dG (sU r g ?_))); o_shape
 exact dV (aU r.hi rfl) (dB (qx (afK r.hd)) (dP (Zf r.hd (sS gA _ _) rfl (Tp g)) (dV (aU hi rfl) (dB (qx (afK o1)) (dP (Zf o1 (sS gD _ _) rfl (aaP g))
  (h _ r.drop ((Ke.in (.tail _ (.tail _ (.head _)))).trans (Ke.in (.tail _ (.tail _ (.tail _ (.head _))))))))))))
end
end
section
variable{w:Wm gF}
noncomputable def Ms.add(σ:Ms)(a k b:Nat)(l:List UInt8):Ms:={σ with top:=σ.top + 1,obs:=σ.obs++[(σ.top + 1,⟨a,k,b, -1,l,[]⟩)]}
noncomputable def Ms.bump(σ:Ms):Ms:={σ with top:=σ.top + 1}
section
variable{n k b:Nat}{l:List UInt8}{st:St}{Q:Po}{X:Ex}{σ:Ms}
theorem acr(h:Q .none (st++[dnO ⟨0,k,b, -1,l,[]⟩])):w.C (n + 1) 951 [.ref st.length,.int k,.int b,.bytes l] (st++[.inst 954 []]) Q X:=
 w.h (dP (kE (dJ cC rfl rfl) eZ) (dP (kE (dJ cC rfl rfl) eZ) (dP (kE (dJ cC rfl rfl) eZ) (dP (kE (dJ cC rfl rfl) eZ) h))))
theorem Rep.bump(r:Rep σ st)(ht:σ.top + 1 < 100000):Rep σ.bump (st.set σ.i (msO σ.bump)):=
 ⟨fQ r.hi,bZ r.hi r.hsh rfl,bZ r.hi r.hd rfl,bZ r.hi r.ho rfl,fun p hp=>bZ r.hi (r.hn p hp) rfl,r.ne,r.ks,fun p hp=>fJ (r.kt p hp),r.an,r.sz,fJ r.fw,ht⟩
theorem Rep.fresh(r:Rep σ st):st.length∉σ.A:=fun hm=>by
 have no:∀ {j o},Is st j o->st.length≠j:=fun g e=>vC g (e▸rF)
 rcases aY.mp hm with e | hm
 ·exact no r.hi e
 rcases aY.mp hm with e | hm
 ·exact no r.hsh e
 rcases aY.mp hm with e | hm
 ·exact no r.hd e
 rcases aY.mp hm with e | hm
 ·exact no r.ho e
 obtain⟨p,hp,e⟩:=fX.mp hm
 exact no (r.hn p hp) e.symm
theorem Rep.enter(r:Rep σ.bump st)(kt:∀ p∈σ.obs,p.1<=σ.top)(fw:σ.obs.length<=σ.top)(hb:0 < b)(hb2:b<=1000)(hl:l.length < 100):
  Rep (σ.add st.length k b l) (((st++[dnO ⟨0,k,b, -1,l,[]⟩]).set σ.d (.dict (pD (dictOf gA σ.obs) (.int (σ.top + 1:Nat)) (.ref st.length)))).set σ.o (.dict (pD (dictOf gD σ.obs) (.int (σ.top + 1:Nat)) (.bytes [])))):=by
 have hd:=iM (g:=[dnO ⟨0,k,b, -1,l,[]⟩]) r.hd
 have ho:=Bd (o:=.dict (pD (dictOf gA σ.obs) (.int (σ.top + 1:Nat)) (.ref st.length))) r.ne (iM (g:=[dnO ⟨0,k,b, -1,l,[]⟩]) r.ho)
 have go:∀ {j x},Is (st++[dnO ⟨0,k,b, -1,l,[]⟩]) j x->dF 0 (tg x)=false->Is (((st++[dnO ⟨0,k,b, -1,l,[]⟩]).set σ.d (.dict (pD (dictOf gA σ.obs) (.int (σ.top + 1:Nat)) (.ref st.length)))).set σ.o (.dict (pD (dictOf gD σ.obs) (.int (σ.top + 1:Nat)) (.bytes [])))) j x:=
  fun h e=>bZ ho (bZ hd h e) e
 have ds:=Nj (g:=gA) (n:=σ.top + 1) (m:=⟨st.length,k,b, -1,l,[]⟩) σ.obs fun p hp=>dM (kt p hp)
 have ds2:=Nj (g:=gD) (n:=σ.top + 1) (m:=⟨st.length,k,b, -1,l,[]⟩) σ.obs fun p hp=>dM (kt p hp)
 have mem:∀ {P:Nat×Md->Prop},(∀ p∈σ.obs,P p)->P (σ.top + 1,⟨st.length,k,b, -1,l,[]⟩)->∀ p∈(σ.add st.length k b l).obs,P p:=fun h h' p hp=>(fZ.mp hp).elim (h p) fun e=>aN.mp e▸h'
 refine⟨go (iM r.hi) rfl,go (iM r.hsh) rfl,Bd (fun e=>r.ne e.symm) ?_,?_,mem (fun p hp=>go (iM (r.hn p hp)) rfl) (go cC rfl),r.ne,?_,mem (fun p hp=>fJ (kt p hp)) (bf _),?_,mem r.sz ⟨bl rfl,hb,hb2,hl⟩,?_,r.tw⟩
 ·show Is _ σ.d (.dict (dictOf gA (σ.obs++_)))
  rw[← ds]; exact fQ hd
 ·show Is _ σ.o (.dict (dictOf gD (σ.obs++_)))
  rw[← ds2]; exact fQ ho
 ·show((σ.obs++[_]).map fun p:Nat×Md=>p.1).Pairwise _
  rw[cu,nU]
  refine⟨r.ks,qj _ _,fun x hx y hy=>?_⟩
  obtain⟨p,hp,rfl⟩:=fX.mp hx
  rw[aN.mp hy]
  exact dM (kt p hp)
 ·show((σ.obs++[_]).map fun p:Nat×Md=>p.2.a).Nodup
  rw[cu,nD]
  refine⟨r.an,dj.mpr ⟨dK,qN⟩,fun x hx y hy e=>?_⟩
  rw[aN.mp hy] at e
  have e:x=st.length:=e
  subst e
  exact r.fresh (.tail _ (.tail _ (.tail _ (.tail _ hx))))
 ·show(σ.obs++[_]).length<=σ.top + 1
  rw[aF]; exact bI fw
variable(r:Rep σ st)(hk:0 < k)(hb:0 < b)(hb2:b<=1000)(ht:σ.top + 1 < 100000)
include r hk hb hb2 ht
theorem Jv(hl:l.length < 100)(h:∀ st' a,No st a->Rep (σ.add a k b l) st'->Ke σ.A st st'->Q (.int ((σ.top + 1:Nat):Int)) st'):den (run gF (w.C (n + 1)) 1015 [.ref σ.i,.int k,.int b,.bytes l] st Q X):=by
 have r1:=r.bump ht
 have k1:Ke σ.A st (st.set σ.i (msO σ.bump)):=Ke.in (.head _)
 have ln:(st.set σ.i (msO σ.bump)).length=st.length:=List.length_set
 have e1:∀ {x:Nat},1<=x->¬ (x:Int) < 1:=fun h=>dh.mpr (dU h)
 refine dB (Gv (e1 hk)) (dB (Gv (e1 hb)) (dB (qX rfl) (dV (aU r.hi rfl) (dP (dJ r.hi rfl rfl) (?_:den (nP _ _ (st.set σ.i (msO σ.bump))))))))
 revert r1 k1 ln
 generalize st.set σ.i (msO σ.bump)=s1
 intro r1 k1 ln
 o_shape
 have na:No st s1.length:=ln▸rF
 have hd:=iM (g:=[dnO ⟨0,k,b, -1,l,[]⟩]) r1.hd
 have hi:=iM (g:=[dnO ⟨0,k,b, -1,l,[]⟩]) r1.hi
 have ho:=Bd (o:=.dict (pD (dictOf gA σ.obs) (.int (σ.top + 1:Nat)) (.ref s1.length))) r.ne (iM (g:=[dnO ⟨0,k,b, -1,l,[]⟩]) r1.ho)
 have hi2:=bZ (o:=.dict (pD (dictOf gA σ.obs) (.int (σ.top + 1:Nat)) (.ref s1.length))) hd hi rfl
 refine dV (fP rfl) (dG (acr (k:=k) (b:=b) (l:=l) (dV (aU hi rfl) (dV (aU hi rfl) (dP (Nk hd (sS gA _ _) rfl r.few) (dV (aU hi2 rfl) (dV (aU hi2 rfl) (dP (Nk ho (sS gD _ _) rfl r.few)
  (dV (aU (bZ ho hi2 rfl) rfl) ?_)))))))))
 exact h _ s1.length na (r1.enter r.kt r.fw hb hb2 hl) (k1.trans (Ke.app.trans ((Ke.in (.tail _ (.tail _ (.head _)))).trans (Ke.in (.tail _ (.tail _ (.tail _ (.head _))))))))
theorem aiS(hl:l.length < 100)(h:∀ st' a,No st a->Rep (σ.add a k b l) st'->Ke σ.A st st'->Q (.int ((σ.top + 1:Nat):Int)) st'):w.C (n + 2) 1015 [.ref σ.i,.int k,.int b,.bytes l] st Q X:=w.h (Jv r hk hb hb2 ht hl h)
theorem af4(h:∀ st' a,No st a->Rep (σ.add a k b []) st'->Ke σ.A st st'->Q (.int ((σ.top + 1:Nat):Int)) st'):w.C (n + 2) 1015 [.ref σ.i,.int k,.int b] st Q X:=w.h (Jv r hk hb hb2 ht (bl rfl) h)
end
end
section
variable{w:Wm gF}
theorem Ke.pre{A:List Nat}{a b c:St}(h:Ke [] a b)(k:Ke A b c):Ke A a c:=(h.mono fun J m=>absurd m dK).trans k
theorem Ke.post{A:List Nat}{a b c:St}(h:Ke A a b)(k:Ke [] b c):Ke A a c:=h.trans (k.mono fun J m=>absurd m dK)
theorem Ke.own{a b c:St}{i:Nat}(h:Ke [] a b)(k:Ke [i] b c)(e:No a i):Ke [] a c:=h.fr e k
structure Zn where
 sort:Nat
 mode:Nat
 size:Nat
 links:Nat
 parent:Nat
 made:Nat
 changed:Nat
noncomputable def oJ(z:Zn):List UInt8:=le 1 z.sort++le 2 z.mode++le 4 z.size++le 2 z.links++le 4 z.parent++le 4 z.made++le 4 z.changed
noncomputable def znF(z:Zn):List (Nat×V):=[(27,.int z.sort),(28,.int z.mode),(29,.int z.size),(30,.int z.links),(31,.int z.parent),(32,.int z.made),(33,.int z.changed)]
noncomputable def yL(z:Zn):O:=.inst 607 (znF z)
structure QF(z:Zn):Prop where
 h1:z.sort<=2
 h2:z.mode < 65536
 h3:z.size < 4294967296
 h4:z.links < 65536
 h5:z.parent < 4294967296
 h6:z.made < 4294967296
 h7:z.changed < 4294967296
theorem Nr(z:Zn):(oJ z).length=21:=rfl
section
variable{n i j k a x b:Nat}{st0 st:St}{Q:Po}{X:Ex}{z:Zn}{σ:Ms}{l rr:List UInt8}
theorem Cv(h:Q .none (st++[yL z])):
  w.C (n + 1) 597 [.ref st.length,.int z.sort,.int z.mode,.int z.size,.int z.links,.int z.parent,.int z.made,.int z.changed] (st++[.inst 607 []]) Q X:=
 w.h (dP (kE (dJ cC rfl rfl) eZ) (dP (kE (dJ cC rfl rfl) eZ) (dP (kE (dJ cC rfl rfl) eZ) (dP (kE (dJ cC rfl rfl) eZ) (dP (kE (dJ cC rfl rfl) eZ) (dP (kE (dJ cC rfl rfl) eZ) (dP (kE (dJ cC rfl rfl) eZ) h)))))))
theorem zB(hj:Is st j (yL z))(hz:QF z)(h:∀ st',Ke [] st st'->Q (.bytes (oJ z)) st'):w.C (n + 4) 618 [.ref j] st Q X:=by
 refine w.h ?_; o_shape
 refine dG (V1 fun s1 b s=>?_); o_shape
 refine dN (aX s.i rfl) (dV (aU (s.k.rE hj) rfl) (dG (jc (k:=1) s (bl rfl) (aA hz.h1 (bl rfl)) (bl rfl) fun s2 s=>?_))); o_shape
 refine dN (aX s.i rfl) (dV (aU (s.k.rE hj) rfl) (dG (jc (k:=2) s (bl rfl) hz.h2 (bl rfl) fun s3 s=>?_))); o_shape
 refine dN (aX s.i rfl) (dV (aU (s.k.rE hj) rfl) (dG (jc (k:=4) s (bl rfl) hz.h3 (bl rfl) fun s4 s=>?_))); o_shape
 refine dN (aX s.i rfl) (dV (aU (s.k.rE hj) rfl) (dG (jc (k:=2) s (bl rfl) hz.h4 (bl rfl) fun s5 s=>?_))); o_shape
 refine dN (aX s.i rfl) (dV (aU (s.k.rE hj) rfl) (dG (jc (k:=4) s (bl rfl) hz.h5 (bl rfl) fun s6 s=>?_))); o_shape
 refine dN (aX s.i rfl) (dV (aU (s.k.rE hj) rfl) (dG (jc (k:=4) s (bl rfl) hz.h6 (bl rfl) fun s7 s=>?_))); o_shape
 exact dN (aX s.i rfl) (dV (aU (s.k.rE hj) rfl) (dG (jc (k:=4) s (bl rfl) hz.h7 (bl rfl) fun s8 s=>dN (aX s.i rfl) (dG (Ni s (h _ s.k))))))
theorem Wb(h:Q .none (st++[cur l 0])):w.C (n + 1) 245 [.ref st.length,.bytes l] (st++[.inst 276 []]) Q X:=
 w.h (dP (kE (dJ cC rfl rfl) eZ) (dP (kE (dJ cC rfl rfl) eZ) h))
structure Cu(st0 st:St)(i:Nat)(l:List UInt8)(a:Nat)(r:List UInt8):Prop where
 k:Ke [] st0 st
 n:No st0 i
 i:Is st i (cur l a)
 d:l.drop a=r
 a:a<=l.length
theorem yM(c:Cu st0 st i l a (le k x++rr))(hl:l.length < 1000)(hx:x < 256 ^ k)(hk:k<=8)(h:∀ s',Cu st0 s' i l (a + k) rr->Q (.int x) s'):w.C (n + 3) 266 [.ref i,.int k] st Q X:=
 Es c.i hl c.a c.d hx hk (h _ ⟨c.k.fr c.n .set,c.n,fQ c.i,nq k x▸uo c.d,nq k x▸Cr c.d c.a⟩)
theorem Wc(hz:QF z)(h:∀ st' j,Ke [] st st'->No st j->Is st' j (yL z)->Q (.ref j) st'):w.C (n + 4) 625 [.bytes (oJ z)] st Q X:=by
 have hl:=Nr z
 have hd:(oJ z).drop 0=le 1 z.sort++(le 2 z.mode++(le 4 z.size++(le 2 z.links++(le 4 z.parent++(le 4 z.made++(le 4 z.changed++[])))))):=rfl
 revert hl hd
 generalize oJ z=l
 intro hl hd
 have hk:l.length < 1000:=hl▸bl rfl
 refine w.h (dV (Dj (gY (Dv hk)) (congrArg (fun n:Nat=>V.int n) hl)) (dB (qX rfl) (dG (Wb ?_)))); o_shape
 have c:Cu st (st++[cur l 0]) st.length l 0 _:=⟨.app,rF,cC,hd,cL _⟩
 refine dN (aX c.i rfl) (dG (yM (k:=1) c hk (aA hz.h1 (bl rfl)) (bl rfl) fun s1 c=>?_)); o_shape
 refine dN (aX c.i rfl) (dG (yM (k:=2) c hk hz.h2 (bl rfl) fun s2 c=>?_)); o_shape
 refine dN (aX c.i rfl) (dG (yM (k:=4) c hk hz.h3 (bl rfl) fun s3 c=>?_)); o_shape
 refine dN (aX c.i rfl) (dG (yM (k:=2) c hk hz.h4 (bl rfl) fun s4 c=>?_)); o_shape
 refine dN (aX c.i rfl) (dG (yM (k:=4) c hk hz.h5 (bl rfl) fun s5 c=>?_)); o_shape
 refine dN (aX c.i rfl) (dG (yM (k:=4) c hk hz.h6 (bl rfl) fun s6 c=>?_)); o_shape
 refine dN (aX c.i rfl) (dG (yM (k:=4) c hk hz.h7 (bl rfl) fun s7 c=>?_)); o_shape
 exact dB (G5 (dh.mpr (dU hz.h1))) (dG (Cv (z:=z) (h _ _ (c.k.trans Ke.app) (c.k.V0 rF) cC)))
variable{m:Md}(r:Rep σ st)(g:σ.get k=some m)
include r g
theorem aiT(hb:m.bonus=oJ z)(hz:QF z)(h:∀ st' j,Ke [] st st'->No st j->Is st' j (yL z)->Q (.ref j) st'):w.C (n + 5) 632 [.ref σ.i,.int k] st Q X:=
 w.h (dN (aX r.hi rfl) (dG (sU r g (dV (Dj (aU (r.hn _ (kO g)) rfl) (congrArg V.bytes hb)) (dG (Wc hz h))))))
theorem Wf(hj:Is st j (yL z))(hz:QF z)(h:∀ st',Rep (σ.upd k (wB (oJ z))) st'->Ke σ.A st st'->Q .none st'):w.C (n + 5) 639 [.ref σ.i,.int k,.ref j] st Q X:=
 w.h (dN (aX r.hi rfl) (dG (zB hj hz fun s1 k1=>dG (acq (r.ke k1) g (aA (aR (Nr z)) (bl rfl)) fun s2 r2 k2=>h s2 r2 (k1.pre k2)))))
end
noncomputable def salt(n:Nat):Nat:=(n * 2654435761 + 40503) % 4294967296
structure Bg(rs:List Row):Prop where
 n:rs.length < 20
 r:∀ r∈rs,afV r
 s:∀ r∈rs,0 < r.1.length/\r.1.length<=8
 nd:(rs.map fun r=>r.1).Nodup
noncomputable def zY(k:Nat)(rs:List Row):List UInt8:=xq (salt k) rs++bQ (512 - (xq (salt k) rs).length) 0
theorem Wg:∀ {rs:List Row},(∀ r∈rs,0 < r.1.length/\r.1.length<=8)->(qG rs).length<=17 * rs.length
 | [],_=>bf _
 | r::rs,h=>by
  rw[Td,aF,Ze,lO,Bv,fB]
  exact fY (Wg fun x hx=>h x (.tail _ hx)) (aZ (h r (.head _)).2 9)
theorem aaR{k:Nat}{rs:List Row}(h:Bg rs):(xq k rs).length<=400:=by
 unfold xq; rw[aF,V5]; exact ak (aZ (ak (Wg h.s) (o8 17 (cX h.n))) 7) (bl rfl)
theorem sV{k:Nat}{rs:List Row}(h:Bg rs):(zY k rs).length=512:=by
 unfold zY; rw[aF,eY]; exact dD (ak (aaR h) (bl rfl))
theorem aiU(k:Nat):salt k < 4294967296:=mH _ (bl rfl)
end
section
variable{w:Wm gF}
structure jL(s:List Nat):Prop where
 g:rG s
 l1:0 < s.length
 l2:s.length<=8
 sl:∀ c∈s,c≠47
 d1:s≠[46]
 d2:s≠[46,46]
theorem af5{α:Type}[DecidableEq α]{a b:α}(h:a≠b):decide (a=b)=false:=decide_eq_false h
section
variable{n k:Nat}{st:St}{Q:Po}{X:Ex}{s:List Nat}{σ:Ms}{rs:List Row}
theorem af6(hs:jL s):stk (qC V.bool (cop st .inn (.str s) (.tup [.str [46],.str [46,46]])))=some (.bool false):=Gx (by
 show some (decide ([46]=s) || (decide ([46,46]=s) || false))=some false
 rw[af5 hs.d1.symm,af5 hs.d2.symm]; rfl)
theorem Jw(hs:jL s)(h:Q (.bool true) st):w.C (n + 1) 550 [.str s] st Q X:=by
 have hl:=aA hs.l2 (bl rfl:8 < lim)
 refine w.h (dV (aiL (bH hl)) (dB (zX (dU hs.l1)) (dB (qx (congrArg (fun b=>(!b)==false) (decide_eq_true (dU (ak hs.l2 (bl rfl)))))) (dV (af6 hs) (dB (qx rfl) (dB (qX rfl) (dL (fP rfl) (dG ?_))))))))
 exact qD (fun J=>.bool true) rfl hl (fun c m K hK=>dV (fP rfl) (dB (zX (dU (hs.g c m).1)) (dB (afG (jr (hs.g c m).2)) (dV (Dj VP (congrArg (fun b=>V.bool (!b)) (af5 fun q=>hs.sl c m (gb q).1))) hK))))
  (dV (afI (φ:=fun J=>true) fun J J=>rfl) h)
theorem wG(hs:jL s)(h:Q .none st):w.C (n + 2) 557 [.str s] st Q X:=w.h (dG (Jw hs (dB (qX rfl) h)))
def Oe(σ:Ms)(k:Nat)(rs:List Row):Prop:=Bg rs/\∃ m,σ.get k=some m/\m.block=512/\m.data=zY k rs
theorem Zh{l:List UInt8}{k:Nat}(h:l.length=k):qH l 0 k=l:=by
 unfold qH
 rw[qP,← h,xV,oK]; exact bN _
variable(r:Rep σ st)(d:Oe σ k rs)
include r d
theorem qI(h:Q (.bytes (zY k rs)) st):w.C (n + 3) 418 [.ref σ.i,.int k] st Q X:=
 d.2.elim fun m q=>w.h (dN (aX r.hi rfl) (dN (aX r.hi rfl) (dG (sU r q.1 (dV (Dj (aU (r.hn _ (kO q.1)) rfl) (congrArg (fun n:Nat=>V.int n) q.2.1)) (dG (Np (a:=0) (c:=512) r q.1 (bl rfl)
  (show Q (.bytes (qH m.data 0 512)) st from(congrArg (fun l=>Q (.bytes l) st) ((congrArg (qH · 0 512) q.2.2).trans (Zh (sV d.1)))).mpr h))))))))
end
theorem yN{st:St}{i:Nat}{l:List V}(e:Is st i (.list l)):stk (lF st .plain [.ref i])=some l:=fP (yI e)
theorem rH{st:St}{i:Nat}{l:List V}(e:Is st i (.list l)):ux st .plain [.ref i] l:=yI e
noncomputable def arB:Option Nat->V
 | some x=>.int x
 | .none=>.none
theorem QG(s:List Nat):∀ rs:List Row,((rs.filter fun r=>decide (r.1=s)).map fun r=>V.int r.2)[0]?=(rs.lookup s).map fun x:Nat=>V.int x
 | []=>rfl
 | (x,v)::rs=>by
  rw[aM]
  by_cases e:x=s
  ·rw[dY,if_pos (decide_eq_true e),show(s==x)=true from beq_iff_eq.mpr e.symm]; rfl
  ·rw[dY,if_neg (by rw[decide_eq_false e]; exact bC),show(s==x)=false from beq_eq_false_iff_ne.mpr fun q=>e q.symm]
   exact QG s rs
section
variable{n k:Nat}{st:St}{Q:Po}{X:Ex}{s:List Nat}{σ:Ms}{rs:List Row}(r:Rep σ st)(d:Oe σ k rs)
include r d
theorem sW(h:∀ st',Ke [] st st'->Q (arB (rs.lookup s)) st'):w.C (n + 6) 442 [.ref σ.i,.int k,.str s] st Q X:=by
 have hl:(zY k rs).length < 1000:=aA (aR (sV d.1)) (bl rfl)
 refine w.h (dG (qI r d (dG (yK hl (dB (qx rfl) (dG (rU (aG d.1.n (bl rfl)) d.1.r hl fun s1 j k1 nj hj=>?_))))))); o_shape
 refine dL (yN hj) (dG (Ng (fun r:Row=>decide (r.1=s)) (fun r:Row=>.int r.2) (rH hj) (aG d.1.n (bl rfl)) (fun c J K hK=>dV VN hK) (fun c J K hK=>hK) ?_))
 have f:=QG s rs
 have h:=h s1 k1
 revert f h
 generalize (rs.filter fun r=>decide (r.1=s)).map (fun r:Row=>V.int r.2)=y
 generalize rs.lookup s=o
 intro f h
 cases y with
 | nil=>cases o with
  | none=>exact dV (fP rfl) (dB (qX rfl) h)
  | some v=>cases f
 | cons a y=>cases o with
  | none=>cases f
  | some v=>cases f; exact dV (fP rfl) (dB (qx rfl) (dV (fP rfl) h))
end
end
section
variable{w:Wm gF}
noncomputable def uL(rs:List Row)(s:List Nat):List Row:=rs.filter fun r=> !decide (r.1=s)
noncomputable def Ik(rs:List Row)(s:List Nat)(x:Nat):List Row:=uL rs s++[(s,x)]
noncomputable def unV:V->Row:=fun v=>(match v with | .tup [.str s,.int i]=>(s,i.toNat) | _=>([],0))
theorem acs{l:List V}{rs:List Row}(h:l.Perm (rs.map wC)):∃ rs':List Row,rs'.Perm rs/\l=rs'.map wC:=by
 refine⟨l.map unV,?_,?_⟩
 ·have:=h.map unV
  rw[gw,show unV ∘ wC=id from rfl,qg] at this
  exact this
 ·rw[gw]
  refine((lJ fun v hv=>?_).trans (qg l)).symm
  obtain⟨r,_,rfl⟩:=fX.mp (h.mem_iff.mp hv)
  rfl
theorem Dw(rs:List Row):jK (rs.map wC)=true:=by
 unfold jK
 rw[show(rs.map wC).all isP=true by rw[oM,bx]; intro _ _; rfl,yV]
theorem wZ(x:V):∀ l:List V,(z9 x l).Perm (x::l)
 | []=>.refl _
 | y::l=>by
  show(if ltB x y then x::y::l else y::z9 x l).Perm _
  cases ltB x y with
  | true=>exact .refl _
  | false=>exact((wZ x l).cons y).trans (.swap x y l)
theorem Jx:∀(l a:List V),(l.foldl (fun a x=>z9 x a) a).Perm (l++a)
 | [],_=>.refl _
 | x::l,a=>(Jx l (z9 x a)).trans (((wZ x a).append_left l).trans List.perm_middle)
theorem Jy(rs:List Row):∃ rs':List Row,rs'.Perm rs/\sH (rs.map wC)=rs'.map wC:=acs ((Jx (rs.map wC) []).trans (.of_eq (bN _)))
theorem Nt{st:St}{l:List V}(h1:jK l=true)(h2:l.length < 64):stk (JH st .sorted [.lst l])=some (.lst (sH l)):=fP (if_pos ⟨h1,h2⟩)
theorem Zi{st:St}{i:Nat}{l:List V}(e:Is st i (.list l))(h1:jK l=true)(h2:l.length < 64):stk (JH st .sorted [.ref i])=some (.lst (sH l)):=fP (by
 show yq st (.ref i)=_
 unfold yq
 rw[show oZ st (.ref i)=.none from congrArg (bnd · Z1) e]
 exact iC (yI e) (if_pos ⟨h1,h2⟩))
theorem Bg.perm{a b:List Row}(h:Bg a)(p:b.Perm a):Bg b:=⟨p.length_eq▸h.n,fun r m=>h.r r (p.mem_iff.mp m),fun r m=>h.s r (p.mem_iff.mp m),(p.map _).nodup_iff.mpr h.nd⟩
theorem Bg.del{a:List Row}(h:Bg a)(s:List Nat):Bg (uL a s):=
 ⟨aA (gj _ _) h.n,fun r m=>h.r r (jG.mp m).1,fun r m=>h.s r (jG.mp m).1,h.nd.sublist (pq.map _)⟩
theorem aiV(rs:List Row)(s:List Nat):s∉(uL rs s).map fun r=>r.1:=fun m=>by
 obtain⟨r,hr,e⟩:=fX.mp m
 have:=(jG.mp hr).2
 rw[decide_eq_true e] at this; cases this
theorem Bg.put{a:List Row}(h:Bg a){s:List Nat}{x:Nat}(hs:jL s)(hx:x < 256 ^ 8)(hn:a.length < 19):Bg (Ik a s x):=by
 have d:=h.del s
 have mem:∀ {P:Row->Prop},(∀ r∈uL a s,P r)->P (s,x)->∀ r∈Ik a s x,P r:=fun h h' r m=>(fZ.mp m).elim (h r) fun e=>aN.mp e▸h'
 refine⟨?_,mem d.r ⟨hs.g,ak hs.l2 (bl rfl),hx⟩,mem d.s ⟨hs.l1,hs.l2⟩,?_⟩
 ·unfold Ik; rw[aF]; exact oO (aA (gj _ _) hn)
 ·unfold Ik
  rw[cu,nD]
  refine⟨d.nd,dj.mpr ⟨dK,qN⟩,fun y hy z hz e=>?_⟩
  rw[aN.mp hz] at e
  rw[e] at hy
  exact aiV a s hy
noncomputable def G6(σ:Ms)(k:Nat)(x:List UInt8)(z:Int):Ms:=(σ.upd k (wD x)).upd k (wM z)
theorem acu{l:List UInt8}{b:Nat}(h:l.length=b)(hb:0 < b):JZ l b=l:=by
 have:(l.length + b - 1) / b * b=l.length:=by
  rw[h,Nat.add_sub_assoc hb,fB,Nat.add_div_right _ hb,Nat.div_eq_of_lt (Nat.sub_lt hb (bl rfl))]; exact Nat.one_mul b
 unfold JZ
 rw[this,oK]; exact bN _
section
variable{n k x:Nat}{st:St}{Q:Po}{X:Ex}{σ:Ms}{m:Md}{rs:List Row}{s:List Nat}
theorem Il(r:Rep σ st)(g:σ.get k=some m)(hb:m.block=512)(hl:m.data.length<=512)(ro:Bg rs)(h:∀ st' z,Rep (G6 σ k (zY k rs) z) st'->Ke σ.A st st'->Q .none st'):w.C (n + 3) 1043 [.ref σ.i,.int k,.int 0,.bytes (zY k rs)] st Q X:=by
 have hl2:=sV (k:=k) ro
 have e:JZ (zY k rs++m.data.drop (zY k rs).length) m.block=zY k rs:=by rw[qT (hl2▸hl),bN,hb,acu hl2 (bl rfl)]
 refine Nq r g (aK (bl rfl) (aR hl2.symm)) ?_ fun st' z r' k'=>h st' z (e▸r') k'
 rw[hl2,hb]; exact aA (bU (aZ hl 512) 512) (bl rfl)
theorem Oe.len(d:Oe σ k rs):(zY k rs).length < 1000:=aA (aR (sV d.1)) (bl rfl)
theorem Oe.few(d:Oe σ k rs):rs.length < lim:=aG d.1.n (bl rfl)
theorem akc(ro:Bg rs):stk (JH st .len [.bytes (zY k rs)])=some (.int 512):=Dj (gY (ak (aR (sV ro)) (bl rfl))) (congrArg (fun n:Nat=>V.int n) (sV ro))
theorem Eu{ro:Bg rs}(h:∀ st',Ke [] st st'->Q (.bytes (zY k rs)) st'):w.C (n + 5) 322 [.int ((k * 2654435761 + 40503) % 4294967296:Nat),.lst (rs.map wC),.int 512] st Q X:=
 JX (salt:=salt k) (k:=512) (aiU k) (aG ro.n (bl rfl)) ro.r (ak (aaR ro) (bl rfl)) (bl rfl) h
theorem Nu(r:Rep σ st)(d:Oe σ k rs)(hs:jL s)(hx:x < 256 ^ 8)(hk:k < 4294967296)(hn:rs.length < 19)
  (h:∀ st' z rs',rs'.Perm (Ik rs s x)->Rep (G6 σ k (zY k rs') z) st'->Ke σ.A st st'->Q .none st'):w.C (n + 6) 497 [.ref σ.i,.int k,.str s,.int x] st Q X:=by
 have p2:=d.1.put hs hx hn
 obtain⟨m,g,hb,hd⟩:=d.2
 obtain⟨rs',hp,e2⟩:=Jy (Ik rs s x)
 have p3:=p2.perm hp
 have l1:((uL rs s).map wC).length + [V.tup [.str s,.int x]].length<=lim:=by
  rw[aQ]; exact aA (gj _ _) d.few
 refine w.h (dG (V6 hs.g hs.l1 (ak hs.l2 (bl rfl)) hx (dG (qI r d (dG (yK d.len (dB (qX rfl) (dG (rU (aG d.1.n (bl rfl)) d.1.r d.len fun s1 j k1 nj hj=>?_))))))))); o_shape
 refine dL (yN hj) (dG (Ng (fun r:Row=> !decide (r.1=s)) wC (rH hj) d.few (fun c J K hK=>dV (fP rfl) (dV VP hK)) (fun c J K hK=>hK) ?_))
 refine dV (Dj (Ie l1) (congrArg V.lst (cu (f:=wC) (l₁:=uL rs s) (l₂:=[(s,x)])).symm)) (dV (Dj (Nt (Dw (Ik rs s x)) (by rw[aQ]; exact aG p2.n (bl rfl))) (congrArg V.lst e2)) (dG (Tc hk (dV (akc d.1) (dG (Eu (ro:=p3) fun s2 k2=>?_)))))); o_shape
 have r2:=(r.ke k1).ke k2
 exact dV (fP rfl) (dB (qx rfl) (dN (aX r2.hi rfl) (dG (Il r2 g hb (aR ((congrArg mC hd).trans (sV d.1))) p3 fun s3 z r3 k3=>h s3 z rs' hp r3 ((k1.trans k2).pre k3)))))
end
end
section
variable{w:Wm gF}
section
variable{n k x:Nat}{st:St}{Q:Po}{X:Ex}{σ:Ms}{rs:List Row}{s:List Nat}(r:Rep σ st)(d:Oe σ k rs)
include r d
theorem Jz{v:Nat}(hv:rs.lookup s=some v)(hk:k < 4294967296)
  (h:∀ st' z,Rep (G6 σ k (zY k (uL rs s)) z) st'->Ke σ.A st st'->Q .none st'):w.C (n + 7) 502 [.ref σ.i,.int k,.str s] st Q X:=by
 have p3:=d.1.del s
 obtain⟨m,g,hb,hd⟩:=d.2
 refine w.h (dG (sW r d fun s0 k0=>?_))
 rw[hv]; o_shape
 have r:=r.ke k0
 refine dV (fP rfl) (dB (qX rfl) (dG (qI r d (dG (yK d.len (dB (qx rfl) (dG (rU (aG d.1.n (bl rfl)) d.1.r d.len fun s1 j k1 nj hj=>?_)))))))); o_shape
 refine dL (yN hj) (dG (Ng (fun r:Row=> !decide (r.1=s)) wC (rH hj) d.few (fun c J K hK=>dV (fP rfl) (dV VP hK)) (fun c J K hK=>hK) ?_))
 refine dN (aX (r.ke k1).hi rfl) (dG (Tc hk (dV (akc d.1) (dG (Eu (ro:=p3) fun s2 k2=>?_))))); o_shape
 exact dG (Il ((r.ke k1).ke k2) g hb (aR ((congrArg mC hd).trans (sV d.1))) p3 fun s3 z r3 k3=>h s3 z r3 ((k0.trans (k1.trans k2)).pre k3))
theorem Nv(h:∀ st' (rs':List Row),rs'.Perm rs->Ke [] st st'->Q (.lst (rs'.map wC)) st'):w.C (n + 6) 449 [.ref σ.i,.int k] st Q X:=
 (Jy rs).elim fun rs' p=>w.h (dG (qI r d (dG (yK d.len (dB (qx rfl) (dG (rU (aG d.1.n (bl rfl)) d.1.r d.len fun s1 j k1 nj hj=>
  dV (Dj (Zi hj (Dw _) (aA (aR (aQ _)) (aG d.1.n (bl rfl)))) (congrArg V.lst p.2)) (h s1 rs' p.1 k1))))))))
noncomputable def aiW:Option Nat->V
 | some v=>.tup [.int ((v / 4:Nat):Int),.int ((v % 4:Nat):Int)]
 | .none=>.none
theorem yO(hs:jL s)(h:∀ st',Ke [] st st'->Q (aiW (rs.lookup s)) st'):w.C (n + 7) 564 [.ref σ.i,.int k,.str s] st Q X:=by
 refine w.h (dG (Jw hs (dB (qx rfl) (dG (sW r d fun s0 k0=>?_)))))
 have:=h s0 k0
 revert this
 cases rs.lookup s with
 | none=>exact fun h=>dV (fP rfl) (dB (qx rfl) h)
 | some v=>exact fun h=>dV (fP rfl) (dB (qX rfl) (dV (yJ (by decide) (by decide)) (dV (sJ (by decide)) h)))
theorem Tt{t:Nat}(hs:jL s)(hx:x < 100001)(ht:t < 4)(hk:k < 4294967296)(hn:rs.length < 19)
  (h:∀ st' z rs',rs'.Perm (Ik rs s (x * 4 + t))->Rep (G6 σ k (zY k rs') z) st'->Ke σ.A st st'->Q .none st'):w.C (n + 7) 571 [.ref σ.i,.int k,.str s,.int x,.int t] st Q X:=
 w.h (dG (wG hs (dV (VL (aA (aR (pW x)) (aG hx (bl rfl))) (by decide)) (dG (Nu (x:=x * 4 + t) r d hs
  (aK (nY (Nat.mul_le_mul_right 4 (cX hx)) ht) (bl rfl)) hk hn h)))))
theorem Ph{v:Nat}(hs:jL s)(hv:rs.lookup s=some v)(hk:k < 4294967296)
  (h:∀ st' z,Rep (G6 σ k (zY k (uL rs s)) z) st'->Ke σ.A st st'->Q (.tup [.int ((v / 4:Nat):Int),.int ((v % 4:Nat):Int)]) st'):w.C (n + 8) 578 [.ref σ.i,.int k,.str s] st Q X:=by
 refine w.h (dG (yO r d hs fun s0 k0=>?_))
 rw[hv]
 exact dV (fP rfl) (dB (qX rfl) (dG (Jz (r.ke k0) d hv hk fun s1 z r1 k1=>h s1 z r1 (k0.pre k1))))
noncomputable def ao1(r:Row):V:=.tup [.str r.1,.int ((r.2 / 4:Nat):Int),.int ((r.2 % 4:Nat):Int)]
omit r d in
theorem ao2{rs rs':List Row}(hp:rs'.Perm rs)(h:rs.length < 20):rs'.length < 20:=hp.length_eq▸h
theorem Zj(h:∀ st' (rs':List Row),rs'.length < 20->Ke [] st st'->Q (.lst (rs'.map ao1)) st'):w.C (n + 7) 583 [.ref σ.i,.int k] st Q X:=
 w.h (dG (Nv r d fun s0 rs' hp k0=>dL (fP rfl) (dG (qD ao1 rfl (aG (ao2 hp d.1.n) (bl rfl)) (fun c J K hK=>dV (yJ (by decide) (by decide)) (dV (sJ (by decide)) hK)) (h s0 rs' (ao2 hp d.1.n) k0)))))
end
theorem Ke.arD{A:List Nat}{a b c:St}{j:Nat}(h:Ke A a b)(k:Ke (A++[j]) b c)(e:No a j):Ke A a c:=fun i o n q=>k i o (fun m=>(fZ.mp m).elim n fun m=>vC q (aN.mp m▸e)) (h i o n q)
theorem af7(σ:Ms)(a k b:Nat)(l:List UInt8):(σ.add a k b l).A=σ.A++[a]:=by
 show _::_::_::_::xQ _ (σ.obs++_)=_
 rw[cu]; rfl
theorem Kf{σ:Ms}{st:St}(r:Rep σ st)(a k b:Nat)(l:List UInt8)(n:Nat):(σ.add a k b l).get n=if n=σ.top + 1 then some ⟨a,k,b, -1,l,[]⟩ else σ.get n:=by
 have h:=r.kt
 show jd n (σ.obs++[(σ.top + 1,_)])=if n=σ.top + 1 then _ else jd n σ.obs
 generalize σ.obs=o at h ⊢
 induction o with
 | nil=>
  show jd n [(σ.top + 1,_)]=_
  rw[aM]
  by_cases e:n=σ.top + 1
  ·rw[if_pos e,beq_iff_eq.mpr e]
  ·rw[if_neg e,beq_eq_false_iff_ne.mpr e]
 | cons p o ih=>
  rw[rN,aM,aM,ih fun q hq=>h q (.tail _ hq)]
  cases q:n==p.1 with
  | true=>
   have l:n<=σ.top:=eq_of_beq q▸h p (.head _)
   exact(if_neg fun e:n=σ.top + 1=>iH _ (e▸l)).symm
  | false=>exact rfl
theorem Bg.nil:Bg []:=⟨bl rfl,nofun,nofun,qN⟩
theorem Zm{n kd:Nat}{st:St}{Q:Po}{X:Ex}{σ:Ms}(r:Rep σ st)(hkd:0 < kd)(ht:σ.top + 1 < 100000)
  (h:∀ st' a z,No st a->Rep (G6 (σ.add a kd 512 []) (σ.top + 1) (zY (σ.top + 1) []) z) st'->Ke σ.A st st'->Q (.int ((σ.top + 1:Nat):Int)) st'):w.C (n + 6) 492 [.ref σ.i,.int kd] st Q X:=by
 refine w.h (dV (aU r.hi rfl) (dV (aU r.hsh rfl) (dN (aX r.hi rfl) (dG (af4 (b:=512) r hkd (bl rfl) (bl rfl) ht fun s1 a na r1 k1=>?_))))); o_shape
 refine dN (aX r1.hi rfl) (dG (Tc (x:=σ.top + 1) (aG ht (bl rfl)) (dG (Eu (k:=σ.top + 1) (ro:=.nil) fun s2 k2=>?_)))); o_shape
 exact dG (Il (σ:=σ.add a kd 512 []) (r1.ke k2) ((Kf r ..).trans (if_pos rfl)) rfl (cL _) .nil fun s3 z r3 k3=>h s3 a z na r3 (k1.arD (af7 σ .. ▸k2.pre k3) na))
end
section
variable{w:Wm gF}
def kj(σ:Ms)(k:Nat)(z:Zn):Prop:=QF z/\∃ m,σ.get k=some m/\m.bonus=oJ z
def IsL(σ:Ms)(k:Nat)(t:List Nat):Prop:=rG t/\t.length < 200/\∃ z,kj σ k z/\z.size=t.length/\∃ m,σ.get k=some m/\qH m.data 0 t.length=tb t
noncomputable def eH(p:List Nat):List (List Nat):=(jg 47 p).filter fun s=> !decide (s=[])
theorem aiX(x:Nat):∀ l:List (List Nat),(hd1 x l).length<=l.length + 1
 | []=>bf _
 | _::_=>dw _
theorem yP(c:Nat):∀ p:List Nat,(jg c p).length<=p.length + 1
 | []=>bf _
 | x::r=>by
  show(if x=c then []::jg c r else hd1 x (jg c r)).length<=_
  by_cases e:x=c
  ·rw[if_pos e]; exact bI (yP c r)
  ·rw[if_neg e]; exact ak (aiX x _) (bI (yP c r))
theorem qJ{a b:Nat}(h:a≠b):¬ (a:Int)=b:=fun e=>h (Int.ofNat.inj e)
section
variable{n k:Nat}{st:St}{Q:Po}{X:Ex}{σ:Ms}{z:Zn}{p t:List Nat}
theorem o7(r:Rep σ st)(g:kj σ k z)(h:∀ st' j,Ke [] st st'->No st j->Is st' j (yL z)->Q (.ref j) st'):w.C (n + 5) 632 [.ref σ.i,.int k] st Q X:=g.2.elim fun J q=>aiT r q.1 q.2 g.1 h
theorem Nx(hl:p.length < 1000)(h:Q (.lst ((eH p).map .str)) st):w.C (n + 1) 644 [.str p] st Q X:=
 w.h (dB (qx rfl) (dP (aiM (ak (bU (bH hl) 2) (bl rfl))) (dL (fP rfl) (dG (Ng (fun s:List Nat=> !decide (s=[])) (fun s=>.str s) rfl
  (aA (yP 47 p) (aK (oO hl) (bl rfl))) (fun c J K hK=>dV VP hK) (fun c J K hK=>hK) h)))))
theorem Bh(r:Rep σ st)(d:IsL σ k t)(h:∀ st',Ke [] st st'->Q (.str t) st'):w.C (n + 6) 649 [.ref σ.i,.int k] st Q X:=by
 obtain⟨hg,hl,z,hz,hs,m,g,hd⟩:=d
 have hl:=aG hl (bl rfl:200 < 1000)
 have hb:(tb t).length < 1000:=qF t▸hl
 refine w.h (dN (aX r.hi rfl) (dG (o7 r hz fun s1 j k1 nj hj=>dV (Dj (aU hj rfl) (congrArg (fun n:Nat=>V.int n) hs)) (dG (Np (a:=0) (r.ke k1) g (aG hl (bl rfl)) ?_)))))
 rw[hd]
 have e:(tb t).map UInt8.toNat=t:=S9 hg
 have hb':((tb t).map UInt8.toNat).length < 1000:=aQ (as:=tb t) UInt8.toNat▸hb
 refine dB (qx rfl) (dL (a:=(tb t).map fun b:UInt8=>V.int (b.toNat:Int)) (fP rfl) (dG (qD (fun b:UInt8=>V.str [b.toNat]) rfl (pI hb) (fun b J K hK=>dV (aj7 b.toNat_lt) hK) ?_)))
 exact dP ((congrArg (fun z=>stk (Z7 s1 .join (.str []) [.lst z])) (gw (l:=tb t) (f:=UInt8.toNat) (g:=fun c=>V.str [c])).symm).trans (Zb (aj8 hb') (by decide) (Er _))) (show Q (.str ((tb t).map UInt8.toNat)) s1 from e.symm▸h s1 k1)
variable(r:Rep σ st)(hz:kj σ k z)
include r hz
theorem Bj(hs:z.sort=1)(h:∀ st',Ke [] st st'->Q .none st'):w.C (n + 6) 656 [.ref σ.i,.int k,.str p] st Q X:=
 w.h (dG (o7 r hz fun s1 j k1 nj hj=>dV (Dj (aU hj rfl) (congrArg (fun n:Nat=>V.int n) hs)) (dB (qX rfl) (h s1 k1))))
theorem Ny(hs:z.sort≠1)(hl:p.length < 1000)(h:∀ st',Ke [] st st'->X 135 st'):w.C (n + 6) 656 [.ref σ.i,.int k,.str p] st Q X:=
 w.h (dG (o7 r hz fun s1 j k1 nj hj=>dV (aU hj rfl) (dB (afF (qJ (b:=1) hs)) (dV (iD (ak (aZ (bH hl) _) (bl rfl))) (h s1 k1)))))
end
noncomputable def Nz(fC here:Nat)(p:List Nat):Nat:=if p.take 1=[47] then fC else here
theorem af8{n:Nat}{st:St}{Q:Po}{X:Ex}{a b:Nat}{p:List Nat}(hl:p.length < 1000)(h:Q (.int (Nz a b p)) st):w.C (n + 1) 663 [.int a,.int b,.str p] st Q X:=by
 have e:stk (uw st (.str p) .none (some (.int 1)))=some (.str (p.take 1)):=fP (iC rfl (iC rfl (iC (if_pos (Dv hl)) (show gd ((0:Int)<=1) (V.str (p.take 1))=some (V.str (p.take 1)) from if_pos (by decide)))))
 unfold Nz at h
 refine w.h (dV e (dV VN ?_))
 by_cases q:p.take 1=[47]
 ·rw[if_pos q] at h; exact dB (zX q) h
 ·rw[if_neg q] at h; exact dB (G5 q) h
inductive Xd(σ:Ms)(fC:Nat)(kh:Bool)(R:Nat->List (List Nat)->Nat->Nat ⊕ Nat->Prop):Nat->List (List Nat)->Nat->Nat ⊕ Nat->Prop
 | done {here bM:Nat}:Xd σ fC kh R here [] bM (.inl here)
 | GJ {here bM:Nat} {s:List Nat} {t:List (List Nat)} {z:Zn} (hz:kj σ here z) (hs:z.sort≠1):Xd σ fC kh R here (s::t) bM (.inr 135)
 | dot {here bM:Nat} {t:List (List Nat)} {z:Zn} {r:Nat ⊕ Nat} (hz:kj σ here z) (hs:z.sort=1) (q:R here t bM r):Xd σ fC kh R here ([46]::t) bM r
 | missing {here bM:Nat} {s:List Nat} {t:List (List Nat)} {z:Zn} {rs:List Row} (hz:kj σ here z) (hs:z.sort=1) (d:Oe σ here rs) (nm:jL s) (e:rs.lookup s=none):Xd σ fC kh R here (s::t) bM (.inr 75)
 | plain {here bM v:Nat} {s:List Nat} {t:List (List Nat)} {z:Zn} {rs:List Row} {r:Nat ⊕ Nat} (hz:kj σ here z) (hs:z.sort=1) (d:Oe σ here rs) (nm:jL s) (e:rs.lookup s=some v) (pl:v % 4≠2∨(t=[]/\kh=false))
   (q:R (v / 4) t bM r):Xd σ fC kh R here (s::t) bM r
 | link {here bM v:Nat} {s g:List Nat} {t:List (List Nat)} {z:Zn} {rs:List Row} {r:Nat ⊕ Nat} (hz:kj σ here z) (hs:z.sort=1) (d:Oe σ here rs) (nm:jL s) (e:rs.lookup s=some v) (ln:v % 4=2) (pl:t≠[]∨kh=true) (hm:bM < 8)
   (l:IsL σ (v / 4) g) (hl:(eH g++t).length < 100) (q:R (Nz fC here g) (eH g++t) (bM + 1) r):Xd σ fC kh R here (s::t) bM r
 | loops {here bM v:Nat} {s:List Nat} {t:List (List Nat)} {z:Zn} {rs:List Row} (hz:kj σ here z) (hs:z.sort=1) (d:Oe σ here rs) (nm:jL s) (e:rs.lookup s=some v) (ln:v % 4=2) (pl:t≠[]∨kh=true) (hm:¬ bM < 8):
   Xd σ fC kh R here (s::t) bM (.inr 159)
noncomputable def Wpr(σ:Ms)(fC:Nat)(kh:Bool):Nat->Nat->List (List Nat)->Nat->Nat ⊕ Nat->Prop
 | 0=>fun J J J J=>False
 | n + 1=>Xd σ fC kh (Wpr σ fC kh n)
def uM(σ:Ms)(fC:Nat)(kh:Bool)(here:Nat)(Wh:List (List Nat))(bM n:Nat)(r:Nat ⊕ Nat):Prop:=Wpr σ fC kh (n + 1) here Wh bM r
theorem Wpr.inv{σ:Ms}{fC:Nat}{kh:Bool}{here bM:Nat}{t:List (List Nat)}{r:Nat ⊕ Nat}:∀ {k:Nat},Wpr σ fC kh k here t bM r->∃ n,n < k/\uM σ fC kh here t bM n r
 | 0,q=>q.elim
 | n + 1,q=>⟨n,fG n,q⟩
section
variable{σ:Ms}{fC here bM n v:Nat}{kh:Bool}{s g:List Nat}{t:List (List Nat)}{z:Zn}{rs:List Row}{r:Nat ⊕ Nat}
theorem uM.done:uM σ fC kh here [] bM 0 (.inl here):=Xd.done
theorem uM.GJ(hz:kj σ here z)(hs:z.sort≠1):uM σ fC kh here (s::t) bM 0 (.inr 135):=Xd.GJ hz hs
theorem uM.dot(hz:kj σ here z)(hs:z.sort=1)(q:uM σ fC kh here t bM n r):uM σ fC kh here ([46]::t) bM (n + 1) r:=Xd.dot hz hs q
theorem uM.missing(hz:kj σ here z)(hs:z.sort=1)(d:Oe σ here rs)(nm:jL s)(e:rs.lookup s=none):uM σ fC kh here (s::t) bM 0 (.inr 75):=Xd.missing hz hs d nm e
theorem uM.plain(hz:kj σ here z)(hs:z.sort=1)(d:Oe σ here rs)(nm:jL s)(e:rs.lookup s=some v)(pl:v % 4≠2∨(t=[]/\kh=false))(q:uM σ fC kh (v / 4) t bM n r):uM σ fC kh here (s::t) bM (n + 1) r:=Xd.plain hz hs d nm e pl q
theorem uM.link(hz:kj σ here z)(hs:z.sort=1)(d:Oe σ here rs)(nm:jL s)(e:rs.lookup s=some v)(ln:v % 4=2)(pl:t≠[]∨kh=true)(hm:bM < 8)(l:IsL σ (v / 4) g)(hl:(eH g++t).length < 100)(q:uM σ fC kh (Nz fC here g) (eH g++t) (bM + 1) n r):uM σ fC kh here (s::t) bM (n + 1) r:=Xd.link hz hs d nm e ln pl hm l hl q
theorem uM.loops(hz:kj σ here z)(hs:z.sort=1)(d:Oe σ here rs)(nm:jL s)(e:rs.lookup s=some v)(ln:v % 4=2)(pl:t≠[]∨kh=true)(hm:¬ bM < 8):uM σ fC kh here (s::t) bM 0 (.inr 159):=Xd.loops hz hs d nm e ln pl hm
end
theorem aaS(st:St)(s:List Nat)(t:List (List Nat)):stk (uw st (.lst (xQ V.str (s::t))) (some (.int 1)) .none)=some (.lst (xQ V.str t)):=
 fP (congrArg (fun l=>some (V.lst l)) (V7 (V.str s::t.map V.str) 1))
noncomputable def WFr(i fC:Nat)(p:List Nat)(kh:Bool)(here:Nat)(Wh:List (List Nat))(bM:Nat):TF:=[some (.ref i),some (.int fC),some (.str p),some (.bool kh),some (.int here),some (.lst (Wh.map .str)),some (.int bM)]
section
variable{n here bM fC:Nat}{kh:Bool}{p s1:List Nat}{t:List (List Nat)}{s:St}{σ:Ms}{z:Zn}{rest:List MS}{K:zV}{X:vd}(r:Rep σ s)
include r
theorem xH{L:St->T}(hz:kj σ here z)(hs:z.sort=1)(h:∀ s',Ke [] s s'->den (tC (E gF (w.C (n + 7)) 21) rest (WFr σ.i fC p kh here t bM++[some (.str s1)]) s' K X)):
  den ((E gF (w.C (n + 7)) 21).t (.cmp (.aD 5) .ne (.jJ [])) (WFr σ.i fC p kh here (s1::t) bM) s (fun b st=>.Y7 b (tC (E gF (w.C (n + 7)) 21) (.eG (.t [(.v 7),(.v 5)]) (.tup [(.qy (.aD 5) (.aj (.int 0))),(.slice (.aD 5) (some (.aj (.int 1))) .none)])::.expr (.call 656 [(.aD 0),(.aD 4),(.aD 2)])::rest) (WFr σ.i fC p kh here (s1::t) bM) st K X) (L st)) X):=
 dV (fP rfl) (dB (qx rfl) (dV (fP rfl) (dV (aaS s s1 t) (dG (Bj r hz hs h)))))
theorem Cw{rs:List Row}{c2:List MS}(d:Oe σ here rs)(nm:jL s1)
  (h:∀ s',Ke [] s s'->den (tC (E gF (w.C (n + 7)) 21) rest (WFr σ.i fC p kh here t bM++[some (.str s1),some (aiW (rs.lookup s1))]) s' K X)):
  den (tC (E gF (w.C (n + 7)) 21) (.ite (.cmp (.aD 7) .eq (.aj (.str [46]))) [.cont] []::.ite (.cmp (.aD 7) .eq (.aj (.str [46,46]))) c2 []::.eG (.v 8) (.call 564 [(.aD 0),(.aD 4),(.aD 7)])::rest) (WFr σ.i fC p kh here t bM++[some (.str s1)]) s K X):=
 dV VN (dB (G5 nm.d1) (dV VN (dB (G5 nm.d2) (dG (yO r d nm h)))))
end
theorem QJ{n here bM fC v i:Nat}{kh:Bool}{p s1:List Nat}{t:List (List Nat)}{s:St}{el rest l:List MS}{e:ME}{K:zV}{X:vd}(ln:v % 4=2)(pl:t≠[]∨kh=true)
  (h:den (tC (E gF (w.C (n + 7)) 20) rest (WFr i fC p kh here t (bM + 1)++[some (.str s1),some (aiW (some v))]) s (tx (fun g st=>tC (E gF (w.C (n + 7)) 21) l g st K X) K) X)):
  den (tC (E gF (w.C (n + 7)) 21) (.ite (.cmp (.aD 8) .is (.aj .none)) [.raise 75 e] []::.ite (.bool true [(.cmp (.qy (.aD 8) (.aj (.int 1))) .eq (.aj (.int 2))),(.bool false [(.cmp (.aD 5) .ne (.jJ [])),(.aD 3)])]) (.eG (.v 6) (.bin .add (.aD 6) (.aj (.int 1)))::rest) el::l) (WFr i fC p kh here t bM++[some (.str s1),some (aiW (some v))]) s K X):=by
 refine dV (fP rfl) (dB (qX rfl) (dV (fP rfl) (dB (afG (congrArg (fun n:Nat=>(n:Int)) ln)) ?_)))
 cases t with
 | nil=>cases pl.resolve_left fun z=>z rfl; exact dV (fP rfl) (dB (qx rfl) (dB (qX rfl) (dB (qx rfl) (dB (qx rfl) h))))
 | cons a t=>exact dV (fP rfl) (dB (qX rfl) (dB (qx rfl) (dB (qx rfl) h)))
def Out(st:St)(Q:Po)(X:Ex):Nat ⊕ Nat->Prop
 | .inl k=>∀ st',Ke [] st st'->Q (.int k) st'
 | .inr C=>∀ st',Ke [] st st'->X C st'
structure WI(σ:Ms)(st:St)(fC:Nat)(kh:Bool)(res:Nat ⊕ Nat)(here:Nat)(Wh:List (List Nat))(bM k:Nat)(s:St):Prop where
 l:Wh.length < 100
 ke:Ke [] st s
 w:uM σ fC kh here Wh bM k res
theorem Im{n m:Nat}{st:St}{Q:Po}{X:Ex}{σ:Ms}{fC:Nat}{kh:Bool}{p:List Nat}{res:Nat ⊕ Nat}(r:Rep σ st)(hl:p.length < 1000)(hp:(eH p).length < 100)(wk:uM σ fC kh fC (eH p) 0 m res)(h:Out st Q X res):
  w.C (n + 8) 670 [.ref σ.i,.int fC,.str p,.bool kh] st Q X:=by
 refine w.h (dG (Nx hl (dS (aiN (WFr σ.i fC p kh) (WI σ st fC kh res) fC (eH p) 0 m ⟨hp,Ke.rfl,wk⟩ fun here Wh bM k s i K kn kr=>?_))))
 have ks:=i.ke
 have r':=r.ke ks
 have tl:=i.l
 have wl:Xd σ fC kh (Wpr σ fC kh k) here Wh bM res:=i.w
 clear i wk hp
 cases wl with
 | done=>exact dV (fP rfl) (dB (qX rfl) (h s ks))
 | @GJ _ s1 t z hz hs=>exact dV (fP rfl) (dB (qx rfl) (dV (fP rfl) (dV (aaS s s1 t) (dG (Ny r' hz hs hl fun s2 k2=>h s2 (ks.trans k2))))))
 | @dot _ t z _ hz hs q=>
  refine q.inv.elim fun n q=>?_
  exact xH r' hz hs fun s2 k2=>dV VN (dB (qx rfl) (kn _ _ _ _ _ _ (vD 7 rfl) q.1 ⟨gC tl,ks.trans k2,q.2⟩).2)
 | @missing _ s1 t z rs hz hs d nm e=>
  refine xH r' hz hs fun s2 k2=>Cw (r'.ke k2) d nm fun s3 k3=>?_
  rw[e]
  exact dV (fP rfl) (dB (qx rfl) (dV (iD (ak (aZ (bH hl) _) (bl rfl))) (h s3 ((ks.trans k2).trans k3))))
 | @plain _ v s1 t z rs _ hz hs d nm e pl q=>
  refine q.inv.elim fun n q=>?_
  refine xH r' hz hs fun s2 k2=>Cw (r'.ke k2) d nm fun s3 k3=>?_
  rw[e]
  have fin:=(kn · s3 (v / 4) t bM n · q.1 ⟨gC tl,(ks.trans k2).trans k3,q.2⟩)
  refine dV (fP rfl) (dB (qX rfl) (dV (fP rfl) ?_))
  by_cases hv:v % 4=2
  ·obtain⟨rfl,rfl⟩:=pl.resolve_left fun z=>z hv
   exact dB (afG (congrArg (fun n:Nat=>(n:Int)) hv)) (dV (fP rfl) (dB (qx rfl) (dB (qx rfl) (dB (qX rfl) (dB (qX rfl) (dV (fP rfl) (fin _ (vD 7 rfl)).1))))))
  ·exact dB (aoO (qJ (b:=2) hv)) (dB (G5 (qJ (b:=2) hv)) (dV (fP rfl) (fin _ (vD 7 rfl)).1))
 | @link _ v s1 g t z rs _ hz hs d nm e ln pl hm l hl2 q=>
  refine q.inv.elim fun n q=>?_
  refine xH r' hz hs fun s2 k2=>Cw (r'.ke k2) d nm fun s3 k3=>?_
  rw[e]
  have hg:=aG l.2.1 (bl rfl:200 < 1000)
  have e2:((eH g).map V.str++t.map V.str)=(eH g++t).map V.str:=cu.symm
  have l2:((eH g).map V.str).length + (t.map V.str).length<=lim:=by rw[← aF,e2,aQ]; exact bH (aG hl2 (bl rfl))
  exact QJ ln pl (dB (G5 (dh.mpr (dU hm))) (dV (fP rfl) (dG (Bh ((r'.ke k2).ke k3) l fun s4 k4=>dG (af8 hg (dG (Nx hg (dV (Dj (Ie l2) (congrArg V.lst e2))
   (kn _ _ _ _ _ _ (vD 7 rfl) q.1 ⟨hl2,((ks.trans k2).trans k3).trans k4,q.2⟩).1))))))))
 | @loops _ v s1 t z rs hz hs d nm e ln pl hm=>
  refine xH r' hz hs fun s2 k2=>Cw (r'.ke k2) d nm fun s3 k3=>?_
  rw[e]
  exact QJ ln pl (dB (zX (jr (dM (gP hm)))) (dV (iD (ak (aZ (bH hl) _) (bl rfl))) (h s3 ((ks.trans k2).trans k3))))
end
section
variable{w:Wm gF}
theorem af9(n:Nat):(-1 + ((n + 1:Nat):Int))=(n:Int):=by rw[Int.natCast_succ,Int.add_comm,Int.add_neg_cancel_right]
theorem aga{α:Type}(l:List α)(x:α):nth (l++[x]) (-1)=some x:=by
 have e:(-1:Int) + ((l++[x]).length:Int)=(l.length:Int):=by rw[aF]; exact af9 l.length
 unfold nth
 rw[if_neg (by decide),e,if_pos (aO _),cH,gJ (bf _),oK]; rfl
theorem agb{α:Type}(l:List α)(x:α):cut (l++[x]) .none (some (-1))=l:=by
 show((l++[x]).take (yp (l++[x]).length (-1))).drop 0=l
 rw[show yp (l++[x]).length (-1)=l.length by rw[aF]; exact if_pos (by decide),qP]
 exact List.take_left' rfl
theorem Wj(c d:Nat):min (c:Int) (d:Int)=((min c d:Nat):Int):=by
 rcases qR c d with h | h
 ·rw[zH h,Int.min_eq_left (dU h)]
 ·rw[rO h,Int.min_eq_right (dU h)]
theorem aiY(c s a:Nat):max (0:Int) (min (c:Int) ((s:Int) - a))=((min c (s - a):Nat):Int):=by
 rcases qR s a with h | h
 ·rw[q7 h,Nat.min_zero]; exact tK (fW (Int.min_le_right _ _) (Int.sub_nonpos_of_le (dU h)))
 ·rw[Nm h,Wj]; exact rM (aO _)
theorem Out.of{st:St}{Q:Po}{X:Ex}{res:Nat ⊕ Nat}(h1:∀ k,res=.inl k->∀ st',Ke [] st st'->Q (.int k) st')(h2:∀ C,res=.inr C->∀ st',Ke [] st st'->X C st'):Out st Q X res:=by
 cases res with
 | inl k=>exact h1 k rfl
 | inr C=>exact h2 C rfl
theorem Out.mono{st:St}{Q Q':Po}{X X':Ex}{res:Nat ⊕ Nat}(h:Out st Q X res)(q:∀ v st,Q v st->Q' v st)(x:∀ c st,X c st->X' c st):Out st Q' X' res:=
 .of (fun J e st' k=>q _ _ ((e▸h:Out st Q X (.inl _)) st' k)) fun J e st' k=>x _ _ ((e▸h:Out st Q X (.inr _)) st' k)
theorem Wn{n m f fC:Nat}{st:St}{Q:Po}{X:Ex}{σ:Ms}{p s:List Nat}{ini:List (List Nat)}{z:Zn}(r:Rep σ st)(hl:p.length < 1000)(hp:eH p=ini++[s])(hi:ini.length < 50)(hj:(ini.map mC).sum < 500)(hq:(tO [47] ini).length < 1000)(hq2:(eH (tO [47] ini)).length < 100)(nm:jL s)
  (wk:uM σ fC true fC (eH (tO [47] ini)) 0 m (.inl f))(hz:kj σ f z)(hs:z.sort=1)(h:∀ st',Ke [] st st'->Q (.tup [.int f,.str s]) st'):w.C (n + 9) 677 [.ref σ.i,.int fC,.str p] st Q X:=by
 have e1:(eH p).map V.str=ini.map V.str++[.str s]:=by rw[hp,cu]; rfl
 have ej:stk (Z7 st .join (.str [47]) [.lst (ini.map V.str)])=some (.str (tO [47] ini),st):=Zb (l:=ini) (φ:=id) (by rw[qg]; exact ak (fY (bH hj) (bH hi)) (bl rfl)) (by decide) (by rw[qg])
 have e2:∀ st:St,stk (qC V.bool (cop st .eq (.lst (ini.map V.str++[.str s])) (.lst [])))=some (.bool false):=fun J=>by
  cases ini with
  | nil=>exact fP rfl
  | cons=>exact fP rfl
 have e3:∀ st:St,stk (Fi st (.lst (ini.map V.str++[.str s])) (.int (-1)))=some (.str s):=fun J=>fP (aga _ _)
 have e5:stk (uw st (.lst (ini.map V.str++[.str s])) .none (some (.int (-1))))=some (.lst (ini.map V.str)):=fP (congrArg (fun l=>some (V.lst l)) (agb _ _))
 refine w.h (dG (Nx hl ?_))
 rw[e1]
 revert e2 e3 e5
 generalize ini.map V.str++[V.str s]=l
 intro e2 e3 e5
 o_shape
 refine dV (e2 _) (dB (qx rfl) (dV (e3 _) (dV (af6 nm) (dB (qx rfl) (dB (qX rfl) (dB (qx rfl) (dV e5 (dP ej (dG (Im r hq hq2 wk fun s1 k1=>dG (Bj (r.ke k1) hz hs fun s2 k2=>dV (e3 _) (h s2 (k1.trans k2)))))))))))))
noncomputable def vwF(i fC:Nat):List (Nat×V):=[(36,.ref i),(37,.int fC)]
noncomputable def vwO(i fC:Nat):O:=.inst 757 (vwF i fC)
def aiZ(σ:Ms)(st:St)(F:Nat->Zn->St->Prop)(X:Ex):Nat ⊕ Nat->Prop
 | .inl k=>∃ z,kj σ k z/\∀ st',Ke [] st st'->F k z st'
 | .inr C=>∀ st',Ke [] st st'->X C st'
theorem aiZ.out{σ:Ms}{st:St}{F:Nat->Zn->St->Prop}{Q:Po}{X X':Ex}{res:Nat ⊕ Nat}(h:aiZ σ st F X res)(q:∀ k z,kj σ k z->(∀ st',Ke [] st st'->F k z st')->∀ st',Ke [] st st'->Q (.int k) st')(x:∀ c st,X c st->X' c st):Out st Q X' res:=by
 cases res with
 | inl k=>exact h.elim fun z p=>q k z p.1 p.2
 | inr C=>exact fun st' k=>x _ _ (h st' k)
section
variable{n m v fC:Nat}{st:St}{Q:Po}{X:Ex}{σ:Ms}{p:List Nat}{kh:Bool}{res:Nat ⊕ Nat}(r:Rep σ st)(hv:Is st v (vwO σ.i fC))
include r hv
section
variable(hl:p.length < 1000)(hp:(eH p).length < 100)
include hl hp
theorem Kg(wk:uM σ fC kh fC (eH p) 0 m res)(h:Out st Q X res):w.C (n + 9) 699 [.ref v,.str p,.bool kh] st Q X:=
 w.h (dV (aU hv rfl) (dV (aU hv rfl) (dG (Im r hl hp wk (h.mono (fun J J h=>h) fun J J h=>h)))))
theorem Bk(wk:uM σ fC true fC (eH p) 0 m res)(h:Out st Q X res):w.C (n + 9) 699 [.ref v,.str p] st Q X:=
 w.h (dV (aU hv rfl) (dV (aU hv rfl) (dG (Im r hl hp wk (h.mono (fun J J h=>h) fun J J h=>h)))))
theorem ai0(wk:uM σ fC kh fC (eH p) 0 m res)(h:aiZ σ st (fun J z st'=>∀ j,Is st' j (yL z)->Q (.ref j) st') X res):w.C (n + 10) 707 [.ref v,.str p,.bool kh] st Q X:=
 w.h (dV (aU hv rfl) (dN (aX hv rfl) (dG (Kg r hv hl hp wk (h.out (fun k z hz f st' k1=>dG (o7 (r.ke k1) hz fun s2 j k2 nj hj=>f s2 (k1.trans k2) j hj)) fun J J h=>h)))))
theorem xJ(wk:uM σ fC true fC (eH p) 0 m res)(h:aiZ σ st (fun J z st'=>∀ j,Is st' j (yL z)->Q (.ref j) st') X res):w.C (n + 10) 707 [.ref v,.str p] st Q X:=
 w.h (dV (aU hv rfl) (dN (aX hv rfl) (dG (Kg r hv hl hp wk (h.out (fun k z hz f st' k1=>dG (o7 (r.ke k1) hz fun s2 j k2 nj hj=>f s2 (k1.trans k2) j hj)) fun J J h=>h)))))
end
theorem QK{k a c:Nat}{z:Zn}{md:Md}(hz:kj σ k z)(g:σ.get k=some md)(hc:c < 2000)(h:∀ st',Ke [] st st'->Q (.bytes (qH md.data a (min c (z.size - a)))) st'):w.C (n + 6) 714 [.ref v,.int k,.int a,.int c] st Q X:=by
 have e:=aiY c z.size a
 refine w.h (dB (Gv (dh.mpr (aO a))) (dB (Gv (dh.mpr (aO c))) (dB (qX rfl) (dV (aU hv rfl) (dG (o7 r hz fun s1 j k1 nj hj=>?_)))))); o_shape
 exact dV (aU hj rfl) (dV (aU (k1.rE hv) rfl) (dN (aX (r.ke k1).hi rfl) (dV (fP rfl) (dV (fP (congrArg (fun z=>some (V.int z)) e)) (dG (Np (r.ke k1) g (aA (mW _ _) hc) (h s1 k1)))))))
omit r hv in
theorem Zo{k:Nat}{a c:Int}(hb:a < 0∨c < 0)(h:X 99 st):w.C (n + 6) 714 [.ref v,.int k,.int a,.int c] st Q X:=by
 refine w.h ?_
 by_cases q:a < 0
 ·exact dB (Y9 q) (dB (zX q) h)
 ·exact dB (Gv q) (dB (Y9 (hb.resolve_left q)) (dB (zX (hb.resolve_left q)) h))
end
end
section
variable{w:Wm gF}
def arE(σ:Ms)(st:St)(Q:Po)(X:Ex)(a c:Int):Nat ⊕ Nat->Prop
 | .inr C=>∀ st',Ke [] st st'->X C st'
 | .inl k=>∃ z,kj σ k z/\(z.sort=1/\(∀ st',Ke [] st st'->X 147 st')∨z.sort≠1/\(a < 0∨c < 0)/\(∀ st',Ke [] st st'->X 99 st')∨
  z.sort≠1/\∃ (a' c':Nat) (md:Md),a=a'/\c=c'/\c' < 2000/\σ.get k=some md/\∀ st',Ke [] st st'->Q (.bytes (qH md.data a' (min c' (z.size - a')))) st')
def arF(σ:Ms)(st:St)(Q:Po)(X:Ex):Nat ⊕ Nat->Prop
 | .inr C=>∀ st',Ke [] st st'->X C st'
 | .inl k=>∃ z,kj σ k z/\(z.sort≠1/\(∀ st',Ke [] st st'->X 135 st')∨z.sort=1/\∃ rs,Oe σ k rs/\∀ st' v,Ke [] st st'->Q v st')
def arG(σ:Ms)(st:St)(Q:Po)(X:Ex):Nat ⊕ Nat->Prop
 | .inr C=>∀ st',Ke [] st st'->X C st'
 | .inl k=>∃ z,kj σ k z/\(z.sort≠2/\(∀ st',Ke [] st st'->X 99 st')∨z.sort=2/\∃ t,IsL σ k t/\∀ st',Ke [] st st'->Q (.str t) st')
theorem cst{a b:Nat}(h:a=b):(a:Int)=b:=congrArg (fun n:Nat=>(n:Int)) h
theorem Wo{a p:List Nat}(h:p.length < 1000)(ha:a.length < 1000):a.length + p.length<=lim:=ak (fY (bH ha) (bH h)) (bl rfl)
section
variable{n m v fC:Nat}{st:St}{Q:Po}{X:Ex}{σ:Ms}{p:List Nat}{res:Nat ⊕ Nat}(r:Rep σ st)(hv:Is st v (vwO σ.i fC))(hl:p.length < 1000)(hp:(eH p).length < 100)
include r hv hl hp
theorem CG{a c:Int}(wk:uM σ fC true fC (eH p) 0 m res)(h:arE σ st Q X a c res):w.C (n + 10) 721 [.ref v,.str p,.int a,.int c] st Q X:=by
 refine w.h (dN (aX hv rfl) (dG (Bk r hv hl hp wk ?_)))
 cases res with
 | inr C=>exact fun s1 k1=>h s1 k1
 | inl k=>
  obtain⟨z,hz,h⟩:=h
  intro s1 k1; o_shape
  refine dV (aU (k1.rE hv) rfl) (dG (o7 (r.ke k1) hz fun s2 j k2 nj hj=>?_)); o_shape
  have k12:=k1.trans k2
  refine dV (aU hj rfl) ?_
  rcases h with⟨hs,h⟩ | ⟨hs,hb,h⟩ | ⟨hs,a,c,md,rfl,rfl,hc,g,h⟩
  ·exact dB (zX (cst hs)) (dV (iD (Wo hl (bl rfl))) (h s2 k12))
  ·exact dB (G5 (qJ (b:=1) hs)) (dN (aX (k12.rE hv) rfl) (dG (Zo hb (h s2 k12))))
  ·exact dB (G5 (qJ (b:=1) hs)) (dN (aX (k12.rE hv) rfl) (dG (QK (r.ke k12) (k12.rE hv) hz g hc fun s3 k3=>h s3 (k12.trans k3))))
theorem GK(wk:uM σ fC true fC (eH p) 0 m res)(h:arF σ st Q X res):w.C (n + 10) 733 [.ref v,.str p] st Q X:=by
 refine w.h (dN (aX hv rfl) (dG (Bk r hv hl hp wk ?_)))
 cases res with
 | inr C=>exact fun s1 k1=>h s1 k1
 | inl k=>
  obtain⟨z,hz,h⟩:=h
  intro s1 k1; o_shape
  refine dV (aU (k1.rE hv) rfl) (dG (o7 (r.ke k1) hz fun s2 j k2 nj hj=>?_)); o_shape
  have k12:=k1.trans k2
  refine dV (aU hj rfl) ?_
  rcases h with⟨hs,h⟩ | ⟨hs,rs,d,h⟩
  ·exact dB (afF (qJ (b:=1) hs)) (dV (iD (Wo hl (bl rfl))) (h s2 k12))
  ·exact dB (Pb (cst hs)) (dV (aU (k12.rE hv) rfl) (dG (Zj (r.ke k12) d fun s3 rs' hr k3=>dL (fP rfl) (dG (qD (fun r:Row=>.str r.1) rfl (aG hr (bl rfl)) (fun c J K hK=>hK) (h s3 _ (k12.trans k3)))))))
theorem Io(wk:uM σ fC false fC (eH p) 0 m res)(h:arG σ st Q X res):w.C (n + 10) 728 [.ref v,.str p] st Q X:=by
 refine w.h (dN (aX hv rfl) (dG (Kg r hv hl hp wk ?_)))
 cases res with
 | inr C=>exact fun s1 k1=>h s1 k1
 | inl k=>
  obtain⟨z,hz,h⟩:=h
  intro s1 k1; o_shape
  refine dV (aU (k1.rE hv) rfl) (dG (o7 (r.ke k1) hz fun s2 j k2 nj hj=>?_)); o_shape
  have k12:=k1.trans k2
  refine dV (aU hj rfl) ?_
  rcases h with⟨hs,h⟩ | ⟨hs,t,l,h⟩
  ·exact dB (afF (qJ (b:=2) hs)) (dV (iD (Wo hl (bl rfl))) (h s2 k12))
  ·exact dB (Pb (cst hs)) (dV (aU (k12.rE hv) rfl) (dG (Bh (r.ke k12) l fun s3 k3=>h s3 (k12.trans k3))))
end
end
section
variable{w:Wm gF}
structure Cg(σ cJ:Ms)(L:List Nat):Prop where
 i:cJ.i=σ.i
 sh:cJ.sh=σ.sh
 d:cJ.d=σ.d
 o:cJ.o=σ.o
 g:∀ j,j∉L->cJ.get j=σ.get j
noncomputable def Ms.ks(σ:Ms):List Nat:=σ.obs.map fun p=>p.1
theorem Cg.rfl{σ:Ms}{L:List Nat}:Cg σ σ L:=⟨Eq.refl _,Eq.refl _,Eq.refl _,Eq.refl _,fun J J=>Eq.refl _⟩
theorem Cg.trans{a b c:Ms}{L M:List Nat}(h:Cg a b L)(k:Cg b c M):Cg a c (L++M):=
 ⟨k.i.trans h.i,k.sh.trans h.sh,k.d.trans h.d,k.o.trans h.o,fun j n=>(k.g j fun m=>n (cT _ m)).trans (h.g j fun m=>n (nW _ m))⟩
theorem Cg.mono{a b:Ms}{L M:List Nat}(h:Cg a b L)(s:∀ x∈L,x∈M):Cg a b M:=⟨h.i,h.sh,h.d,h.o,fun j n=>h.g j fun m=>n (s j m)⟩
theorem ne1{j k:Nat}(n:j∉[k]):¬ j=k:=fun e=>n (e▸.head _)
theorem Cg.upd{σ:Ms}{k:Nat}{f:Md->Md}:Cg σ (σ.upd k f) [k]:=⟨Eq.refl _,Eq.refl _,Eq.refl _,Eq.refl _,fun j n=>(Tq σ k j f).trans (if_neg (ne1 n))⟩
theorem Bl{σ:Ms}{k:Nat}{m:Md}{f:Md->Md}(g:σ.get k=some m):(σ.upd k f).get k=some (f m):=Wa g
theorem Cg.G6{σ:Ms}{k:Nat}{l:List UInt8}{z:Int}:Cg σ (G6 σ k l z) [k]:=(Cg.upd.trans Cg.upd).mono fun J h=>(fZ.mp h).elim id id
theorem yQ{σ:Ms}{k:Nat}{m:Md}{l:List UInt8}{z:Int}(g:σ.get k=some m):(G6 σ k l z).get k=some (wM z (wD l m)):=Bl (Bl g)
theorem Cg.add{σ:Ms}{st:St}(r:Rep σ st){a k b:Nat}{l:List UInt8}:Cg σ (σ.add a k b l) [σ.top + 1]:=⟨Eq.refl _,Eq.refl _,Eq.refl _,Eq.refl _,fun j n=>(Kf r ..).trans (if_neg (ne1 n))⟩
theorem wH(k j:Nat)(n:j≠k):∀ l:List (Nat×Md),(l.filter fun p=> !(p.1==k)).lookup j=l.lookup j
 | []=>Eq.refl _
 | p::r=>by
  rw[dY,aM]
  by_cases e:p.1=k
  ·rw[show(!(p.1==k))=false by rw[beq_iff_eq.mpr e]; exact Eq.refl _,if_neg bC,wH k j n r,show(j==p.1)=false from beq_eq_false_iff_ne.mpr fun q=>n (q.trans e)]
  ·rw[show(!(p.1==k))=true by rw[beq_eq_false_iff_ne.mpr e]; exact Eq.refl _,if_pos (Eq.refl _),aM,wH k j n r]
theorem ai1(σ:Ms)(k j:Nat)(n:j≠k):(σ.del k).get j=σ.get j:=wH k j n σ.obs
theorem Cg.del{σ:Ms}{k:Nat}:Cg σ (σ.del k) [k]:=⟨Eq.refl _,Eq.refl _,Eq.refl _,Eq.refl _,fun j n=>ai1 σ k j (ne1 n)⟩
theorem rI{σ:Ms}{k:Nat}{f:Md->Md}:(σ.upd k f).ks=σ.ks:=Ii _ _ _
theorem Ew{σ:Ms}{k:Nat}{l:List UInt8}{z:Int}:(G6 σ k l z).ks=σ.ks:=rI.trans rI
theorem agc{σ:Ms}{a k b:Nat}{l:List UInt8}:(σ.add a k b l).ks=σ.ks++[σ.top + 1]:=cu
theorem agd{σ:Ms}{k:Nat}:(σ.del k).ks=σ.ks.filter fun j=> !(j==k):=by
 show(σ.obs.filter _).map _=(σ.obs.map _).filter _
 rw[zJ]; exact Eq.refl _
noncomputable def alU(x:O):Bool:= !(dF 0 (tg x) || dF 1056 (tg x) || dF 470 (tg x) || dF 957 (tg x))
theorem Rep.outD{σ:Ms}{st:St}(r:Rep σ st){j:Nat}{x:O}(h:Is st j x)(t:(dF 1056 (tg x) || dF 470 (tg x) || dF 957 (tg x))=false)(d:j≠σ.d)(o:j≠σ.o):j∉σ.A:=fun hm=>by
 rw[lA,lA] at t
 have e:∀ {i:Nat} {y:O},Is st i y->dF (tg y) (tg x)=false->j=i->False:=fun g n q=>afM n (aC ((q▸h:Is st _ x).symm.trans g))
 rcases aY.mp hm with q | hm
 ·exact e r.hi t.1.1 q
 rcases aY.mp hm with q | hm
 ·exact e r.hsh t.1.2 q
 rcases aY.mp hm with q | hm
 ·exact d q
 rcases aY.mp hm with q | hm
 ·exact o q
 obtain⟨p,hp,q⟩:=fX.mp hm
 exact e (r.hn p hp) t.2 q.symm
theorem Rep.out{σ:Ms}{st:St}(r:Rep σ st){j:Nat}{x:O}(h:Is st j x)(t:alU x=true):j∉σ.A:=by
 unfold alU at t
 rw[gB,lA,lA,lA] at t
 have e:∀ {i:Nat} {y:O},Is st i y->dF (tg y) (tg x)=false->j≠i:=fun g n q=>afM n (aC ((q▸h:Is st _ x).symm.trans g))
 exact r.outD h (by rw[t.1.1.2,t.1.2,t.2]; exact Eq.refl _) (e r.hd t.1.1.1) (e r.ho t.1.1.1)
structure Tr where
 t:Nat
 v:Nat
 od:Nat
 now:Nat
 op:List (Nat×Nat)
noncomputable def Kh(l:List (Nat×Nat)):List (V×V):=l.map fun p=>(.int p.1,.int p.2)
noncomputable def ftF(T:Tr)(i:Nat):List (Nat×V):=[(39,.ref i),(40,.int T.now),(41,.ref T.v),(42,.int 3),(43,.ref T.od)]
noncomputable def ftO(T:Tr)(i:Nat):O:=.inst 933 (ftF T i)
structure TR(T:Tr)(σ:Ms)(st:St):Prop where
 r:Rep σ st
 t:Is st T.t (ftO T σ.i)
 v:Is st T.v (vwO σ.i 2)
 od:Is st T.od (.dict (Kh T.op))
 nd:T.od≠σ.d
 no:T.od≠σ.o
theorem TR.out{T:Tr}{σ:Ms}{st:St}(h:TR T σ st):T.t∉σ.A/\T.v∉σ.A/\T.od∉σ.A:=⟨h.r.out h.t rfl,h.r.out h.v rfl,h.r.outD h.od rfl h.nd h.no⟩
structure Mv(σ:Ms)(st:St)(cJ:Ms)(st':St)(L:List Nat):Prop where
 c:Cg σ cJ L
 k:Ke σ.A st st'
 a:∀ j∈cJ.A,j∈σ.A∨No st j
 r:Rep cJ st'
section
variable{σ cJ ao4:Ms}{a b c:St}{L M:List Nat}{j k:Nat}{x:O}
theorem Mv.trans(h:Mv σ a cJ b L)(k:Mv cJ b ao4 c M):Mv σ a ao4 c (L++M) where
 c:=h.c.trans k.c
 k:=fun j x n e=>k.k j x (fun m=>(h.a j m).elim n (vC e)) (h.k j x n e)
 a:=fun j m=>(k.a j m).elim (h.a j) fun q=>Classical.byCases Or.inl fun hm=>.inr (h.k.miss hm q)
 r:=k.r
theorem Mv.mono(h:Mv σ a cJ b L)(s:∀ x∈L,x∈M):Mv σ a cJ b M:=⟨h.c.mono s,h.k,h.a,h.r⟩
theorem Mv.ke(r:Rep σ a)(k:Ke [] a b):Mv σ a σ b []:=⟨.rfl,k.mono nofun,fun J m=>.inl m,r.ke k⟩
theorem Mv.pre(k:Ke [] a b)(h:Mv σ b cJ c L):Mv σ a cJ c L:=⟨h.c,k.pre h.k,fun j m=>(h.a j m).imp_right k.V0,h.r⟩
theorem Mv.post(h:Mv σ a cJ b L)(k:Ke [] b c):Mv σ a cJ c L:=⟨h.c,h.k.post k,h.a,h.r.ke k⟩
theorem agf{f:Md->Md}(fa:∀ m,(f m).a=m.a):(σ.upd k f).A=σ.A:=by
 show _::_::_::_::xQ _ (wF σ.obs k f)=_
 rw[Ij fa]; exact Eq.refl _
theorem ake{l:List UInt8}{z:Int}:(Mine.Internal.S.G6 σ k l z).A=σ.A:=(agf (f:=wM z) fun J=>Eq.refl _).trans (agf (f:=wD l) fun J=>Eq.refl _)
theorem Mv.upd{f:Md->Md}(fa:∀ m,(f m).a=m.a)(r:Rep (σ.upd k f) b)(h:Ke σ.A a b):Mv σ a (σ.upd k f) b [k]:=⟨.upd,h,fun j m=>.inl (agf fa▸m),r⟩
theorem Mv.G6{l:List UInt8}{z:Int}(r:Rep (G6 σ k l z) b)(h:Ke σ.A a b):Mv σ a (G6 σ k l z) b [k]:=⟨.G6,h,fun j m=>.inl (ake (l:=l) (z:=z)▸m),r⟩
theorem Mv.add{x k e:Nat}{l:List UInt8}(r:Rep σ a)(h:Ke σ.A a b)(n:No a x)(r':Rep (σ.add x k e l) b):Mv σ a (σ.add x k e l) b [σ.top + 1]:=⟨.add r,h,fun j m=>by
 rw[af7] at m
 exact(fZ.mp m).imp id fun m=>(aN.mp m:j=x)▸n,r'⟩
theorem Mv.del(h:Ke σ.A a b)(r:Rep (σ.del k) b):Mv σ a (σ.del k) b [k]:=⟨.del,h,fun j m=>.inl (List.Sublist.subset (((((pq.map (fun p:Nat×Md=>p.2.a)).cons_cons σ.o).cons_cons σ.d).cons_cons σ.sh).cons_cons σ.i) m),r⟩
theorem Mv.out(h:Mv σ a cJ b L)(r:Rep σ a)(e:Is a j x)(t:alU x=true):Is b j x:=h.k j x (r.out e t) e
theorem Mv.lst{l:List V}(h:Mv σ a cJ b L)(r:Rep σ a)(e:Is a j (.list l)):Is b j (.list l):=h.out r e rfl
theorem TR.mv{T:Tr}(h:TR T σ a)(m:Mv σ a cJ b L):TR T cJ b:=
 ⟨m.r,m.c.i▸m.out h.r h.t rfl,m.c.i▸m.out h.r h.v rfl,m.k _ _ (h.r.outD h.od rfl h.nd h.no) h.od,m.c.d▸h.nd,m.c.o▸h.no⟩
theorem TR.ke{T:Tr}(h:TR T σ a)(k:Ke [] a b):TR T σ b:=h.mv (Mv.ke h.r k)
theorem kj.mv{z:Zn}(h:kj σ k z)(c:Cg σ cJ L)(n:k∉L):kj cJ k z:=by unfold kj; rw[c.g k n]; exact h
def Dir(σ:Ms)(k:Nat)(rs:List Row):Prop:=∃ rs':List Row,rs'.Perm rs/\Oe σ k rs'
theorem Dir.mv{rs:List Row}(h:Dir σ k rs)(c:Cg σ cJ L)(n:k∉L):Dir cJ k rs:=by unfold Dir Oe; rw[c.g k n]; exact h
def Dat(σ:Ms)(k b:Nat)(f:Nat->UInt8):Prop:=∃ m,σ.get k=some m/\m.block=32/\m.data.length<=b/\∀ i,m.data.getD i 0=f i
theorem Dat.mv{b:Nat}{f:Nat->UInt8}(h:Dat σ k b f)(c:Cg σ cJ L)(n:k∉L):Dat cJ k b f:=by unfold Dat; rw[c.g k n]; exact h
theorem kj.wz{z z':Zn}(h:kj σ k z)(o:QF z'):kj (σ.upd k (wB (oJ z'))) k z':=h.2.elim fun J q=>⟨o,_,Bl q.1,Eq.refl _⟩
theorem agg{l:List UInt8}{m:Md}(g:σ.get j=some m):∃ m',(σ.upd k (wB l)).get j=some m'/\m'.block=m.block/\m'.data=m.data:=by
 by_cases e:j=k
 ·subst e; exact⟨_,Bl g,Eq.refl _,Eq.refl _⟩
 ·exact⟨m,(Tq σ k j _).trans ((if_neg e).trans g),Eq.refl _,Eq.refl _⟩
theorem Dir.wz{rs:List Row}{l:List UInt8}(h:Dir σ j rs):Dir (σ.upd k (wB l)) j rs:=h.elim fun rs' p=>p.2.2.elim fun J q=>(agg q.1).elim fun m' g=>⟨rs',p.1,p.2.1,m',g.1,g.2.1.trans q.2.1,g.2.2.trans q.2.2⟩
theorem Dat.wz{b:Nat}{f:Nat->UInt8}{l:List UInt8}(h:Dat σ j b f):Dat (σ.upd k (wB l)) j b f:=h.elim fun J q=>(agg q.1).elim fun m' g=>⟨m',g.1,g.2.1.trans q.2.1,g.2.2.symm▸q.2.2⟩
theorem kj.wd{z:Zn}{l:List UInt8}{x:Int}(h:kj σ j z):kj (G6 σ k l x) j z:=h.2.elim fun m q=>by
 by_cases e:j=k
 ·subst e; exact⟨h.1,_,yQ q.1,q.2⟩
 ·exact h.mv .G6 fun hm=>e (aN.mp hm)
end
section
variable{n k lk sz:Nat}{v:V}{st:St}{Q:Po}{X:Ex}{σ:Ms}{T:Tr}{z:Zn}{dl:Int}(t:TR T σ st)(hz:kj σ k z)
include t hz
theorem Wq{s1:St}{j:Nat}(k1:Ke [] st s1)(nj:No st j)(hj:Is s1 j (yL z)){z2:Zn}(hj2:Is (s1.set j (yL z2)) j (yL z2))(ok:QF {z2 with changed:=T.now})
  (h:∀ st' j,Mv σ st (σ.upd k (wB (oJ {z2 with changed:=T.now}))) st' [k]->Is st' j (yL {z2 with changed:=T.now})->Q (.ref j) st'):
  den (tC (E gF (w.C (n + 5)) 22) (uy.body.drop 3) [some (.ref T.t),some (.int k),some (.int dl),some v,some (.ref j)] (s1.set j (yL z2)) (fun fl J st=>.leaf (Q (qe fl) st)) fun c st=>.leaf (X c st)):=by
 have nt:∀ {o:O},Is (s1.set j o) T.t (ftO T σ.i):=bZ hj (t.ke k1).t rfl
 have k2:∀ {o:O},Ke [] st (s1.set j o):=k1.own .set nj
 refine hz.2.elim fun m q=>?_
 have hj3:Is (s1.set j (yL {z2 with changed:=T.now})) j _:=fQ hj
 refine dV (aU nt rfl) (dP (kE (dJ hj2 rfl rfl) (qU (yL z2) (b:=yL {z2 with changed:=T.now}))) (dV (aU nt rfl) (dG (Wf (t.r.ke k2) q.1 hj3 ok fun s3 r3 k3=>?_))))
 exact h s3 j (.upd (fun J=>rfl) r3 (k2.pre k3)) (k3 j _ ((t.r.ke k2).out hj3 rfl) hj3)
theorem NP(hl:(z.links:Int) + dl=lk)(hv:v=.none/\sz=z.size∨v=.int sz)(ok:QF {z with links:=lk,size:=sz,changed:=T.now})
  (h:∀ st' j,Mv σ st (σ.upd k (wB (oJ {z with links:=lk,size:=sz,changed:=T.now}))) st' [k]->Is st' j (yL {z with links:=lk,size:=sz,changed:=T.now})->Q (.ref j) st'):den (run gF (w.C (n + 5)) 790 [.ref T.t,.int k,.int dl,v] st Q X):=by
 refine dV (aU t.t rfl) (dG (o7 t.r hz fun s1 j k1 nj hj=>?_)); o_shape
 have e:s1.set j (.inst 607 (pC (znF z) 30 (.int ((z.links:Int) + dl))))=s1.set j (yL {z with links:=lk}):=congrArg (fun v=>s1.set j (.inst 607 (pC (znF z) 30 (.int v)))) hl
 have hj1:Is (s1.set j (yL {z with links:=lk})) j _:=fQ hj
 have tl:=Wq (w:=w) (n:=n) (v:=v) (dl:=dl) (X:=X) t hz k1 nj hj (z2:={z with links:=lk,size:=sz}) (fQ hj) ok h
 refine dV (aU hj rfl) (dP (kE (dJ hj rfl rfl) e) ?_)
 rcases hv with⟨rfl,rfl⟩ | rfl
 ·exact dV (fP rfl) (dB (qx rfl) (dV (aU hj1 rfl) (dP (kE (dJ hj1 rfl rfl) (qU (yL {z with links:=lk}) (b:=yL {z with links:=lk}))) tl)))
 ·exact dV (fP rfl) (dB (qX rfl) (dP (kE (dJ hj1 rfl rfl) (qU (yL {z with links:=lk}) (b:=yL {z with links:=lk,size:=sz}))) tl))
theorem CK(hl:(z.links:Int) + dl=lk)(ok:QF {z with links:=lk,changed:=T.now})
  (h:∀ st' j,Mv σ st (σ.upd k (wB (oJ {z with links:=lk,changed:=T.now}))) st' [k]->Is st' j (yL {z with links:=lk,changed:=T.now})->Q (.ref j) st'):w.C (n + 6) 790 [.ref T.t,.int k,.int dl] st Q X:=
 w.h (NP (sz:=z.size) t hz hl (.inl ⟨rfl,rfl⟩) ok h)
theorem CN(ok:QF {z with size:=sz,changed:=T.now})
  (h:∀ st' j,Mv σ st (σ.upd k (wB (oJ {z with size:=sz,changed:=T.now}))) st' [k]->Is st' j (yL {z with size:=sz,changed:=T.now})->Q (.ref j) st'):w.C (n + 6) 790 [.ref T.t,.int k,.int 0,.int sz] st Q X:=
 w.h (NP (lk:=z.links) (sz:=sz) t hz (Int.add_zero _) (.inr rfl) ok h)
end
end
section
variable{w:Wm gF}
section
variable{n t:Nat}{m:Int}{st:St}{Q:Po}{X:Ex}
theorem Tv(h0:0<=m)(h1:m<=65535)(h:Q .none st):w.C (n + 1) 804 [.ref t,.int m] st Q X:=w.h (dB (zX h0) (dB (Pb h1) h))
theorem wI(h0:m < 0∨65535 < m)(h:X 99 st):w.C (n + 1) 804 [.ref t,.int m] st Q X:=by
 refine w.h ?_
 by_cases q:0<=m
 ·exact dB (zX q) (dB (afF (nT.mpr (h0.resolve_left (dh.mpr q)))) h)
 ·exact dB (G5 q) (dB (qx rfl) h)
theorem rW{m:Nat}(h1:m<=65535)(h:Q .none st):w.C (n + 1) 804 [.ref t,.int m] st Q X:=Tv (aO m) (dU h1) h
end
theorem Ip:∀ {a b:List Row},a.Perm b->(a.map fun r=>r.1).Nodup->∀ s,a.lookup s=b.lookup s:=by
 intro a b p
 induction p with
 | nil=>intro _ s; rfl
 | cons x p ih=>
  intro nd s
  rw[fH,dj] at nd
  rw[aM,aM,ih nd.2]
 | swap x y l=>
  intro nd s
  rw[fH,fH,dj] at nd
  have:y.1≠x.1:=fun e=>nd.1 (e▸.head _)
  rw[aM,aM,aM,aM]
  cases e1:s==y.1 with
  | false=>rfl
  | true=>rw[show(s==x.1)=false from beq_eq_false_iff_ne.mpr fun e=>this ((eq_of_beq e1).symm.trans e)]
 | trans p q ih1 ih2=>
  intro nd s
  rw[ih1 nd,ih2 ((p.map _).nodup_iff.mp nd)]
theorem Dir.look{σ:Ms}{k:Nat}{rs:List Row}(d:Dir σ k rs):∃ rs':List Row,rs'.length=rs.length/\Oe σ k rs'/\∀ s,rs'.lookup s=rs.lookup s:=
 d.elim fun rs' p=>⟨rs',p.1.length_eq,p.2,Ip p.1 p.2.1.nd⟩
theorem CP{s:List Nat}:∀ {rs:List Row},rs.lookup s=none->uL rs s=rs
 | [],_=>rfl
 | (x,v)::rs,h=>by
  rw[aM] at h
  cases q:s==x with
  | true=>rw[q] at h; cases h
  | false=>
   rw[q] at h
   unfold uL
   rw[dY,show(!decide ((x,v).1=s))=true by rw[decide_eq_false fun e=>(beq_eq_false_iff_ne.mp q) e.symm]; rfl,if_pos rfl]
   exact congrArg _ (CP h)
theorem Ir{a b:List Row}(p:a.Perm b)(s:List Nat):(uL a s).Perm (uL b s):=p.filter _
theorem QL{a b:List Row}(p:a.Perm b)(s:List Nat)(x:Nat):(Ik a s x).Perm (Ik b s x):=(Ir p s).append_right _
structure Plc(σ:Ms)(p:List Nat)(f:Nat)(s:List Nat):Prop where
 a:∀ {w:Wm gF} {n:Nat} {st:St} {Q:Po} {X:Ex},Rep σ st->(∀ st',Ke [] st st'->Q (.tup [.int f,.str s]) st')->w.C (n + 9) 677 [.ref σ.i,.int (2:Nat),.str p] st Q X
 l:p.length < 900
 nm:jL s
theorem mV{n:Nat}(h:n < 900):n < 1000:=aG h (bl rfl)
section
variable{n f:Nat}{st:St}{Q:Po}{X:Ex}{σ:Ms}{T:Tr}{p s:List Nat}{rs:List Row}(t:TR T σ st)(pl:Plc σ p f s)(d:Dir σ f rs)
include t pl d
theorem agh(e:rs.lookup s=none)(h:∀ st',Ke [] st st'->Q (.tup [.int f,.str s]) st'):w.C (n + 10) 797 [.ref T.t,.str p] st Q X:=
 d.look.elim fun rs' q=>w.h (dV (aU t.t rfl) (dV (aU t.t rfl) (dV (aU t.v rfl) (dG (pl.a t.r fun s1 k1=>dG (wG pl.nm (dV (aU (t.ke k1).t rfl) (dG (yO (t.r.ke k1) q.2.1 pl.nm fun s2 k2=>by
  rw[q.2.2,e]; exact dV (fP rfl) (dB (qX rfl) (h s2 (k1.trans k2))))))))))))
theorem Zq{v:Nat}(e:rs.lookup s=some v)(h:∀ st',Ke [] st st'->X 87 st'):w.C (n + 10) 797 [.ref T.t,.str p] st Q X:=
 d.look.elim fun rs' q=>w.h (dV (aU t.t rfl) (dV (aU t.t rfl) (dV (aU t.v rfl) (dG (pl.a t.r fun s1 k1=>dG (wG pl.nm (dV (aU (t.ke k1).t rfl) (dG (yO (t.r.ke k1) q.2.1 pl.nm fun s2 k2=>by
  rw[q.2.2,e]; exact dV (fP rfl) (dB (qx rfl) (dV (iD (Wo (mV pl.l) (bl rfl))) (h s2 (k1.trans k2)))))))))))))
omit t pl d in
theorem Wr{k x u:Nat}(r:Rep σ st)(d:Dir σ k rs)(hs:jL s)(e:rs.lookup s=none)(hx:x < 100001)(hu:u < 4)(hk:k < 4294967296)(hn:rs.length < 19)
  (h:∀ st' cJ,Mv σ st cJ st' [k]->cJ.ks=σ.ks->cJ.top=σ.top->Dir cJ k (rs++[(s,x * 4 + u)])->(∀ j z,kj σ j z->kj cJ j z)->Q .none st'):w.C (n + 7) 571 [.ref σ.i,.int k,.str s,.int x,.int u] st Q X:=by
 obtain⟨rs',p,o,m,g,b,d⟩:=d
 have hn:rs'.length < 19:=p.length_eq▸hn
 refine Tt r ⟨o,m,g,b,d⟩ hs hx hu hk hn fun s1 z rs2 p2 r1 k1=>h s1 _ (Mv.G6 r1 k1) Ew rfl ⟨rs2,?_,?_⟩ fun j z h=>h.wd
 ·have p3:=p2.trans (QL p s _)
  unfold Ik at p3; rw[CP e] at p3; exact p3
 ·exact⟨(o.put hs (aK (nY (Nat.mul_le_mul_right 4 (cX hx)) hu) (bl rfl)) hn).perm p2,_,yQ g,b,rfl⟩
end
end
section
variable{w:Wm gF}
theorem Rep.le{σ:Ms}{st:St}(r:Rep σ st){j:Nat}{m:Md}(h:σ.get j=some m):j<=σ.top:=r.kt _ (kO h)
theorem kj.le{σ:Ms}{st:St}{j:Nat}{z:Zn}(h:kj σ j z)(r:Rep σ st):j<=σ.top:=h.2.elim fun J q=>r.le q.1
theorem Dir.le{σ:Ms}{st:St}{j:Nat}{rs:List Row}(h:Dir σ j rs)(r:Rep σ st):j<=σ.top:=h.elim fun J q=>q.2.2.elim fun J q=>r.le q.1
theorem zok{a b c d e f g:Nat}(h1:a<=2)(h2:b < 65536)(h3:c < 4294967296)(h4:d < 65536)(h5:e < 4294967296)(h6:f < 4294967296)(h7:g < 4294967296):QF ⟨a,b,c,d,e,f,g⟩:=⟨h1,h2,h3,h4,h5,h6,h7⟩
theorem QF.chg{z:Zn}{l s c:Nat}(h:QF z)(h4:l < 65536)(h3:s < 4294967296)(h7:c < 4294967296):QF {z with links:=l,size:=s,changed:=c}:=⟨h.h1,h.h2,h3,h4,h.h5,h.h6,h7⟩
theorem QF.now{z:Zn}{c:Nat}(h:QF z)(h7:c < 4294967296):QF {z with changed:=c}:=h.chg h.h4 h.h3 h7
theorem vH{f t:Nat}(h:f<=t):f∉[t + 1]:=fun m=>iH t (ak (aR (aN.mp m).symm) h)
theorem CQ{f t:Nat}(h:f<=t):t + 1∉[f]:=fun m=>iH t (ak (aR (aN.mp m)) h)
theorem Ey{x f:Nat}{l:List Nat}(h:x∈[f]):x∈f::l:=aN.mp h▸.head _
theorem NQ{x f t:Nat}(h:x∈[t]):x∈[f,t]:=.tail _ h
theorem qK{x:Nat}{A B L:List Nat}(a:x∈A->x∈L)(b:x∈B->x∈L)(h:x∈A++B):x∈L:=(fZ.mp h).elim a b
theorem yR{n:Nat}(h:n < 100000):n < 4294967296:=aG h (bl rfl)
structure ao5(T:Tr)(σ cJ:Ms)(st st':St)(f u md:Nat)(rs:List Row)(s:List Nat)(zf:Zn):Prop where
 m:Mv σ st cJ st' [f,σ.top + 1]
 ks:cJ.ks=σ.ks++[σ.top + 1]
 top:cJ.top=σ.top + 1
 d:Dir cJ f (rs++[(s,(σ.top + 1) * 4 + u)])
 zf:kj cJ f {zf with changed:=T.now}
 z:kj cJ (σ.top + 1) ⟨u,md,0,1,f,T.now,T.now⟩
 dat:Dat cJ (σ.top + 1) 0 fun J=>0
section
variable{n f u md:Nat}{st:St}{Q:Po}{X:Ex}{σ:Ms}{T:Tr}{p s:List Nat}{rs:List Row}{zf:Zn}(t:TR T σ st)
include t
theorem JB(pl:Plc σ p f s)(d:Dir σ f rs)(e:rs.lookup s=none)(hn:rs.length < 19)(zz:kj σ f zf)(hu:u<=2)(hmd:md<=65535)(hw:T.now < 100000)(ht:σ.top + 1 < 100000)
  (h:∀ st' cJ,ao5 T σ cJ st st' f u md rs s zf->Q (.int ((σ.top + 1:Nat):Int)) st'):w.C (n + 11) 811 [.ref T.t,.str p,.int u,.int md] st Q X:=by
 have fl:=d.le t.r
 have fk:f < 4294967296:=aA fl (yR (aG (fG _) ht))
 have zo:QF ⟨u,md,0,1,f,T.now,T.now⟩:=zok hu (dM hmd) (bl rfl) (bl rfl) fk (yR hw) (yR hw)
 refine w.h (dN (aX t.t rfl) (dG (rW hmd (dN (aX t.t rfl) (dG (agh t pl d e fun s1 k1=>?_)))))); o_shape
 have t1:=(t.ke k1).t
 refine dV (aU t1 rfl) (dV (aU t1 rfl) (dG (Cv (z:=⟨u,md,0,1,f,T.now,T.now⟩) ?_)))
 have hj:Is (s1++[yL ⟨u,md,0,1,f,T.now,T.now⟩]) s1.length _:=cC
 have k2:Ke [] st (s1++[yL ⟨u,md,0,1,f,T.now,T.now⟩]):=k1.trans .app
 revert hj k2
 generalize s1++[yL ⟨u,md,0,1,f,T.now,T.now⟩]=s2
 intro hj k2
 o_shape
 have t2:=t.ke k2
 refine dV (aU t2.t rfl) (dN (aX t2.r.hi rfl) (dV (aU t2.t rfl) (dV (aU t2.r.hi rfl) (dV (aU t2.r.hsh rfl) (dG (zB hj zo fun s3 k3=>?_)))))); o_shape
 have k3:=k2.trans k3
 refine dG (aiS (b:=32) (t.r.ke k3) (bl rfl) (bl rfl) (bl rfl) ht (aA (aR (Nr _)) (bl rfl)) fun s4 a na r4 k4=>?_)
 have m4:=Mv.pre k3 (Mv.add (t.r.ke k3) k4 na r4)
 have g4:(σ.add a 8 32 (oJ ⟨u,md,0,1,f,T.now,T.now⟩)).get (σ.top + 1)=some ⟨a,8,32, -1,oJ ⟨u,md,0,1,f,T.now,T.now⟩,[]⟩:=(Kf t.r ..).trans (if_pos rfl)
 have z4:kj (σ.add a 8 32 (oJ ⟨u,md,0,1,f,T.now,T.now⟩)) (σ.top + 1) ⟨u,md,0,1,f,T.now,T.now⟩:=⟨zo,_,g4,rfl⟩
 have d4:Dat (σ.add a 8 32 (oJ ⟨u,md,0,1,f,T.now,T.now⟩)) (σ.top + 1) 0 fun J=>0:=⟨_,g4,rfl,bf _,fun J=>rfl⟩
 have T9:(σ.add a 8 32 (oJ ⟨u,md,0,1,f,T.now,T.now⟩)).ks=σ.ks++[σ.top + 1]:=agc
 have QM:(σ.add a 8 32 (oJ ⟨u,md,0,1,f,T.now,T.now⟩)).top=σ.top + 1:=rfl
 clear g4 r4 na k4 hj zo
 revert m4 z4 d4 T9 QM
 generalize σ.add a 8 32 (oJ ⟨u,md,0,1,f,T.now,T.now⟩)=σ4
 intro m4 z4 d4 T9 QM
 o_shape
 have t4:=t.mv m4
 have zf4:=zz.mv m4.c (vH fl)
 refine dV (aU t4.t rfl) (dG (Wr t4.r (d.mv m4.c (vH fl)) pl.nm e (cU ht) (aA hu (bl rfl)) fk hn fun s5 σ5 m5 ks5 tp5 d5 z5=>?_)); o_shape
 have t5:=t4.mv m5
 refine dN (aX t5.t rfl) (dG (CK (lk:=zf.links) t5 (z5 _ _ zf4) (Int.add_zero _) (zf4.1.now (yR hw)) fun s6 j6 m6 J=>h s6 _ ⟨((m4.trans m5).trans m6).mono fun x=>qK (qK NQ Ey) Ey,?_,?_,d5.wz,(z5 _ _ zf4).wz (zf4.1.now (yR hw)),(z5 _ _ z4).mv m6.c (CQ fl),(d4.mv m5.c (CQ fl)).mv m6.c (CQ fl)⟩))
 ·rw[rI,ks5,T9]
 ·exact tp5.trans QM
theorem Tw{u md:Int}(hb:md < 0∨65535 < md)(h:X 99 st):w.C (n + 11) 811 [.ref T.t,.str p,.int u,.int md] st Q X:=w.h (dN (aX t.t rfl) (dG (wI hb h)))
theorem J0{v:Nat}{u:Int}(pl:Plc σ p f s)(d:Dir σ f rs)(e:rs.lookup s=some v)(hmd:md<=65535)(h:∀ st',Ke [] st st'->X 87 st'):w.C (n + 11) 811 [.ref T.t,.str p,.int u,.int md] st Q X:=
 w.h (dN (aX t.t rfl) (dG (rW hmd (dN (aX t.t rfl) (dG (Zq t pl d e h))))))
theorem CT(pl:Plc σ p f s)(d:Dir σ f rs)(e:rs.lookup s=none)(hn:rs.length < 19)(zz:kj σ f zf)(hmd:md<=65535)(hw:T.now < 100000)(ht:σ.top + 1 < 100000)
  (h:∀ st' cJ,ao5 T σ cJ st st' f 0 md rs s zf->Q (.int ((σ.top + 1:Nat):Int)) st'):w.C (n + 12) 818 [.ref T.t,.str p,.int md] st Q X:=
 w.h (dN (aX t.t rfl) (dG (JB (u:=0) t pl d e hn zz (bl rfl) hmd hw ht h)))
theorem Zr{md:Int}(hb:md < 0∨65535 < md)(h:X 99 st):w.C (n + 12) 818 [.ref T.t,.str p,.int md] st Q X:=w.h (dN (aX t.t rfl) (dG (Tw t hb h)))
end
end
section
variable{w:Wm gF}
structure arI(σ cJ:Ms)(st st':St):Prop where
 m:Mv σ st cJ st' [σ.top + 1]
 ks:cJ.ks=σ.ks++[σ.top + 1]
 top:cJ.top=σ.top + 1
 d:Dir cJ (σ.top + 1) []
theorem aaT{n kd:Nat}{st:St}{Q:Po}{X:Ex}{σ:Ms}(r:Rep σ st)(hkd:0 < kd)(ht:σ.top + 1 < 100000)
  (h:∀ st' cJ,arI σ cJ st st'->Q (.int ((σ.top + 1:Nat):Int)) st'):w.C (n + 6) 492 [.ref σ.i,.int kd] st Q X:=
 Zm r hkd ht fun s a z na r' k=>h s _ ⟨⟨((Cg.add r).trans Cg.G6).mono fun x=>qK id id,k,fun j m=>by
  rw[ake,af7] at m
  exact(fZ.mp m).imp id fun m=>(aN.mp m:j=a)▸na,r'⟩,Ew.trans agc,rfl,⟨[],.refl _,.nil,_,yQ ((Kf r ..).trans (if_pos rfl)),rfl,rfl⟩⟩
theorem Iu{n k j:Nat}{st:St}{Q:Po}{X:Ex}{σ:Ms}{m:Md}{z:Zn}(r:Rep σ st)(g:σ.get k=some m)(hj:Is st j (yL z))(hz:QF z)
  (h:∀ st',Mv σ st (σ.upd k (wB (oJ z))) st' [k]->kj (σ.upd k (wB (oJ z))) k z->Q .none st'):w.C (n + 5) 639 [.ref σ.i,.int k,.ref j] st Q X:=
 Wf r g hj hz fun s r' k'=>h s (.upd (fun J=>rfl) r' k') ⟨hz,_,Bl g,rfl⟩
structure arJ(T:Tr)(σ cJ:Ms)(st st':St)(f md:Nat)(rs:List Row)(s:List Nat)(zf:Zn):Prop where
 m:Mv σ st cJ st' [f,σ.top + 1]
 ks:cJ.ks=σ.ks++[σ.top + 1]
 top:cJ.top=σ.top + 1
 d:Dir cJ f (rs++[(s,(σ.top + 1) * 4 + 1)])
 zf:kj cJ f {zf with links:=zf.links + 1,changed:=T.now}
 z:kj cJ (σ.top + 1) ⟨1,md,0,2,f,T.now,T.now⟩
 dz:Dir cJ (σ.top + 1) []
section
variable{n f md:Nat}{st:St}{Q:Po}{X:Ex}{σ:Ms}{T:Tr}{p s:List Nat}{rs:List Row}{zf:Zn}(t:TR T σ st)
include t
theorem JC(pl:Plc σ p f s)(d:Dir σ f rs)(e:rs.lookup s=none)(hn:rs.length < 19)(zz:kj σ f zf)(hl:zf.links < 60000)(hmd:md<=65535)(hw:T.now < 100000)(ht:σ.top + 1 < 100000)
  (h:∀ st' cJ,arJ T σ cJ st st' f md rs s zf->Q (.int ((σ.top + 1:Nat):Int)) st'):w.C (n + 11) 825 [.ref T.t,.str p,.int md] st Q X:=by
 have fl:=d.le t.r
 have fk:f < 4294967296:=aA fl (yR (aG (fG _) ht))
 refine w.h (dN (aX t.t rfl) (dG (rW hmd (dN (aX t.t rfl) (dG (agh t pl d e fun s1 k1=>?_)))))); o_shape
 refine dV (aU (t.ke k1).t rfl) (dG (aaT (kd:=9) (t.r.ke k1) (bl rfl) ht fun s2 vf q2=>?_)); o_shape
 have m2:=Mv.pre k1 q2.m
 have t2:=t.mv m2
 refine dV (aU t2.t rfl) (dV (aU t2.t rfl) (dV (aU t2.t rfl) (dG (Cv (z:=⟨1,md,0,2,f,T.now,T.now⟩) ?_))))
 have hj:Is (s2++[yL ⟨1,md,0,2,f,T.now,T.now⟩]) s2.length _:=cC
 have k3:Ke [] s2 (s2++[yL ⟨1,md,0,2,f,T.now,T.now⟩]):=.app
 revert hj k3
 generalize s2++[yL ⟨1,md,0,2,f,T.now,T.now⟩]=s3
 intro hj k3
 o_shape
 have t3:=t2.ke k3
 obtain⟨rz,pz,oz,mz,gz,bz,dz⟩:=q2.d
 refine dG (Iu t3.r gz hj (zok (bl rfl) (dM hmd) (bl rfl) (bl rfl) fk (yR hw) (yR hw)) fun s4 m4 z4=>?_)
 have d4:=(d.mv m2.c (vH fl)).wz (k:=σ.top + 1) (l:=oJ ⟨1,md,0,2,f,T.now,T.now⟩)
 have zf4:=(zz.mv m2.c (vH fl)).mv m4.c (vH fl)
 have dz4:=q2.d.wz (k:=σ.top + 1) (l:=oJ ⟨1,md,0,2,f,T.now,T.now⟩)
 have T9:(vf.upd (σ.top + 1) (wB (oJ ⟨1,md,0,2,f,T.now,T.now⟩))).ks=_:=rI.trans q2.ks
 have QM:(vf.upd (σ.top + 1) (wB (oJ ⟨1,md,0,2,f,T.now,T.now⟩))).top=_:=q2.top
 clear hj gz
 revert m4 z4 d4 zf4 dz4 T9 QM
 generalize vf.upd (σ.top + 1) (wB (oJ ⟨1,md,0,2,f,T.now,T.now⟩))=σ4
 intro m4 z4 d4 zf4 dz4 T9 QM
 o_shape
 have t4:=t3.mv m4
 refine dV (aU t4.t rfl) (dG (Wr t4.r d4 pl.nm e (cU ht) (bl rfl) fk hn fun s5 σ5 m5 ks5 tp5 d5 z5=>?_)); o_shape
 have t5:=t4.mv m5
 have zo:=zf4.1.chg (l:=zf.links + 1) (s:=zf.size) (c:=T.now) (aG (oO hl) (bl rfl)) zf4.1.h3 (yR hw)
 refine dN (aX t5.t rfl) (dG (CK (lk:=zf.links + 1) t5 (z5 _ _ zf4) rfl zo fun s6 j6 m6 J=>h s6 _ ⟨((((m2.post k3).trans m4).trans m5).trans m6).mono fun x=>qK (qK (qK NQ NQ) Ey) Ey,?_,?_,d5.wz,(z5 _ _ zf4).wz zo,(z5 _ _ z4).mv m6.c (CQ fl),(dz4.mv m5.c (CQ fl)).mv m6.c (CQ fl)⟩))
 ·rw[rI,ks5,T9]
 ·exact tp5.trans QM
theorem Tz{md:Int}(hb:md < 0∨65535 < md)(h:X 99 st):w.C (n + 11) 825 [.ref T.t,.str p,.int md] st Q X:=w.h (dN (aX t.t rfl) (dG (wI hb h)))
end
end
section
variable{w:Wm gF}
theorem agj{α:Type}{a b:List α}{i:Nat}{x:α}(h:i < a.length):(a++b).getD i x=a.getD i x:=by
 rw[aV,aV,gU h]
theorem agk{α:Type}{a b:List α}{i:Nat}{x:α}(h:a.length<=i):(a++b).getD i x=b.getD (i - a.length) x:=by
 rw[aV,aV,gJ h]
theorem Km{α:Type}{a:List α}{i:Nat}{x:α}(h:a.length<=i):a.getD i x=x:=by rw[aV,cR h]; rfl
theorem agl{n i:Nat}:(bQ n (0:UInt8)).getD i 0=0:=by
 rcases yW i n with h | h
 ·rw[aV,List.getElem?_replicate,if_pos h]; rfl
 ·exact Km (ak (aR eY) h)
theorem Zt{l:List UInt8}{n i:Nat}:(l++bQ n 0).getD i 0=l.getD i 0:=by
 rcases yW i l.length with h | h
 ·exact agj h
 ·rw[agk h,agl,Km h]
theorem xK{l:List UInt8}{n i:Nat}(h:i < n):(l.take n).getD i 0=l.getD i 0:=by
 rw[aV,aV,List.getElem?_take_of_lt h]
theorem Iv{l:List UInt8}{n i:Nat}:(l.drop n).getD i 0=l.getD (n + i) 0:=by
 rw[aV,aV,uV]
theorem agm{l:List UInt8}{b i:Nat}:(JZ l b).getD i 0=l.getD i 0:=Zt
noncomputable def rd(f:Nat->UInt8)(a c:Nat):List UInt8:=(fD c).map fun j=>f (a + j)
theorem alX(f:Nat->UInt8)(a c:Nat):(rd f a c).length=c:=by unfold rd; rw[aQ,cM]
theorem Zu{l:List UInt8}{f:Nat->UInt8}{a c:Nat}(n:l.length=c)(h:∀ i,i < c->l.getD i 0=f (a + i)):l=rd f a c:=by
 refine List.ext_getElem (n.trans (alX f a c).symm) fun i h1 h2=>?_
 have e:=h i (n▸h1)
 rw[aV,bF h1] at e
 unfold rd at h2 ⊢
 rw[List.getElem_map,List.getElem_range]; exact e
theorem Zv(l:List UInt8)(a c:Nat):(qH l a c).length=c:=by
 unfold qH; rw[aF,eY]; exact dD (lK _ _)
theorem xM{l:List UInt8}{f:Nat->UInt8}(h:∀ i,l.getD i 0=f i)(a c:Nat):qH l a c=rd f a c:=
 Zu (Zv l a c) fun i hi=>by unfold qH; rw[Zt,xK hi,Iv,h]
theorem TG{l:List UInt8}(f:Nat->UInt8)(h:∀ i,i < l.length->f i=l.getD i 0):rd f 0 l.length=l:=(Zu rfl fun i hi=>by rw[fU,h i hi]).symm
noncomputable def wr(x:List UInt8)(f:Nat->UInt8)(i:Nat):UInt8:=if i < x.length then x.getD i 0 else f i
noncomputable def ct(a:Nat)(f:Nat->UInt8)(i:Nat):UInt8:=if i < a then f i else 0
theorem ai3(l:List UInt8):(JZ l 32).length<=l.length + 32:=by rw[V8 _ _ (bl rfl)]; exact bH (Zg l.length 32 (bl rfl)).2
theorem Dat.G6{σ:Ms}{k:Nat}{m:Md}{l:List UInt8}{z:Int}{b:Nat}{f:Nat->UInt8}(g:σ.get k=some m)(hb:m.block=32)(hl:l.length<=b)(h:∀ i,l.getD i 0=f i):Dat (G6 σ k (JZ l m.block) z) k (b + 32) f:=
 ⟨_,yQ g,hb,ak (hb▸ai3 l) (bU hl 32),fun i=>agm.trans (h i)⟩
section
variable{n k b:Nat}{st:St}{Q:Po}{X:Ex}{σ:Ms}{f:Nat->UInt8}(r:Rep σ st)(d:Dat σ k b f)
include r d
theorem akf{x:List UInt8}(h0:0 < x.length)(hx:x.length<=100)(hb:b<=300)
  (h:∀ st' cJ,Mv σ st cJ st' [k]->cJ.ks=σ.ks->cJ.top=σ.top->Dat cJ k (b + x.length + 32) (wr x f)->(∀ j z,kj σ j z->kj cJ j z)->Q .none st'):w.C (n + 3) 1043 [.ref σ.i,.int k,.int 0,.bytes x] st Q X:=by
 obtain⟨m,g,bl',dl,df⟩:=d
 refine Nq r g h0 ?_ fun s z r' k'=>h s _ (Mv.G6 r' k') Ew rfl (Dat.G6 g bl' ?_ fun i=>?_) fun J J h=>h.wd
 ·exact aA (fY (fY hx (ak dl hb)) (aR bl')) (bl rfl)
 ·rw[aF,jk,fB]; exact bU (ak (jF _ _) dl) _
 ·unfold wr
  by_cases q:i < x.length
  ·rw[if_pos q,agj q]
  ·rw[if_neg q,agk (gP q),Iv,dD (gP q),df]
theorem ao6{a:Nat}(hb:b<=1000)
  (h:∀ st' cJ,Mv σ st cJ st' [k]->cJ.ks=σ.ks->cJ.top=σ.top->Dat cJ k (b + 32) (ct a f)->(∀ j z,kj σ j z->kj cJ j z)->Q .none st'):w.C (n + 3) 1050 [.ref σ.i,.int k,.int a] st Q X:=by
 obtain⟨m,g,bl',dl,df⟩:=d
 refine aiR r g (aA (fY (ak dl hb) (aR bl')) (bl rfl)) (fun ha s z r' k'=>h s _ (Mv.G6 r' k') Ew rfl (Dat.G6 g bl' (ak (sZ _ _) dl) fun i=>?_) fun J J h=>h.wd)
  fun ha=>h st σ ((Mv.ke r .rfl).mono nofun) rfl rfl ⟨m,g,bl',Nat.le_add_right_of_le dl,fun i=>?_⟩ fun J J h=>h
 ·unfold ct
  by_cases q:i < a
  ·rw[if_pos q,xK q,df]
  ·rw[if_neg q,Km (ak (lK _ _) (gP q))]
 ·unfold ct
  by_cases q:i < a
  ·rw[if_pos q,df]
  ·rw[if_neg q,Km (ak ha (gP q))]
end
structure ai4(T:Tr)(σ cJ:Ms)(st st':St)(f:Nat)(g:List Nat)(rs:List Row)(s:List Nat)(zf:Zn):Prop where
 m:Mv σ st cJ st' [f,σ.top + 1]
 ks:cJ.ks=σ.ks++[σ.top + 1]
 top:cJ.top=σ.top + 1
 d:Dir cJ f (rs++[(s,(σ.top + 1) * 4 + 2)])
 zf:kj cJ f {zf with changed:=T.now}
 z:kj cJ (σ.top + 1) ⟨2,0,g.length,1,f,T.now,T.now⟩
 l:IsL cJ (σ.top + 1) g
section
variable{n f:Nat}{st:St}{Q:Po}{X:Ex}{σ:Ms}{T:Tr}{p s g:List Nat}{rs:List Row}{zf:Zn}(t:TR T σ st)(pl:Plc σ p f s)(d:Dir σ f rs)
theorem akg(h0:0 < g.length):¬ tb g=[]:=fun q=>f9 0 (aK h0 (aR ((qF g).symm.trans (congrArg mC q))))
include t pl d
theorem Zw(e:rs.lookup s=none)(hn:rs.length < 19)(zz:kj σ f zf)(hg:rG g)(h0:0 < g.length)(hl:g.length<=100)(hw:T.now < 100000)(ht:σ.top + 1 < 100000)
  (h:∀ st' cJ,ai4 T σ cJ st st' f g rs s zf->Q (.int ((σ.top + 1:Nat):Int)) st'):w.C (n + 12) 832 [.ref T.t,.str p,.str g] st Q X:=by
 have fl:=d.le t.r
 have tl:=qF g
 refine w.h (dG (nO hg (aA hl (bl rfl)) (dV aaI (dB (G5 (akg h0)) (dN (aX t.t rfl) (dG (JB (u:=2) (md:=0) t pl d e hn zz (bl rfl) (bl rfl) hw ht fun s1 σ1 q=>?_))))))); o_shape
 have t1:=t.mv q.m
 refine dV (aU t1.t rfl) (dN (aX t1.r.hi rfl) (dG (akf t1.r q.dat (tl▸h0) (tl▸hl) (bl rfl) fun s2 vf m2 Xe Ua d2 z2=>?_))); o_shape
 have t2:=t1.mv m2
 have zo:=zok (a:=2) (b:=0) (c:=g.length) (d:=1) (e:=f) (f:=T.now) (g:=T.now) (bl rfl) (bl rfl) (aA hl (bl rfl)) (bl rfl) (aA fl (yR (aG (fG _) ht))) (yR hw) (yR hw)
 have zz3:=(z2 _ _ q.z).wz zo
 refine dN (aX t2.t rfl) (dV (Dj (gY (ak (aR tl) (ak hl (bl rfl)))) (congrArg (fun n:Nat=>V.int n) tl)) (dG (CN (sz:=g.length) t2 (z2 _ _ q.z) zo fun s3 j3 m3 J=>h s3 _
  ⟨((q.m.trans m2).trans m3).mono fun x=>qK (qK id NQ) NQ,?_,Ua.trans q.top,(q.d.mv m2.c (vH fl)).mv m3.c (vH fl),(z2 _ _ q.zf).mv m3.c (vH fl),zz3,hg,aA hl (bl rfl),_,zz3,rfl,?_⟩)))
 ·rw[rI,Xe,q.ks]
 ·obtain⟨m,g1,b1,_,df⟩:=d2.wz (k:=σ.top + 1) (l:=oJ ⟨2,0,g.length,1,f,T.now,T.now⟩)
  refine⟨m,g1,?_⟩
  rw[xM df,← tl]
  exact TG _ fun i hi=>if_pos hi
theorem NT{v:Nat}(e:rs.lookup s=some v)(hg:rG g)(h0:0 < g.length)(hl:g.length<=100)(h:∀ st',Ke [] st st'->X 87 st'):w.C (n + 12) 832 [.ref T.t,.str p,.str g] st Q X:=
 w.h (dG (nO hg (aA hl (bl rfl)) (dV aaI (dB (G5 (akg h0)) (dN (aX t.t rfl) (dG (J0 (md:=0) t pl d e (bl rfl) h)))))))
omit t pl d in
theorem Pj{n t:Nat}{st:St}{Q:Po}{X:Ex}{p:List Nat}(h:X 123 st):w.C (n + 12) 832 [.ref t,.str p,.str []] st Q X:=
 w.h (dG (nO (s:=[]) nofun (bl rfl) (dV aaI (dB (zX rfl) h))))
end
end
section
variable{w:Wm gF}
def Iw(σ:Ms)(p:List Nat)(kh:Bool)(res:Nat ⊕ Nat):Prop:=∃ m,p.length < 900/\(eH p).length < 100/\uM σ 2 kh 2 (eH p) 0 m res
theorem ai6(a b:Nat):max (a:Int) (0 + (b:Int))=((max a b:Nat):Int):=by
 rw[tX]
 rcases qR a b with h | h
 ·rw[xW h,rM (dU h)]
 ·rw[zK h,tK (dU h)]
theorem alY{a b c:Nat}(h:a < c)(k:b < c):max a b < c:=by
 rcases qR a b with q | q
 ·rw[xW q]; exact k
 ·rw[zK q]; exact h
theorem agn{c:Nat}(h:c < 4294967296):(c:Int)<=4294967295:=jQ.mpr (cX h)
section
variable{n k b:Nat}{st:St}{Q:Po}{X:Ex}{σ:Ms}{T:Tr}{p:List Nat}{z:Zn}{f:Nat->UInt8}{x:List UInt8}(t:TR T σ st)
include t
section
variable(fd:Iw σ p true (.inl k))(zz:kj σ k z)
include fd zz
theorem uN(hs:z.sort≠1)(h:∀ st',Ke [] st st'->Q (.int k) st'):w.C (n + 10) 846 [.ref T.t,.str p] st Q X:=
 fd.elim fun m q=>w.h (dV (aU t.t rfl) (dN (aX t.v rfl) (dG (Bk t.r t.v (mV q.1) q.2.1 q.2.2 fun s1 k1=>dV (aU (t.ke k1).t rfl) (dG (o7 (t.r.ke k1) zz fun s2 j k2 nj hj=>
  dV (aU hj rfl) (dB (G5 (qJ (b:=1) hs)) (h s2 (k1.trans k2)))))))))
theorem Ws(hs:z.sort=1)(h:∀ st',Ke [] st st'->X 147 st'):w.C (n + 10) 846 [.ref T.t,.str p] st Q X:=
 fd.elim fun m q=>w.h (dV (aU t.t rfl) (dN (aX t.v rfl) (dG (Bk t.r t.v (mV q.1) q.2.1 q.2.2 fun s1 k1=>dV (aU (t.ke k1).t rfl) (dG (o7 (t.r.ke k1) zz fun s2 j k2 nj hj=>
  dV (aU hj rfl) (dB (zX (cst hs)) (dV (iD (Wo (mV q.1) (bl rfl))) (h s2 (k1.trans k2))))))))))
variable(hs:z.sort≠1)
include hs
theorem Wt(d:Dat σ k b f)(hx:x.length<=100)(hb:b<=300)(hw:T.now < 100000)
  (h:∀ st' cJ,Mv σ st cJ st' [k]->cJ.ks=σ.ks->cJ.top=σ.top->Dat cJ k (b + x.length + 32) (wr x f)->kj cJ k {z with size:=max z.size x.length,changed:=if x=[] then z.changed else T.now}->Q .none st'):w.C (n + 11) 853 [.ref T.t,.str p,.int 0,.bytes x] st Q X:=by
 have hl:x.length<=lim:=ak hx (bl rfl)
 refine w.h (dN (aX t.t rfl) (dG (uN t fd zz hs fun s1 k1=>?_))); o_shape
 have t1:=t.ke k1
 refine dB (qx rfl) (dV (gY hl) (dB (Gv (dh.mpr (by rw[tX]; exact dU (ak hx (bl rfl))))) (dB (qX rfl) (dV (gY hl) ?_))))
 by_cases q:x=[]
 ·subst q
  have e:({z with size:=max z.size ([]:List UInt8).length,changed:=if([]:List UInt8)=[] then z.changed else T.now}:Zn)=z:=by rw[if_pos rfl,show max z.size ([]:List UInt8).length=z.size from zK (cL _)]
  obtain⟨m,g,b1,b2,df⟩:=d
  exact dB (qX rfl) (h s1 σ (Mv.mono (Mv.ke t.r k1) nofun) rfl rfl ⟨m,g,b1,ak b2 (bh _ _),df⟩ (by rw[e]; exact zz))
 ·have h0:0 < x.length:=Nat.pos_of_ne_zero fun e=>q (fL e)
  rw[if_neg q] at h
  have zo:=zz.1.chg (l:=z.links) (s:=max z.size x.length) (c:=T.now) zz.1.h4 (alY zz.1.h3 (aA hx (bl rfl))) (yR hw)
  refine dB (zX (jr h0)) (dV (aU t1.t rfl) (dN (aX t1.r.hi rfl) (dG (akf t1.r d h0 hx hb fun s2 vf m2 Xe Ua d2 z2=>?_)))); o_shape
  have t2:=t1.mv m2
  refine dN (aX t2.t rfl) (dV (aU t2.t rfl) (dG (o7 t2.r (z2 _ _ zz) fun s3 j k3 nj hj=>?_))); o_shape
  refine dV (aU hj rfl) (dV (gY hl) (dV (fP (congrArg (fun z=>some (V.int z)) (ai6 z.size x.length))) (dG (CN (sz:=max z.size x.length) (t2.ke k3) (z2 _ _ zz) zo fun s4 j4 m4 J=>
   h s4 _ (((Mv.pre k1 m2).trans (Mv.pre k3 m4)).mono fun x=>qK id id) (rI.trans Xe) Ua d2.wz ((z2 _ _ zz).wz zo)))))
theorem acv{a:Int}(hx:x.length<=100)(ha:a < 0∨4294967295 < a + x.length)(h:∀ st',Ke [] st st'->X 99 st'):w.C (n + 11) 853 [.ref T.t,.str p,.int a,.bytes x] st Q X:=by
 refine w.h (dN (aX t.t rfl) (dG (uN t fd zz hs fun s1 k1=>?_))); o_shape
 by_cases q:a < 0
 ·exact dB (Y9 q) (dB (zX q) (h s1 k1))
 ·have p:=ha.resolve_left q
  exact dB (Gv q) (dV (gY (ak hx (bl rfl))) (dB (Y9 p) (dB (zX p) (h s1 k1))))
theorem Bo{c:Nat}(d:Dat σ k b f)(hb:b<=300)(hc:c < 4294967296)(hw:T.now < 100000)
  (h:∀ st' cJ,Mv σ st cJ st' [k]->cJ.ks=σ.ks->cJ.top=σ.top->Dat cJ k (b + 32) (if c < z.size then ct c f else f)->kj cJ k {z with size:=c,changed:=T.now}->Q .none st'):w.C (n + 11) 860 [.ref T.t,.str p,.int c] st Q X:=by
 refine w.h (dN (aX t.t rfl) (dG (uN t fd zz hs fun s1 k1=>?_))); o_shape
 have t1:=t.ke k1
 refine dB (zX (aO c)) (dB (Pb (agn hc)) (dV (aU t1.t rfl) (dG (o7 t1.r zz fun s2 j k2 nj hj=>?_)))); o_shape
 have t2:=t1.ke k2
 have zo:=zz.1.chg (l:=z.links) (s:=c) (c:=T.now) zz.1.h4 hc (yR hw)
 have k12:=k1.trans k2
 refine dV (aU hj rfl) ?_
 by_cases q:c < z.size
 ·rw[if_pos q] at h
  refine dB (zX (jr q)) (dV (aU t2.t rfl) (dN (aX t2.r.hi rfl) (dG (ao6 t2.r d (ak hb (bl rfl)) fun s3 σ3 m3 ks3 tp3 d3 z3=>?_)))); o_shape
  have t3:=t2.mv m3
  exact dN (aX t3.t rfl) (dG (CN (sz:=c) t3 (z3 _ _ zz) zo fun s4 j4 m4 J=>h s4 _ (((Mv.pre k12 m3).trans m4).mono fun x=>qK id id) (rI.trans ks3) tp3 d3.wz ((z3 _ _ zz).wz zo)))
 ·rw[if_neg q] at h
  obtain⟨m,g,b1,b2,df⟩:=d
  exact dB (G5 fun e=>q (fu.mp e)) (dN (aX t2.t rfl) (dG (CN (sz:=c) t2 zz zo fun s4 j4 m4 J=>h s4 _ (Mv.pre k12 m4) rI rfl (Dat.wz (l:=oJ _) ⟨m,g,b1,ak b2 (bh _ _),df⟩) (zz.wz zo))))
theorem TJ{c:Int}(hc:c < 0∨4294967295 < c)(h:∀ st',Ke [] st st'->X 99 st'):w.C (n + 11) 860 [.ref T.t,.str p,.int c] st Q X:=by
 refine w.h (dN (aX t.t rfl) (dG (uN t fd zz hs fun s1 k1=>?_))); o_shape
 by_cases q:0<=c
 ·exact dB (zX q) (dB (afF (nT.mpr (hc.resolve_left (dh.mpr q)))) (h s1 k1))
 ·exact dB (G5 q) (dB (qx rfl) (h s1 k1))
omit hs in
theorem Wu{md:Nat}(hmd:md<=65535)(hw:T.now < 100000)
  (h:∀ st' cJ,Mv σ st cJ st' [k]->cJ.ks=σ.ks->cJ.top=σ.top->(∀ j rs,Dir σ j rs->Dir cJ j rs)->(∀ j b f,Dat σ j b f->Dat cJ j b f)->kj cJ k {z with mode:=md,changed:=T.now}->Q .none st'):w.C (n + 10) 867 [.ref T.t,.str p,.int md] st Q X:=by
 obtain⟨m,l1,l2,wk⟩:=fd
 have zo:QF {z with mode:=md,changed:=T.now}:=⟨zz.1.h1,dM hmd,zz.1.h3,zz.1.h4,zz.1.h5,zz.1.h6,yR hw⟩
 refine w.h (dN (aX t.t rfl) (dG (rW hmd (dV (aU t.t rfl) (dN (aX t.v rfl) (dG (Bk t.r t.v (mV l1) l2 wk fun s1 k1=>?_))))))); o_shape
 have t1:=t.ke k1
 refine dV (aU t1.t rfl) (dG (o7 t1.r zz fun s2 j k2 nj hj=>?_)); o_shape
 have t2:=t1.ke k2
 obtain⟨zo0,m,g,hb⟩:=zz
 have nj:=k1.V0 nj
 have kk:∀ a,Ke [] st (s2.set j a):=fun a=>(k1.trans k2).own .set nj
 have h1:Is (s2.set j (yL {z with mode:=md})) j _:=fQ hj
 refine dV (aU t2.t rfl) (dP (kE (dJ hj rfl rfl) (rfl:_=s2.set j (yL {z with mode:=md}))) (dP (kE (dJ h1 rfl rfl) (qU (yL {z with mode:=md}) (b:=yL {z with mode:=md,changed:=T.now}))) ?_))
 exact dV (aU (t.ke (kk _)).t rfl) (dG (Iu (z:={z with mode:=md,changed:=T.now}) (t.r.ke (kk _)) g (fQ hj) zo fun s3 m3 z3=>h s3 _ (Mv.pre (kk _) m3) rI rfl (fun J J d=>d.wz) (fun J J J d=>d.wz) z3))
end
theorem TP{md:Int}(hb:md < 0∨65535 < md)(h:X 99 st):w.C (n + 10) 867 [.ref T.t,.str p,.int md] st Q X:=w.h (dN (aX t.t rfl) (dG (wI hb h)))
end
noncomputable def jX(k:Nat):List Nat:=(Nat.toDigits 10 k).map Char.toNat
theorem ago(k:Nat):Aa k=jX k:=by unfold Aa jX; rw[Nat.toString_eq_repr,Nat.toList_repr]
theorem ai7{i:Int}(h0:0<=i)(h1:i < 1000000):aa8 (.int i)=some (.str (Aa i.toNat)):=by
 unfold aa8
 exact if_pos ⟨h0,h1⟩
theorem alZ{k:Nat}(hk:k < 100001):aa8 (.int k)=some (.str (jX k)):=by
 have h:(k:Int) < 1000000:=Int.lt_trans (fu.mpr hk) (by decide)
 rw[ai7 (aO k) h,cH,ago]
theorem al0{α:Type}{f:V->Option α}{v:V}:one f [v]=f v:=rfl
theorem ai8{st:St}{v:V}:JH st .str [v]=one aa8 [v]:=rfl
theorem Dy{k:Nat}{st:St}(hk:k < 100001):stk (JH st .str [.int k])=some (.str (jX k)):=fP ((ai8.trans al0).trans (alZ hk))
end
section
variable{w:Wm gF}
theorem Wv{k c:Nat}(h:c∈jX k):48<=c/\c<=57:=by
 obtain⟨x,hx,rfl⟩:=fX.mp h
 have:=Nat.isDigit_of_mem_toDigits (by decide) (by decide) hx
 unfold Char.isDigit at this
 rw[aL,decide_eq_true_eq,decide_eq_true_eq] at this
 exact⟨this.1,this.2⟩
theorem agp(k:Nat):0 < (jX k).length:=by unfold jX; rw[aQ]; exact Nat.length_toDigits_pos
theorem vJ{k:Nat}(h:k < 1000000):(jX k).length<=6:=by unfold jX; rw[aQ]; exact(Nat.length_toDigits_le_iff (by decide) (by decide)).mpr h
theorem GP{a b:Nat}(h:jX a=jX b):a=b:=by
 have e:Nat.toDigits 10 a=Nat.toDigits 10 b:=(List.map_inj_right fun x y q=>Char.ext (UInt32.toNat_inj.mp q)).mp h
 have:=congrArg (fun l=>Nat.ofDigitChars 10 l 0) e
 simp only[Nat.ofDigitChars_ten_toDigits] at this
 exact this
theorem Dp{l:List Nat}(h:∀ c∈l,48<=c/\c < 127)(h0:0 < l.length)(hl:l.length<=8):jL l:=
 have no:∀ {c},c∈l->¬ c<=47:=fun m e=>iH 47 (ak (h _ m).1 e)
 ⟨fun c m=>⟨ak (bl rfl) (h c m).1,(h c m).2⟩,h0,hl,fun c m e=>no m (aR e),fun e=>no (e▸.head _) (bl rfl:46<=47),fun e=>no (e▸.head _) (bl rfl:46<=47)⟩
theorem GQ{k c:Nat}(m:c∈jX k):48<=c/\c < 127:=⟨(Wv m).1,aA (Wv m).2 (bl rfl)⟩
theorem ai9{k:Nat}(h:k < 1000000):jL (jX k):=Dp (fun J=>GQ) (agp k) (ak (vJ h) (bl rfl))
theorem agq{rs rs' rs2:List Row}{s:List Nat}{x:Nat}(p:rs'.Perm rs)(e:rs.lookup s=none)(p2:rs2.Perm (Ik rs' s x)):rs2.Perm (rs++[(s,x)]):=by
 have p3:=p2.trans (QL p s _)
 unfold Ik at p3; rw[CP e] at p3; exact p3
section
variable{n k x v:Nat}{st:St}{Q:Po}{X:Ex}{σ:Ms}{rs:List Row}{s:List Nat}(r:Rep σ st)(d:Dir σ k rs)
include r d
theorem TV(hs:jL s)(e:rs.lookup s=none)(hx:x < 256 ^ 8)(hk:k < 4294967296)(hn:rs.length < 19)
  (h:∀ st' cJ,Mv σ st cJ st' [k]->cJ.ks=σ.ks->cJ.top=σ.top->Dir cJ k (rs++[(s,x)])->(∀ j z,kj σ j z->kj cJ j z)->Q .none st'):w.C (n + 6) 497 [.ref σ.i,.int k,.str s,.int x] st Q X:=by
 obtain⟨rs',p,o,m,g,b,d⟩:=d
 have hn:rs'.length < 19:=p.length_eq▸hn
 exact Nu r ⟨o,m,g,b,d⟩ hs hx hk hn fun s1 z rs2 p2 r1 k1=>h s1 _ (Mv.G6 r1 k1) Ew rfl ⟨rs2,agq p e p2,(o.put hs hx hn).perm p2,_,yQ g,b,rfl⟩ fun j z h=>h.wd
theorem Ww(e:rs.lookup s=some v)(hk:k < 4294967296)
  (h:∀ st' cJ,Mv σ st cJ st' [k]->cJ.ks=σ.ks->cJ.top=σ.top->Dir cJ k (uL rs s)->(∀ j z,kj σ j z->kj cJ j z)->Q .none st'):w.C (n + 7) 502 [.ref σ.i,.int k,.str s] st Q X:=by
 obtain⟨rs',p,o,m,g,b,d⟩:=d
 exact Jz r ⟨o,m,g,b,d⟩ ((Ip p o.nd s).trans e) hk fun s1 z r1 k1=>h s1 _ (Mv.G6 r1 k1) Ew rfl ⟨_,Ir p s,o.del s,_,yQ g,b,rfl⟩ fun j z h=>h.wd
theorem agr(hs:jL s)(e:rs.lookup s=some v)(hk:k < 4294967296)
  (h:∀ st' cJ,Mv σ st cJ st' [k]->cJ.ks=σ.ks->cJ.top=σ.top->Dir cJ k (uL rs s)->(∀ j z,kj σ j z->kj cJ j z)->Q (.tup [.int ((v / 4:Nat):Int),.int ((v % 4:Nat):Int)]) st'):w.C (n + 8) 578 [.ref σ.i,.int k,.str s] st Q X:=by
 obtain⟨rs',p,o,m,g,b,d⟩:=d
 exact Ph r ⟨o,m,g,b,d⟩ hs ((Ip p o.nd s).trans e) hk fun s1 z r1 k1=>h s1 _ (Mv.G6 r1 k1) Ew rfl ⟨_,Ir p s,o.del s,_,yQ g,b,rfl⟩ fun j z h=>h.wd
end
theorem GR(l:List (Nat×Nat))(k:Nat):mD (Kh l) (.int k)=true:=by
 unfold mD Kh; rw[oM,bx]; intro x _; rfl
theorem Ko(l:List (Nat×Nat))(k:Nat):u9 (Kh l) (.int k)=(l.lookup k).map fun x:Nat=>V.int x:=by
 induction l with
 | nil=>rfl
 | cons p r ih=>
  show(if jA (.int p.1) (.int k) then some (V.int p.2) else u9 (Kh r) (.int k))=_
  rw[vG,aM,ih]
  cases k==p.1 <;> rfl
theorem uO{a b:Nat}(h:a≠b):a∉[b]:=fun m=>h (aN.mp m)
theorem vK{a b c:Nat}(h:a≠b)(k:a≠c):a∉[b,c]:=fun m=>(aY.mp m).elim h (uO k)
section
variable{n k x b:Nat}{st:St}{Q:Po}{X:Ex}{σ:Ms}{T:Tr}{z:Zn}{U:List Row}{f:Nat->UInt8}(t:TR T σ st)(zz:kj σ k z)
include t zz
theorem acw(hl:z.links=1)(ho:T.op.lookup k=some x)(du:Dir σ 3 U)(hu:U.lookup (jX k)=none)(hn:U.length < 19)(h3:k≠3)(dd:Dat σ k b f)(hw:T.now < 100000)(hk:k < 100001)
  (h:∀ st' cJ,Mv σ st cJ st' [k,3]->cJ.ks=σ.ks->cJ.top=σ.top->Dir cJ 3 (U++[(jX k,k)])->kj cJ k {z with links:=0,changed:=T.now}->Dat cJ k b f->Q .none st'):w.C (n + 7) 874 [.ref T.t,.int k] st Q X:=by
 have zo:=zz.1.chg (l:=0) (s:=z.size) (c:=T.now) (bl rfl) zz.1.h3 (yR hw)
 refine w.h (dN (aX t.t rfl) (dG (CK (lk:=0) t zz (by rw[hl]; rfl) zo fun s1 j m1 hj=>?_))); o_shape
 have t1:=t.mv m1
 exact dV (aU hj rfl) (dB (qX rfl) (dV (aU t1.t rfl) (dV (arz t1.od (GR _ _) rfl (vA ((Ko T.op k).trans (congrArg (Option.map _) ho)))) (dB (qx rfl) (dV (aU t1.t rfl) (dV (aU t1.t rfl) (dV (Dy hk)
  (dG (TV (k:=3) t1.r du.wz (ai9 (aG hk (bl rfl))) hu (aK hk (bl rfl)) (bl rfl) hn fun s2 vf m2 Xe Ua d2 z2=>
   h s2 _ (m1.trans m2) (Xe.trans rI) Ua d2 (z2 _ _ (zz.wz zo)) (dd.wz.mv m2.c (uO h3)))))))))))
theorem acy{v:Nat}{p s:List Nat}{rs:List Row}{zf:Zn}(pl:Plc σ p 2 s)(fd:Iw σ p false (.inl k))(d:Dir σ 2 rs)(e:rs.lookup s=some v)(hv:v / 4=k)(zr:kj σ 2 zf)(hs:z.sort≠1)(hl:z.links=1)(ho:T.op.lookup k=some x)
  (du:Dir σ 3 U)(hu:U.lookup (jX k)=none)(hn:U.length < 19)(h3:k≠3)(h2:k≠2)(dd:Dat σ k b f)(hw:T.now < 100000)(hk:k < 100001)
  (h:∀ st' cJ,Mv σ st cJ st' [2,3,k]->cJ.ks=σ.ks->cJ.top=σ.top->Dir cJ 2 (uL rs s)->kj cJ 2 {zf with changed:=T.now}->Dir cJ 3 (U++[(jX k,k)])->kj cJ k {z with links:=0,changed:=T.now}->Dat cJ k b f->Q .none st'):w.C (n + 10) 881 [.ref T.t,.str p] st Q X:=by
 subst hv
 obtain⟨m,l1,l2,wk⟩:=fd
 refine w.h (dV (aU t.t rfl) (dV (aU t.t rfl) (dV (aU t.v rfl) (dG (pl.a t.r fun s1 k1=>?_))))); o_shape
 have t1:=t.ke k1
 refine dV (aU t1.t rfl) (dV (aU t1.t rfl) (dN (aX t1.v rfl) (dG (Kg t1.r t1.v (mV l1) l2 wk fun s2 k2=>dG (o7 (t1.r.ke k2) zz fun s3 j k3 nj hj=>?_))))); o_shape
 have k13:=(k1.trans k2).trans k3
 have t3:=t.ke k13
 refine dV (aU hj rfl) (dB (G5 (qJ (b:=1) hs)) (dV (aU t3.t rfl) (dG (agr (k:=2) t3.r d pl.nm e (bl rfl) fun s4 σ4 m4 T9 QM d4 z4=>?_)))); o_shape
 have t4:=t3.mv m4
 have zo:=zr.1.now (c:=T.now) (yR hw)
 refine dN (aX t4.t rfl) (dG (CK (k:=2) (lk:=zf.links) t4 (z4 _ _ zr) (Int.add_zero _) zo fun s5 j5 m5 J=>?_)); o_shape
 have n2:=uO h2
 have n32:3∉[2]:=uO (by decide)
 have n23:2∉[v / 4,3]:=vK (fun e=>h2 e.symm) (by decide)
 exact dN (aX (t4.mv m5).t rfl) (dG (acw (t4.mv m5) ((z4 _ _ zz).mv m5.c n2) hl ho ((du.mv m4.c n32).mv m5.c n32) hu hn h3 ((dd.mv m4.c n2).mv m5.c n2) hw hk fun s6 σ6 m6 ks6 tp6 d6 z6 dd6=>
  h s6 σ6 ((((Mv.pre k13 m4).trans m5).trans m6).mono fun x=>qK (qK Ey Ey) fun m=>(aY.mp m).elim (fun e=>e▸.tail _ (.tail _ (.head _))) fun m=>aN.mp m▸.tail _ (.head _)) ((ks6.trans rI).trans T9) (tp6.trans QM) (d4.wz.mv m6.c n23) (((z4 _ _ zr).wz zo).mv m6.c n23) d6 z6 dd6))
end
end
section
variable{w:Wm gF}
theorem QS(k:Int):jA (.int k) (.int k)=true:=decide_eq_true rfl
section
variable{k:Int}{v:V}
theorem Iz:∀ l:List (V×V),u9 (pD l (.int k) v) (.int k)=some v
 | []=>if_pos (QS k)
 | p::r=>by
  show u9 (if jA p.1 (.int k) then(p.1,v)::r else p::pD r (.int k) v) (.int k)=_
  by_cases e:jA p.1 (.int k)=true
  ·rw[if_pos e]; exact if_pos e
  ·rw[if_neg e]; exact(if_neg e).trans (Iz r)
theorem QV:∀ l:List (V×V),qY (pD l (.int k) v) (.int k)=qY l (.int k)
 | []=>if_pos (QS k)
 | p::r=>by
  show qY (if jA p.1 (.int k) then(p.1,v)::r else p::pD r (.int k) v) (.int k)=(if jA p.1 (.int k) then qY r (.int k) else p::qY r (.int k))
  by_cases e:jA p.1 (.int k)=true
  ·rw[if_pos e,if_pos e]; exact if_pos e
  ·rw[if_neg e,if_neg e]; exact(if_neg e).trans (congrArg _ (QV r))
theorem NZ:∀ l:List (V×V),mD l (.int k)=true->mD (pD l (.int k) v) (.int k)=true
 | [],_=>rfl
 | p::r,h=>by
  have h':(Ud p.1 (.int k) && mD r (.int k))=true:=h
  rw[aL] at h'
  show mD (if jA p.1 (.int k) then(p.1,v)::r else p::pD r (.int k) v) (.int k)=true
  by_cases e:jA p.1 (.int k)=true
  ·rw[if_pos e]; exact h
  ·rw[if_neg e]; exact(aL _ _).mpr ⟨h'.1,NZ r h'.2⟩
end
theorem Wx{k x:Nat}:∀ l:List (Nat×Nat),l.lookup k=none->pD (Kh l) (.int k) (.int x)=Kh (l++[(k,x)])
 | [],_=>rfl
 | (j,y)::r,h=>by
  rw[aM] at h
  show(if jA (.int j) (.int k) then _ else(V.int j,V.int y)::pD (Kh r) (.int k) (.int x))=_
  rw[vG]
  cases e:k==j with
  | true=>rw[e] at h; cases h
  | false=>rw[e] at h; rw[Wx r h]; rfl
theorem Wy{k:Nat}:∀ l:List (Nat×Nat),qY (Kh l) (.int k)=Kh (l.filter fun p=> !(p.1==k))
 | []=>rfl
 | (j,y)::r=>by
  show(if jA (.int j) (.int k) then qY (Kh r) (.int k) else(V.int j,V.int y)::qY (Kh r) (.int k))=_
  rw[vG,dY,Wy r,show(k==j)=(j==k) from Bool.beq_comm]
  cases j==k <;> rfl
def Kl(st st':St):Prop:=∀(j:Nat) (l:List V),Is st j (.list l)->Is st' j (.list l)
theorem Mv.kl{σ cJ:Ms}{a b:St}{L:List Nat}(h:Mv σ a cJ b L)(r:Rep σ a):Kl a b:=fun J J e=>h.lst r e
theorem Ke.kl{a b:St}(h:Ke [] a b):Kl a b:=fun j l e=>h j _ nofun e
theorem Kl.trans{a b c:St}(h:Kl a b)(k:Kl b c):Kl a c:=fun j l e=>k j l (h j l e)
theorem Kl.set{a:St}{i:Nat}{x o:O}(e:Is a i x)(n:dF (tg x) 1=false):Kl a (a.set i o):=fun j l q=>bZ e q n
theorem TR.setOp{T:Tr}{σ:Ms}{st:St}(t:TR T σ st)(l:List (Nat×Nat)):TR {T with op:=l} σ (st.set T.od (.dict (Kh l))):=
 ⟨t.r.mono Ke.set fun x hx m=>t.out.2.2 (aN.mp m▸hx),bZ t.od t.t rfl,bZ t.od t.v rfl,fQ t.od,t.nd,t.no⟩
theorem Wz{n k:Nat}{st:St}{Q:Po}{X:Ex}{σ:Ms}{m:Md}(r:Rep σ st)(g:σ.get k=some m)(h:∀ st',Mv σ st (σ.del k) st' [k]->Q .none st'):w.C (n + 2) 1022 [.ref σ.i,.int k] st Q X:=af3 r g fun s r' k'=>h s (.del k' r')
section
variable{n k:Nat}{st:St}{Q:Po}{X:Ex}{σ:Ms}{T:Tr}{p:List Nat}{z:Zn}(t:TR T σ st)
theorem ags{l:List (Nat×Nat)}(h:l.length < 100):(Kh l).length < lim:=aA (aR (aQ _)) (aG h (bl rfl))
include t
theorem aja(fd:Iw σ p true (.inl k))(zz:kj σ k z)(hs:z.sort≠1)(ho:T.op.lookup k=none)(hl:T.op.length < 100)
  (h:∀ st',TR {T with op:=T.op++[(k,1)]} σ st'->Kl st st'->Q (.int k) st'):w.C (n + 11) 916 [.ref T.t,.str p] st Q X:=by
 refine w.h (dN (aX t.t rfl) (dG (uN t fd zz hs fun s1 k1=>?_))); o_shape
 have t1:=t.ke k1
 have ds:pD (Kh T.op) (.int k) (.int (0 + 1))=Kh (T.op++[(k,1)]):=Wx T.op ho
 exact dV (aU t1.t rfl) (dB (qx (aoU t1.od)) (dP (alT (v:=.int 0) t1.od (GR T.op k) rfl (by rw[Ko,ho]; rfl)) (dV (aU t1.t rfl) (dP (kE (Nk t1.od (GR T.op k) rfl (ags hl)) (congrArg (fun l=>s1.set T.od (.dict l)) ds))
  (h _ (t1.setOp _) (k1.kl.trans (Kl.set t1.od rfl)))))))
theorem agt(fd:Iw σ p true (.inl k))(zz:kj σ k z)(hs:z.sort=1)(h:∀ st',Ke [] st st'->X 147 st'):w.C (n + 11) 916 [.ref T.t,.str p] st Q X:=w.h (dN (aX t.t rfl) (dG (Ws t fd zz hs h)))
theorem agu(ho:T.op.lookup k=none)(h:X 99 st):w.C (n + 8) 923 [.ref T.t,.int k] st Q X:=
 w.h (dV (aU t.t rfl) (dV (Tj t.od (GR T.op k) rfl (b:=false) (by rw[Ko,ho]; rfl)) (dB (qx rfl) h)))
theorem ajb{U:List Row}{m:Md}(ho:T.op.lookup k=some 1)(hl:T.op.length < 100)(du:Dir σ 3 U)(hu:U.lookup (jX k)=some k)(h3:k≠3)(hk:k < 100001)(g:σ.get k=some m)
  (h:∀ st' cJ,TR {T with op:=T.op.filter fun p=> !(p.1==k)} cJ st'->Kl st st'->Cg σ cJ [3,k]->cJ.ks=σ.ks.filter (fun j=> !(j==k))->cJ.top=σ.top->Dir cJ 3 (uL U (jX k))->Q .none st'):w.C (n + 8) 923 [.ref T.t,.int k] st Q X:=by
 have kf:=GR T.op k
 have dg:u9 (Kh T.op) (.int k)=some (.int 1):=by rw[Ko,ho]; rfl
 have dd:=(QV (k:=k) (v:=.int (1 - 1)) (Kh T.op)).trans (Wy T.op)
 have nt:∀ {o},Is (st.set T.od o) T.t (ftO T σ.i):=bZ t.od t.t rfl
 have od1:Is (st.set T.od (.dict (pD (Kh T.op) (.int k) (.int (1 - 1))))) T.od _:=fQ t.od
 have e2:(st.set T.od (.dict (pD (Kh T.op) (.int k) (.int (1 - 1))))).set T.od (.dict (qY (pD (Kh T.op) (.int k) (.int (1 - 1))) (.int k)))=st.set T.od (.dict (Kh (T.op.filter fun p=> !(p.1==k)))):=by rw[dd,qU]
 have t1:=t.setOp (T.op.filter fun p=> !(p.1==k))
 have kl:=Kl.set (o:=.dict (Kh (T.op.filter fun p=> !(p.1==k)))) t.od rfl
 refine w.h (dV (aU t.t rfl) (dV (Tj t.od kf rfl (vA dg)) (dB (qX rfl) (dV (aU t.t rfl) (dV (Ti t.od kf rfl dg) (dV (aU t.t rfl) (dP (Nk t.od kf rfl (ags hl)) (dV (aU nt rfl) (dV (Ti od1 (NZ _ kf) rfl (Iz _)) (dB (zX rfl)
  (dV (aU nt rfl) (dB (qx (afK od1)) (dP (kE (Zf od1 (NZ _ kf) rfl (Iz _)) e2) ?_)))))))))))))
 clear od1 nt e2
 revert t1 kl
 generalize st.set T.od (.dict (Kh (T.op.filter fun p=> !(p.1==k))))=s1
 intro t1 kl
 o_shape
 obtain⟨rs',_,d',el⟩:=du.look
 refine dV (aU t1.t rfl) (dV (aU t1.t rfl) (dV (Dy hk) (dG (sW (k:=3) t1.r d' fun s2 k2=>?_))))
 rw[el,hu]; o_shape
 have t2:=t1.ke k2
 refine dV (fP rfl) (dB (qx rfl) (dV (aU t2.t rfl) (dV (aU t2.t rfl) (dV (Dy hk) (dG (Ww (k:=3) t2.r du hu (bl rfl) fun s3 σ3 m3 ks3 tp3 d3 z3=>?_)))))); o_shape
 have t3:=t2.mv m3
 exact dV (aU t3.t rfl) (dN (aX t3.r.hi rfl) (dG (Wz (m:=m) t3.r ((m3.c.g k (uO h3)).trans g) fun s4 m4=>
  h s4 _ (t3.mv m4) (((kl.trans k2.kl).trans (m3.kl t2.r)).trans (m4.kl t3.r)) (m3.c.trans m4.c) (agd.trans (congrArg _ ks3)) tp3 (d3.mv m4.c (uO fun e=>h3 e.symm)))))
end
end
section
variable{w:Wm gF}
structure ClI(σ:Ms)(st:St)(rs:List Row)(d:List Row×Ms)(r:List Row)(st':St):Prop where
 e:rs=d.1++r
 m:Mv σ st d.2 st' (3::d.1.map fun r=>r.2)
 dd:Dir d.2 3 r
 ks:d.2.ks=σ.ks.filter fun j=> !((d.1.map fun r=>r.2).contains j)
 tp:d.2.top=σ.top
theorem agv(l:List Nat)(y:Nat)(ks:List Nat):(ks.filter fun j=> !(l.contains j)).filter (fun j=> !(j==y))=ks.filter fun j=> !((l++[y]).contains j):=by
 rw[List.filter_filter]
 refine vO fun j J=>?_
 rw[List.contains_eq_any_beq,List.contains_eq_any_beq,List.any_append]
 show(!(j==y) && !_)= !(_ || ((j==y) || false))
 cases(List.any l fun x=>j==x) <;> cases j==y <;> rfl
theorem acz{y:Row}{r d:List Row}(nd:((d++y::r).map fun r=>r.1).Nodup):uL (y::r) y.1=r:=by
 rw[cu] at nd
 unfold uL
 rw[dY,if_neg (by rw[decide_eq_true rfl]; exact bC)]
 exact iW.mpr fun q hq=>congrArg (!·) (decide_eq_false fun z=>(dj.mp (nD.mp nd).2.1).1 (fX.mpr ⟨q,hq,z⟩))
theorem al1{y:Row}{r d:List Row}(nd:((d++y::r).map fun r=>r.2).Nodup):y.2∉d.map fun r=>r.2:=by
 rw[cu] at nd
 exact fun hy=>(nD.mp nd).2.2 _ hy _ (.head _) rfl
theorem ClI.next{σ vf:Ms}{st s s2 s3:St}{rs r:List Row}{d:List Row×Ms}{y:Row}(i:ClI σ st rs d (y::r) s)(n3:y.2≠3)(m2:Mv d.2 s vf s2 [3])(m3:Mv vf s2 (vf.del y.2) s3 [y.2])
  (d2:Dir vf 3 r)(ks:vf.ks=d.2.ks)(tp:vf.top=d.2.top):ClI σ st rs (d.1++[y],vf.del y.2) r s3 where
 e:=i.e.trans (bw d.1 [y] r).symm
 m:=((i.m.trans m2).trans m3).mono fun x hx=>by
  show x∈3::(d.1++[y]).map _
  rw[cu]
  exact qK (qK (fun h=>(aY.mp h).elim (fun e=>e▸.head _) fun h=>.tail _ (nW _ h)) Ey) (fun h=>.tail _ (cT _ h)) hx
 dd:=d2.mv m3.c (uO n3.symm)
 ks:=by rw[agd,ks,i.ks,agv,← List.map_singleton (f:=fun r:Row=>r.2),← cu]
 tp:=tp.trans i.tp
theorem Pk{a b:List Nat}(p:a.Perm b)(j:Nat):a.contains j=b.contains j:=by
 rw[Bool.eq_iff_iff,nu,nu,p.mem_iff]
theorem WD{n:Nat}{st:St}{Q:Po}{X:Ex}{σ:Ms}{T:Tr}{U:List Row}(t:TR T σ st)(du:Dir σ 3 U)(hg:∀ r∈U,r.2≠3/\(σ.get r.2).isSome=true)(nd:(U.map fun r=>r.2).Nodup)
  (h:∀ st' cJ,Mv σ st cJ st' (3::U.map fun r=>r.2)->cJ.ks=σ.ks.filter (fun j=> !((U.map fun r=>r.2).contains j))->cJ.top=σ.top->Dir cJ 3 []->Q (.int U.length) st'):w.C (n + 8) 930 [.ref T.t] st Q X:=by
 obtain⟨r0,p0,d0⟩:=du
 refine w.h (dV (aU t.t rfl) (dV (aU t.t rfl) (dG (Nv (k:=3) t.r d0 fun s1 rs' p1 k1=>?_)))); o_shape
 have pU:=p1.trans p0
 have t1:=t.ke k1
 have nd':(rs'.map fun r=>r.2).Nodup:=(pU.map _).nodup_iff.mpr nd
 have ndn:(rs'.map fun r=>r.1).Nodup:=((p1.map _).nodup_iff).mpr d0.1.nd
 refine dL (fP rfl) (dS (GC (g:=wC) _ (ClI σ st rs') (fun J J J J=>rfl) (fun d s i=>?_) (fun d y r s i K kn J J=>?_) ([],σ) _ _ ⟨rfl,(Mv.ke t.r k1).mono nofun,⟨r0,p1.symm,d0⟩,(iW.mpr fun J J=>rfl).symm,rfl⟩))
 ·have e:rs'=d.1:=i.e.trans (bN _)
  have q:=e▸pU
  refine dV (Dj (fP rfl) (congrArg (fun n:Nat=>V.int n) ((aQ _).trans pU.length_eq))) (h s d.2 (i.m.mono fun x hx=>(aY.mp hx).elim (fun e=>e▸.head _) fun m=>.tail _ ((q.map _).mem_iff.mp m)) (i.ks.trans (vO fun j J=>congrArg (!·) (Pk (q.map _) j))) i.tp i.dd)
 ·have hm:y∈rs':=by rw[i.e]; exact cT _ (.head _)
  obtain⟨n3,g⟩:=hg y (pU.mem_iff.mp hm)
  obtain⟨m,g⟩:=cV.mp g
  have t1:=t.mv i.m
  have g1:d.2.get y.2=some m:=(i.m.c.g y.2 fun hy=>(aY.mp hy).elim n3 (al1 (i.e▸nd'))).trans g
  refine dV (aU t1.t rfl) (dV (aU t1.t rfl) (dG (Ww (k:=3) (v:=y.2) t1.r i.dd (by rw[aM,BEq.rfl]) (bl rfl) fun s2 vf m2 Xe Ua d2 z2=>?_))); o_shape
  have t2:=t1.mv m2
  rw[acz (i.e▸ndn)] at d2
  exact dV (aU t2.t rfl) (dN (aX t2.r.hi rfl) (dG (Wz (m:=m) t2.r ((m2.c.g y.2 (uO n3)).trans g1) fun s3 m3=>kn _ _ _ (Ib rfl (Ib rfl le_refl)) (i.next n3 m2 m3 d2 Xe Ua))))
end
section
variable{w:Wm gF}
noncomputable def iV(n:Nat):V:=.int n
theorem ajc{a b:Nat}(h:a<=b):ltB (iV b) (iV a)=false:=by
 show(decide (([]:List Nat) < []) || (decide (([]:List Nat)=[]) && decide ((b:Int) < a)))=false
 rw[decide_eq_false (dh.mpr (dU h))]; rfl
theorem QW{x:Nat}:∀ {l:List Nat},(∀ y∈l,y<=x)->z9 (iV x) (l.map iV)=(l++[x]).map iV
 | [],_=>rfl
 | y::l,h=>by
  show(if ltB (iV x) (iV y) then _ else iV y::z9 (iV x) (l.map iV))=iV y::(l++[x]).map iV
  rw[ajc (h y (.head _)),QW fun z hz=>h z (.tail _ hz)]; rfl
theorem QZ:∀ l a:List Nat,(a++l).Pairwise (· < ·)->(l.map iV).foldl (fun a x=>z9 x a) (a.map iV)=(a++l).map iV
 | [],a,_=>by rw[bN]; rfl
 | x::l,a,h=>by
  show(l.map iV).foldl _ (z9 (iV x) (a.map iV))=_
  rw[QW fun y hy=>bH ((nU.mp h).2.2 y hy x (.head _)),QZ l (a++[x]) (by rw[bw]; exact h),bw]; rfl
theorem GX{l:List Nat}(h:l.Pairwise (· < ·)):sH (l.map iV)=l.map iV:=QZ l [] h
theorem wJ(l:List Nat):jK (l.map iV)=true:=by
 unfold jK
 rw[show(l.map iV).all isI=true by rw[oM,bx]; intro _ _; rfl,tY]; rfl
theorem Zx{st:St}{l:List Nat}(h:l.Pairwise (· < ·))(h2:l.length < 64):stk (JH st .sorted [.lst (l.map iV)])=some (.lst (l.map iV)):=
 Dj (Nt (wJ l) (aA (aR (aQ _)) h2)) (congrArg V.lst (GX h))
theorem Zy{st:St}{i:Nat}{d:List (V×V)}{l:List Nat}(e:Is st i (.dict d))(q:d.map (fun p=>p.1)=l.map iV)(h:l.Pairwise (· < ·))(h2:l.length < 64):stk (JH st .sorted [.ref i])=some (.lst (l.map iV)):=fP (by
 show yq st (.ref i)=_
 unfold yq
 rw[show oZ st (.ref i)=some d from oH e]
 show rT (d.map fun p=>p.1)=_
 rw[q]
 exact(if_pos ⟨wJ l,aA (aR (aQ _)) h2⟩).trans (congrArg (fun l=>some (V.lst l)) (GX h)))
section
variable{n:Nat}{st:St}{Q:Po}{X:Ex}{σ:Ms}(r:Rep σ st)
include r
theorem Ez(hl:σ.ks.length < 64)(h:Q (.lst (σ.ks.map iV)) st):w.C (n + 1) 986 [.ref σ.i] st Q X:=
 w.h (dV (aU r.hi rfl) (dV (Zy r.hd (by unfold dictOf; rw[gw,gw]; rfl) r.ks hl) h))
theorem agw{rs:List Row}{v:Nat}(d:Dir σ 1 rs)(e:rs.lookup [114,111,111,116]=some v)
  (h:∀ st',Ke [] st st'->Is st' st.length (vwO σ.i v)->Q .none st'):w.C (n + 7) 691 [.ref st.length,.ref σ.i] (st++[.inst 757 []]) Q X:=by
 obtain⟨rs',_,d',el⟩:=d.look
 refine w.h (dP (kE (dJ cC rfl rfl) eZ) (dG (sW (k:=1) (r.ke Ke.app) d' fun s2 k2=>?_)))
 rw[el,e]; o_shape
 have hj:=k2.rE cC
 exact dP (dJ hj rfl rfl) (h _ ((Ke.app.trans k2).own .set rF) (fQ hj))
theorem WK{now:Nat}{rs:List Row}(d:Dir σ 1 rs)(e:rs.lookup [114,111,111,116]=some 2)(e2:rs.lookup [117,110,108,105,110,107,101,100]=some 3)
  (h:∀ st' v d,TR ⟨st.length,v,d,now,[]⟩ σ st'->Ke [] st st'->Q .none st'):w.C (n + 8) 782 [.ref st.length,.ref σ.i,.int now] (st++[.inst 933 []]) Q X:=by
 obtain⟨rs',_,d',el⟩:=d.look
 have nj:No st st.length:=rF
 refine w.h (dP (kE (dJ cC rfl rfl) (eZ (y:=.inst 933 [(39,.ref σ.i)]))) (dP (kE (dJ cC rfl rfl) (eZ (y:=.inst 933 [(39,.ref σ.i),(40,.int now)]))) ?_))
 have k1:Ke [] st (st++[.inst 933 [(39,.ref σ.i),(40,.int now)]]):=.app
 have hj:Is (st++[.inst 933 [(39,.ref σ.i),(40,.int now)]]) st.length _:=cC
 show let t:=_; den t
 revert hj k1 nj
 generalize st++[O.inst 933 [(39,.ref σ.i),(40,.int now)]]=s1
 generalize st.length=j at h ⊢
 intro nj k1 hj t
 refine dG (agw (v:=2) (r.ke k1) d e fun s2 k2 hv=>?_)
 have hj:=k2.rE hj
 refine dP (kE (dJ hj rfl rfl) (show _=s2.set j (.inst 933 [(39,.ref σ.i),(40,.int now),(41,.ref s1.length)]) from rfl)) ?_
 have k3:Ke [] st (s2.set j (.inst 933 [(39,.ref σ.i),(40,.int now),(41,.ref s1.length)])):=(k1.trans k2).own .set nj
 have hv:=bZ (o:=.inst 933 [(39,.ref σ.i),(40,.int now),(41,.ref s1.length)]) hj hv rfl
 have hj:=fQ (o:=.inst 933 [(39,.ref σ.i),(40,.int now),(41,.ref s1.length)]) hj
 refine dG (sW (k:=1) (r.ke k3) d' fun s4 k4=>?_)
 rw[el,e2]; o_shape
 have hj4:=k4.rE hj
 refine dP (kE (dJ hj4 rfl rfl) (show _=s4.set j (.inst 933 [(39,.ref σ.i),(40,.int now),(41,.ref s1.length),(42,.int 3)]) from rfl)) ?_
 have hj5:=fQ (o:=.inst 933 [(39,.ref σ.i),(40,.int now),(41,.ref s1.length),(42,.int 3)]) hj4
 have k5:=(k3.trans k4).own (Ke.set (o:=.inst 933 [(39,.ref σ.i),(40,.int now),(41,.ref s1.length),(42,.int 3)])) nj
 have hv5:=bZ (o:=.inst 933 [(39,.ref σ.i),(40,.int now),(41,.ref s1.length),(42,.int 3)]) hj4 (k4.rE hv) rfl
 revert hj5 k5 hv5
 generalize s4.set j (.inst 933 [(39,.ref σ.i),(40,.int now),(41,.ref s1.length),(42,.int 3)])=s5
 intro hj5 k5 hv5
 have hj6:=iM (g:=[.dict []]) hj5
 refine dP (dJ hj6 rfl rfl) ?_
 have k7:=(k5.trans (Ke.app (g:=[.dict []]))).own (Ke.set (o:=.inst 933 [(39,.ref σ.i),(40,.int now),(41,.ref s1.length),(42,.int 3),(43,.ref s5.length)])) nj
 have n5:No st s5.length:=k5.V0 rF
 exact h _ s1.length s5.length ⟨r.ke k7,fQ hj6,bZ hj6 (iM hv5) rfl,bZ hj6 cC rfl,fun q=>vC r.hd (q▸n5),fun q=>vC r.ho (q▸n5)⟩ k7
end
end
section
variable{w:Wm gF}
section
variable{n:Nat}{st:St}{Q:Po}{X:Ex}
theorem acA(h:Q .none (st++[shO])):
  w.C (n + 1) 464 [.ref st.length,.int 16,.int 32,.int 32,.int 4,.int 4,.int 4,.int 2,.int 128,.int 192,.int 160,.int 512] (st++[.inst 467 []]) Q X:=by
 have ss:∀ {x y z:O} {s:St},s.set st.length x=st++[y]->(s.set st.length x).set st.length z=st++[z]:=fun e=>by rw[e]; exact eZ
 have gg:∀ {x y:O} {s:St},s=st++[x]->Is s st.length x:=fun e=>e▸cC
 exact w.h (dP (kE (dJ cC rfl rfl) eZ) (dP (kE (dJ cC rfl rfl) eZ) (dP (kE (dJ cC rfl rfl) eZ) (dP (kE (dJ cC rfl rfl) eZ) (dP (kE (dJ cC rfl rfl) eZ) (dP (kE (dJ cC rfl rfl) eZ)
  (dP (kE (dJ cC rfl rfl) eZ) (dP (kE (dJ cC rfl rfl) eZ) (dP (kE (dJ cC rfl rfl) eZ) (dP (kE (dJ cC rfl rfl) eZ) (dP (kE (dJ cC rfl rfl) eZ) h)))))))))))
theorem Zz{sh:Nat}(hs:Is st sh shO)(h:∀ st' σ,σ.i=st.length->Ke [] st st'->Rep σ st'->σ.obs=[]->σ.top=0->Q .none st'):
  w.C (n + 1) 972 [.ref st.length,.ref sh] (st++[.inst 1053 []]) Q X:=by
 have nj:No st st.length:=rF
 refine w.h (dP (kE (dJ cC rfl rfl) (eZ (y:=.inst 1053 [(23,.ref sh)]))) ?_)
 have k1:Ke [] st (st++[.inst 1053 [(23,.ref sh)]]):=.app
 have hj:Is (st++[.inst 1053 [(23,.ref sh)]]) st.length _:=cC
 show let t:=_; den t
 revert hj k1 nj
 generalize st++[O.inst 1053 [(23,.ref sh)]]=s1
 generalize st.length=j at h ⊢
 intro nj k1 hj t
 refine dP (kE (dJ (iM hj) rfl rfl) (show _=(s1++[O.dict []]).set j (.inst 1053 [(23,.ref sh),(16,.ref s1.length)]) from rfl)) ?_
 have k3:=(k1.trans (Ke.app (g:=[O.dict []]))).own (Ke.set (o:=.inst 1053 [(23,.ref sh),(16,.ref s1.length)])) nj
 have hd3:Is ((s1++[O.dict []]).set j (.inst 1053 [(23,.ref sh),(16,.ref s1.length)])) s1.length _:=bZ (iM hj) cC rfl
 have hj3:Is ((s1++[O.dict []]).set j (.inst 1053 [(23,.ref sh),(16,.ref s1.length)])) j _:=fQ (iM hj)
 show let t:=_; den t
 revert hj3 k3 hd3
 generalize (s1++[O.dict []]).set j (.inst 1053 [(23,.ref sh),(16,.ref s1.length)])=s2
 generalize s1.length=d
 intro k3 hd3 hj3 t
 have ne:d≠s2.length:=fun e=>vC hd3 (e▸rF)
 refine dP (kE (dJ (iM hj3) rfl rfl) (show _=(s2++[O.dict []]).set j (.inst 1053 [(23,.ref sh),(16,.ref d),(0,.ref s2.length)]) from rfl)) ?_
 have k5:=(k3.trans (Ke.app (g:=[O.dict []]))).own (Ke.set (o:=.inst 1053 [(23,.ref sh),(16,.ref d),(0,.ref s2.length)])) nj
 have hd5:Is ((s2++[O.dict []]).set j (.inst 1053 [(23,.ref sh),(16,.ref d),(0,.ref s2.length)])) d _:=bZ (iM hj3) (iM hd3) rfl
 have ho5:Is ((s2++[O.dict []]).set j (.inst 1053 [(23,.ref sh),(16,.ref d),(0,.ref s2.length)])) s2.length _:=bZ (iM hj3) cC rfl
 have hj5:Is ((s2++[O.dict []]).set j (.inst 1053 [(23,.ref sh),(16,.ref d),(0,.ref s2.length)])) j _:=fQ (iM hj3)
 exact dP (dJ hj5 rfl rfl) (h _ ⟨j,sh,d,s2.length,0,[]⟩ rfl (k5.own Ke.set nj) ⟨fQ hj5,bZ hj5 (k5.rE hs) rfl,bZ hj5 hd5 rfl,bZ hj5 ho5 rfl,cF _,ne,.nil,cF _,.nil,cF _,bf _,bl rfl⟩ rfl rfl)
structure al2(now:Nat)(i:Nat)(st':St)(cJ:Ms)(T:Tr):Prop where
 t:TR T cJ st'
 nw:T.now=now
 op:T.op=[]
 i:cJ.i=i
 ks:cJ.ks=[1,2,3]
 top:cJ.top=3
 d1:Dir cJ 1 [([114,111,111,116],2),([117,110,108,105,110,107,101,100],3)]
 d2:Dir cJ 2 []
 z2:kj cJ 2 ⟨1,0,0,2,2,now,now⟩
 d3:Dir cJ 3 []
structure arN(σ cJ:Ms)(st st':St)(t i:Nat):Prop where
 m:Mv σ st cJ st' [t + 1]
 top:cJ.top=t + 1
 d:Dir cJ (t + 1) []
 ks:cJ.ks=σ.ks++[t + 1]
 i:cJ.i=i
theorem WQ{i j f:Nat}{a:List V}(e:i=j)(h:w.C n f (.ref i::a) st Q X):w.C n f (.ref j::a) st Q X:=e▸h
theorem akh{i j f:Nat}{x:V}{a:List V}(e:i=j)(h:w.C n f (x::.ref i::a) st Q X):w.C n f (x::.ref j::a) st Q X:=e▸h
theorem TX{kd t i:Nat}{σ:Ms}(r:Rep σ st)(e:σ.top=t)(ei:σ.i=i)(hkd:0 < kd)(ht:uc (t + 1) 100000=true)(h:∀ st' cJ,arN σ cJ st st' t i->Q (.int ((t + 1:Nat):Int)) st'):w.C (n + 6) 492 [.ref i,.int kd] st Q X:=
 WQ ei (aaT r hkd (e▸cA ht) fun s cJ q=>e▸h s cJ (e▸⟨q.m,q.top,q.d,q.ks,q.m.c.i.trans ei⟩))
noncomputable def z0(now:Nat):Zn:=⟨1,0,0,2,2,now,now⟩
theorem n1:2∉[1]:=by decide
theorem n3:2∉[3]:=by decide
theorem TY{now:Nat}{σ:Ms}(r:Rep σ st)(ob:σ.obs=[])(tp:σ.top=0)(hw:now < 100000)
  (h:∀ st' cJ T,al2 now σ.i st' cJ T->Q (.ref T.t) st'):w.C (n + 9) 768 [.ref σ.i,.int now] st Q X:=by
 have ks0:σ.ks=[]:=by unfold Ms.ks; rw[ob]; rfl
 generalize e:σ.i=i at h ⊢
 refine w.h (dG (TX (kd:=14) r tp e (bl rfl) rfl fun s1 σ1 q1=>?_)); o_shape
 refine dB (Pb rfl) (dG (TX (kd:=9) q1.m.r q1.top q1.i (bl rfl) rfl fun s2 vf q2=>?_)); o_shape
 refine dG (Cv (z:=z0 now) ?_)
 have hj:Is (s2++[yL (z0 now)]) s2.length _:=cC
 have k3:Ke [] s2 (s2++[yL (z0 now)]):=.app
 revert hj k3
 generalize s2++[yL (z0 now)]=s3
 intro hj k3
 o_shape
 obtain⟨rz,pz,oz,mz,gz,bz,dz⟩:=id q2.d
 refine dG (WQ q2.i (Iu (q2.m.r.ke k3) gz hj (zok (bl rfl) (bl rfl) (bl rfl) (bl rfl) (bl rfl) (yR hw) (yR hw)) fun s4 m4 z4=>?_))
 have d4:=q2.d.wz (k:=0 + 1 + 1) (l:=oJ (z0 now))
 have d41:=(q1.d.mv q2.m.c (by decide)).wz (k:=0 + 1 + 1) (l:=oJ (z0 now))
 have QM:(vf.upd (0 + 1 + 1) (wB (oJ (z0 now)))).top=2:=q2.top
 have T9:(vf.upd (0 + 1 + 1) (wB (oJ (z0 now)))).ks=[1,2]:=rI.trans (q2.ks.trans (by rw[q1.ks,ks0]; rfl))
 clear gz
 revert m4 z4 d4 d41 T9 QM
 generalize vf.upd (0 + 1 + 1) (wB (oJ (z0 now)))=σ4
 intro m4 z4 d4 d41 QM T9
 o_shape
 have i4:=m4.c.i.trans q2.i
 refine dG (WQ i4 (TV (k:=1) (x:=2) m4.r d41 (Dp (by decide) (by decide) (by decide)) rfl (bl rfl) (bl rfl) (bl rfl) fun s5 σ5 m5 ks5 tp5 d5 z5=>?_)); o_shape
 have i5:=m5.c.i.trans i4
 refine dG (TX (kd:=15) m5.r (tp5.trans QM) i5 (bl rfl) rfl fun s6 σ6 q6=>?_); o_shape
 refine dG (WQ q6.i (TV (k:=1) (x:=3) q6.m.r (d5.mv q6.m.c (by decide)) (Dp (by decide) (by decide) (by decide)) rfl (bl rfl) (bl rfl) (bl rfl) fun s7 σ7 m7 ks7 tp7 d7 z7=>?_)); o_shape
 have i7:=m7.c.i.trans q6.i
 exact dG (akh i7 (WK m7.r d7 rfl rfl fun s8 v d t8 k8=>h s8 σ7 _ ⟨t8,rfl,rfl,i7,ks7.trans (q6.ks.trans (by rw[ks5,T9]; rfl)),tp7.trans q6.top,d7,((d4.mv m5.c n1).mv q6.m.c n3).mv m7.c n1,z7 _ _ ((z5 _ _ z4).mv q6.m.c n3),q6.d.mv m7.c (by decide)⟩))
end
end
section
variable{w:Wm gF}
def agx(s:List Nat):Prop:=∀ c∈s,c≠47
theorem Q0:∀ s:List Nat,agx s->jg 47 s=[s]
 | [],_=>rfl
 | x::s,h=>(if_neg (h x (.head _))).trans (congrArg (hd1 x) (Q0 s fun c m=>h c (.tail _ m)))
theorem N5(t:List Nat):∀ s:List Nat,agx s->jg 47 (s++47::t)=s::jg 47 t
 | [],_=>if_pos rfl
 | x::s,h=>(if_neg (h x (.head _))).trans (congrArg (hd1 x) (N5 t s fun c m=>h c (.tail _ m)))
theorem xO{s:List Nat}(h:agx s)(n:s≠[]):eH s=[s]:=by
 unfold eH; rw[Q0 s h,dY,decide_eq_false n]; rfl
theorem N6{s t:List Nat}(h:agx s)(n:s≠[]):eH (s++47::t)=s::eH t:=by
 unfold eH; rw[N5 t s h,dY,decide_eq_false n]; rfl
theorem WR(t:List Nat):eH (47::t)=eH t:=by
 unfold eH; rw[show jg 47 (47::t)=[]::jg 47 t from if_pos rfl,dY,decide_eq_true rfl]; rfl
theorem jL.ne{s:List Nat}(h:jL s):s≠[]:=fun e=>f9 0 (e▸h.l1:0 < ([]:List Nat).length)
theorem jL.rl{s:List Nat}(h:jL s):(47::s).length < 900:=aA (bI h.l2) (bl rfl)
theorem jL.rp{s:List Nat}(h:jL s):eH (47::s)=[s]:=(WR s).trans (xO h.sl h.ne)
theorem IK{a b:List Nat}(h:jL a)(h':jL b):eH (47::a++47::b)=[a,b]:=
 (WR (a++47::b)).trans ((N6 h.sl h.ne).trans (congrArg _ (xO h'.sl h'.ne)))
structure Rt(σ:Ms)(lk:List Nat->Option Nat)(nr:Nat):Prop where
 d:∃ R,Dir σ 2 R/\R.length=nr/\∀ s,R.lookup s=lk s
 z:∃ z,kj σ 2 z/\z.sort=1/\z.links < 100 + nr
theorem Rt.mv{σ cJ:Ms}{lk:List Nat->Option Nat}{nr:Nat}{L:List Nat}(h:Rt σ lk nr)(c:Cg σ cJ L)(n:2∉L):Rt cJ lk nr:=
 ⟨h.d.imp fun J q=>⟨q.1.mv c n,q.2⟩,h.z.imp fun J q=>⟨q.1.mv c n,q.2⟩⟩
theorem Rt.el{σ:Ms}{lk:List Nat->Option Nat}{nr:Nat}{P:Prop}(h:Rt σ lk nr)(k:∀ R R' z,Dir σ 2 R->R.length=nr->(∀ s,R.lookup s=lk s)->Oe σ 2 R'->(∀ s,R'.lookup s=lk s)->kj σ 2 z->z.sort=1->z.links < 100 + nr->P):P:=
 h.d.elim fun R q=>h.z.elim fun z p=>q.1.look.elim fun R' r=>k R R' z q.1 q.2.1 q.2.2 r.2.1 (fun s=>(r.2.2 s).trans (q.2.2 s)) p.1 p.2.1 p.2.2
noncomputable def upk(lk:List Nat->Option Nat)(s:List Nat)(x:Nat):List Nat->Option Nat:=fun t=>if t=s then some x else lk t
theorem nQ{s:List Nat}{x:Nat}:∀ {R:List Row},R.lookup s=none->∀ t,(R++[(s,x)]).lookup t=if t=s then some x else R.lookup t
 | [],_,t=>by
  rw[List.nil_append,aM]
  by_cases e:t=s
  ·rw[if_pos e,e,BEq.rfl]
  ·rw[if_neg e,beq_eq_false_iff_ne.mpr e]
 | (y,v)::R,h,t=>by
  rw[aM] at h
  rw[rN,aM,aM]
  cases q:s==y with
  | true=>rw[q] at h; cases h
  | false=>
   rw[q] at h
   rw[nQ h t]
   by_cases e:t=s
   ·rw[if_pos e,e,q,if_pos rfl]
   ·rw[if_neg e,if_neg e]
section
variable{σ:Ms}{lk:List Nat->Option Nat}{nr n v bM:Nat}{kh:Bool}{s g:List Nat}{t:List (List Nat)}{r:Nat ⊕ Nat}(rt:Rt σ lk nr)
include rt
theorem sX(nm:jL s):Plc σ (47::s) 2 s:=
 rt.el fun J J z J J J J J iz hs J=>⟨fun r h=>Wn (ini:=[]) (m:=0) r (mV nm.rl) nm.rp (bl rfl) (bl rfl) (bl rfl) (bl rfl) nm .done iz hs h,nm.rl,nm⟩
variable(nm:jL s)
include nm
theorem rJ(e:lk s=some v)(pl:v % 4≠2∨(t=[]/\kh=false))(q:uM σ 2 kh (v / 4) t bM n r):uM σ 2 kh 2 (s::t) bM (n + 1) r:=
 rt.el fun J J J J J J d el iz hs J=>.plain iz hs d nm ((el s).trans e) pl q
theorem IV(e:lk s=none):uM σ 2 kh 2 (s::t) bM 0 (.inr 75):=
 rt.el fun J J J J J J d el iz hs J=>.missing iz hs d nm ((el s).trans e)
theorem aje(e:lk s=some v)(ln:v % 4=2)(pl:t≠[]∨kh=true)(hm:bM < 8)(l:IsL σ (v / 4) g)(hl:(eH g++t).length < 100)
  (q:uM σ 2 kh 2 (eH g++t) (bM + 1) n r):uM σ 2 kh 2 (s::t) bM (n + 1) r:=
 rt.el fun J J J J J J d el iz hs J=>.link iz hs d nm ((el s).trans e) ln pl hm l hl ((show Nz 2 2 g=2 from ite_self _).symm▸q)
theorem ajf(e:lk s=some v)(ln:v % 4=2)(pl:t≠[]∨kh=true)(hm:¬ bM < 8):uM σ 2 kh 2 (s::t) bM 0 (.inr 159):=
 rt.el fun J J J J J J d el iz hs J=>.loops iz hs d nm ((el s).trans e) ln pl hm
theorem kZ(e:lk s=some v)(pl:v % 4≠2∨kh=false):Iw σ (47::s) kh (.inl (v / 4)):=
 ⟨1,nm.rl,nm.rp▸(bl rfl:1 < 100),nm.rp▸rJ rt nm e (pl.imp_right fun h=>⟨rfl,h⟩) .done⟩
theorem WW(e:lk s=none):Iw σ (47::s) kh (.inr 75):=
 ⟨0,nm.rl,nm.rp▸(bl rfl:1 < 100),nm.rp▸IV rt nm e⟩
omit nm
theorem agy(q:uM σ 2 kh 2 t bM n r):uM σ 2 kh 2 ([46]::t) bM (n + 1) r:=
 rt.el fun J J J J J J J J iz hs J=>.dot iz hs q
end
theorem uM.pl{σ:Ms}{fC here bM n v:Nat}{kh:Bool}{s:List Nat}{t:List (List Nat)}{z:Zn}{rs:List Row}{r:Nat ⊕ Nat}(hz:kj σ here z)(hs:z.sort=1)(d:Dir σ here rs)(nm:jL s)(e:rs.lookup s=some v)(pl:v % 4≠2∨(t=[]/\kh=false))
  (q:uM σ fC kh (v / 4) t bM n r):uM σ fC kh here (s::t) bM (n + 1) r:=d.look.elim fun J p=>.plain hz hs p.2.1 nm ((p.2.2 s).trans e) pl q
theorem uM.ms{σ:Ms}{fC here bM:Nat}{kh:Bool}{s:List Nat}{t:List (List Nat)}{z:Zn}{rs:List Row}(hz:kj σ here z)(hs:z.sort=1)(d:Dir σ here rs)(nm:jL s)(e:rs.lookup s=none):uM σ fC kh here (s::t) bM 0 (.inr 75):=
 d.look.elim fun J p=>.missing hz hs p.2.1 nm ((p.2.2 s).trans e)
end
section
variable{w:Wm gF}
noncomputable def oF(k:Nat):List Nat:=108::jX k
noncomputable def onm(k:Nat):List Nat:=111::jX k
noncomputable def lkB:List Nat->Option Nat:=fun s=>if s=[100] then some 17 else if s=[102] then some 24 else none
noncomputable def JD:Nat->List Nat->Option Nat
 | 0=>lkB
 | c + 1=>upk (JD c) (oF c) ((7 + c) * 4 + 2)
theorem agz{x k:Nat}(h1:48<=x)(h2:x < 127)(hk:k < 1000000):jL (x::jX k):=
 Dp (fun J m=>(aY.mp m).elim (fun e=>e▸⟨h1,h2⟩) GQ) (iQ _) (ak (bI (vJ hk)) (bl rfl))
theorem Bp{k:Nat}(h:k < 1000000):jL (oF k):=agz (bl rfl) (bl rfl) h
theorem al3{k:Nat}(h:k < 1000000):jL (onm k):=agz (bl rfl) (bl rfl) h
theorem nmA{x:Nat}(h1:Nat.ble 48 x=true)(h2:uc x 127=true):jL [x]:=Dp (fun J m=>aN.mp m▸⟨bl h1,cA h2⟩) (bl rfl) (bl rfl)
theorem ZC:jL [100]:=nmA rfl rfl
theorem nmF:jL [102]:=nmA rfl rfl
theorem nmG:jL [103]:=nmA rfl rfl
theorem nmM:jL [109]:=nmA rfl rfl
theorem nmN:jL [110]:=nmA rfl rfl
theorem N7:jL [110,111,110,101]:=Dp (by decide) (bl rfl) (bl rfl)
theorem aaV{a b:Nat}(h:oF a=oF b):a=b:=GP (gb h).2
theorem aaW{a b:Nat}{s t:List Nat}(h:dF a b=false):a::s≠b::t:=fun e=>mJ h (gb e).1
theorem aaX{s:List Nat}(h:s.head?≠some 108):∀ c,JD c s=lkB s
 | 0=>rfl
 | c + 1=>(if_neg fun e:s=oF c=>h (e▸rfl)).trans (aaX h c)
theorem ZD{k:Nat}:∀ {c:Nat},c<=k->JD c (oF k)=none
 | 0,_=>by
  show(if oF k=[100] then some 17 else if oF k=[102] then some 24 else none)=none
  rw[if_neg (show oF k≠[100] from aaW rfl),if_neg (show oF k≠[102] from aaW rfl)]
 | c + 1,h=>(if_neg fun e=>f9 c (ak h (aR (aaV e)))).trans (ZD (Nat.le_of_succ_le h))
theorem agA{k:Nat}:∀ {c:Nat},k < c->JD c (oF k)=some ((7 + k) * 4 + 2)
 | c + 1,h=>by
  show(if oF k=oF c then some ((7 + c) * 4 + 2) else JD c (oF k))=_
  by_cases e:k=c
  ·rw[e,if_pos rfl]
  ·rw[if_neg fun q=>e (aaV q),agA (jY (cX h) e)]
noncomputable def ends:Nat->List Nat
 | 0=>[47,102]
 | 1=>[47,100]
 | 2=>[47,110,111,110,101]
 | _=>[47,108,48]
noncomputable def arQ:Nat->List Nat
 | 0=>[47]
 | 1=>[46,47]
 | _=>[]
noncomputable def Pq(k:Nat):List Nat:=arQ (k % 3)
noncomputable def tgt(goal:Nat):Nat->List Nat
 | 0=>ends goal
 | k + 1=>Pq (k + 1)++[108]++jX k
theorem ZF{P:List Nat->Prop}(h0:P [47])(h1:P [46,47])(h2:P [])(k:Nat):P (Pq k):=by
 unfold Pq
 generalize k % 3=j
 exact match j with
 | 0=>h0
 | 1=>h1
 | _ + 2=>h2
theorem al4{P:List Nat->Prop}(h0:P [47,102])(h1:P [47,100])(h2:P [47,110,111,110,101])(h3:P [47,108,48]):∀ g:Nat,P (ends g)
 | 0=>h0
 | 1=>h1
 | 2=>h2
 | _ + 3=>h3
structure Gi(s:List Nat):Prop where
 g:rG s
 l0:0 < s.length
 l:s.length<=20
theorem WX{a b:List Nat}(h:rG a)(k:rG b):rG (a++b):=fun c m=>(fZ.mp m).elim (h c) (k c)
theorem al5(k:Nat):rG (jX k):=fun J m=>⟨ak (bl rfl) (GQ m).1,(GQ m).2⟩
theorem agB(goal:Nat):∀ k,k < 1000000->Gi (tgt goal k)
 | 0,_=>al4 (P:=Gi) ⟨by unfold rG; decide,bl rfl,bl rfl⟩ ⟨by unfold rG; decide,bl rfl,bl rfl⟩ ⟨by unfold rG; decide,bl rfl,bl rfl⟩ ⟨by unfold rG; decide,bl rfl,bl rfl⟩ goal
 | k + 1,hk=>by
  have hp:=ZF (P:=fun s=>rG s/\s.length<=2) ⟨by unfold rG; decide,bl rfl⟩ ⟨by unfold rG; decide,bl rfl⟩ ⟨by unfold rG; decide,bl rfl⟩ (k + 1)
  have e:(Pq (k + 1)++[108]++jX k).length=(Pq (k + 1)).length + 1 + (jX k).length:=by rw[aF,aF]; rfl
  exact⟨WX (WX hp.1 (by unfold rG; decide)) (al5 k),e▸aK (iQ _) (bh _ _),e▸ak (fY (bI hp.2) (vJ (gC hk))) (bl rfl)⟩
theorem acB(goal:Nat){k:Nat}(hk:k < 1000000):eH (tgt goal (k + 1))=[oF k]∨eH (tgt goal (k + 1))=[[46],oF k]:=by
 have nm:=Bp hk
 show eH (Pq (k + 1)++[108]++jX k)=_∨eH (Pq (k + 1)++[108]++jX k)=_
 rw[bw]
 exact ZF (P:=fun s=>eH (s++oF k)=[oF k]∨eH (s++oF k)=[[46],oF k]) (.inl nm.rp) (.inr ((N6 (s:=[46]) (t:=oF k) (by unfold agx; decide) (by decide)).trans (congrArg _ (xO nm.sl nm.ne)))) (.inl (xO nm.sl nm.ne)) (k + 1)
theorem ao9:jX 0=[48]:=by unfold jX; rw[Nat.toDigits_zero]; rfl
noncomputable def arR:Nat->List (List Nat)
 | 0=>[[102]]
 | 1=>[[100]]
 | 2=>[[110,111,110,101]]
 | _=>[oF 0]
theorem pQ:∀ goal:Nat,eH (ends goal)=arR goal
 | 0=>nmF.rp
 | 1=>ZC.rp
 | 2=>N7.rp
 | _ + 3=>(congrArg (fun s=>eH (47::108::s)) ao9.symm).trans (Bp (bl rfl)).rp
structure Ln(σ:Ms)(c goal:Nat)(lk:List Nat->Option Nat):Prop where
 hc:c < 100
 hl:∀ k,k < c->IsL σ (7 + k) (tgt goal k)
 hz:∀ k,k < c->∃ z,kj σ (7 + k) z/\z.sort=2
 hk:∀ k,k < c->lk (oF k)=some ((7 + k) * 4 + 2)
theorem IsL.mv{σ cJ:Ms}{L:List Nat}{k:Nat}{t:List Nat}(h:IsL σ k t)(c:Cg σ cJ L)(n:k∉L):IsL cJ k t:=by
 unfold IsL kj; rw[c.g k n]; exact h
theorem dv(k:Nat):((7 + k) * 4 + 2) / 4=7 + k:=by rw[lq,Nat.mul_add_div (bl rfl)]; rfl
theorem dm(k:Nat):((7 + k) * 4 + 2) % 4=2:=by rw[lq,Nat.mul_add_mod]
theorem acC(p:List Nat):(eH p).length<=p.length + 1:=ak (gj _ _) (yP 47 p)
section
variable{σ:Ms}{c goal nr k bM n:Nat}{r:Nat ⊕ Nat}{lk:List Nat->Option Nat}(rt:Rt σ lk nr)(ln:Ln σ c goal lk){t:List (List Nat)}(ht:t.length < 50)
include ln in
theorem Ln.lt(hk:k < c):k < 1000000:=aG hk (aG ln.hc (bl rfl))
abbrev Wk(σ:Ms)(s:List Nat)(t:List (List Nat))(bM:Nat)(r:Nat ⊕ Nat):Prop:=∃ n,uM σ 2 true 2 (s::t) bM n r
include rt ln ht
theorem GZ(hk:k < c)(hm:bM < 8)(q:uM σ 2 true 2 (eH (tgt goal k)++t) (bM + 1) n r):Wk σ (oF k) t bM r:=by
 have l:(eH (tgt goal k)++t).length < 100:=by
  rw[aF]
  exact aK (nY (ak (acC _) (bI (agB goal k (ln.lt hk)).l)) ht) (bl rfl)
 exact⟨n + 1,aje (g:=tgt goal k) rt (Bp (ln.lt hk)) (ln.hk k hk) (dm k) (.inr rfl) hm ((dv k).symm▸ln.hl k hk) l q⟩
omit ht in
theorem G3(hk:k < c)(hm:bM=8):Wk σ (oF k) t bM (.inr 159):=
 ⟨0,ajf rt (Bp (ln.lt hk)) (ln.hk k hk) (dm k) (.inr rfl) (hm▸f9 8)⟩
theorem IW(hk:k + 1 < c)(hm:bM < 8):Wk σ (oF k) t (bM + 1) r->Wk σ (oF (k + 1)) t bM r:=fun q=>q.elim fun n q=>
 (acB goal (gC (ln.lt hk))).elim (fun e=>GZ rt ln ht hk hm (by rw[e]; exact q)) fun e=>GZ rt ln ht hk hm (by rw[e]; exact agy rt q)
theorem chain(hk:k < c)(hm:bM + k < 8)(q:uM σ 2 true 2 (eH (ends goal)++t) (bM + k + 1) n r):Wk σ (oF k) t bM r:=by
 induction k generalizing bM with
 | zero=>exact GZ rt ln ht hk hm q
 | succ k ih=>
  have e:bM + 1 + k=bM + (k + 1):=eF bM k
  exact IW rt ln ht hk (aA (bh _ _) hm) (ih (gC hk) (e▸hm) (e▸q))
theorem Q5(hk:k < c)(hm:bM<=8)(hf:8<=bM + k):Wk σ (oF k) t bM (.inr 159):=by
 by_cases e:bM=8
 ·exact G3 rt ln hk e
 ·induction k generalizing bM with
  | zero=>exact absurd (zG hm hf) e
  | succ k ih=>
   have hm:=jY hm e
   refine IW rt ln ht hk hm ?_
   by_cases e:bM + 1=8
   ·exact G3 rt ln (gC hk) e
   ·exact ih (gC hk) hm ((eF bM k).symm▸hf) e
theorem akj(g3:goal=3)(hc:0 < c):∀(d bM:Nat),bM + d=8->Wk σ (oF 0) t bM (.inr 159)
 | 0,_,h=>G3 rt ln hc h
 | d + 1,bM,h=>(akj g3 hc d (bM + 1) ((eF bM d).trans h)).elim fun J q=>
  GZ rt ln ht hc (aK (iG (iQ d)) (aR h)) (by rw[g3,show eH (tgt 3 0)=[oF 0] from pQ 3]; exact q)
theorem loops(g3:goal=3):∀(k bM:Nat),k < c->bM<=8->Wk σ (oF k) t bM (.inr 159)
 | 0,bM,hk,hm=>akj rt ln ht g3 hk (8 - bM) bM (dD hm)
 | k + 1,bM,hk,hm=>by
  by_cases e:bM=8
  ·exact G3 rt ln hk e
  ·have hm:=jY hm e
   exact IW rt ln ht hk hm (loops g3 k (bM + 1) (gC hk) hm)
end
end
section
variable{w:Wm gF}
noncomputable def qZ:List Nat:=[116,111,108,100]
noncomputable def ZG:List Nat:=[76,111,111,112,115]
noncomputable def qL:List Nat:=[77,105,115,115,105,110,103]
noncomputable def ZJ:List Nat:=[73,115,70,111,108,100,101,114]
noncomputable def Bq:List Nat:=[78,111,116,70,111,108,100,101,114]
noncomputable def Dk:List Nat:=[77,105,115,117,115,101,100]
noncomputable def apa:List Nat:=[73,110,118,97,108,105,100,80,97,116,104]
noncomputable def apb:List Nat:=[69,120,105,115,116,115]
theorem dX{C:Nat}{x:V}{K:S6}{st:St}(e:vY.lookup C=some x)(h:den (K x st)):den (okT (vY.lookup C) fun x=>K x st):=by rw[e]; exact h
theorem dH{t:T}{K:S6}(hX:xG t=fun C st=>okT (vY.lookup C) fun x=>K x st)(hQ:nG t=fun v st=>K (.tup [eE,v]) st)
  (h:∀ Q X,(∀ C st,den (okT (vY.lookup C) fun x=>K x st)->X C st)->(∀ v st,den (K (.tup [eE,v]) st)->Q v st)->oG t Q X):den t:=dG (h _ _ (fun J J h=>by rw[hX]; exact h) fun J J h=>by rw[hQ]; exact h)
def WY(σ:Ms)(T:Tr)(f:Nat)(args:List V)(a:List Nat)(P:V->Prop):Prop:=∀ {w:Wm gF} {n:Nat} {st:St} {K:S6} {Q:Po} {X:Ex},(∀ C st,den (okT (vY.lookup C) fun x=>K x st)->X C st)->(∀ v st,den (K (.tup [eE,v]) st)->Q v st)->TR T σ st->
 (∀ st' x,P x->Ke [] st st'->den (K (.tup [.str a,x]) st'))->w.C (n + 12) f args st Q X
section
variable{σ:Ms}{T:Tr}{p a:List Nat}{C j:Nat}{z:Zn}{x y:Int}
section
variable(fd:Iw σ p true (.inr C))(hC:vY.lookup C=some (.tup [.str a,.none]))
include fd hC
theorem W0:WY σ T 721 [.ref T.v,.str p,.int x,.int y] a (·=.none):=fun hX hQ t h=>fd.elim fun J q=>CG t.r t.v (mV q.1) q.2.1 q.2.2 fun s k=>hX _ _ (dX hC (h s _ rfl k))
theorem T3:WY σ T 733 [.ref T.v,.str p] a (·=.none):=fun hX hQ t h=>fd.elim fun J q=>GK t.r t.v (mV q.1) q.2.1 q.2.2 fun s k=>hX _ _ (dX hC (h s _ rfl k))
theorem JF:WY σ T 707 [.ref T.v,.str p] a (·=.none):=fun hX hQ t h=>fd.elim fun J q=>xJ t.r t.v (mV q.1) q.2.1 q.2.2 fun s k=>hX _ _ (dX hC (h s _ rfl k))
end
section
variable(fd:Iw σ p true (.inl j))(iz:kj σ j z)
include fd iz
theorem T4(hz:z.sort=1):WY σ T 721 [.ref T.v,.str p,.int x,.int y] ZJ (·=.none):=fun hX hQ t h=>fd.elim fun J q=>CG t.r t.v (mV q.1) q.2.1 q.2.2 ⟨z,iz,.inl ⟨hz,fun s k=>hX _ _ (dX rfl (h s _ rfl k))⟩⟩
theorem W2{x y b:Nat}{f:Nat->UInt8}(hz:z.sort≠1)(d:Dat σ j b f)(hy:y < 2000):WY σ T 721 [.ref T.v,.str p,.int x,.int y] qZ (·=.bytes (rd f x (min y (z.size - x)))):=fun hX hQ t h=>
 fd.elim fun J q=>d.elim fun md g=>CG t.r t.v (mV q.1) q.2.1 q.2.2 ⟨z,iz,.inr (.inr ⟨hz,x,y,md,rfl,rfl,hy,g.1,fun s k=>hQ _ _ (h s _ (congrArg V.bytes (xM g.2.2.2 _ _)) k)⟩)⟩
theorem N8(hz:z.sort≠1):WY σ T 733 [.ref T.v,.str p] Bq (·=.none):=fun hX hQ t h=>fd.elim fun J q=>GK t.r t.v (mV q.1) q.2.1 q.2.2 ⟨z,iz,.inl ⟨hz,fun s k=>hX _ _ (dX rfl (h s _ rfl k))⟩⟩
theorem Pr{rs:List Row}(hz:z.sort=1)(d:Dir σ j rs):WY σ T 733 [.ref T.v,.str p] qZ (fun J=>True):=fun hX hQ t h=>fd.elim fun J q=>d.elim fun rs' d=>GK t.r t.v (mV q.1) q.2.1 q.2.2 ⟨z,iz,.inr ⟨hz,rs',d.2,fun s v k=>hQ _ _ (h s v trivial k)⟩⟩
theorem W3:WY σ T 707 [.ref T.v,.str p] qZ (fun J=>True):=fun hX hQ t h=>fd.elim fun J q=>xJ t.r t.v (mV q.1) q.2.1 q.2.2 ⟨z,iz,fun s k j J=>hQ _ _ (h s _ trivial k)⟩
end
end
end
section
variable{w:Wm gF}
noncomputable def tgE:ME:=(.ite (.cmp (.aD 5) .eq (.aj (.int 0))) (.qy (.aD 4) (.aD 3)) (.bin .add (.bin .add (.qy (.jJ [(.aj (.str [47])),(.aj (.str [46,47])),(.aj (.str []))]) (.bin .mod (.aD 5) (.aj (.int 3)))) (.aj (.str [108]))) (.bi .str [(.bin .sub (.aD 5) (.aj (.int 1)))])))
noncomputable def lr1(rest:List MS):List MS:=(.eG (.t [(.v 13),(.v 6)]) (.tup [(.bin .add (.aj (.str [47,108])) (.bi .str [(.aD 5)])),(.bool false [(.cmp (.aD 5) .gt (.aj (.int 7))),(.cmp (.aD 3) .eq (.aj (.int 3)))])]))::rest
noncomputable def lr2(rest:List MS):List MS:=(.eG (.t [(.v 7),(.v 8),(.v 9)]) (.tup [(.qy (.jJ [(.tup [(.aj (.str [116,111,108,100])),(.aD 1)]),(.tup [(.aj (.str [73,115,70,111,108,100,101,114])),(.aj .none)]),(.tup [(.aj (.str [77,105,115,115,105,110,103])),(.aj .none)])]) (.bin .mod (.aD 3) (.aj (.int 3)))),(.aj (.str [78,111,116,70,111,108,100,101,114])),(.aj (.str [78,111,116,70,111,108,100,101,114]))]))::rest
noncomputable def lr3:MS:=.ite (.cmp (.aD 3) .eq (.aj (.int 1))) [.eG (.t [(.v 8),(.v 9)]) (.tup [(.aj (.str [116,111,108,100])),(.aj (.str [116,111,108,100]))])] []
noncomputable def lr4(rest:List MS):List MS:=(.eG (.v 10) (.ite (.aD 6) (.bin .mul (.jJ [(.aj (.str [76,111,111,112,115]))]) (.aj (.int 3))) (.ite (.cmp (.aD 3) .eq (.aj (.int 2))) (.bin .mul (.jJ [(.aj (.str [77,105,115,115,105,110,103]))]) (.aj (.int 3))) (.jJ [(.qy (.aD 7) (.aj (.int 0))),(.aD 8),(.aD 9)]))))::rest
noncomputable def aaY:V:=.lst [.str [47,102],.str [47,100],.str [47,110,111,110,101],.str [47,108,48]]
noncomputable def GF(t:Nat)(oc:List UInt8)(bM goal:Nat):TF:=[some (.ref t),some (.bytes oc),some (.int bM),some (.int goal),some aaY]
noncomputable def LF(t:Nat)(oc:List UInt8)(bM goal k:Nat)(r:TF):TF:=some (.ref t)::some (.bytes oc)::some (.int bM)::some (.int goal)::some aaY::some (.int k)::r
theorem lt4{P:Nat->Prop}(h0:P 0)(h1:P 1)(h2:P 2)(h3:P 3):∀ {g:Nat},g < 4->P g
 | 0,_=>h0
 | 1,_=>h1
 | 2,_=>h2
 | 3,_=>h3
 | _ + 4,h=>absurd h (gK.mpr (mX 4 _))
theorem al6{st:St}{g:Nat}(h:g < 4):stk (Fi st aaY (.int g))=some (.str (ends g)):=lt4 (P:=fun g=>stk (Fi st aaY (.int (g:Nat)))=some (.str (ends g))) (fP rfl) (fP rfl) (fP rfl) (fP rfl) h
theorem apd{st:St}(k:Nat):stk (Fi st (.lst [.str [47],.str [46,47],.str []]) (.int ((k:Int) % 3)))=some (.str (Pq k)):=by
 unfold Pq
 have l:=mH k (bl rfl:0 < 3)
 rw[show((k:Int) % 3)=((k % 3:Nat):Int) from rfl]
 revert l
 generalize k % 3=j
 exact fun l=>match j,l with
 | 0,_=>fP rfl
 | 1,_=>fP rfl
 | 2,_=>fP rfl
 | _ + 3,l=>absurd l (gK.mpr (mX 3 _))
theorem al7{k:Nat}{i:Int}{st:St}(hk:k < 100001)(e:i=k):stk (JH st .str [.int i])=some (.str (jX k)):=e▸Dy hk
section
variable{n t goal bM k j:Nat}{oc:List UInt8}{st:St}{r:TF}{K:S6}{F:zV}{X:vd}{rest:List MS}(hg:goal < 4)(hk:k < 100)
include hk
theorem akk:(oF k).length<=7:=bI (vJ (aG hk (bl rfl)))
include hg
theorem ape(h:den (K (.str (tgt goal k)) st)):den ((E gF (w.C n) (j + 9)).e tgE (LF t oc bM goal k r) st K X):=by
 cases k with
 | zero=>exact dB (zX rfl) (dV (al6 hg) h)
 | succ k=>
  have hp:(Pq (k + 1)).length<=2:=ZF (P:=fun s=>s.length<=2) (bl rfl) (bl rfl) (bl rfl) (k + 1)
  have hn:=vJ (aG (gC hk) (bl rfl):k < 1000000)
  refine dB (G5 (qJ (b:=0) (Nat.succ_ne_zero k))) (dV (sJ (by decide)) (dV (apd (k + 1)) (dV (iD (ak (bU hp 1) (bl rfl))) (dV (al7 (aG (gC hk) (bl rfl)) (by rw[Int.natCast_succ,Int.add_sub_cancel])) (dV (iD ?_) h)))))
  rw[aF]
  exact ak (fY (bU hp 1) hn) (bl rfl)
omit hg
theorem apf(h:∀ far:Bool,(far=true↔7 < k∨goal=3)->den (tC (E gF (w.C n) 21) rest (LF t oc bM goal k [some (.bool far),none,none,none,none,none,none,some (.str (47::oF k))]) st F X)):den (tC (E gF (w.C n) 21) (lr1 rest) (LF t oc bM goal k []) st F X):=by
 refine dV (Dy (aG hk (bl rfl))) (dV (iD (ak (aZ (vJ (aG hk (bl rfl))) 2) (bl rfl))) ?_)
 by_cases q:7 < k
 ·have q':(k:Int) > 7:=jr q
  exact dB (Y9 q') (h _ ⟨fun J=>.inl q,fun J=>decide_eq_true q'⟩)
 ·have q':¬(k:Int) > 7:=fun z=>q (fu.mp z)
  exact dB (Gv q') (h _ ⟨fun e=>.inr (Int.ofNat_inj.mp (of_decide_eq_true e)),fun e=>decide_eq_true (cst (e.resolve_left q))⟩)
end
end
section
variable{w:Wm gF}
noncomputable def lr5:MS:=.eG (.v 11) (.Fg [(.heard 1071 eE vY (.bk 7 (.bR (.aD 0) 41) [(.aD 13),(.aj (.int 0)),(.aj (.int 99))])),(.heard 1071 eE vY (.bk 58 (.bR (.aD 0) 41) [(.aD 13)]))])
noncomputable def agC:List MS:=[.expr (.bm .append (.aD 11) [(.heard 1071 eE vY (.bk 59 (.bR (.aD 0) 41) [(.bin .add (.aD 13) (.aj (.str [47,103])))]))]),.ite (.bool false [(.cmp (.comp (.v 14) .plain [(.aD 11)] .none (.qy (.aD 14) (.aj (.int 0)))) .ne (.aD 10)),(.bool true [(.not (.aD 6)),(.cmp (.aD 3) .eq (.aj (.int 0))),(.cmp (.qy (.aD 11) (.aj (.int 0))) .ne (.aD 7))])]) [.ret (some (.aj (.bool false)))] []]
noncomputable def mF(r:M7):List MS->(TF->St->T)->zV->vd->TF->St->T
 | [],A,_,_,fr,st=>A fr st
 | m::l,A,F,X,fr,st=>r.s m fr st (tx (fun fr st=>mF r l A F X fr st) F) X
noncomputable def lr6:List MS:=[.eG (.v 12) (.ite (.cmp (.aD 5) .eq (.aj (.int 0))) (.qy (.aD 4) (.aD 3)) (.bin .add (.bin .add (.qy (.jJ [(.aj (.str [47])),(.aj (.str [46,47])),(.aj (.str []))]) (.bin .mod (.aD 5) (.aj (.int 3)))) (.aj (.str [108]))) (.bi .str [(.bin .sub (.aD 5) (.aj (.int 1)))]))),.ite (.bool false [(.cmp (.bk 57 (.bR (.aD 0) 41) [(.aD 13)]) .ne (.aD 12)),(.cmp (.bR (.bk 59 (.bR (.aD 0) 41) [(.aD 13),(.aj (.bool false))]) 27) .ne (.aj (.int 2)))]) [.ret (some (.aj (.bool false)))] []]
noncomputable def wd:Nat->List Nat | 1=>ZJ | 2=>qL | _=>qZ
noncomputable def wd2(oc:List UInt8):Nat->V | 1=>.none | 2=>.none | _=>.bytes oc
noncomputable def nmW:Nat->List Nat | 1=>qZ | _=>Bq
noncomputable def vL(oc:List UInt8)(g:Nat):V:=.tup [.str (wd g),wd2 oc g]
noncomputable def acE(far:Bool)(goal:Nat):List (List Nat):=if far=true then [ZG,ZG,ZG] else if goal=2 then [qL,qL,qL] else [wd goal,nmW goal,nmW goal]
noncomputable def LT(far:Bool)(a b c d p:Option V):TF:=[some (.bool far),a,b,c,d,none,none,p]
section
variable{n t goal bM k:Nat}{oc:List UInt8}{st:St}{F:zV}{X:vd}{rest:List MS}{far:Bool}{p:Option V}
theorem apg(hg:goal < 4)(h:den (tC (E gF (w.C n) 21) rest (LF t oc bM goal k (LT far (some (vL oc goal)) (some (.str Bq)) (some (.str Bq)) none p)) st F X)):
  den (tC (E gF (w.C n) 21) (lr2 rest) (LF t oc bM goal k (LT far none none none none p)) st F X):=
 dV (sJ (by decide)) (dV (lt4 (P:=fun goal=>stk (Fi st (.lst [vL oc 0,vL oc 1,vL oc 2]) (.int (((goal:Nat):Int) % 3)))=some (vL oc goal)) (fP rfl) (fP rfl) (fP rfl) (fP rfl) hg) h)
theorem al8{g:Nat}(h:g≠1):nmW g=Bq:=match g,h with
 | 0,_=>rfl
 | 1,h=>absurd rfl h
 | _ + 2,_=>rfl
theorem al9{A:TF->St->Mine.Internal.S.T}{v7:Option V}(h:den (A (LF t oc bM goal k (LT far v7 (some (.str (nmW goal))) (some (.str (nmW goal))) none p)) st)):
  den ((E gF (w.C n) 21).s lr3 (LF t oc bM goal k (LT far v7 (some (.str Bq)) (some (.str Bq)) none p)) st (tx A F) X):=by
 by_cases q:goal=1
 ·subst q; exact dB (zX rfl) h
 ·rw[al8 q] at h
  exact dB (G5 (qJ (b:=1) q)) h
theorem aph{v7:V}(h7:v7=vL oc goal)(h:den (tC (E gF (w.C n) 21) rest (LF t oc bM goal k (LT far (some v7) (some (.str (nmW goal))) (some (.str (nmW goal))) (some (.lst ((acE far goal).map .str))) p)) st F X)):
  den (tC (E gF (w.C n) 21) (lr4 rest) (LF t oc bM goal k (LT far (some v7) (some (.str (nmW goal))) (some (.str (nmW goal))) none p)) st F X):=by
 cases far with
 | true=>exact dB (qx rfl) (dV (fP rfl) h)
 | false=>
  refine dB (qX rfl) ?_
  by_cases q:goal=2
  ·subst q; exact dB (zX rfl) (dV (fP rfl) h)
  ·rw[show acE false goal=[wd goal,nmW goal,nmW goal] from if_neg q] at h
   subst h7
   exact dB (G5 (qJ (b:=2) q)) (dV (fP rfl) h)
theorem ama(hg:goal < 4)(hk:k < 100)(h:∀ far,(far=true↔7 < k∨goal=3)->den (tC (E gF (w.C n) 21) rest (LF t oc bM goal k (LT far (some (vL oc goal)) (some (.str (nmW goal))) (some (.str (nmW goal))) (some (.lst ((acE far goal).map .str))) (some (.str (47::oF k))))) st F X)):
  den (tC (E gF (w.C n) 21) (lr1 (lr2 (lr3::lr4 rest))) (LF t oc bM goal k []) st F X):=
 apf hk fun far hf=>apg hg (al9 (A:=fun fr st=>tC (E gF (w.C n) 21) (lr4 rest) fr st F X) (aph rfl (h far hf)))
end
theorem W4:∀ l:List (List Nat),vX (eqv 3) (l.map .str) (l.map .str)=some true
 | []=>rfl
 | x::l=>by
  show G7 (some (decide (x=x))) (vX (eqv 3) (l.map .str) (l.map .str))=_
  rw[W4 l,decide_eq_true rfl]; rfl
theorem acF{st:St}(l:List (List Nat)):stk (qC V.bool (cop st .ne (.lst (l.map .str)) (.lst (l.map .str))))=some (.bool false):=Gx (by
 show bnd (if(l.map V.str).length=(l.map V.str).length then vX (eqv 3) (l.map .str) (l.map .str) else some false) (fun x=>some (!x))=_
 rw[if_pos rfl,W4]; rfl)
theorem agD{st:St}(s:List Nat):stk (qC V.bool (cop st .ne (.str s) (.str s)))=some (.bool false):=VP.trans (by rw[decide_eq_true rfl]; rfl)
theorem ajg{st:St}(s:List UInt8):stk (qC V.bool (cop st .eq (.bytes s) (.bytes s)))=some (.bool true):=aaI.trans (by rw[decide_eq_true rfl])
theorem ajh{st:St}(s:List UInt8):stk (qC V.bool (cop st .ne (.bytes s) (.bytes s)))=some (.bool false):=aoP.trans (by rw[decide_eq_true rfl]; rfl)
theorem Q6{st:St}(a:List Nat)(s:List UInt8):stk (qC V.bool (cop st .ne (.tup [.str a,.bytes s]) (.tup [.str a,.bytes s])))=some (.bool false):=Gx (by
 show bnd (G7 (some (decide (a=a))) (G7 (some (decide (s=s))) (some true))) (fun x=>some (!x))=_
 rw[decide_eq_true rfl,decide_eq_true rfl]; rfl)
end
section
variable{w:Wm gF}
theorem arT{P:Pg}{c:Nat->List V->St->Po->Ex->Prop}{i:Nat}{tg:Tg}{m:ME}{fr:TF}{st:St}{A:TF->St->T}{F:zV}{X:vd}{rest:List MS}{v:V}(hm:∀ K:S6,den (K v st)->den ((E P c i).e m fr st K X))
  (h:den ((E P c i).a tg v fr st (fun fr st=>mF (E P c (i + 1)) rest A F X fr st) X)):den (mF (E P c (i + 1)) (.eG tg m::rest) A F X fr st):=hm (fun v st=>(E P c i).a tg v fr st (fun fr st=>mF (E P c (i + 1)) rest A F X fr st) X) h
theorem amb{st:St}{i:Nat}{l:List V}{k:Int}{v:V}(e:Is st i (.list l))(h:nth l k=some v):stk (Fi st (.ref i) (.int k))=some v:=fP (by
 show(match tD st i with | some l=>iI (nth l) (.int k) | .none=>ahl st i (.int k))=_
 rw[yI e]; exact h)
noncomputable def hrV(p:List Nat×V):V:=.tup [.str p.1,p.2]
section
variable{n goal bM k:Nat}{oc:List UInt8}{st:St}{F:zV}{X:vd}{rest:List MS}{far:Bool}{v7 v8 v9:Option V}{T:Tr}{σ:Ms}(t:TR T σ st)(hk:k < 100)
include t hk
theorem agE{A:TF->St->Mine.Internal.S.T}{a b d:List Nat}{x1 x2:V}{i:Nat}{P3:V->Prop}(hh:Is st i (.list [.tup [.str a,x1],.tup [.str b,x2]]))(F3:WY σ T 707 [.ref T.v,.str (47::oF k++[47,103])] d P3)
  (h7:far=true∨goal≠0∨goal=0/\∀ st,stk (qC V.bool (cop st .ne (.tup [.str a,x1]) (vL oc goal)))=some (.bool false))
  (h:∀ st',Ke [i] st st'->den (A (wA (LF T.t oc bM goal k (LT far (some (vL oc goal)) v8 v9 (some (.lst ([a,b,d].map .str))) (some (.str (47::oF k))))) 11 (.ref i)) st')):
  den (mF (E gF (w.C (n + 12)) 21) agC A F X (wA (LF T.t oc bM goal k (LT far (some (vL oc goal)) v8 v9 (some (.lst ([a,b,d].map .str))) (some (.str (47::oF k))))) 11 (.ref i)) st):=by
 refine dB (qx (Nb hh)) (dV (aU t.t rfl) (dN (aX t.v rfl) (dV (iD (ak (bU (bI (akk hk)) 2) (bl rfl))) (dH rfl rfl fun J J hX hQ=>F3 hX hQ t fun s4 x3 p3 k4=>?_)))); o_shape
 have hh4:=k4.rE hh
 refine dP (kE (Bc hh4 (bl rfl)) (show _=s4.set i (.list ([(a,x1),(b,x2),(d,x3)].map hrV)) from rfl)) ?_
 have k5:=Ke.pre k4 (Ke.set (i:=i) (o:=.list ([(a,x1),(b,x2),(d,x3)].map hrV)))
 have hh5:=fQ (o:=.list ([(a,x1),(b,x2),(d,x3)].map hrV)) hh4
 show let t:=_; den t
 revert hh5 k5
 generalize s4.set i (.list ([(a,x1),(b,x2),(d,x3)].map hrV))=s5
 intro k5 hh5 t'
 have fin:=h s5 k5
 refine dL (yN hh5) (dG (qD (g:=hrV) (fun p:List Nat×V=>.str p.1) (rH hh5) (bl rfl) (fun J J K hK=>dV (fP rfl) hK) (dV (acF [a,b,d]) (dB (qx rfl) ?_))))
 by_cases f:far=true
 ·subst f; exact dB (qX rfl) (dB (qx rfl) (dB (qX rfl) fin))
 ·cases(Bool.not_eq_true far).mp f
  refine dB (qx rfl) ((h7.resolve_left bC).elim (fun h7=>?_) fun h7=>?_)
  ·exact dB (aoO (qJ (b:=0) h7)) (dB (Gv (qJ (b:=0) h7)) (dB (qX rfl) fin))
  ·exact dB (afG (cst h7.1)) (dV (amb hh5 rfl) (dV (h7.2 s5) (dB (qX rfl) (dB (qx rfl) (dB (qX rfl) fin)))))
omit hk in
theorem agF{A:TF->St->Mine.Internal.S.T}{v8 v9 v10:Option V}{a b:List Nat}{P1 P2:V->Prop}(F1:WY σ T 721 [.ref T.v,.str (47::oF k),.int 0,.int 99] a P1)(F2:WY σ T 733 [.ref T.v,.str (47::oF k)] b P2)
  (h:∀ x1 x2 s,P1 x1->Ke [] st s->den (A (wA (LF T.t oc bM goal k (LT far v7 v8 v9 v10 (some (.str (47::oF k))))) 11 (.ref s.length)) (s++[.list [.tup [.str a,x1],.tup [.str b,x2]]]))):
  den ((E gF (w.C (n + 12)) 21).s lr5 (LF T.t oc bM goal k (LT far v7 v8 v9 v10 (some (.str (47::oF k))))) st (tx A F) X):=by
 refine dV (aU t.t rfl) (dN (aX t.v rfl) (dH rfl rfl fun J J hX hQ=>F1 hX hQ t fun s1 x1 p1 k1=>?_)); o_shape
 have t1:=t.ke k1
 exact dV (aU t1.t rfl) (dN (aX t1.v rfl) (dH rfl rfl fun J J hX hQ=>F2 hX hQ t1 fun s2 x2 p2 k2=>h x1 x2 s2 p1 (k1.trans k2)))
theorem ZK{a b d:List Nat}{P1 P2 P3:V->Prop}(hd:acE far goal=[a,b,d])(F1:WY σ T 721 [.ref T.v,.str (47::oF k),.int 0,.int 99] a P1)(F2:WY σ T 733 [.ref T.v,.str (47::oF k)] b P2)(F3:WY σ T 707 [.ref T.v,.str (47::oF k++[47,103])] d P3)
  (h7:far=true∨goal≠0∨goal=0/\∀ x,P1 x->∀ st,stk (qC V.bool (cop st .ne (.tup [.str a,x]) (vL oc goal)))=some (.bool false))
  (h:∀ j st',Ke [] st st'->den (tC (E gF (w.C (n + 12)) 21) rest (wA (LF T.t oc bM goal k (LT far (some (vL oc goal)) v8 v9 (some (.lst ([a,b,d].map .str))) (some (.str (47::oF k))))) 11 (.ref j)) st' F X)):
  den (tC (E gF (w.C (n + 12)) 21) (lr5::(agC++rest)) (LF T.t oc bM goal k (LT far (some (vL oc goal)) v8 v9 (some (.lst ((acE far goal).map .str))) (some (.str (47::oF k))))) st F X):=by
 rw[hd]
 exact agF (A:=fun fr st=>mF (E gF (w.C (n + 12)) 21) agC (fun fr st=>tC (E gF (w.C (n + 12)) 21) rest fr st F X) F X fr st) t F1 F2 fun x1 x2 s p1 k=>
  agE (t.ke (k.trans Ke.app)) hk cC F3 (h7.imp_right fun h7=>h7.imp_right fun h7=>⟨h7.1,h7.2 x1 p1⟩) fun st' k'=>h _ st' (k.trans ((Ke.app).own k' rF))
end
end
section
variable{w:Wm gF}
section
variable{n c goal bM k nr:Nat}{oc:List UInt8}{st:St}{F:zV}{X:vd}{A:TF->St->Mine.Internal.S.T}{far:Bool}{v7 v8 v9:Option V}{T:Tr}{σ:Ms}{lk:List Nat->Option Nat}(t:TR T σ st)
include t
theorem acG{x:V}(fd:Iw σ (47::oF k) false (.inl (7 + k)))(l:IsL σ (7 + k) (tgt goal k)){z:Zn}(iz:kj σ (7 + k) z)(zs:z.sort=2)(hg:goal < 4)(hk:k < 100){v10:Option V}
  (h:∀ st' g,leT (GF T.t oc bM goal) g->Ke [] st st'->den (A g st')):
  den (mF (E gF (w.C (n + 12)) 21) lr6 A F X (LF T.t oc bM goal k (wA (LT far v7 v8 v9 v10 (some (.str (47::oF k)))) 5 x)) st):=by
 refine fd.elim fun m q=>?_
 refine arT (fun K=>ape (j:=11) hg hk) ?_; o_shape
 refine dV (aU t.t rfl) (dN (aX t.v rfl) (dG (Io t.r t.v (mV q.1) q.2.1 q.2.2 ⟨z,iz,.inr ⟨zs,_,l,fun s1 k1=>?_⟩⟩))); o_shape
 have t1:=t.ke k1
 refine dV (agD (tgt goal k)) (dB (qx rfl) (dV (aU t1.t rfl) (dN (aX t1.v rfl) (dG (ai0 t1.r t1.v (mV q.1) q.2.1 q.2.2 ⟨z,iz,fun s2 k2 j hj=>?_⟩))))); o_shape
 exact dV (Dj (aU hj rfl) (congrArg (fun n:Nat=>V.int n) zs)) (dB (qx rfl) (dB (qX rfl) (h s2 _ (vD 5 rfl) (k1.trans k2))))
end
end
section
variable{w:Wm gF}
structure LS(σ:Ms)(c goal md:Nat)(oc:List UInt8):Prop where
 rt:Rt σ (JD c) (2 + c)
 ln:Ln σ c goal (JD c)
 d1:Dir σ 1 [([114,111,111,116],2),([117,110,108,105,110,107,101,100],3)]
 d4:Dir σ 4 [([103],20)]
 z4:∃ z,kj σ 4 z/\z.sort=1/\z.mode=md/\z.links < 100
 z5:∃ z,kj σ 5 z/\z.sort=0
 z6:∃ z,kj σ 6 z/\z.sort=0/\z.size=oc.length
 o6:∃ b,b<=200/\Dat σ 6 b fun i=>oc.getD i 0
theorem Ln.mv{σ cJ:Ms}{c goal:Nat}{lk lk':List Nat->Option Nat}{L:List Nat}(h:Ln σ c goal lk)(g:Cg σ cJ L)(m:∀ k,k < c->7 + k∉L)(e:∀ k,k < c->lk' (oF k)=lk (oF k)):Ln cJ c goal lk':=
 ⟨h.hc,fun k hk=>(h.hl k hk).mv g (m k hk),fun k hk=>(h.hz k hk).imp fun J q=>⟨q.1.mv g (m k hk),q.2⟩,fun k hk=>(e k hk).trans (h.hk k hk)⟩
theorem LS.mv{σ cJ:Ms}{c goal md:Nat}{oc:List UInt8}{L:List Nat}(h:LS σ c goal md oc)(g:Cg σ cJ L)(n:∀ x∈L,x=2∨x=3∨7 + c<=x)(rt:Rt cJ (JD c) (2 + c)):LS cJ c goal md oc:=by
 have m:∀ j,j≠2->j≠3->j < 7 + c->j∉L:=fun j h2 h3 h7 hm=>(n _ hm).elim h2 fun q=>q.elim h3 (Nat.not_le.mpr h7)
 have l:∀ j,uc j 7=true->j < 7 + c:=fun j h=>aK (cA h) (bh 7 c)
 have m1:=m 1 (by decide) (by decide) (l 1 rfl)
 have m4:=m 4 (by decide) (by decide) (l 4 rfl)
 have m5:=m 5 (by decide) (by decide) (l 5 rfl)
 have m6:=m 6 (by decide) (by decide) (l 6 rfl)
 exact⟨rt,h.ln.mv g (fun k hk=>m _ (gq (aK (by decide) (bh 7 k))) (gq (aK (by decide) (bh 7 k))) (pA hk 7)) fun J J=>rfl,h.d1.mv g m1,h.d4.mv g m4,
  h.z4.imp fun J q=>⟨q.1.mv g m4,q.2⟩,h.z5.imp fun J q=>⟨q.1.mv g m5,q.2⟩,h.z6.imp fun J q=>⟨q.1.mv g m6,q.2⟩,h.o6.imp fun J q=>⟨q.1,q.2.mv g m6⟩⟩
theorem ai4.ls{T:Tr}{σ cJ:Ms}{st st':St}{c goal md:Nat}{oc:List UInt8}{R:List Row}{zf:Zn}(h:LS σ c goal md oc)(hc:c < 50)(tp:σ.top + 1=7 + c)(q:ai4 T σ cJ st st' 2 (tgt goal c) R (oF c) zf)(hR:R.length=2 + c)(eR:∀ s,R.lookup s=JD c s)(hs:zf.sort=1)(hl:zf.links < 100 + (2 + c)):LS cJ (c + 1) goal md oc:=by
 obtain⟨m,_,_,d,zz,z,l⟩:=q
 rw[tp] at m d z l
 have nn:R.lookup (oF c)=none:=(eR _).trans (ZD (bf _))
 have n:∀ j,j≠2->j < 7 + c->j∉[2,7 + c]:=fun j h2 h7=>vK h2 (cB h7)
 have l7:∀ j,uc j 7=true->j < 7 + c:=fun j h=>aK (cA h) (bh 7 c)
 have m1:=n 1 (by decide) (l7 1 rfl)
 have m4:=n 4 (by decide) (l7 4 rfl)
 have m5:=n 5 (by decide) (l7 5 rfl)
 have m6:=n 6 (by decide) (l7 6 rfl)
 have mk:∀ k,k < c->7 + k∉[2,7 + c]:=fun k hk=>n _ (gq (aK (by decide) (bh 7 k))) (pA hk 7)
 have lt:∀ k,k < c + 1->k≠c->k < c:=fun k hk e=>jY (cX hk) e
 refine⟨⟨⟨_,d,by rw[aF,hR]; rfl,fun s=>(nQ nn s).trans (by rw[eR]; rfl)⟩,_,zz,hs,cU hl⟩,⟨aA hc (bl rfl),fun k hk=>?_,fun k hk=>?_,fun k hk=>agA hk⟩,h.d1.mv m.c m1,h.d4.mv m.c m4,
  h.z4.imp fun J q=>⟨q.1.mv m.c m4,q.2⟩,h.z5.imp fun J q=>⟨q.1.mv m.c m5,q.2⟩,h.z6.imp fun J q=>⟨q.1.mv m.c m6,q.2⟩,h.o6.imp fun J q=>⟨q.1,q.2.mv m.c m6⟩⟩
 ·by_cases e:k=c
  ·rw[e]; exact l
  ·exact(h.ln.hl k (lt k hk e)).mv m.c (mk k (lt k hk e))
 ·by_cases e:k=c
  ·rw[e]; exact⟨_,z,rfl⟩
  ·exact(h.ln.hz k (lt k hk e)).imp fun J q=>⟨q.1.mv m.c (mk k (lt k hk e)),q.2⟩
theorem W5{σ:Ms}{k:Nat}{r:Nat ⊕ Nat}(hk:k < 100)(h:Wk σ (oF k) [] 0 r):Iw σ (47::oF k) true r:=
 have nm:=Bp (aG hk (bl rfl))
 h.imp fun J q=>⟨nm.rl,nm.rp▸(bl rfl:1 < 100),nm.rp▸q⟩
theorem Oa{σ:Ms}{k:Nat}{r:Nat ⊕ Nat}(hk:k < 100)(h:Wk σ (oF k) [[103]] 0 r):Iw σ (47::oF k++[47,103]) true r:=by
 have nm:=Bp (aG hk (bl rfl))
 have e:eH (47::oF k++[47,103])=[oF k,[103]]:=IK nm nmG
 have l:(47::oF k++[47,103]).length < 900:=by
  rw[aF]; exact aA (bU (bI (akk hk)) 2) (bl rfl)
 exact h.imp fun J q=>⟨l,e▸(bl rfl:2 < 100),e▸q⟩
theorem JG(c:Nat):JD c [100]=some 17:=(aaX (by decide) c).trans (if_pos rfl)
theorem G4(c:Nat):JD c [102]=some 24:=(aaX (by decide) c).trans ((if_neg (by decide)).trans (if_pos rfl))
theorem EY{s:List Nat}(h:s.head?≠some 108)(h1:s≠[100])(h2:s≠[102])(c:Nat):JD c s=none:=(aaX h c).trans ((if_neg h1).trans (if_neg h2))
structure LHr(σ:Ms)(T:Tr)(k:Nat)(a b d:List Nat)(P1:V->Prop):Prop where
 r1:WY σ T 721 [.ref T.v,.str (47::oF k),.int 0,.int 99] a P1
 r2:∃ P,WY σ T 733 [.ref T.v,.str (47::oF k)] b P
 r3:∃ P,WY σ T 707 [.ref T.v,.str (47::oF k++[47,103])] d P
theorem LHr.no{σ:Ms}{T:Tr}{k C:Nat}{a:List Nat}(e:vY.lookup C=some (.tup [.str a,.none]))(f1:Iw σ (47::oF k) true (.inr C))(f2:Iw σ (47::oF k++[47,103]) true (.inr C)):LHr σ T k a a a (·=.none):=
 ⟨W0 f1 e,⟨_,T3 f1 e⟩,⟨_,JF f2 e⟩⟩
theorem acH{σ:Ms}{T:Tr}{c goal md k:Nat}{oc:List UInt8}{far:Bool}{R:Prop}(s:LS σ c goal md oc)(hk:k < c)(hg:goal < 4)(ho:oc.length<=99)(hf:far=true↔7 < k∨goal=3)
  (h:∀ a b d P1,acE far goal=[a,b,d]->LHr σ T k a b d P1->(far=true∨goal≠0∨goal=0/\∀ x,P1 x->∀ st,stk (qC V.bool (cop st .ne (.tup [.str a,x]) (vL oc goal)))=some (.bool false))->R):R:=by
 have k1:=aG hk s.ln.hc
 have h0:([]:List (List Nat)).length < 50:=bl rfl
 have h1:[[103]].length < 50:=bl rfl
 have loop:far=true->Iw σ (47::oF k) true (.inr 159)->Iw σ (47::oF k++[47,103]) true (.inr 159)->R:=fun e f1 f2=>h _ _ _ _ (if_pos e) (.no rfl f1 f2) (.inl e)
 by_cases g3:goal=3
 ·exact loop (hf.mpr (.inr g3)) (W5 k1 (loops s.rt s.ln h0 g3 k 0 hk (bl rfl))) (Oa k1 (loops s.rt s.ln h1 g3 k 0 hk (bl rfl)))
 by_cases q:7 < k
 ·exact loop (hf.mpr (.inl q)) (W5 k1 (Q5 s.rt s.ln h0 hk (bl rfl) ((fU k).symm▸q))) (Oa k1 (Q5 s.rt s.ln h1 hk (bl rfl) ((fU k).symm▸q)))
 have nf:¬ far=true:=fun e=>(hf.mp e).elim q g3
 have go:∀ {t:List (List Nat)} {n r},t.length < 50->uM σ 2 true 2 (eH (ends goal)++t) (0 + k + 1) n r->Wk σ (oF k) t 0 r:=fun ht w=>chain s.rt s.ln ht hk (by rw[fU]; exact dM (gK.mp q)) w
 by_cases g0:goal=0
 ·subst g0
  refine s.z6.elim fun z iz=>s.o6.elim fun b dd=>?_
  have zs:z.sort≠1:=fun e=>nomatch iz.2.1.symm.trans e
  have f1:=W5 k1 (go (t:=[]) h0 (by rw[pQ]; exact rJ s.rt nmF (G4 c) (.inl (by decide)) .done))
  have f2:=Oa k1 (go (t:=[[103]]) h1 (by rw[pQ]; exact rJ s.rt nmF (G4 c) (.inl (by decide)) (.GJ iz.1 zs)))
  refine h qZ Bq Bq _ ((if_neg nf).trans (if_neg (by decide))) ⟨W2 (x:=0) (y:=99) f1 iz.1 zs dd.2 (bl rfl),⟨_,N8 f1 iz.1 zs⟩,⟨_,JF f2 rfl⟩⟩ (.inr (.inr ⟨rfl,fun x hx st=>?_⟩))
  rw[hx,iz.2.2,Nat.sub_zero,rO ho,TG _ fun J J=>rfl]
  exact Q6 _ _
 by_cases g1:goal=1
 ·subst g1
  refine s.z4.elim fun z iz=>s.z5.elim fun z5 iz5=>?_
  have f1:=W5 k1 (go (t:=[]) h0 (by rw[pQ]; exact rJ s.rt ZC (JG c) (.inl (by decide)) .done))
  have f2:=Oa k1 (go (t:=[[103]]) h1 (by rw[pQ]; exact rJ s.rt ZC (JG c) (.inl (by decide)) (.pl (v:=20) iz.1 iz.2.1 s.d4 nmG rfl (.inl (by decide)) .done)))
  exact h ZJ qZ qZ _ ((if_neg nf).trans (if_neg (by decide))) ⟨T4 f1 iz.1 iz.2.1,⟨_,Pr f1 iz.1 iz.2.1 s.d4⟩,⟨_,W3 f2 iz5.1⟩⟩ (.inr (.inl g0))
 obtain rfl:goal=2:=lt4 (P:=fun g=>g≠0->g≠1->g≠3->g=2) (fun h=>absurd rfl h) (fun J h=>absurd rfl h) (fun J J J=>rfl) (fun J J h=>absurd rfl h) hg g0 g1 g3
 exact h _ _ _ _ ((if_neg nf).trans (if_pos rfl)) (.no rfl (W5 k1 (go (t:=[]) h0 (by rw[pQ]; exact IV s.rt N7 (EY (by decide) (by decide) (by decide) c)))) (Oa k1 (go (t:=[[103]]) h1 (by rw[pQ]; exact IV s.rt N7 (EY (by decide) (by decide) (by decide) c))))) (.inr (.inl g0))
section
variable{n c goal bM md k:Nat}{oc:List UInt8}{st:St}{F:zV}{X:vd}{A:TF->St->Mine.Internal.S.T}{σ:Ms}{T:Tr}
theorem ZL(t:TR T σ st)(s:LS σ c goal md oc)(hk:k < c)(hg:goal < 4)(ho:oc.length<=99)(h:∀ st' g,leT (GF T.t oc bM goal) g->Ke [] st st'->den (F .next g st')):
  den (tC (E gF (w.C (n + 12)) 21) (lr1 (lr2 (lr3::lr4 (lr5::(agC++lr6))))) (LF T.t oc bM goal k []) st F X):=by
 have k1:=aG hk s.ln.hc
 refine ama hg k1 fun far hf=>acH (T:=T) s hk hg ho hf fun a b d P1 e L h7=>?_
 refine L.r2.elim fun J r2=>L.r3.elim fun J r3=>ZK t k1 e L.r1 r2 r3 h7 fun j st' k'=>s.ln.hz k hk |>.elim fun z iz=>?_
 exact acG (A:=fun fr st=>F .next fr st) (t.ke k') ((dv k).symm▸kZ s.rt (Bp (s.ln.lt hk)) (s.ln.hk k hk) (.inr rfl)) (s.ln.hl k hk) iz.1 iz.2 hg k1 fun st2 g hgf k2=>h st2 g hgf (k'.trans k2)
end
end
section
variable{w:Wm gF}
noncomputable def lr0:List MS:=[.expr (.bk 56 (.aD 0) [(.bin .add (.aj (.str [47,108])) (.bi .str [(.aD 5)])),tgE])]
theorem amc{P:Pg}{c:Nat->List V->St->Po->Ex->Prop}{i nm o f:Nat}{m1 m2:ME}{fr:TF}{st:St}{F:zV}{X:vd}{v1 v2:V}(hf:stk (meth P st o nm)=some f)
  (h1:∀ K:S6,den (K v1 st)->den ((E P c (i + 1)).e m1 (some (.ref o)::fr) st K X))(h2:∀ K:S6,den (K v2 st)->den ((E P c (i + 1)).e m2 (some (.ref o)::fr) st K X))
  (h:c f [.ref o,v1,v2] st (fun J st=>den (F .next (some (.ref o)::fr) st)) fun c st=>den (X c st)):den (tC (E P c (i + 3)) [.expr (.bk nm (.aD 0) [m1,m2])] (some (.ref o)::fr) st F X):=
 dN hf (h1 (fun v st=>(E P c (i + 1)).e m2 (some (.ref o)::fr) st (fun v2 st=>.gen (c f [.ref o,v,v2] st) (fun J st=>F .next (some (.ref o)::fr) st) X) X) (h2 (fun v2 st=>.gen (c f [.ref o,v1,v2] st) (fun J st=>F .next (some (.ref o)::fr) st) X) h))
theorem ZM{st:St}{a b:Nat}{l:List Nat}(ha:a < 16)(hb:b < 16)(e:rT (zu [iV a,iV b])=some (.lst (l.map iV))):stk (JH st .qd [.lst [iV a,iV b]])=some (.lst (l.map iV)):=
 fP ((iC (aaH ⟨aO a,jr ha⟩) (iC (aaH ⟨aO b,jr hb⟩) e)))
theorem apl{a b c:Nat}(ha:a < 16)(hb:b < 16)(ka:a < c)(kb:b < c):∃ l:List Nat,(∀ x∈l,x < c)/\∀ st,stk (JH st .qd [.lst [iV a,iV b]])=some (.lst (l.map iV)):=by
 have k:([iV b].any (jA (iV a)))=((b==a) || false):=congrArg (· || false) vG
 have d:zu [iV a,iV b]=if((b==a) || false)=true then [iV b] else [iV a,iV b]:=by rw[← k]; rfl
 have s:∀ l:List Nat,l.length < 64->rT (l.map iV)=some (.lst (sH (l.map iV))):=fun l h=>if_pos ⟨wJ l,aA (aR (aQ _)) h⟩
 by_cases q:b=a
 ·refine⟨[b],fun x hx=>aN.mp hx▸kb,fun st=>ZM ha hb ?_⟩
  rw[d,if_pos (by rw[q,BEq.rfl]; rfl)]
  exact(s [b] (bl rfl)).trans (congrArg (fun l=>some (V.lst l)) (GX (qj _ _)))
 ·rw[if_neg (by rw[beq_eq_false_iff_ne.mpr q]; exact bC)] at d
  rcases Nat.lt_or_gt_of_ne q with h | h
  ·refine⟨[b,a],fun x hx=>(aY.mp hx).elim (fun e=>e▸kb) fun hx=>aN.mp hx▸ka,fun st=>ZM ha hb ?_⟩
   rw[d]
   refine(s [a,b] (bl rfl)).trans (congrArg (fun l=>some (V.lst l)) ?_)
   show(if ltB (iV b) (iV a) then [iV b,iV a] else iV a::[iV b])=_
   have:ltB (iV b) (iV a)=true:=(congrArg (false || true && ·) (decide_eq_true (jr h)):(decide (([]:List Nat) < []) || (decide (([]:List Nat)=[]) && decide ((b:Int) < a)))=true)
   rw[this]; rfl
  ·refine⟨[a,b],fun x hx=>(aY.mp hx).elim (fun e=>e▸ka) fun hx=>aN.mp hx▸kb,fun st=>ZM ha hb ?_⟩
   rw[d]
   exact(s [a,b] (bl rfl)).trans (congrArg (fun l=>some (V.lst l)) (GX (List.pairwise_pair.mpr h)))
structure Og(T:Tr)(σ:Ms)(st:St)(i c goal md:Nat)(oc:List UInt8):Prop where
 t:TR T σ st
 s:LS σ c goal md oc
 i:σ.i=i
 top:σ.top=6 + c
 ks:σ.ks=eX 1 (6 + c)
 d3:Dir σ 3 []
structure LkI(T:Tr)(i goal md bM:Nat)(oc:List UInt8)(b:Ms×Nat)(l:List Nat)(st:St):Prop where
 a:Og T b.1 st i b.2 goal md oc
 e:l=eX b.2 l.length
 n:b.2 + l.length=bM
section
variable{n goal bM md i:Nat}{oc:List UInt8}{st:St}{Q:Po}{X:Ex}{σ:Ms}{T:Tr}
theorem Og.ke{c:Nat}{st':St}(a:Og T σ st i c goal md oc)(k:Ke [] st st'):Og T σ st' i c goal md oc:=⟨a.t.ke k,a.s,a.i,a.top,a.ks,a.d3⟩
theorem Og.new{k:Nat}{st':St}{cJ:Ms}{R:List Row}{zf:Zn}(a:Og T σ st i k goal md oc)(hk:k < 50)(q:ai4 T σ cJ st st' 2 (tgt goal k) R (oF k) zf)(lR:R.length=2 + k)(eR:∀ s,R.lookup s=JD k s)(zs:zf.sort=1)(zl:zf.links < 100 + (2 + k)):Og T cJ st' i (k + 1) goal md oc where
 t:=a.t.mv q.m
 s:=q.ls a.s hk ((congrArg (· + 1) a.top).trans (cN 6 k 1)) lR eR zs zl
 i:=q.m.c.i.trans a.i
 top:=q.top.trans (congrArg (· + 1) a.top)
 ks:=by rw[q.ks,a.ks,a.top,show 6 + (k + 1)=6 + k + 1 from rfl,List.range'_concat,Nat.one_mul,fB 1]
 d3:=a.d3.mv q.m.c (vK (by decide) (cB (aK (bl rfl:3 < 7) (bI (a.top▸bh 6 k)))))
theorem agG{k:Nat}{F:zV}{X:vd}(a:Og T σ st i k goal md oc)(hg:goal < 4)(hk:k < 15)(hw:T.now < 100000)(h:∀ st' cJ,Og T cJ st' i (k + 1) goal md oc->den (F .next (LF T.t oc bM goal k []) st')):
  den (tC (E gF (w.C (n + 12)) 21) lr0 (LF T.t oc bM goal k []) st F X):=by
 have k6:k < 1000000:=aG hk (bl rfl)
 have k1:k < 100:=aG hk (bl rfl)
 have w:=agB goal k k6
 refine a.s.rt.el fun R R' z d lR eR d' eR' iz zs zl=>?_
 exact amc (i:=18) (aX a.t.t rfl) (fun K h=>dV (Dy (aG hk (bl rfl))) (dV (iD (ak (aZ (vJ k6) 2) (bl rfl))) h)) (fun K=>ape (j:=10) hg k1)
  (Zw (s:=oF k) a.t (sX a.s.rt (Bp k6)) d ((eR _).trans (ZD (bf _))) (lR▸aK (pA hk 2) (bl rfl)) iz w.g w.l0 (ak w.l (bl rfl)) hw (a.top▸aK (oO (pA hk 6)) (bl rfl)) fun s' vf q=>h s' vf (a.new (aG hk (bl rfl)) q lR eR zs zl))
noncomputable def apm:ME:=.ite (.cmp (.aD 2) .gt (.aj (.int 0))) (.bi .qd [.jJ [.bin .sub (.aD 2) (.aj (.int 1)),.bin .mod (.bi .len [.aD 1]) (.bi .max [.aj (.int 1),.aD 2])]]) (.jJ [])
theorem apn(t j:Nat)(lo:oc.length<=lim)(hm:bM<=11):∃ r:List Nat,(∀ x∈r,x < bM)/\∀(K:S6) (X:vd) (st:St),den (K (.lst (r.map iV)) st)->den ((E gF (w.C n) (j + 9)).e apm (GF t oc bM goal) st K X):=by
 rcases Nat.eq_zero_or_pos bM with e | hp
 ·subst e
  exact⟨[],fun J h=>absurd h dK,fun K X st h=>dB (G5 (wK 0)) h⟩
 ·have l16:bM < 16:=aA hm (bl rfl)
  have lm:=mH oc.length hp
  obtain⟨l,hl,es⟩:=apl (a:=bM - 1) (b:=oc.length % bM) (c:=bM) (aA (jF _ _) l16) (aG lm l16) (Nat.sub_lt hp (bl rfl)) lm
  have m1:max 1 (bM:Int)=bM:=rM (dU hp)
  have x1:iV (bM - 1)=.int ((bM:Int) - 1):=congrArg V.int (Int.natCast_sub hp)
  have x2:iV (oc.length % bM)=.int ((oc.length:Int) % max 1 (bM:Int)):=congrArg V.int (by rw[m1]; rfl)
  rw[x1,x2] at es
  exact⟨l,hl,fun K X st h=>dB (zX (jr hp)) (dV (gY lo) (dV (fP rfl) (dV (sJ (by rw[m1]; exact jr hp)) (dV (es st) h))))⟩
theorem arV{P:Pg}{c:Nat->List V->St->Po->Ex->Prop}{i:Nat}{pt:Pt}{m:ME}{body rest:List MS}{fr:TF}{st:St}{F:zV}{X:vd}{l:List V}(hm:∀ K:S6,den (K (.lst l) st)->den ((E P c i).e m fr st K X))
  (h:VK (E P c i) pt body (fun st=>ux st .plain [.lst l] l) l fr st (fun f g st=>den (tx (fun fr st=>tC (E P c (i + 1)) rest fr st F X) F f g st)) fun c st=>den (X c st)):den (tC (E P c (i + 1)) (.for pt .plain [m] body::rest) fr st F X):=
 hm (fun v st=>.opL (stk (lF st .plain [v])) fun l=>.genS (VK (E P c i) pt body (fun st=>ux st .plain [v] l) l fr st) (tx (fun fr st=>tC (E P c (i + 1)) rest fr st F X) F) X) (dL (fP rfl) (dS h))
theorem acI{F:zV}{X:vd}(a:Og T σ st i bM goal md oc)(hg:goal < 4)(hm:bM<=11)(ho:oc.length<=99)(h:∀ st',Og T σ st' i bM goal md oc->den (F (.ret (.bool true)) (GF T.t oc bM goal) st')):
  den (tC (E gF (w.C (n + 12)) 22) [.for (.v 5) .plain [apm] (lr1 (lr2 (lr3::lr4 (lr5::(agC++lr6))))),.ret (some (.aj (.bool true)))] (GF T.t oc bM goal) st F X):=by
 obtain⟨r,hr,e⟩:=apn (w:=w) (n:=n + 12) (goal:=goal) T.t 12 (ak ho (bl rfl)) hm
 refine arV (fun K=>e K X st) ?_
 refine GC (g:=iV) (GF T.t oc bM goal) (fun(_:Unit) l s=>(∀ x∈l,x < bM)/\Og T σ s i bM goal md oc) (fun J J J J=>rfl) (fun J s I=>h s I.2) (fun J x l s I K kn J J=>?_) () r st ⟨hr,a⟩
 exact ZL (F:=lfS K) (X:=Od _) I.2.t I.2.s (I.1 x (.head _)) hg ho fun st' g hgf k=>kn g st' () hgf ⟨fun y hy=>I.1 y (.tail _ hy),I.2.ke k⟩
theorem agH(a:Og T σ st i 0 goal md oc)(hg:goal < 4)(hm:bM<=11)(ho:oc.length<=99)(hw:T.now < 100000)
  (h:∀ st' cJ,Og T cJ st' i bM goal md oc->Q (.bool true) st'):w.C (n + 13) 1076 [.ref T.t,.bytes oc,.int bM,.int goal] st Q X:=by
 have live:∀ st,ux st .range [.int bM] ((fD (bM:Int).toNat).map fun i:Nat=>.int i):=fun J=>sO (aO _) (dU (ak hm (bl rfl)))
 refine w.h ?_; o_shape
 refine dL (Gy (aO _) (dU (ak hm (bl rfl)))) (dS (GC (g:=fun i:Nat=>V.int i) (GF T.t oc bM goal) (LkI T i goal md bM oc) (fun J J J J=>live _) (fun d s I=>?_) (fun d x r s I K kn J J=>?_) (σ,0) _ _ ⟨a,by rw[cH,cM,lu],by rw[cH,cM,fU]⟩))
 ·exact acI (n:=n) (σ:=d.1) ((I.n:d.2=bM)▸I.a) hg hm ho fun st' a=>h st' d.1 a
 ·have e:x::r=d.2::eX (d.2 + 1) r.length:=I.e
  obtain⟨rfl,e2⟩:=gb e
  have n:=I.n
  have lt:d.2 < bM:=n▸iG (iQ _)
  exact agG (n:=_) (F:=lfS K) (X:=Od _) I.a hg (aK lt (ak hm (bl rfl))) hw fun st' cJ a'=>kn _ st' (cJ,d.2 + 1) (vD 5 rfl) ⟨a',e2,(eF _ _).trans n⟩
end
end
section
variable{w:Wm gF}
noncomputable def rr1:List MS:=[.eG (.t [(.v 5),(.v 6)]) (.tup [(.qy (.jJ [(.neg (.aj (.int 1))),(.aj (.int 0)),(.aj (.int 1)),(.bi .len [(.aD 1)]),(.bin .add (.bi .len [(.aD 1)]) (.aj (.int 1))),(.aj (.int 5))]) (.bin .mod (.aD 2) (.aj (.int 6)))),(.qy (.jJ [(.neg (.aj (.int 1))),(.aj (.int 0)),(.aj (.int 1)),(.bi .len [(.aD 1)]),(.aj (.int 200))]) (.bin .mod (.bin .fdiv (.aD 2) (.aj (.int 6))) (.aj (.int 5))))]),.eG (.v 3) (.heard 1071 eE vY (.bk 7 (.bR (.aD 0) 41) [(.aj (.str [47,102])),(.aD 5),(.aD 6)])),.ite (.cmp (.aD 3) .ne (.ite (.bool false [(.cmp (.aD 5) .lt (.aj (.int 0))),(.cmp (.aD 6) .lt (.aj (.int 0)))]) (.tup [(.aj (.str [77,105,115,117,115,101,100])),(.aj .none)]) (.tup [(.aj (.str [116,111,108,100])),(.slice (.aD 1) (some (.aD 5)) (some (.bin .add (.aD 5) (.aD 6))))]))) [.ret (some (.aj (.bool false)))] []]
noncomputable def rr3:List MS:=[.eG (.v 4) (.jJ [(.aj (.str [73,115,70,111,108,100,101,114])),(.aj (.str [78,111,116,70,111,108,100,101,114])),(.aj (.str [77,105,115,117,115,101,100])),(.aj (.str [77,105,115,115,105,110,103])),(.aj (.str [73,115,70,111,108,100,101,114])),(.aj (.str [77,105,115,117,115,101,100])),(.aj (.str [73,110,118,97,108,105,100,80,97,116,104])),(.aj (.str [69,120,105,115,116,115]))]),.ret (some (.cmp (.aD 3) .eq (.comp (.v 7) .plain [(.aD 4)] .none (.tup [(.aD 7),(.aj .none)]))))]
theorem Ob(d:Int){l:List Int}{n:Nat}(hn:l.length=n)(h0:0 < n){P:Int->Prop}(hP:∀ a∈l,P a):∃ a,P a/\∀ st,stk (Fi st (.lst (l.map .int)) (.int (d % n)))=some (.int a):=by
 have p:(0:Int) < n:=fu.mpr h0
 obtain⟨k,e⟩:=lQ (tL d (Int.ne_of_gt p))
 have hk:k < l.length:=hn▸fu.mp (e▸pX d p)
 refine⟨l[k],hP _ (xT hk),fun st=>fP ?_⟩
 rw[e]
 show nth (l.map V.int) (k:Int)=_
 unfold nth
 rw[if_pos (aO k),cH,jB,bF hk]; rfl
theorem iu{α:Type}{P:α->Prop}{x:α}{l:List α}(h:P x)(k:∀ a∈l,P a):∀ a∈x::l,P a:=List.forall_mem_cons.mpr ⟨h,k⟩
theorem amd(oc:List UInt8)(a m:Nat):rd (fun i=>oc.getD i 0) a (min m (oc.length - a))=(oc.drop a).take m:=by
 have e:((oc.drop a).take m).length=min m (oc.length - a):=by rw[xP,jk]
 refine(Zu e fun i hi=>?_).symm
 rw[xK (aK hi (mW _ _)),Iv]
noncomputable def RF(t:Nat)(oc:List UInt8)(d:Int)(v:V)(x y:Int):TF:=[some (.ref t),some (.bytes oc),some (.int d),some v,none,some (.int x),some (.int y)]
theorem aji{n c goal md i:Nat}{oc:List UInt8}{d:Int}{st:St}{σ:Ms}{T:Tr}{A:TF->St->Mine.Internal.S.T}{F:zV}{X:vd}(a:Og T σ st i c goal md oc)(ho:oc.length<=99)
  (h:∀ v x y st',Ke [] st st'->den (A (RF T.t oc d v x y) st')):den (mF (E gF (w.C (n + 12)) 22) rr1 A F X [some (.ref T.t),some (.bytes oc),some (.int d)] st):=by
 have lo:oc.length<=lim:=ak ho (bl rfl)
 obtain⟨x,hx,ex⟩:=Ob d (l:=[-1,0,1,oc.length,oc.length + 1,5]) rfl (bl rfl:0 < 6) (P:=fun a=>a < 0∨∃ x:Nat,a=x)
  (iu (.inl (by decide)) (iu (.inr ⟨0,rfl⟩) (iu (.inr ⟨1,rfl⟩) (iu (.inr ⟨_,rfl⟩) (iu (.inr ⟨_ + 1,rfl⟩) (iu (.inr ⟨5,rfl⟩) (cF _)))))))
 obtain⟨y,hy,ey⟩:=Ob (d / 6) (l:=[-1,0,1,oc.length,200]) rfl (bl rfl:0 < 5) (P:=fun a=>a < 0∨∃ x:Nat,a=x/\x<=200)
  (iu (.inl (by decide)) (iu (.inr ⟨0,rfl,bl rfl⟩) (iu (.inr ⟨1,rfl,bl rfl⟩) (iu (.inr ⟨_,rfl,ak ho (bl rfl)⟩) (iu (.inr ⟨200,rfl,bl rfl⟩) (cF _))))))
 obtain⟨z,iz,zs,zz⟩:=a.s.z6
 obtain⟨b,_,md,g,_,_,df⟩:=a.s.o6
 obtain⟨m,f1,f2,f3⟩:=kZ a.s.rt nmF (G4 c) (kh:=true) (.inl (by decide))
 have zs':z.sort≠1:=fun e=>nomatch zs.symm.trans e
 refine dV (gY lo) (dV (gY lo) (dV (sJ (by decide)) (dV (ex st) (dV (gY lo) (dV (yJ (by decide) (by decide)) (dV (sJ (by decide)) (dV (ey st) ?_))))))); o_shape
 refine dV (aU a.t.t rfl) (dN (aX a.t.v rfl) (dG (CG a.t.r a.t.v (mV f1) f2 f3 ?_)))
 by_cases neg:x < 0∨y < 0
 ·refine⟨z,iz,.inr (.inl ⟨zs',neg,fun s1 k1=>?_⟩)⟩; o_shape
  have fin:=h (.tup [.str Dk,.none]) x y s1 k1
  by_cases q:x < 0
  ·exact dB (Y9 q) (dB (zX q) (dV (fP rfl) (dB (qX rfl) fin)))
  ·have q2:=neg.resolve_left q
   exact dB (Gv q) (dB (Y9 q2) (dB (zX q2) (dV (fP rfl) (dB (qX rfl) fin))))
 ·obtain⟨x,rfl⟩:=hx.resolve_left fun q=>neg (.inl q)
  obtain⟨y,rfl,hy2⟩:=hy.resolve_left fun q=>neg (.inr q)
  refine⟨z,iz,.inr (.inr ⟨zs',x,y,md,rfl,rfl,aA hy2 (bl rfl:200 < 2000),g,fun s1 k1=>?_⟩)⟩
  rw[xM df,zz,amd]; o_shape
  have fin:=h (.tup [.str qZ,.bytes ((oc.drop x).take y)]) x y s1 k1
  exact dB (Gv fun q=>neg (.inl q)) (dB (Gv fun q=>neg (.inr q)) (dB (qX rfl) (dV (Dj (Kd lo) (congrArg V.bytes (af0 oc x y))) (dV (Q6 qZ _) (dB (qX rfl) fin)))))
end
section
variable{w:Wm gF}
structure Lst(st0:St)(j:Nat)(L:List V)(s:St):Prop where
 k:Ke [] st0 s
 n:No st0 j
 i:Is s j (.list L)
section
variable{P:Pg}{c:Nat->List V->St->Po->Ex->Prop}{i k j:Nat}{fr:TF}{st:St}{F:zV}{X:vd}{A:TF->St->T}
def Hx(P:Pg)(c:Nat->List V->St->Po->Ex->Prop)(i:Nat)(fr:TF)(st0:St)(X:vd)(m:ME)(v:V):Prop:=∀(s:St) (K:S6),Ke [] st0 s->(∀ s',Ke [] s s'->den (K v s'))->den ((E P c i).e m fr s K X)
theorem akm{m1 m2:ME}{v1 v2:V}(h1:Hx P c (i + 1) fr st X m1 v1)(h2:Hx P c (i + 1) fr st X m2 v2)(h:∀ j s,Lst st j [v1,v2] s->den (A (wA fr k (.ref j)) s)):den ((E P c (i + 3)).s (.eG (.v k) (.Fg [m1,m2])) fr st (tx A F) X):=
 h1 st (fun v s=>(E P c (i + 1)).e m2 fr s (fun v2 s=>A (wA fr k (.ref s.length)) (s++[O.list [v,v2]])) X) .rfl fun s1 k1=>
  h2 s1 (fun v2 s=>A (wA fr k (.ref s.length)) (s++[O.list [v1,v2]])) k1 fun s2 k2=>h s2.length _ ⟨(k1.trans k2).trans .app,(k1.trans k2).V0 rF,cC⟩
theorem agI(hk:wu fr k=some (.ref j)):∀(l:List (ME×V)) (L:List V) (s:St),Lst st j L s->L.length + l.length < 20->(∀ p∈l,Hx P c (i + 1) fr st X p.1 p.2)->(∀ s,Lst st j (L++l.map (·.2)) s->den (A fr s))->
  den (mF (E P c (i + 3)) (l.map fun p:ME×V=>MS.expr (.bm .append (.aD k) [p.1])) A F X fr s)
 | [],L,s,q,_,_,h=>h s (by rw[List.map_nil,bN]; exact q)
 | (m,v)::l,L,s,q,hl,hm,h=>by
  show den (okT (wu fr k) fun o=>.Y7 (bmk s .append o) ((E P c (i + 1)).e m fr s (fun v s=>.opP (stk (Z7 s .append o [v])) fun J s=>mF (E P c (i + 3)) (l.map fun p:ME×V=>MS.expr (.bm .append (.aD k) [p.1])) A F X fr s) X) (.leaf False))
  rw[hk]
  refine dB (qx (Nb q.i)) (hm (m,v) (.head _) s (fun v s=>.opP (stk (Z7 s .append (.ref j) [v])) fun J s=>mF (E P c (i + 3)) (l.map fun p:ME×V=>MS.expr (.bm .append (.aD k) [p.1])) A F X fr s) q.k fun s1 k1=>?_)
  have i1:=k1.rE q.i
  exact dP (Bc i1 (aA (bh _ _) (aG hl (bl rfl)))) (agI hk l (L++[v]) _ ⟨(q.k.trans k1).own .set q.n,q.n,fQ i1⟩ (by rw[aF,jU,fB [v].length]; exact hl) (fun p m=>hm p (.tail _ m)) fun s q=>h s (bw L [v] (l.map (·.2))▸q:Lst st j (L++([v]++l.map (·.2))) s))
end
theorem agJ{s:St}{j:Nat}{L M:List V}(h:Is s j (.list L))(e:vX (eqv 3) L M=some true)(l:L.length=M.length):stk (qC V.bool (cop s .eq (.ref j) (.lst M)))=some (.bool true):=Gx (by
 show eqh s (.ref j) (.lst M)=_
 unfold eqh
 rw[show oZ s (.ref j)=.none from congrArg (bnd · Z1) h,show iw s (.ref j)=some L from yI h]
 exact(if_pos l).trans e)
end
section
variable{w:Wm gF}
noncomputable def hcE(nm:Nat)(o:ME)(args:List ME):ME:=.heard 1071 eE vY (.bk nm o args)
noncomputable def vw:ME:=.bR (.aD 0) 41
noncomputable def eN(a:List Nat):V:=.tup [.str a,.none]
noncomputable def rL:List (ME×V):=[(hcE 57 vw [.aj (.str [47,102])],eN Dk),(hcE 57 vw [.aj (.str [47,100,47,110,111,110,101])],eN qL),(hcE 60 (.aD 0) [.aj (.str [47,100])],eN ZJ),(hcE 61 (.aD 0) [.aj (.int 1)],eN Dk),(hcE 56 (.aD 0) [.aj (.str [47,101,109,112,116,121]),.aj (.str [])],eN apa),(hcE 56 (.aD 0) [.aj (.str [47,102]),.aj (.str [120])],eN apb)]
theorem agL{σ:Ms}{c goal md:Nat}{oc:List UInt8}(s:LS σ c goal md oc):Iw σ [47,100,47,110,111,110,101] false (.inr 75):=by
 have e:eH [47,100,47,110,111,110,101]=[[100],[110,111,110,101]]:=IK ZC N7
 exact s.z4.elim fun z q=>⟨0 + 1,bl rfl,e▸(bl rfl:2 < 100),e▸rJ s.rt ZC (JG c) (.inl (by decide)) (.ms q.1 q.2.1 s.d4 N7 rfl)⟩
section
variable{n c goal md i:Nat}{oc:List UInt8}{d:Int}{st:St}{σ:Ms}{T:Tr}{F:zV}{X:vd}{A:TF->St->Mine.Internal.S.T}{r:TF}(a:Og T σ st i c goal md oc)
include a
theorem ajj(hop:T.op.lookup 1=none):∀ p∈rL,Hx gF (w.C (n + 12)) 20 (some (.ref T.t)::r) st X p.1 p.2:=by
 refine a.s.z6.elim fun z iz=>a.s.z4.elim fun z4 iz4=>?_
 have f6:∀ {kh},Iw σ [47,102] kh (.inl 6):=kZ a.s.rt nmF (G4 c) (.inl (by decide))
 have f4:Iw σ [47,100] true (.inl 4):=kZ a.s.rt ZC (JG c) (.inl (by decide))
 exact iu (fun s K k h=>have t:=a.t.ke k; f6.elim fun J q=>dV (aU t.t rfl) (dN (aX t.v rfl) (dG (Io t.r t.v (mV q.1) q.2.1 q.2.2 ⟨z,iz.1,.inl ⟨(fun e=>nomatch iz.2.1.symm.trans e),h⟩⟩))))
  (iu (fun s K k h=>have t:=a.t.ke k; (agL a.s).elim fun J q=>dV (aU t.t rfl) (dN (aX t.v rfl) (dG (Io t.r t.v (mV q.1) q.2.1 q.2.2 h))))
  (iu (fun s K k h=>dN (aX (a.t.ke k).t rfl) (dG (agt (a.t.ke k) f4 iz4.1 iz4.2.1 h)))
  (iu (fun s K k h=>dN (aX (a.t.ke k).t rfl) (dG (agu (k:=1) (a.t.ke k) hop (h s .rfl))))
  (iu (fun s K k h=>dN (aX (a.t.ke k).t rfl) (dG (Pj (h s .rfl))))
  (iu (fun s K k h=>a.s.rt.el fun R R' z dR lR eR J J J J J=>dN (aX (a.t.ke k).t rfl) (dG (NT (a.t.ke k) (sX a.s.rt nmF) dR ((eR _).trans (G4 c)) (by unfold rG; decide) (bl rfl) (bl rfl) h))) (cF _))))))
theorem ajk(hop:T.op.lookup 1=none){v:V}{x y:Int}(h:∀ g st',Ke [] st st'->den (F (.ret (.bool true)) g st')):
  den (tC (E gF (w.C (n + 12)) 22) (.eG (.v 3) (.Fg [hcE 7 vw [.aj (.str [47,100]),.aj (.int 0),.aj (.int 1)],hcE 58 vw [.aj (.str [47,102])]])::(rL.map (fun p:ME×V=>MS.expr (.bm .append (.aD 3) [p.1]))++rr3)) (RF T.t oc d v x y) st F X):=by
 refine a.s.z6.elim fun z iz=>a.s.z4.elim fun z4 iz4=>?_
 have f6:∀ {kh},Iw σ [47,102] kh (.inl 6):=kZ a.s.rt nmF (G4 c) (.inl (by decide))
 have f4:Iw σ [47,100] true (.inl 4):=kZ a.s.rt ZC (JG c) (.inl (by decide))
 refine akm (i:=19) (v1:=eN ZJ) (v2:=eN Bq) (A:=fun fr st=>mF (E gF (w.C (n + 12)) 22) (rL.map (fun p:ME×V=>MS.expr (.bm .append (.aD 3) [p.1]))) (fun fr st=>tC (E gF (w.C (n + 12)) 22) rr3 fr st F X) F X fr st)
  (fun s K k h=>have t:=a.t.ke k; f4.elim fun J q=>dV (aU t.t rfl) (dN (aX t.v rfl) (dG (CG t.r t.v (mV q.1) q.2.1 q.2.2 ⟨z4,iz4.1,.inl ⟨iz4.2.1,h⟩⟩))))
  (fun s K k h=>have t:=a.t.ke k; f6.elim fun J q=>dV (aU t.t rfl) (dN (aX t.v rfl) (dG (GK t.r t.v (mV q.1) q.2.1 q.2.2 ⟨z,iz.1,.inl ⟨(fun e=>nomatch iz.2.1.symm.trans e),h⟩⟩))))
  fun j s L=>?_
 refine agI (i:=19) (j:=j) rfl rL _ s L (bl rfl) (ajj a hop) fun s L=>?_
 refine dL (a:=[ZJ,Bq,Dk,qL,ZJ,Dk,apa,apb].map .str) (fP rfl) (dG (qD eN rfl (bl rfl) (fun J J K hK=>hK) ?_))
 exact dV (agJ L.i rfl rfl) (h _ s L.k)
theorem agM{Q:Po}{X:Ex}(ho:oc.length<=99)(hop:T.op.lookup 1=none)(h:∀ st',Og T σ st' i c goal md oc->Q (.bool true) st'):w.C (n + 13) 1081 [.ref T.t,.bytes oc,.int d] st Q X:=
 w.h (aji (n:=n) (A:=fun fr st=>tC (E gF (w.C (n + 12)) 22) (.eG (.v 3) (.Fg [hcE 7 vw [.aj (.str [47,100]),.aj (.int 0),.aj (.int 1)],hcE 58 vw [.aj (.str [47,102])]])::(rL.map (fun p:ME×V=>MS.expr (.bm .append (.aD 3) [p.1]))++rr3)) fr st (fun fl J st=>.leaf (Q (qe fl) st)) (Od X)) (F:=fun fl J st=>.leaf (Q (qe fl) st)) (X:=Od X) a ho fun v x y st1 k1=>
  ajk (n:=n) (a.ke k1) hop fun g st2 k2=>h st2 ((a.ke k1).ke k2))
end
end
section
variable{w:Wm gF}
noncomputable def uR(n:Nat):Row:=(jX n,n)
noncomputable def o1(n:Nat):Nat×Nat:=(n,1)
noncomputable def apq:List UInt8:=[111,99,116,101,116,115]
noncomputable def ZP(d:Int)(k:Nat):Bool:=decide (d / 5 / 2 ^ (k:Int).toNat % 2=1)
theorem aaZ{x:Nat}:∀ {ns:List Nat},x∉ns->(ns.map uR).lookup (jX x)=none
 | [],_=>rfl
 | n::ns,h=>by
  show jd (jX x) ((jX n,n)::ns.map uR)=none
  rw[aM,show(jX x==jX n)=false from beq_eq_false_iff_ne.mpr fun e=>h (GP e▸.head _)]
  exact aaZ fun m=>h (.tail _ m)
theorem agN{x:Nat}:∀ {ns:List Nat},x∈ns->(ns.map uR).lookup (jX x)=some x
 | n::ns,h=>by
  show jd (jX x) ((jX n,n)::ns.map uR)=some x
  rw[aM]
  by_cases e:x=n
  ·rw[e,BEq.rfl]
  ·rw[show(jX x==jX n)=false from beq_eq_false_iff_ne.mpr fun q=>e (GP q)]
   exact agN ((aY.mp h).resolve_left e)
theorem aa0{x:Nat}:∀ {ns:List Nat},x∉ns->(ns.map o1).lookup x=none
 | [],_=>rfl
 | n::ns,h=>by
  show jd x ((n,1)::ns.map o1)=none
  rw[aM,show(x==n)=false from beq_eq_false_iff_ne.mpr fun e=>h (e▸.head _)]
  exact aa0 fun m=>h (.tail _ m)
theorem ZQ{x:Nat}:∀ {ns:List Nat},x∈ns->(ns.map o1).lookup x=some 1
 | n::ns,h=>by
  show jd x ((n,1)::ns.map o1)=some 1
  rw[aM]
  by_cases e:x=n
  ·rw[e,BEq.rfl]
  ·rw[show(x==n)=false from beq_eq_false_iff_ne.mpr e]
   exact ZQ ((aY.mp h).resolve_left e)
noncomputable def opT(T:Tr)(ns:List Nat):Tr:={T with op:=ns.map o1}
def OpF(σ:Ms)(x:Nat):Prop:=∃ z b,kj σ x z/\z.sort=0/\z.size=6/\Dat σ x b (fun i=>apq.getD i 0)
theorem OpF.mv{σ cJ:Ms}{x:Nat}{L:List Nat}(h:OpF σ x)(c:Cg σ cJ L)(n:x∉L):OpF cJ x:=h.imp fun J q=>q.imp fun J q=>⟨q.1.mv c n,q.2.1,q.2.2.1,q.2.2.2.mv c n⟩
structure Oh(T:Tr)(σ:Ms)(st:St)(i c goal md:Nat)(oc:List UInt8)(tp:Nat)(ns:List Nat):Prop where
 t:TR (opT T ns) σ st
 s:LS σ c goal md oc
 i:σ.i=i
 top:σ.top=tp
 ks:σ.ks=eX 1 (6 + c)++ns
 d3:Dir σ 3 (ns.map uR)
 o:∀ x∈ns,OpF σ x
 lo:∀ x∈ns,6 + c < x/\x<=tp
theorem wr0(x:List UInt8):wr x (fun J=>0)=fun i=>x.getD i 0:=by
 funext i
 unfold wr
 by_cases h:i < x.length
 ·rw[if_pos h]
 ·rw[if_neg h,aV,cR (gK.mp h)]; rfl
theorem TR.aps{T:Tr}{σ:Ms}{st:St}{hd:Nat}{l:List V}(t:TR T σ st)(hh:Is st hd (.list l))(l':List V):TR T σ (st.set hd (.list l')):=
 ⟨t.r.mono Ke.set fun x hx m=>t.r.out hh rfl (aN.mp m▸hx),bZ hh t.t rfl,bZ hh t.v rfl,bZ hh t.od rfl,t.nd,t.no⟩
section
variable{T:Tr}{σ cJ:Ms}{st st':St}{i c goal md tp:Nat}{oc:List UInt8}{ns L:List Nat}
theorem Oh.new(a:Oh T σ st i c goal md oc tp ns)(g:Cg σ cJ L)(nL:∀ x∈L,x=2∨x=3∨x=tp + 1)(t:TR (opT T (ns++[tp + 1])) cJ st')(top:cJ.top=tp + 1)(ks:cJ.ks=σ.ks++[tp + 1])(d3:Dir cJ 3 (ns.map uR++[uR (tp + 1)]))(rt:Rt cJ (JD c) (2 + c))(hlo:6 + c<=tp)(o:OpF cJ (tp + 1)):
  Oh T cJ st' i c goal md oc (tp + 1) (ns++[tp + 1]) where
 t:=t
 s:=a.s.mv g (fun x m=>(nL x m).imp_right fun q=>q.imp_right fun e=>by rw[e,show 7 + c=(6 + c) + 1 from cN 6 1 c]; exact bI hlo) rt
 i:=g.i.trans a.i
 top:=top
 ks:=by rw[ks,a.ks,bw]
 d3:=by rw[cu]; exact d3
 o:=fun x hx=>(fZ.mp hx).elim (fun hx=>(a.o x hx).mv g fun m=>by
  have l:=a.lo x hx
  exact(nL x m).elim (fun e=>absurd (e▸l.1) (gK.mpr (ak (bl rfl) (bh 6 c)))) fun q=>q.elim (fun e=>absurd (e▸l.1) (gK.mpr (ak (bl rfl) (bh 6 c)))) fun e=>iH tp (e▸l.2:tp + 1<=tp)) fun hx=>aN.mp hx▸o
 lo:=fun x hx=>(fZ.mp hx).elim (fun hx=>⟨(a.lo x hx).1,fJ (a.lo x hx).2⟩) fun hx=>by rw[aN.mp hx]; exact⟨dM hlo,bf _⟩
end
end
section
variable{w:Wm gF}
noncomputable def lo1:List MS:=[.expr (.bm .append (.aD 4) [(.tup [(.bk 63 (.aD 1) [(.bin .add (.aj (.str [47,111])) (.bi .str [(.aD 5)])),(.aj (.int 0))]),(.cmp (.bin .mod (.bin .fdiv (.bin .fdiv (.aD 2) (.aj (.int 5))) (.bin .pow (.aj (.int 2)) (.aD 5))) (.aj (.int 2))) .eq (.aj (.int 1)))])]),.expr (.bk 25 (.aD 1) [(.bin .add (.aj (.str [47,111])) (.bi .str [(.aD 5)])),(.aj (.int 0)),(.aj (.bytes [111,99,116,101,116,115]))]),.expr (.bk 60 (.aD 1) [(.bin .add (.aj (.str [47,111])) (.bi .str [(.aD 5)]))]),.expr (.bk 67 (.aD 1) [(.bin .add (.aj (.str [47,111])) (.bi .str [(.aD 5)]))])]
section
variable{n c goal md i k hd tp:Nat}{d:Int}{ns:List Nat}{oc:List UInt8}{st:St}{σ:Ms}{T:Tr}{L:List V}{F:zV}{X:vd}{v3:V}
noncomputable def OF(i t:Nat)(d:Int)(v3:V)(hd:Nat)(r:TF):TF:=some (.ref i)::some (.ref t)::some (.int d)::some v3::some (.ref hd)::r
theorem pw(hk:k < 4):(0:Int) < 2 ^ (k:Int).toNat/\(2:Int) ^ (k:Int).toNat < 18446744073709551616:=
 lt4 (P:=fun k=>(0:Int) < 2 ^ ((k:Nat):Int).toNat/\(2:Int) ^ ((k:Nat):Int).toNat < 18446744073709551616) (by decide) (by decide) (by decide) (by decide) hk
theorem agO{R:List Row}{s:List Nat}{x:Nat}(e:R.lookup s=none):uL (R++[(s,x)]) s=R:=by
 unfold uL
 rw[mK,show List.filter (fun r:Row=> !decide (r.1=s)) R=R from CP e,dY,if_neg (by rw[decide_eq_true rfl]; exact bC)]
 exact bN _
theorem ame(c k:Nat):JD c (onm k)=none:=EY (s:=onm k) (fun e=>absurd (aC (show some 111=some 108 from e)) (by decide)) (aaW rfl) (aaW rfl) c
theorem acK(a:Oh T σ st i c goal md oc tp ns)(hc:c<=11)(hk:k < 4)(htp:tp<=30)(hlo:6 + c<=tp)(hn:ns.length<=4)(hw:T.now < 100000)(hh:Is st hd (.list L))(hL:L.length<=10)
  (h:∀ st' cJ,Oh T cJ st' i c goal md oc (tp + 1) (ns++[tp + 1])->Is st' hd (.list (L++[.tup [.int ((tp + 1:Nat):Int),.bool (ZP d k)]]))->den (F .next (OF i T.t d v3 hd [some (.int k)]) st')):
  den (tC (E gF (w.C (n + 12)) 21) lo1 (OF i T.t d v3 hd [some (.int k)]) st F X):=by
 have k6:k < 1000000:=aG hk (bl rfl)
 have k1:k < 100001:=aG hk (bl rfl)
 have nm:=al3 k6
 have ls:([47,111]:List Nat).length + (jX k).length<=lim:=ak (aZ (vJ k6) 2) (bl rfl)
 have lt:tp + 1 < 100000:=aA (bI htp) (bl rfl)
 refine a.s.rt.el fun R R' zr dR lR eR J J iz zs zl=>?_
 have eno:=(eR (onm k)).trans (ame c k)
 have lR2:R.length < 19:=lR▸aA (aZ hc 2) (bl rfl)
 refine dB (qx (Nb hh)) (dN (aX a.t.t rfl) (dV (Dy k1) (dV (iD ls) (dG (CT (T:=opT T ns) (md:=0) (s:=onm k) a.t (sX a.s.rt nm) dR eno lR2 iz (bl rfl) hw (a.top.symm▸lt) fun s1 σ1 q=>?_)))))
 rw[a.top]; o_shape
 have hh1:=q.m.lst a.t.r hh
 have t1:=a.t.mv q.m
 refine dV (yJ (by decide) (by decide)) (dV (aj6 (by decide) (by decide) (aO k) (dU (ak (bH hk) (bl rfl)))) (dV (yJ (pw hk).1 (pw hk).2) (dV (sJ (by decide)) (dP (kE (Bc hh1 (aA hL (bl rfl))) (show _=s1.set hd (.list (L++[.tup [.int ((tp + 1:Nat):Int),.bool (ZP d k)]])) from rfl)) ?_))))
 have t2:=t1.aps hh1 (L++[.tup [.int ((tp + 1:Nat):Int),.bool (ZP d k)]])
 have hh2:=fQ (o:=.list (L++[.tup [.int ((tp + 1:Nat):Int),.bool (ZP d k)]])) hh1
 show let t:=_; den t
 revert t2 hh2
 generalize s1.set hd (.list (L++[.tup [.int ((tp + 1:Nat):Int),.bool (ZP d k)]]))=s2
 intro t2 hh2 t'
 have q1:=q.dat
 have q2:=q.z
 have q3:=q.d
 have q4:=q.m.c
 rw[a.top] at q1 q2 q3 q4
 have rt1:Rt σ1 (upk (JD c) (onm k) ((tp + 1) * 4 + 0)) (3 + c):=⟨⟨_,q3,by rw[aF,lR]; exact cN 2 c 1,fun s=>(nQ eno s).trans (by rw[eR]; rfl)⟩,_,q.zf,zs,aK zl (aZ (bU (bl rfl) c) 100)⟩
 have fn:∀ {cJ:Ms} {kh:Bool},Rt cJ (upk (JD c) (onm k) ((tp + 1) * 4 + 0)) (3 + c)->Iw cJ (47::onm k) kh (.inl (tp + 1)):=fun {_ kh} r=>by
  have:=kZ (v:=(tp + 1) * 4 + 0) (kh:=kh) r nm (if_pos rfl) (.inl (by rw[qQ,Nat.mul_mod_left]; decide))
  rw[qQ,uX _ (bl rfl)] at this
  exact this
 refine dN (aX t2.t rfl) (dV (Dy k1) (dV (iD ls) (dG (Wt (T:=opT T ns) (x:=apq) (b:=0) (p:=47::onm k) t2 (fn rt1) q2 (show(0:Nat)≠1 by decide) q1 (bl rfl) (bl rfl) hw fun s3 σ3 m3 ks3 tp3 d3' z3=>?_)))); o_shape
 have hh3:=m3.lst t2.r hh2
 have t3:=t2.mv m3
 have nx:tp + 1∉ns:=fun m=>iH tp (a.lo _ m).2
 have tl:3 < tp + 1:=aK (bl rfl:3 < 7) (bI (ak (bh 6 c) hlo))
 have n2:2∉[tp + 1]:=uO (cB (aG (bl rfl) tl))
 have rt3:=rt1.mv m3.c n2
 rw[wr0] at d3'
 have d32:=q3.mv m3.c n2
 have zf3:=q.zf.mv m3.c n2
 have u3:=(a.d3.mv q4 (vK (by decide) (cB tl))).mv m3.c (uO (cB tl))
 refine dN (aX t3.t rfl) (dV (Dy k1) (dV (iD ls) (dG (aja (T:=opT T ns) t3 (fn rt3) z3 (show(0:Nat)≠1 by decide) (aa0 nx) (aA (ak (aR (aQ _)) hn) (bl rfl)) fun s4 t4 kl4=>?_)))); o_shape
 have hh4:=kl4 _ _ hh3
 have e4:ns.map o1++[(tp + 1,1)]=(ns++[tp + 1]).map o1:=by rw[cu]; rfl
 have t4:TR (opT T (ns++[tp + 1])) σ3 s4:=by unfold opT; rw[← e4]; exact t4
 refine dN (aX t4.t rfl) (dV (Dy k1) (dV (iD ls) (dG (acy (T:=opT T (ns++[tp + 1])) (s:=onm k) (k:=tp + 1) t4 z3 (sX rt3 nm) (fn rt3) d32 ((nQ eno _).trans (if_pos rfl)) (by rw[qQ,uX _ (bl rfl)]) zf3 (show(0:Nat)≠1 by decide) rfl (ZQ (cT _ (.head _))) u3 (aaZ nx) (aA (ak (aR (aQ _)) hn) (bl rfl)) (gq tl) (gq (aG (bl rfl) tl)) d3' hw (cU lt) fun s5 σ5 m5 ks5 tp5 d5 zf5 u5 z5 dt5=>?_))))
 rw[agO eno] at d5
 have mm:=(q4.trans m3.c).trans m5.c
 have nL:∀ x∈[2,tp + 1,tp + 1,2,3,tp + 1],x=2∨x=3∨x=tp + 1:=iu (.inl rfl) (iu (.inr (.inr rfl)) (iu (.inr (.inr rfl)) (iu (.inl rfl) (iu (.inr (.inl rfl)) (iu (.inr (.inr rfl)) (cF _))))))
 exact h s5 σ5 (a.new mm nL (t4.mv m5) (tp5.trans (tp3.trans (q.top.trans (congrArg (· + 1) a.top)))) (ks5.trans (ks3.trans (q.ks.trans (by rw[a.top])))) u5 ⟨⟨R,d5,lR,eR⟩,_,zf5,zs,zl⟩ hlo ⟨_,_,z5,rfl,rfl,dt5⟩) (m5.lst t4.r hh4)
end
end
section
variable{w:Wm gF}
noncomputable def lo2:List MS:=[.ite (.cmp (.bk 0 (.bR (.aD 1) 41) [(.aD 6),(.aj (.int 1)),(.aj (.int 4))]) .ne (.aj (.bytes [99,116,101,116]))) [.ret (some (.aj (.bool false)))] [],.ite (.aD 7) [.expr (.bk 61 (.aD 1) [(.aD 6)])] []]
section
variable{n c goal md i x hd tp:Nat}{d:Int}{b:Bool}{l r:List Nat}{oc:List UInt8}{st:St}{σ:Ms}{T:Tr}{L:List V}{F:zV}{X:vd}{v3:V}{rr:TF}
theorem Oh.nd{ns:List Nat}(a:Oh T σ st i c goal md oc tp ns):ns.Nodup:=
 ((nU.mp (a.ks▸a.t.r.ks:(eX 1 (6 + c)++ns).Pairwise (· < ·))).2.1).imp fun h=>cB h
theorem T5(h:(l++x::r).Nodup):(l++x::r).filter (fun j=> !(j==x))=l++r:=by
 rw[nD,dj] at h
 rw[mK,dY,BEq.rfl,show(!true)=false from rfl,if_neg bC]
 rw[iW.mpr fun y hy=>congrArg (!·) (beq_eq_false_iff_ne.mpr (h.2.2 y hy x (.head _))),iW.mpr fun y hy=>congrArg (!·) (beq_eq_false_iff_ne.mpr fun e:y=x=>h.2.1.1 (e▸hy))]
theorem ajl(j x:Nat):(!decide (jX j=jX x))= !(j==x):=by
 by_cases e:j=x
 ·rw[e,decide_eq_true rfl,BEq.rfl]
 ·rw[decide_eq_false fun q=>e (GP q),beq_eq_false_iff_ne.mpr e]
theorem Oh.shut{cJ:Ms}{st':St}(a:Oh T σ st i c goal md oc tp (l++x::r))(t:TR {opT T (l++x::r) with op:=((l++x::r).map o1).filter fun p=> !(p.1==x)} cJ st')(g:Cg σ cJ [3,x])(ks:cJ.ks=σ.ks.filter fun j=> !(j==x))(top:cJ.top=σ.top)(d3:Dir cJ 3 (uL ((l++x::r).map uR) (jX x))):
  Oh T cJ st' i c goal md oc tp (l++r):=by
 have nd:=a.nd
 have lx:=(a.lo x (cT _ (.head _))).1
 have mem:∀ y,y∈l++r->y∈l++x::r/\y≠x:=fun y hy=>by
  have:=jG.mp (T5 nd▸hy:y∈(l++x::r).filter fun j=> !(j==x))
  exact⟨this.1,fun e=>by have:=this.2; rw[e,BEq.rfl] at this; cases this⟩
 have e1:((l++x::r).map o1).filter (fun p=> !(p.1==x))=(l++r).map o1:=by rw[zJ,← T5 nd]; rfl
 have e2:uL ((l++x::r).map uR) (jX x)=(l++r).map uR:=by
  unfold uL
  rw[zJ,← T5 nd]
  exact congrArg (xQ uR) (vO fun j J=>ajl j x)
 have n6:∀ {y},6 + c < y->3 < y:=fun h=>aA (ak (bl rfl:3<=6) (bh 6 c)) h
 refine⟨by unfold opT at t ⊢; rw[← e1]; exact t,a.s.mv g (iu (.inr (.inl rfl)) (iu (.inr (.inr (by rw[show 7 + c=(6 + c) + 1 from cN 6 1 c]; exact lx))) (cF _))) (a.s.rt.mv g (vK (by decide) (cB (aG (bl rfl) (n6 lx))))),g.i.trans a.i,top.trans a.top,?_,e2▸d3,fun y hy=>?_,fun y hy=>a.lo y (mem y hy).1⟩
 ·rw[ks,a.ks,mK,T5 nd,iW.mpr fun y hy=>congrArg (!·) (beq_eq_false_iff_ne.mpr (cB (aK (List.mem_range'_1.mp hy).2 (fB 1 (6 + c)▸lx))))]
 ·exact(a.o y (mem y hy).1).mv g (vK (gq (n6 (a.lo y (mem y hy).1).1)) (mem y hy).2)
theorem acL(a:Oh T σ st i c goal md oc tp (l++x::r))(htp:tp<=30)(hn:(l++x::r).length<=10)(hh:Is st hd (.list L))
  (h:∀ st' cJ,Oh T cJ st' i c goal md oc tp (l++(if b then r else x::r))->Is st' hd (.list L)->den (F .next (OF i T.t d v3 hd [none,some (.int x),some (.bool b)]) st')):
  den (tC (E gF (w.C (n + 12)) 21) lo2 (OF i T.t d v3 hd [none,some (.int x),some (.bool b)]) st F X):=by
 have mx:x∈l++x::r:=cT _ (.head _)
 have l3:3 < x:=aA (ak (bl rfl:3<=6) (bh 6 c)) (a.lo x mx).1
 refine(a.o x mx).elim fun z q=>q.elim fun bb q=>q.2.2.2.elim fun m g=>?_
 refine dV (aU a.t.t rfl) (dN (aX a.t.v rfl) (dG (QK (a:=1) (c:=4) a.t.r a.t.v q.1 g.1 (bl rfl) fun s1 k1=>?_)))
 rw[show qH m.data 1 (min 4 (z.size - 1))=[99,116,101,116] by rw[q.2.2.1,xM g.2.2.2]; rfl]; o_shape
 have t1:=a.t.ke k1
 refine dV (ajh _) (dB (qX rfl) ?_)
 cases b with
 | false=>exact dB (qX rfl) (h s1 σ ⟨t1,a.s,a.i,a.top,a.ks,a.d3,a.o,a.lo⟩ (k1.rE hh))
 | true=>exact dB (qx rfl) (dN (aX t1.t rfl) (dG (ajb (T:=opT T (l++x::r)) t1 (ZQ mx) (aA (ak (aR (aQ _)) hn) (bl rfl)) a.d3 (agN mx) (gq l3) (aA (ak (a.lo x mx).2 htp) (bl rfl)) g.1 fun s2 vf t2 kl2 c2 Xe Ua d2=>
   h s2 vf (a.shut t2 c2 Xe Ua d2) (kl2 _ _ (k1.rE hh)))))
end
end
section
variable{w:Wm gF}
noncomputable def lo3:List MS:=[.ite (.cmp (.bk 66 (.aD 0) []) .ne (.bi .sorted [(.bin .add (.aD 3) (.aD 8))])) [.ret (some (.aj (.bool false)))] [],.eG (.v 9) (.new 933 782 [(.aD 0),(.aj (.int 9))]),.ret (some (.bool true [(.cmp (.bk 68 (.aD 9) []) .eq (.bi .len [(.aD 8)])),(.cmp (.bk 66 (.aD 0) []) .eq (.aD 3)),(.cmp (.bk 68 (.aD 9) []) .eq (.aj (.int 0)))]))]
theorem I8:∀ l:List Nat,vX (eqv 3) (l.map iV) (l.map iV)=some true
 | []=>rfl
 | x::l=>by
  show G7 (some (decide ((x:Int)=x))) (vX (eqv 3) (l.map iV) (l.map iV))=_
  rw[I8 l,decide_eq_true rfl]; rfl
theorem acM{st:St}(l:List Nat):stk (qC V.bool (cop st .eq (.lst (l.map iV)) (.lst (l.map iV))))=some (.bool true):=Gx ((if_pos rfl).trans (I8 l))
theorem acN{st:St}(l:List Nat):stk (qC V.bool (cop st .ne (.lst (l.map iV)) (.lst (l.map iV))))=some (.bool false):=Gx (congrArg (bnd · fun x=>some (!x)) ((if_pos rfl).trans (I8 l)))
section
variable{n c goal md i hd tp:Nat}{d:Int}{ns:List Nat}{oc:List UInt8}{st:St}{σ:Ms}{T:Tr}{F:zV}{X:vd}{v5 v6 v7:Option V}
theorem agP(a:Oh T σ st i c goal md oc tp ns){cJ:Ms}(ks:cJ.ks=σ.ks.filter fun j=> !(ns.contains j)):cJ.ks=eX 1 (6 + c):=by
 have en:ns.filter (fun j=> !ns.contains j)=[]:=List.filter_eq_nil_iff.mpr fun y hy=>by
  rw[show ns.contains y=true from nu.mpr hy]; exact bC
 rw[ks,a.ks,mK,en,bN]
 exact iW.mpr fun y hy=>by
  rw[gB,← Bool.not_eq_true,nu]
  exact fun m=>f9 y (aK (List.mem_range'_1.mp hy).2 (fB 1 (6 + c)▸(a.lo y m).1))
theorem agQ(a:Oh T σ st i c goal md oc tp ns)(hc:c<=11)(hn:ns.length<=4)(h:∀ g st' cJ op,TR {T with op:=op} cJ st'->LS cJ c goal md oc->cJ.top=tp->den (F (.ret (.bool true)) g st')):
  den (tC (E gF (w.C (n + 12)) 22) lo3 (OF i T.t d (.lst ((eX 1 (6 + c)).map iV)) hd [v5,v6,v7,some (.lst (ns.map iV))]) st F X):=by
 have lr:6 + c<=17:=aZ hc 6
 have lk:(eX 1 (6 + c)++ns).length < 64:=by rw[aF,pY]; exact aA (fY lr hn) (bl rfl)
 have asc:(eX 1 (6 + c)++ns).Pairwise (· < ·):=a.ks▸a.t.r.ks
 have l1:((eX 1 (6 + c)).map iV).length + (ns.map iV).length<=lim:=by rw[aQ,aQ,pY]; exact ak (fY lr hn) (bl rfl)
 have e3:(ns.map uR).map (fun r=>r.2)=ns:=by rw[gw]; exact qg _
 have n3:∀ {y},y∈ns->3 < y:=fun m=>aA (ak (bl rfl:3<=6) (bh 6 c)) (a.lo _ m).1
 have hg:∀ r∈ns.map uR,r.2≠3/\(σ.get r.2).isSome=true:=fun r hr=>(fX.mp hr).elim fun x q=>q.2▸⟨gq (n3 q.1),(a.o x q.1).elim fun z q=>q.elim fun b q=>q.2.2.2.elim fun m g=>vA g.1⟩
 refine dN (aX (a.i▸a.t.r.hi) rfl) (dG (WQ a.i (Ez a.t.r (a.ks▸lk) ?_)))
 rw[a.ks]; o_shape
 refine dV (Dj (Ie l1) (congrArg V.lst cu.symm)) (dV (Zx asc lk) (dV (acN _) (dB (qX rfl) (dG (akh a.i (WK (now:=9) a.t.r a.s.d1 rfl rfl fun s1 v dd t2 k1=>?_)))))); o_shape
 refine dN (aX t2.t rfl) (dG (WD t2 a.d3 hg (e3.symm▸a.nd) fun s2 vf m2 Xe Ua d2=>?_)); o_shape
 rw[e3] at m2 Xe
 have tt2:=(a.t.ke k1).mv m2
 have t22:=t2.mv m2
 have ks3:=agP a Xe
 have cm:∀ y∈3::ns,y=2∨y=3∨7 + c<=y:=iu (.inr (.inl rfl)) fun y m=>.inr (.inr ((cN 6 1 c).symm▸(a.lo y m).1:7 + c<=y))
 have n2:2∉3::ns:=fun m=>(aY.mp m).elim (fun e=>nomatch e) fun m=>Nat.lt_asymm (n3 m) (bl rfl)
 have s2':=a.s.mv m2.c cm (a.s.rt.mv m2.c n2)
 have ei2:=m2.c.i.trans a.i
 refine dV (Dj (fP rfl) (congrArg (fun n:Nat=>V.int n) (aQ _))) (dB (afG (cst (aQ _))) (dN (aX (ei2▸t22.r.hi) rfl) (dG (WQ ei2 (Ez t22.r (by rw[ks3,pY]; exact aA lr (bl rfl)) ?_)))))
 rw[ks3]; o_shape
 refine dV (acM _) (dB (qx rfl) (dN (aX t22.t rfl) (dG (WD (U:=[]) t22 d2 (cF _) .nil fun s3 σ3 m3 ks3 tp3 d3=>?_)))); o_shape
 exact h _ s3 σ3 _ (tt2.mv m3) (s2'.mv m3.c (L:=[3]) (fun y hy=>.inr (.inl (aN.mp hy))) (s2'.rt.mv m3.c (L:=[3]) (by decide))) (tp3.trans (Ua.trans a.top))
end
end
section
variable{w:Wm gF}
noncomputable def fV(p:Nat×Bool):V:=.tup [.int p.1,.bool p.2]
noncomputable def lf(l:List (Nat×Bool)):List Nat:=(l.filter fun p=> !p.2).map (·.1)
noncomputable def flS(c:Nat)(d:Int)(j:Nat):List (Nat×Bool):=(fD j).map fun k=>(6 + c + k + 1,ZP d k)
theorem ako(c:Nat)(d:Int)(j:Nat):flS c d (j + 1)=flS c d j++[(6 + c + j + 1,ZP d j)]:=by
 unfold flS; rw[List.range_succ,cu]; rfl
theorem aa1(c:Nat)(d:Int)(j:Nat):(flS c d j).length=j:=by unfold flS; rw[aQ,cM]
theorem amg(a:List (Nat×Bool))(x:Nat)(b:Bool)(r:List Nat):lf (a++[(x,b)])++r=lf a++(if b then r else x::r):=by
 unfold lf; rw[mK,cu,bw]; cases b <;> rfl
theorem agR(a:List (Nat×Bool)):(lf a).length<=a.length:=by unfold lf; rw[aQ]; exact gj _ _
structure OpI(T:Tr)(i c goal md m hd:Nat)(oc:List UInt8)(d:Int)(b:Ms×Nat)(l:List Nat)(st:St):Prop where
 e:l=eX b.2 l.length
 n:b.2 + l.length=m
 a:Oh T b.1 st i c goal md oc (6 + c + b.2) ((flS c d b.2).map (·.1))
 h:Is st hd (.list ((flS c d b.2).map fV))
structure ShI(T:Tr)(i c goal md tp hd:Nat)(oc:List UInt8)(fl:List (Nat×Bool))(b:Ms×List (Nat×Bool))(r:List (Nat×Bool))(st:St):Prop where
 e:fl=b.2++r
 a:Oh T b.1 st i c goal md oc tp (lf b.2++r.map (·.1))
 h:Is st hd (.list (fl.map fV))
section
variable{n c goal md i hd tp:Nat}{d:Int}{oc:List UInt8}{st:St}{σ:Ms}{T:Tr}{F:zV}{X:vd}
theorem Og.op(a:Og T σ st i c goal md oc)(hop:T.op=[]):Oh T σ st i c goal md oc (6 + c) []:=
 ⟨(show opT T []=T by unfold opT; rw[List.map_nil,← hop]).symm▸a.t,a.s,a.i,a.top,a.ks.trans (bN _).symm,a.d3,cF _,cF _⟩
theorem Oh.ke{ns:List Nat}{st':St}(a:Oh T σ st i c goal md oc tp ns)(k:Ke [] st st'):Oh T σ st' i c goal md oc tp ns:=⟨a.t.ke k,a.s,a.i,a.top,a.ks,a.d3,a.o,a.lo⟩
theorem apt{P:Pg}{c:Nat->List V->St->Po->Ex->Prop}{i k:Nat}{m:ME}{fr:TF}{st:St}{F:zV}{X:vd}{rest:List MS}{v:V}(hm:∀ K:S6,den (K v st)->den ((E P c (i + 1)).e m fr st K X))
  (h:den (tC (E P c (i + 2)) rest (wA fr k v) st F X)):den (tC (E P c (i + 2)) (.eG (.v k) m::rest) fr st F X):=hm (fun v st=>tC (E P c (i + 2)) rest (wA fr k v) st F X) h
theorem ZR{fl:List (Nat×Bool)}(a:Oh T σ st i c goal md oc tp (lf fl))(hh:Is st hd (.list (fl.map fV)))(hc:c<=11)(hl:fl.length<=4)(h:∀ g st' cJ op,TR {T with op:=op} cJ st'->LS cJ c goal md oc->cJ.top=tp->den (F (.ret (.bool true)) g st')):
  den (tC (E gF (w.C (n + 12)) 22) (.eG (.v 8) (.comp (.t [.v 10,.v 11]) .plain [.aD 4] (some (.not (.aD 11))) (.aD 10))::lo3) (OF i T.t d (.lst ((eX 1 (6 + c)).map iV)) hd []) st F X):=by
 refine apt (i:=20) (v:=.lst ((lf fl).map iV)) (fun K hK=>?_) (agQ a hc (ak (agR fl) hl) h)
 refine dL (yN hh) (dG (Ng (g:=fV) (fun p:Nat×Bool=> !p.2) (fun p=>iV p.1) (rH hh) (aA hl (bl rfl)) (fun J J J hK=>hK) (fun J J J hK=>hK) ?_))
 rw[show(fl.filter fun p=> !p.2).map (fun p=>iV p.1)=(lf fl).map iV by unfold lf; rw[gw]; rfl]
 exact hK
theorem agS{fl:List (Nat×Bool)}(a:Oh T σ st i c goal md oc tp (fl.map (·.1)))(hh:Is st hd (.list (fl.map fV)))(hc:c<=11)(hl:fl.length<=4)(htp:tp<=30)(h:∀ g st' cJ op,TR {T with op:=op} cJ st'->LS cJ c goal md oc->cJ.top=tp->den (F (.ret (.bool true)) g st')):
  den (tC (E gF (w.C (n + 12)) 22) (.for (.t [.v 6,.v 7]) .plain [.aD 4] lo2::.eG (.v 8) (.comp (.t [.v 10,.v 11]) .plain [.aD 4] (some (.not (.aD 11))) (.aD 10))::lo3) (OF i T.t d (.lst ((eX 1 (6 + c)).map iV)) hd []) st F X):=by
 refine dL (yN hh) (dS (GC (g:=fV) (OF i T.t d (.lst ((eX 1 (6 + c)).map iV)) hd []) (ShI T i c goal md tp hd oc fl) (fun J J J I=>rH I.h) (fun b s I=>?_) (fun b y r s I K kn J J=>?_) (σ,[]) _ _ ⟨rfl,a,hh⟩))
 ·have e:fl=b.2:=I.e.trans (bN _)
  have a:=I.a
  rw[List.map_nil,bN,← e] at a
  exact ZR a I.h hc hl h
 ·have l2:b.2.length + (r.length + 1)=fl.length:=by rw[I.e,aF]; rfl
  have l3:(lf b.2++y.1::r.map (·.1)).length<=10:=by
   rw[aF,lO,aQ]
   exact ak (bU (agR b.2) _) (ak (aR l2) (ak hl (bl rfl)))
  exact acL (F:=lfS K) (X:=Od _) (b:=y.2) (l:=lf b.2) (r:=r.map (·.1)) I.a htp l3 I.h fun s2 vf a2 hh2=>kn _ _ (vf,b.2++[y]) (vD 5 rfl) ⟨I.e.trans (bw b.2 [y] r).symm,(amg b.2 y.1 y.2 _).symm▸a2,hh2⟩
theorem W6{Q:Po}{X:Ex}(a:Og T σ st i c goal md oc)(hop:T.op=[])(hc:c<=11)(hw:T.now < 100000)
  (h:∀ st' cJ op,TR {T with op:=op} cJ st'->LS cJ c goal md oc->cJ.top<=30->Q (.bool true) st'):w.C (n + 13) 1091 [.ref i,.ref T.t,.int d] st Q X:=by
 have a0:=a.op hop
 obtain⟨m,em⟩:=lQ (tL d (by decide:(5:Int)≠0))
 have m5:m < 5:=fu.mp (em▸pX d (by decide))
 refine w.h (dN (aX (a.i▸a.t.r.hi) rfl) (dG (WQ a.i (Ez a.t.r (by rw[a.ks,pY]; exact aA (aZ hc 6) (bl rfl)) ?_))))
 rw[a.ks]; o_shape
 refine dV (sJ (by decide)) ?_
 rw[em]
 have t30:∀ j,j<=4->6 + c + j<=30:=fun j h=>ak (fY (aZ hc 6) h) (bl rfl)
 refine dL (Gy (aO m) (dU (ak (bH m5) (bl rfl)))) (dS (GC (g:=fun i:Nat=>V.int i) (OF i T.t d (.lst ((eX 1 (6 + c)).map iV)) st.length []) (OpI T i c goal md m st.length oc d) (fun J J J J=>sO (aO m) (dU (ak (bH m5) (bl rfl)))) (fun b s I=>?_) (fun b x r s I K kn J J=>?_) (σ,0) _ _
  ⟨by rw[cH,cM,lu],by rw[cH,cM,fU],a0.ke .app,cC⟩))
 ·have j4:b.2<=4:=ak (aR I.n) (cX m5)
  exact agS (n:=n) I.a I.h hc (ak (aR (aa1 c d b.2)) j4) (t30 _ j4) fun g s2 vf op t2 l2 Ua=>h s2 vf op t2 l2 (Ua▸t30 _ j4)
 ·have e:x::r=b.2::eX (b.2 + 1) r.length:=I.e
  obtain⟨rfl,e2⟩:=gb e
  have jm:b.2 < m:=I.n▸iG (iQ _)
  have j4:b.2<=4:=bH (aK jm (cX m5))
  have ll:(flS c d b.2).length<=4:=ak (aR (aa1 c d b.2)) j4
  exact acK (n:=_) (F:=lfS K) (X:=Od _) I.a hc (aK jm (cX m5)) (t30 _ j4) (bh _ _) (ak (aR (aQ _)) ll) hw I.h (ak (aR (aQ _)) (ak ll (bl rfl))) fun s2 vf a2 hh2=>
   kn _ _ (vf,b.2 + 1) (vD 5 rfl) ⟨e2,(eF _ _).trans I.n,by rw[ako,cu]; exact a2,by rw[ako,cu]; exact hh2⟩
end
end
section
variable{w:Wm gF}
noncomputable def er2:List MS:=[.eG (.v 3) (.ite (.z8 (.aj (.int 0)) .le (.aD 8) .lt (.bin .pow (.aj (.int 2)) (.aj (.int 32)))) (.aj (.str [116,111,108,100])) (.aj (.str [77,105,115,117,115,101,100])))]
noncomputable def acO:List MS:=[.ite (.cmp (.qy (.heard 1071 eE vY (.bk 62 (.aD 0) [(.aj (.str [47,102])),(.aD 8)])) (.aj (.int 0))) .ne (.aD 3)) [.ret (some (.aj (.bool false)))] [],.ite (.cmp (.bR (.bk 59 (.bR (.aD 0) 41) [(.aj (.str [47,102]))]) 29) .ne (.ite (.cmp (.aD 3) .eq (.aj (.str [116,111,108,100]))) (.aD 8) (.bi .len [(.aD 1)]))) [.ret (some (.aj (.bool false)))] [],.expr (.bk 62 (.aD 0) [(.aj (.str [47,102])),(.aj (.int 3))]),.eG (.v 3) (.ite (.cmp (.aD 3) .eq (.aj (.str [116,111,108,100]))) (.slice (.aD 1) .none (some (.bi .min [(.aj (.int 3)),(.aD 8)]))) (.slice (.aD 1) .none (some (.aj (.int 3)))))]
noncomputable def er3:List MS:=[.eG (.v 6) (.qy (.jJ [(.neg (.aj (.int 1))),(.bin .sub (.bin .pow (.aj (.int 2)) (.aj (.int 32))) (.aj (.int 1))),(.bin .pow (.aj (.int 2)) (.aj (.int 32)))]) (.bin .mod (.bin .fdiv (.aD 2) (.aj (.int 20))) (.aj (.int 3)))),.ite (.cmp (.qy (.heard 1071 eE vY (.bk 25 (.aD 0) [(.aj (.str [47,102])),(.aD 6),(.aj (.bytes [120,121]))])) (.aj (.int 0))) .ne (.aj (.str [77,105,115,117,115,101,100]))) [.ret (some (.aj (.bool false)))] [],.ret (some (.cmp (.bk 7 (.bR (.aD 0) 41) [(.aj (.str [47,102])),(.aj (.int 0)),(.aj (.int 9))]) .eq (.bin .add (.aD 3) (.bi .bytes [(.bin .sub (.aj (.int 3)) (.bi .len [(.aD 3)]))]))))]
structure EF(T:Tr)(σ:Ms)(st:St)(B sz:Nat)(f:Nat->UInt8):Prop where
 t:TR T σ st
 r:∃ lk nr,Rt σ lk nr/\lk [102]=some 24
 z:∃ z,kj σ 6 z/\z.sort=0/\z.size=sz
 d:∃ b,b<=B/\Dat σ 6 b f
section
variable{n B sz:Nat}{d:Int}{l:List UInt8}{st:St}{σ:Ms}{T:Tr}{f:Nat->UInt8}{F:zV}{X:vd}
theorem EF.fnd(a:EF T σ st B sz f):Iw σ [47,102] true (.inl 6):=a.r.elim fun J q=>q.elim fun J q=>kZ q.1 nmF q.2 (.inl (by decide))
theorem EF.ke{st':St}(a:EF T σ st B sz f)(k:Ke [] st st'):EF T σ st' B sz f:=⟨a.t.ke k,a.r,a.z,a.d⟩
theorem rd3(hl:l.length<=3)(h:∀ i,i < 3->f i=l.getD i 0):rd f 0 3=l++bQ (3 - l.length) 0:=by
 have e:(l++bQ (3 - l.length) 0).length=3:=by rw[aF,eY,dD hl]
 have:=TG (l:=l++bQ (3 - l.length) 0) f fun i hi=>(h i (e▸hi)).trans (Zt (l:=l)).symm
 rw[e] at this
 exact this
theorem EF.el{R:Prop}(a:EF T σ st B sz f)(h:∀ z b md m,kj σ 6 z->z.sort=0->z.size=sz->b<=B->σ.get 6=some md->(∀ i,md.data.getD i 0=f i)->Dat σ 6 b f->[47,102].length < 1000->(eH [47,102]).length < 100->uM σ 2 true 2 (eH [47,102]) 0 m (.inl 6)->R):R:=
 a.z.elim fun z q=>a.d.elim fun b p=>p.2.elim fun md g=>a.fnd.elim fun m k=>h z b md m q.1 q.2.1 q.2.2 p.1 g.1 g.2.2.2 p.2 (mV k.1) k.2.1 k.2.2
theorem z0n{z:Zn}(h:z.sort=0):z.sort≠1:=fun e=>nomatch h.symm.trans e
noncomputable def E3(t:Nat)(v1:Option V)(d:Int)(l:V)(r:TF):TF:=some (.ref t)::v1::some (.int d)::some l::r
theorem amh{v1 v4 v5 v7 v8:Option V}(a:EF T σ st B 3 f)(hl:l.length<=3)(hf:∀ i,i < 3->f i=l.getD i 0)(h:∀ g st',den (F (.ret (.bool true)) g st')):
  den (tC (E gF (w.C (n + 12)) 22) er3 (E3 T.t v1 d (.bytes l) [v4,v5,none,v7,v8]) st F X):=by
 obtain⟨x,hx,ex⟩:=Ob (d / 20) (l:=[-1,4294967295,4294967296]) rfl (bl rfl:0 < 3) (P:=fun a=>a < 0∨4294967295 < a + 2) (iu (.inl (by decide)) (iu (.inr (by decide)) (iu (.inr (by decide)) (cF _))))
 refine a.el fun z b md m iz zs zz hb g df dd l1 l2 wk=>?_
 refine dV M8 (dV M8 (dV (yJ (by decide) (by decide)) (dV (sJ (by decide)) (dV (ex st) ?_)))); o_shape
 refine dN (aX a.t.t rfl) (dG (acv (x:=[120,121]) a.t a.fnd iz (z0n zs) (bl rfl) hx fun s1 k1=>?_)); o_shape
 have a1:=a.ke k1
 refine dV (fP rfl) (dV (fP rfl) (dB (qX rfl) (dV (aU a1.t.t rfl) (dN (aX a1.t.v rfl) (dG (CG (a:=0) (c:=9) a1.t.r a1.t.v l1 l2 wk ⟨z,iz,.inr (.inr ⟨z0n zs,0,9,md,rfl,rfl,bl rfl,g,fun s2 k2=>?_⟩)⟩))))));
 rw[show qH md.data 0 (min 9 (z.size - 0))=l++bQ (3 - l.length) 0 by rw[zz,xM df]; exact rd3 hl hf]; o_shape
 have n3:3 - l.length<=3:=jF _ _
 have e3:((3:Int) - (l.length:Int)).toNat=3 - l.length:=Int.toNat_sub 3 l.length
 have p3:(0:Int)<=3 - l.length:=Int.sub_nonneg_of_le (dU hl)
 have q3:(3:Int) - l.length<=lim:=fW (Int.sub_le_self _ (aO _)) (by decide)
 exact dV (gY (ak hl (bl rfl))) (dV (Dj (Cp p3 q3) (congrArg (fun n=>V.bytes (bQ n 0)) e3)) (dV (nM (by rw[eY,dD hl]; exact bl rfl)) (dV (ajg _) (h _ s2))))
theorem agT{k i:Nat}:(l.take k).getD i 0=if i < k then l.getD i 0 else 0:=by
 by_cases h:i < k
 ·rw[if_pos h,xK h]
 ·rw[if_neg h,aV,List.getElem?_take_eq_none (gK.mp h)]; rfl
theorem rE{i:Nat}(h:l.length<=i):l.getD i 0=0:=by rw[aV,cR h]; rfl
theorem apu{p:Prop}[Decidable p]{i:Nat}(hi:i < 3):(if p then ct 3 f else f) i=f i:=by
 by_cases q:p
 ·rw[if_pos q]; exact if_pos hi
 ·rw[if_neg q]
noncomputable def E2(t:Nat)(oc:List UInt8)(d:Int)(l:V)(v4 v5 v7:Option V)(z:Int):TF:=E3 t (some (.bytes oc)) d l [v4,v5,none,v7,some (.int z)]
theorem acP{z:Int}{oc:List UInt8}{v4 v5 v7:Option V}{A:TF->St->Mine.Internal.S.T}(a:EF T σ st 200 oc.length (fun i=>oc.getD i 0))(ho:oc.length<=99)(hz:z < 0∨4294967295 < z)(hw:T.now < 100000)
  (h:∀ st' cJ l f,EF T cJ st' 300 3 f->l.length<=3->(∀ i,i < 3->f i=l.getD i 0)->den (A (E2 T.t oc d (.bytes l) v4 v5 v7 z) st')):den (mF (E gF (w.C (n + 12)) 22) acO A F X (E2 T.t oc d (.str Dk) v4 v5 v7 z) st):=by
 have lo:oc.length<=lim:=ak ho (bl rfl)
 refine a.el fun zn b md m iz zs zz hb g df dd l1 l2 wk=>?_
 refine dN (aX a.t.t rfl) (dG (TJ a.t a.fnd iz (z0n zs) hz fun s2 k2=>?_)); o_shape
 have a2:=a.ke k2
 refine dV (fP rfl) (dV (fP rfl) (dB (qX rfl) (dV (aU a2.t.t rfl) (dN (aX a2.t.v rfl) (dG (xJ a2.t.r a2.t.v l1 l2 wk ⟨zn,iz,fun s3 k3 j hj=>?_⟩)))))); o_shape
 have a3:=a2.ke k3
 refine dV (aU hj rfl) (dV (fP rfl) (dB (qX rfl) (dV (gY lo) (dB (Pb (cst zz)) (dN (aX a3.t.t rfl) (dG (Bo (c:=3) a3.t a3.fnd iz (z0n zs) dd (ak hb (bl rfl)) (bl rfl) hw fun s4 σ4 m4 T9 QM d4 z4=>?_))))))); o_shape
 have n26:2∉[6]:=by decide
 refine dV (fP rfl) (dB (qX rfl) (dV (Dj (Gz lo) (congrArg V.bytes (Bf oc 3))) ?_))
 exact h s4 σ4 (oc.take 3) _ ⟨a3.t.mv m4,a.r.imp fun J q=>q.imp fun J q=>⟨q.1.mv m4.c n26,q.2⟩,⟨_,z4,zs,rfl⟩,_,ak (bU hb 32) (bl rfl),d4⟩ (lK _ _) fun i hi=>(apu hi).trans (xK hi).symm
end
end
section
variable{w:Wm gF}
section
variable{n s:Nat}{d:Int}{oc:List UInt8}{st:St}{σ:Ms}{T:Tr}{F:zV}{X:vd}{v4 v5 v7:Option V}{A:TF->St->Mine.Internal.S.T}
theorem ami(hs:s < 3∨True){i:Nat}(hi:i < 3):(if s < oc.length then ct s fun i=>oc.getD i 0 else fun i=>oc.getD i 0) i=(oc.take (min 3 s)).getD i 0:=by
 rw[agT]
 by_cases q:s < oc.length
 ·rw[if_pos q]
  show(if i < s then oc.getD i 0 else 0)=_
  by_cases p:i < s
  ·rw[if_pos p,if_pos (yU.mpr ⟨hi,p⟩)]
  ·rw[if_neg p,if_neg fun m=>p (yU.mp m).2]
 ·rw[if_neg q]
  by_cases p:i < s
  ·rw[if_pos (yU.mpr ⟨hi,p⟩)]
  ·rw[if_neg fun m=>p (yU.mp m).2]
   exact rE (ak (gK.mp q) (gK.mp p))
theorem ZS(a:EF T σ st 200 oc.length (fun i=>oc.getD i 0))(ho:oc.length<=99)(hs:s < 4294967296)(hw:T.now < 100000)
  (h:∀ st' cJ l f,EF T cJ st' 300 3 f->l.length<=3->(∀ i,i < 3->f i=l.getD i 0)->den (A (E2 T.t oc d (.bytes l) v4 v5 v7 s) st')):den (mF (E gF (w.C (n + 12)) 22) acO A F X (E2 T.t oc d (.str qZ) v4 v5 v7 s) st):=by
 have lo:oc.length<=lim:=ak ho (bl rfl)
 have n26:2∉[6]:=by decide
 refine a.el fun zn b md m iz zs zz hb g df dd l1 l2 wk=>?_
 refine dN (aX a.t.t rfl) (dG (Bo (c:=s) a.t a.fnd iz (z0n zs) dd (ak hb (bl rfl)) hs hw fun s2 vf m2 Xe Ua d2 z2=>?_)); o_shape
 have a2:EF T vf s2 232 s (if s < oc.length then ct s fun i=>oc.getD i 0 else fun i=>oc.getD i 0):=⟨a.t.mv m2,a.r.imp fun J q=>q.imp fun J q=>⟨q.1.mv m2.c n26,q.2⟩,⟨_,z2,zs,rfl⟩,_,bU hb 32,zz▸d2⟩
 refine a2.el fun zn b md m iz zs zz hb g df dd l1 l2 wk=>?_
 refine dV (fP rfl) (dV (fP rfl) (dB (qX rfl) (dV (aU a2.t.t rfl) (dN (aX a2.t.v rfl) (dG (xJ a2.t.r a2.t.v l1 l2 wk ⟨zn,iz,fun s3 k3 j hj=>?_⟩)))))); o_shape
 have a3:=a2.ke k3
 refine dV (aU hj rfl) (dV (fP rfl) (dB (qx rfl) (dB (Pb (cst zz)) (dN (aX a3.t.t rfl) (dG (Bo (c:=3) a3.t a3.fnd iz (z0n zs) dd (ak hb (bl rfl)) (bl rfl) hw fun s4 σ4 m4 T9 QM d4 z4=>?_)))))); o_shape
 have em:stk (JH s4 .min [.int 3,.int s])=some (.int ((min 3 s:Nat):Int)):=fP (congrArg (fun n=>some (V.int n)) (Wj 3 s))
 refine dV (fP rfl) (dB (qx rfl) (dV em (dV (Dj (Gz lo) (congrArg V.bytes (Bf oc (min 3 s)))) ?_)))
 exact h s4 σ4 (oc.take (min 3 s)) _ ⟨a3.t.mv m4,a2.r.imp fun J q=>q.imp fun J q=>⟨q.1.mv m4.c n26,q.2⟩,⟨_,z4,zs,rfl⟩,_,ak (bU hb 32) (bl rfl),d4⟩ (ak (lK _ _) (mW 3 s)) fun i hi=>(apu hi).trans (ami (.inr trivial) hi)
theorem ajm{z:Int}{v3:V}{t:Nat}(hz:(z < 0∨4294967295 < z)∨∃ s:Nat,z=s/\s < 4294967296)(h1:(z < 0∨4294967295 < z)->den (A (E2 t oc d (.str Dk) v4 v5 v7 z) st))(h2:∀ s:Nat,z=s->s < 4294967296->den (A (E2 t oc d (.str qZ) v4 v5 v7 z) st)):
  den (mF (E gF (w.C (n + 12)) 22) er2 A F X (E2 t oc d v3 v4 v5 v7 z) st):=by
 refine hz.elim (fun hz=>?_) fun hz=>hz.elim fun s q=>?_
 ·have fin:=h1 hz
  by_cases q:z < 0
  ·exact dB (G5 (nT.mpr q)) (dB (qX rfl) fin)
  ·exact dB (zX (dh.mp q)) (dV M8 (dB (G5 fun e=>nT.mpr (hz.resolve_left q) (Int.le_of_lt_add_one e)) fin))
 ·exact dB (zX (q.1▸aO s)) (dV M8 (dB (zX (q.1▸fu.mpr q.2)) (h2 s q.1 q.2)))
theorem amj{z:Int}{v3:V}(a:EF T σ st 200 oc.length (fun i=>oc.getD i 0))(ho:oc.length<=99)(hz:(z < 0∨4294967295 < z)∨∃ s:Nat,z=s/\s < 4294967296)(hw:T.now < 100000)
  (h:∀ st' cJ l f,EF T cJ st' 300 3 f->l.length<=3->(∀ i,i < 3->f i=l.getD i 0)->den (A (E2 T.t oc d (.bytes l) v4 v5 v7 z) st')):den (mF (E gF (w.C (n + 12)) 22) er2 (fun fr st=>mF (E gF (w.C (n + 12)) 22) acO A F X fr st) F X (E2 T.t oc d v3 v4 v5 v7 z) st):=
 ajm (A:=fun fr st=>mF (E gF (w.C (n + 12)) 22) acO A F X fr st) hz (fun hz=>acP a ho hz hw h) fun s e hs=>by subst e; exact ZS a ho hs hw h
end
end
section
variable{w:Wm gF}
noncomputable def ar3:List MS:=[.eG (.t [(.v 7),(.v 8)]) (.tup [(.qy (.jJ [(.neg (.aj (.int 1))),(.aj (.int 0)),(.aj (.int 65535)),(.aj (.int 65536))]) (.bin .mod (.aD 2) (.aj (.int 4)))),(.qy (.jJ [(.neg (.aj (.int 1))),(.aj (.int 0)),(.bin .sub (.bin .pow (.aj (.int 2)) (.aj (.int 32))) (.aj (.int 1))),(.bin .pow (.aj (.int 2)) (.aj (.int 32))),(.aj (.int 7))]) (.bin .mod (.bin .fdiv (.aD 2) (.aj (.int 4))) (.aj (.int 5))))]),.eG (.v 3) (.ite (.z8 (.aj (.int 0)) .le (.aD 7) .le (.aj (.int 65535))) (.aj (.str [116,111,108,100])) (.aj (.str [77,105,115,117,115,101,100])))]
noncomputable def W7:MS:=.ite (.cmp (.comp (.v 9) .plain [(.aD 4)] .none (.qy (.aD 9) (.aj (.int 0)))) .ne (.bin .mul (.jJ [(.aD 3)]) (.aj (.int 3)))) [.ret (some (.aj (.bool false)))] []
noncomputable def Pu:MS:=.eG (.v 5) (.comp (.v 9) .plain [(.tup [(.aj (.str [47,109])),(.aj (.str [47,110])),(.aj (.str [47,100]))])] .none (.heard 1071 eE vY (.bR (.bk 59 (.bR (.aD 0) 41) [(.aD 9)]) 28)))
noncomputable def I9:MS:=.ite (.cmp (.aD 5) .ne (.ite (.cmp (.aD 3) .eq (.aj (.str [116,111,108,100]))) (.bin .mul (.jJ [(.tup [(.aj (.str [116,111,108,100])),(.aD 7)])]) (.aj (.int 3))) (.bin .add (.bin .mul (.jJ [(.tup [(.aj (.str [77,105,115,115,105,110,103])),(.aj .none)])]) (.aj (.int 2))) (.jJ [(.tup [(.aj (.str [116,111,108,100])),(.aj (.int 8))])])))) [.ret (some (.aj (.bool false)))] []
noncomputable def apv:ME:=.heard 1071 eE vY (.bR (.bk 59 vw [.aD 9]) 28)
section
variable{n c goal md i:Nat}{d:Int}{oc:List UInt8}{st:St}{σ:Ms}{T:Tr}{F:zV}{X:vd}{A:TF->St->Mine.Internal.S.T}
noncomputable def E1(t:Nat)(oc:List UInt8)(d:Int)(l:Option V)(v4 v5:Option V)(m z:Int):TF:=[some (.ref t),some (.bytes oc),some (.int d),l,v4,v5,none,some (.int m),some (.int z)]
theorem ajn(h1:∀ m z:Int,(m < 0∨65535 < m)->((z < 0∨4294967295 < z)∨∃ s:Nat,z=s/\s < 4294967296)->den (A (E1 T.t oc d (some (.str Dk)) none none m z) st))
  (h2:∀(m:Nat) (z:Int),m<=65535->((z < 0∨4294967295 < z)∨∃ s:Nat,z=s/\s < 4294967296)->den (A (E1 T.t oc d (some (.str qZ)) none none m z) st)):
  den (mF (E gF (w.C (n + 12)) 22) ar3 A F X [some (.ref T.t),some (.bytes oc),some (.int d)] st):=by
 obtain⟨x,hx,ex⟩:=Ob d (l:=[-1,0,65535,65536]) rfl (bl rfl:0 < 4) (P:=fun a=>(a < 0∨65535 < a)∨∃ s:Nat,a=s/\s<=65535)
  (iu (.inl (.inl (by decide))) (iu (.inr ⟨0,rfl,bl rfl⟩) (iu (.inr ⟨65535,rfl,bl rfl⟩) (iu (.inl (.inr (by decide))) (cF _)))))
 obtain⟨y,hy,ey⟩:=Ob (d / 4) (l:=[-1,0,4294967295,4294967296,7]) rfl (bl rfl:0 < 5) (P:=fun a=>(a < 0∨4294967295 < a)∨∃ s:Nat,a=s/\s < 4294967296)
  (iu (.inl (.inl (by decide))) (iu (.inr ⟨0,rfl,bl rfl⟩) (iu (.inr ⟨4294967295,rfl,bl rfl⟩) (iu (.inl (.inr (by decide))) (iu (.inr ⟨7,rfl,bl rfl⟩) (cF _))))))
 refine dV (sJ (by decide)) (dV (ex st) (dV M8 (dV M8 (dV (yJ (by decide) (by decide)) (dV (sJ (by decide)) (dV (ey st) ?_)))))); o_shape
 refine hx.elim (fun hx=>?_) fun hx=>hx.elim fun s q=>?_
 ·have fin:=h1 x y hx hy
  by_cases q:x < 0
  ·exact dB (G5 (nT.mpr q)) (dB (qX rfl) fin)
  ·exact dB (zX (dh.mp q)) (dB (G5 (nT.mpr (hx.resolve_left q))) fin)
 ·have fin:=h2 s y q.2 hy
  rw[← q.1] at fin
  exact dB (zX (q.1▸aO s)) (dB (zX (q.1▸dU q.2)) fin)
end
end
section
variable{w:Wm gF}
theorem amk{r:M7}{pt:Pt}{elt:ME}{fr:TF}{live:St->Prop}{st:St}{Q:List V->St->Prop}{α:Type}{L:List α}{g:α->V}(f:α->V)(hl:∀ st,live st)(hn:L.length < lim)
  (hx:∀ a∈L,∀ s (K:S6),Ke [] st s->(∀ s',Ke [] s s'->den (K (f a) s'))->ok (xg pt (g a) fr) fun fr'=>den (r.e elt fr' s K noX))(h:∀ s,Ke [] st s->Q (L.map f) s):Du r pt .none elt fr live (L.map g) [] st Q:=by
 have go:∀(L:List α) (acc:List V) (s:St),Ke [] st s->acc.length + L.length < lim->(∀ a∈L,∀ s (K:S6),Ke [] st s->(∀ s',Ke [] s s'->den (K (f a) s'))->ok (xg pt (g a) fr) fun fr'=>den (r.e elt fr' s K noX))->(∀ s,Ke [] st s->Q (acc++L.map f) s)->Du r pt .none elt fr live (L.map g) acc s Q:=by
  intro L
  induction L with
  | nil=>exact fun acc s k J J h=>⟨hl s,bN acc▸h s k⟩
  | cons a L ih=>exact fun acc s k hn hx h=>⟨hl s,aA (bh _ _) hn,hx a (.head _) s _ k fun s' k'=>ih (acc++[f a]) s' (k.trans k') (by rw[aF,jU,fB [f a].length]; exact hn) (fun y hy=>hx y (.tail _ hy)) fun s k=>by rw[bw]; exact h s k⟩
 exact go L [] st .rfl (show 0 + L.length < lim from(fU L.length).symm▸hn) hx h
section
variable{n c goal md i:Nat}{d m z:Int}{oc:List UInt8}{st:St}{σ:Ms}{T:Tr}{F:zV}{X:vd}{A:TF->St->Mine.Internal.S.T}{v3 v4:Option V}
def Sp(w:Wm gF)(n:Nat)(σ:Ms)(T:Tr)(oc:List UInt8)(d m z:Int)(v3 v4:Option V)(p:List Nat)(v:V):Prop:=∀(st:St) (K:S6),TR T σ st->(∀ st',Ke [] st st'->den (K v st'))->den ((E gF (w.C (n + 12)) 20).e apv (wA (E1 T.t oc d v3 v4 none m z) 9 (.str p)) st K noX)
theorem akp{p:List Nat}(fd:Iw σ p true (.inr 75)):Sp w n σ T oc d m z v3 v4 p (eN qL):=fun st K t h=>fd.elim fun J q=>dV (aU t.t rfl) (dN (aX t.v rfl) (dG (xJ t.r t.v (mV q.1) q.2.1 q.2.2 fun s k=>h s k)))
theorem aa2{p:List Nat}{j k:Nat}{zn:Zn}(fd:Iw σ p true (.inl j))(iz:kj σ j zn)(hm:zn.mode=k):Sp w n σ T oc d m z v3 v4 p (.tup [eE,.int k]):=fun st K t h=>fd.elim fun J q=>dV (aU t.t rfl) (dN (aX t.v rfl) (dG (xJ t.r t.v (mV q.1) q.2.1 q.2.2 ⟨zn,iz,fun s k j hj=>dV (Dj (aU hj rfl) (congrArg (fun n:Nat=>V.int n) hm)) (h s k)⟩)))
theorem agU{a b e:V}(t:TR T σ st)(h1:Sp w n σ T oc d m z v3 v4 [47,109] a)(h2:Sp w n σ T oc d m z v3 v4 [47,110] b)(h3:Sp w n σ T oc d m z v3 v4 [47,100] e)(h:∀ st',Ke [] st st'->den (A (E1 T.t oc d v3 v4 (some (.lst [a,b,e])) m z) st')):
  den ((E gF (w.C (n + 12)) 22).s Pu (E1 T.t oc d v3 v4 none m z) st (tx A F) X):=by
 refine dL (a:=[([47,109],a),([47,110],b),([47,100],e)].map fun p:List Nat×V=>.str p.1) (fP rfl) (dG (amk (fun p:List Nat×V=>p.2) (fun J=>rfl) (bl rfl) ?_ h))
 exact iu (fun s K k q=>h1 s K (t.ke k) q) (iu (fun s K k q=>h2 s K (t.ke k) q) (iu (fun s K k q=>h3 s K (t.ke k) q) (cF _)))
theorem apw{x:V}(h:eqv 3 x x=some true):vX (eqv 3) [x,x,x] [x,x,x]=some true:=by
 show G7 (eqv 3 x x) (G7 (eqv 3 x x) (G7 (eqv 3 x x) (some true)))=_
 rw[h]; rfl
theorem agV{st:St}{L:List V}(h:vX (eqv 3) L L=some true):stk (qC V.bool (cop st .ne (.lst L) (.lst L)))=some (.bool false):=Gx (by
 show bnd (if L.length=L.length then vX (eqv 3) L L else some false) (fun x=>some (!x))=_
 rw[if_pos rfl,h]; rfl)
theorem acQ{l5:List V}(h5:l5=[eN qL,eN qL,.tup [eE,.int 8]])(h:den (A (E1 T.t oc d (some (.str Dk)) v4 (some (.lst l5)) m z) st)):
  den ((E gF (w.C (n + 12)) 22).s I9 (E1 T.t oc d (some (.str Dk)) v4 (some (.lst l5)) m z) st (tx A F) X):=by
 subst h5
 exact dV (fP rfl) (dB (qX rfl) (dV (fP rfl) (dV (fP rfl) (dV (fP rfl) (dB (qX rfl) h)))))
theorem ZV{k:Nat}{l5:List V}(h5:l5=[.tup [eE,.int k],.tup [eE,.int k],.tup [eE,.int k]])(h:den (A (E1 T.t oc d (some (.str qZ)) v4 (some (.lst l5)) k z) st)):
  den ((E gF (w.C (n + 12)) 22).s I9 (E1 T.t oc d (some (.str qZ)) v4 (some (.lst l5)) k z) st (tx A F) X):=by
 subst h5
 have e1:eqv 3 (.tup [eE,.int k]) (.tup [eE,.int k])=some true:=by
  show G7 (some true) (G7 (some (decide ((k:Int)=k))) (some true))=_
  rw[decide_eq_true rfl]; rfl
 exact dV (fP rfl) (dB (qx rfl) (dV (a:=.lst [.tup [eE,.int k],.tup [eE,.int k],.tup [eE,.int k]]) (fP rfl) (dV (agV (apw e1)) (dB (qX rfl) h))))
end
end
section
variable{w:Wm gF}
noncomputable def ajo:MS:=.eG (.v 4) (.Fg [(.heard 1071 eE vY (.bk 63 (.aD 0) [(.aj (.str [47,109])),(.aD 7)])),(.heard 1071 eE vY (.bk 64 (.aD 0) [(.aj (.str [47,110])),(.aD 7)]))])
noncomputable def acR:MS:=.expr (.bm .append (.aD 4) [(.heard 1071 eE vY (.bk 65 (.aD 0) [(.aj (.str [47,100])),(.aD 7)]))])
section
variable{n c goal i:Nat}{d m z:Int}{oc:List UInt8}{st:St}{σ:Ms}{T:Tr}{F:zV}{X:vd}{A:TF->St->Mine.Internal.S.T}{v3 v4:Option V}
noncomputable def e2V(p:V×V):V:=.tup [p.1,p.2]
theorem agW{j:Nat}{a x1 x2 x3:V}(hw:vX (eqv 3) [a,a,a] [a,a,a]=some true)(hh:Is st j (.list ([(a,x1),(a,x2),(a,x3)].map e2V)))(h:den (A (E1 T.t oc d (some a) (some (.ref j)) none m z) st)):
  den ((E gF (w.C (n + 12)) 22).s W7 (E1 T.t oc d (some a) (some (.ref j)) none m z) st (tx A F) X):=
 dL (yN hh) (dG (qD (g:=e2V) (fun p:V×V=>p.1) (rH hh) (bl rfl) (fun J J K hK=>dV (fP rfl) hK) (dV (a:=.lst [a,a,a]) (fP rfl) (dV (agV hw) (dB (qX rfl) h)))))
theorem agX(t:TR T σ st)(s:LS σ c goal 8 oc)(hb:m < 0∨65535 < m)(h:∀ st' v4 v5,Ke [] st st'->den (A (E1 T.t oc d (some (.str Dk)) v4 v5 m z) st')):
  den (mF (E gF (w.C (n + 12)) 22) [ajo,acR,W7,Pu,I9] A F X (E1 T.t oc d (some (.str Dk)) none none m z) st):=by
 refine akm (i:=19) (v1:=eN Dk) (v2:=eN Dk) (A:=fun fr st=>mF (E gF (w.C (n + 12)) 22) [acR,W7,Pu,I9] A F X fr st)
  (fun s1 K k h=>dN (aX (t.ke k).t rfl) (dG (Zr (t.ke k) hb (h s1 .rfl)))) (fun s1 K k h=>dN (aX (t.ke k).t rfl) (dG (Tz (t.ke k) hb (h s1 .rfl)))) fun j s1 L=>?_
 refine agI (i:=19) (j:=j) rfl [(hcE 65 (.aD 0) [.aj (.str [47,100]),.aD 7],eN Dk)] _ s1 L (bl rfl) (iu (fun s2 K k h=>dN (aX (t.ke k).t rfl) (dG (TP (t.ke k) hb (h s2 .rfl)))) (cF _)) (A:=fun fr st=>mF (E gF (w.C (n + 12)) 22) [W7,Pu,I9] A F X fr st) fun s2 L2=>?_
 have t2:=t.ke L2.k
 refine agW (a:=.str Dk) (x1:=.none) (x2:=.none) (x3:=.none) (A:=fun fr st=>mF (E gF (w.C (n + 12)) 22) [Pu,I9] A F X fr st) rfl L2.i ?_
 refine s.z4.elim fun z4 q4=>?_
 refine agU (A:=fun fr st=>mF (E gF (w.C (n + 12)) 22) [I9] A F X fr st) t2 (akp (WW s.rt nmM (EY (by decide) (by decide) (by decide) c))) (akp (WW s.rt nmN (EY (by decide) (by decide) (by decide) c))) (aa2 (kZ s.rt ZC (JG c) (.inl (by decide))) q4.1 q4.2.2.1) fun s3 k3=>?_
 exact acQ rfl (h s3 _ _ (L2.k.trans k3))
end
end
section
variable{w:Wm gF}
section
variable{n c goal i md tp:Nat}{d z:Int}{oc:List UInt8}{st:St}{σ cJ:Ms}{T:Tr}{F:zV}{X:vd}{A:TF->St->Mine.Internal.S.T}{v3:Option V}
noncomputable def lk2(c tp:Nat):List Nat->Option Nat:=upk (upk (JD c) [109] ((tp + 1) * 4 + 0)) [110] ((tp + 1 + 1) * 4 + 1)
structure Gd(σ:Ms)(c tp md md4:Nat)(oc:List UInt8):Prop where
 rt:Rt σ (lk2 c tp) (4 + c)
 zm:∃ z,kj σ (tp + 1) z/\z.mode=md
 zn:∃ z,kj σ (tp + 1 + 1) z/\z.mode=md
 z4:∃ z,kj σ 4 z/\z.mode=md4
 z6:∃ z,kj σ 6 z/\z.sort=0/\z.size=oc.length
 d6:∃ b,b<=200/\Dat σ 6 b fun i=>oc.getD i 0
theorem agY{s:List Nat}(h1:s≠[109])(h2:s≠[110]):lk2 c tp s=JD c s:=(if_neg h2).trans (if_neg h1)
theorem apx:lk2 c tp [109]=some ((tp + 1) * 4 + 0):=by
 show(if [109]=[110] then some ((tp + 1 + 1) * 4 + 1) else if [109]=[109] then some ((tp + 1) * 4 + 0) else JD c [109])=_
 rw[if_neg (by decide),if_pos rfl]
theorem apy:lk2 c tp [110]=some ((tp + 1 + 1) * 4 + 1):=by
 show(if [110]=[110] then some ((tp + 1 + 1) * 4 + 1) else upk (JD c) [109] ((tp + 1) * 4 + 0) [110])=_
 rw[if_pos rfl]
theorem apz:JD c [109]=none:=EY (by decide) (by decide) (by decide) c
theorem apA:JD c [110]=none:=EY (by decide) (by decide) (by decide) c
theorem aml(t:TR T σ st)(s:LS σ c goal 8 oc)(hmd:md<=65535)(hc:c<=11)(hw:T.now < 100000)(tp:σ.top<=30)
  (h:∀ s2 vf (a b:Nat),TR T vf s2->Gd vf c σ.top md 8 oc->den (A (wA (E1 T.t oc d v3 none none md z) 4 (.ref s2.length)) (s2++[.list [.tup [eE,.int a],.tup [eE,.int b]]]))):
  den ((E gF (w.C (n + 12)) 22).s ajo (E1 T.t oc d v3 none none md z) st (tx A F) X):=by
 refine s.rt.el fun R R' zr dR lR eR J J iz zs zl=>?_
 have e1:=(eR [109]).trans apz
 have e2:(R++[([109],(σ.top + 1) * 4 + 0)]).lookup [110]=none:=(nQ e1 _).trans ((if_neg (by decide)).trans ((eR _).trans apA))
 have lt:σ.top + 1 < 100000:=aA (bI tp) (bl rfl)
 have lt2:σ.top + 1 + 1 < 100000:=aA (bI (bI tp)) (bl rfl)
 have lr:R.length < 18:=lR▸aA (aZ hc 2) (bl rfl)
 have zl2:zr.links < 60000:=aK zl (ak (aZ (aZ hc 2) 100) (bl rfl))
 refine dN (aX t.t rfl) (dG (CT (md:=md) t (sX s.rt nmM) dR e1 (cU lr) iz hmd hw lt fun s1 σ1 q1=>?_)); o_shape
 have t1:=t.mv q1.m
 have rt1:Rt σ1 (upk (JD c) [109] ((σ.top + 1) * 4 + 0)) (3 + c):=⟨⟨_,q1.d,by rw[aF,lR]; exact cN 2 c 1,fun s=>(nQ e1 s).trans (by rw[eR]; rfl)⟩,_,q1.zf,zs,aK zl (aZ (bU (bl rfl) c) 100)⟩
 refine dN (aX t1.t rfl) (dG (JC (md:=md) t1 (sX rt1 nmN) q1.d e2 (by rw[aF]; exact oO lr) q1.zf zl2 hmd hw (by rw[q1.top]; exact lt2) fun s2 vf q2=>?_))
 refine h s2 vf _ _ (t1.mv q2.m) ?_
 have d2:=q2.d
 have z2:=q2.z
 have m2:=q2.m.c
 rw[q1.top] at d2 z2 m2
 have n1:∀ {j},j≠2->j<=σ.top + 1->j∉[2,σ.top + 1 + 1]:=fun h k=>vK h (cB (dM k))
 have n0:∀ {j},j≠2->j<=σ.top->j∉[2,σ.top + 1]:=fun h k=>vK h (cB (dM k))
 have l6:6<=σ.top:=s.z6.elim fun z q=>q.1.le t.r
 have l4:4<=σ.top:=ak (bl rfl) l6
 refine⟨⟨⟨_,d2,by rw[aF,aF,lR]; exact cN 2 c 2,fun s=>(nQ e2 s).trans (by rw[nQ e1,eR]; rfl)⟩,_,q2.zf,zs,(by show zr.links + 1 < 100 + (4 + c); omega)⟩,⟨_,q1.z.mv m2 (n1 (gq (aK (bl rfl:2 < 7) (bI l6))) (bf _)),rfl⟩,⟨_,z2,rfl⟩,s.z4.imp fun J q=>⟨(q.1.mv q1.m.c (n0 (by decide) l4)).mv m2 (n1 (by decide) (fJ l4)),q.2.2.1⟩,
  s.z6.imp fun J q=>⟨(q.1.mv q1.m.c (n0 (by decide) l6)).mv m2 (n1 (by decide) (fJ l6)),q.2⟩,s.o6.imp fun J q=>⟨q.1,(q.2.mv q1.m.c (n0 (by decide) l6)).mv m2 (n1 (by decide) (fJ l6))⟩⟩
theorem amm{hd a b md4 tp:Nat}(t:TR T σ st)(q:Gd σ c tp md md4 oc)(QM:6<=tp)(hmd:md<=65535)(hw:T.now < 100000)(hh:Is st hd (.list [.tup [eE,.int a],.tup [eE,.int b]]))
  (h:∀ s2 vf,TR T vf s2->Gd vf c tp md md oc->Is s2 hd (.list ([(eE,.int a),(eE,.int b),(eE,.none)].map e2V))->den (A (E1 T.t oc d v3 (some (.ref hd)) none md z) s2)):
  den ((E gF (w.C (n + 12)) 22).s acR (E1 T.t oc d v3 (some (.ref hd)) none md z) st (tx A F) X):=by
 refine q.z4.elim fun z4 q4=>?_
 have fd:Iw σ [47,100] true (.inl 4):=kZ (v:=17) q.rt ZC ((agY (by decide) (by decide)).trans (JG c)) (.inl (by decide))
 refine dB (qx (Nb hh)) (dN (aX t.t rfl) (dG (Wu t fd q4.1 hmd hw fun s4 σ4 m4 T9 auP auQ auR z4'=>?_)))
 have hh4:=m4.lst t.r hh
 refine dP (kE (Bc hh4 (bl rfl)) (show _=s4.set hd (.list ([(eE,.int a),(eE,.int b),(eE,.none)].map e2V)) from rfl)) ?_
 have n4:∀ {j},j≠4->j∉[4]:=fun h=>uO h
 have n5:∀ {j},6<=j->j≠4:=fun h=>gq (aK (bl rfl) h)
 exact h _ σ4 ((t.mv m4).aps hh4 _) ⟨q.rt.mv m4.c (by decide),q.zm.imp fun J q=>⟨q.1.mv m4.c (n4 (n5 (fJ QM))),q.2⟩,q.zn.imp fun J q=>⟨q.1.mv m4.c (n4 (n5 (fJ (fJ QM)))),q.2⟩,⟨_,z4',rfl⟩,q.z6.imp fun J q=>⟨q.1.mv m4.c (by decide),q.2⟩,q.d6.imp fun J q=>⟨q.1,q.2.mv m4.c (by decide)⟩⟩ (fQ hh4)
theorem acS(t:TR T σ st)(s:LS σ c goal 8 oc)(hmd:md<=65535)(hc:c<=11)(hw:T.now < 100000)(tp:σ.top<=30)(h:∀ st' cJ v4 v5,EF T cJ st' 200 oc.length (fun i=>oc.getD i 0)->den (A (E1 T.t oc d (some (.str qZ)) v4 v5 md z) st')):
  den (mF (E gF (w.C (n + 12)) 22) [ajo,acR,W7,Pu,I9] A F X (E1 T.t oc d (some (.str qZ)) none none md z) st):=by
 refine aml (A:=fun fr st=>mF (E gF (w.C (n + 12)) 22) [acR,W7,Pu,I9] A F X fr st) t s hmd hc hw tp fun s2 vf a b t2 q2=>?_
 refine amm (A:=fun fr st=>mF (E gF (w.C (n + 12)) 22) [W7,Pu,I9] A F X fr st) (t2.ke Ke.app) q2 (s.z6.elim fun z q=>q.1.le t.r) hmd hw cC fun s3 σ3 t3 q3 hh=>?_
 refine agW (a:=.str qZ) (A:=fun fr st=>mF (E gF (w.C (n + 12)) 22) [Pu,I9] A F X fr st) rfl hh ?_
 have dvm:((σ.top + 1) * 4 + 0) / 4=σ.top + 1:=by rw[qQ,uX _ (bl rfl)]
 have dvn:((σ.top + 1 + 1) * 4 + 1) / 4=σ.top + 1 + 1:=by rw[lq,Nat.mul_add_div (bl rfl)]
 have fm:=dvm▸kZ (kh:=true) q3.rt nmM apx (.inl (by rw[qQ,Nat.mul_mod_left]; decide))
 have fn:=dvn▸kZ (kh:=true) q3.rt nmN apy (.inl (by rw[lq,Nat.mul_add_mod]; decide))
 have fd:Iw σ3 [47,100] true (.inl 4):=kZ (v:=17) q3.rt ZC ((agY (by decide) (by decide)).trans (JG c)) (.inl (by decide))
 refine q3.zm.elim fun zm qm=>q3.zn.elim fun zn qn=>q3.z4.elim fun z4 q4=>?_
 refine agU (A:=fun fr st=>mF (E gF (w.C (n + 12)) 22) [I9] A F X fr st) t3 (aa2 fm qm.1 qm.2) (aa2 fn qn.1 qn.2) (aa2 fd q4.1 q4.2) fun s4 k4=>?_
 exact ZV rfl (h s4 σ3 _ _ ⟨t3.ke k4,⟨_,_,q3.rt,(agY (by decide) (by decide)).trans (G4 c)⟩,q3.z6,q3.d6⟩)
end
end
section
variable{w:Wm gF}
section
variable{n c goal:Nat}{d:Int}{oc:List UInt8}{st:St}{σ:Ms}{T:Tr}{Q:Po}{X:Ex}
theorem LS.ef{md:Nat}(s:LS σ c goal md oc)(t:TR T σ st):EF T σ st 200 oc.length (fun i=>oc.getD i 0):=⟨t,⟨_,_,s.rt,G4 c⟩,s.z6,s.o6⟩
theorem ajp(t:TR T σ st)(s:LS σ c goal 8 oc)(hc:c<=11)(ho:oc.length<=99)(hw:T.now < 100000)(tp:σ.top<=30)(h:∀ st',Q (.bool true) st'):w.C (n + 13) 1086 [.ref T.t,.bytes oc,.int d] st Q X:=by
 have go:∀ {l:V} {v4 v5:Option V} {m z:Int} {st':St} {cJ:Ms},((z < 0∨4294967295 < z)∨∃ s:Nat,z=s/\s < 4294967296)->EF T cJ st' 200 oc.length (fun i=>oc.getD i 0)->
   den (mF (E gF (w.C (n + 12)) 22) er2 (fun fr st=>mF (E gF (w.C (n + 12)) 22) acO (fun fr st=>tC (E gF (w.C (n + 12)) 22) er3 fr st (fun fl J st=>.leaf (Q (qe fl) st)) (Od X)) (fun fl J st=>.leaf (Q (qe fl) st)) (Od X) fr st) (fun fl J st=>.leaf (Q (qe fl) st)) (Od X) (E1 T.t oc d (some l) v4 v5 m z) st'):=
  fun hz a=>amj (n:=n) a ho hz hw fun s2 vf l f a2 hl hf=>amh (n:=n) a2 hl hf fun J s3=>h s3
 exact w.h (ajn (n:=n) (F:=fun fl J st=>.leaf (Q (qe fl) st)) (X:=Od X) (A:=fun fr st=>mF (E gF (w.C (n + 12)) 22) [ajo,acR,W7,Pu,I9] (fun fr st=>mF (E gF (w.C (n + 12)) 22) er2 (fun fr st=>mF (E gF (w.C (n + 12)) 22) acO (fun fr st=>tC (E gF (w.C (n + 12)) 22) er3 fr st (fun fl J st=>.leaf (Q (qe fl) st)) (Od X)) (fun fl J st=>.leaf (Q (qe fl) st)) (Od X) fr st) (fun fl J st=>.leaf (Q (qe fl) st)) (Od X) fr st) (fun fl J st=>.leaf (Q (qe fl) st)) (Od X) fr st)
  (fun m z hm hz=>agX (n:=n) t s hm fun s1 v4 v5 k1=>go hz (s.ef (t.ke k1))) (fun m z hm hz=>acS (n:=n) t s hm hc hw tp fun s1 σ1 v4 v5 a1=>go hz a1))
theorem uP{k:Nat}{is:List Int}(h:Q (.int (is.getD k 0)) st)(hl:is.length<=63):w.C (n + 1) 1064 [.lst (is.map .int),.int k] st Q X:=by
 refine w.h (dV (Dj (fP rfl) (congrArg (fun n:Nat=>V.int n) (aQ _))) ?_)
 rw[aV] at h
 by_cases q:k < is.length
 ·have ei:stk (Fi st (.lst (is.map .int)) (.int k))=some (.int is[k]):=by
   refine fP ?_
   show nth (is.map V.int) (k:Int)=_
   unfold nth
   rw[if_pos (aO k),cH,jB,bF q]; rfl
  rw[bF q] at h
  exact dB (zX (fu.mpr q)) (dV ei h)
 ·rw[cR (gK.mp q)] at h
  exact dB (G5 fun e=>q (fu.mp e)) h
theorem amn{lk:List Nat->Option Nat}{nr:Nat}{z:Zn}(rt:Rt σ lk nr)(e:lk [100]=some 17)(iz:kj σ 4 z)(zs:z.sort=1):Plc σ [47,100,47,103] 4 [103]:=by
 have ep:eH (tO [47] [[100]])=[[100]]:=xO ZC.sl ZC.ne
 exact⟨fun r h=>Wn (ini:=[[100]]) (m:=0 + 1) r (bl rfl) (IK ZC nmG) (bl rfl) (bl rfl) (bl rfl) (ep▸(bl rfl:1 < 100)) nmG (ep▸rJ rt ZC e (.inl (by decide)) .done) iz zs h,bl rfl,nmG⟩
end
end
section
variable{w:Wm gF}
noncomputable def la1:List MS:=[.eG (.v 0) (.slice (.aD 0) .none (some (.aj (.int 63)))),.eG (.v 1) (.new 1053 972 [(.new 467 464 [(.aj (.int 16)),(.aj (.int 32)),(.aj (.int 32)),(.aj (.int 4)),(.aj (.int 4)),(.aj (.int 4)),(.aj (.int 2)),(.aj (.int 128)),(.aj (.int 192)),(.aj (.int 160)),(.aj (.int 512))])]),.eG (.v 2) (.call 768 [(.aD 1),(.aj (.int 1))])]
noncomputable def la2:List MS:=[.eG (.v 3) (.bi .bytes [(.comp (.v 4) .range [(.bin .mod (.call 1064 [(.aD 0),(.aj (.int 2))]) (.aj (.int 41)))] .none (.bin .add (.aj (.int 1)) (.bin .mod (.bin .mul (.aD 4) (.call 1064 [(.aD 0),(.aj (.int 1))])) (.aj (.int 255)))))])]
noncomputable def la3:List MS:=[.expr (.bk 64 (.aD 2) [(.aj (.str [47,100])),(.aj (.int 8))]),.expr (.bk 63 (.aD 2) [(.aj (.str [47,100,47,103])),(.aj (.int 1))]),.expr (.bk 63 (.aD 2) [(.aj (.str [47,102])),(.aj (.int 1))]),.expr (.bk 25 (.aD 2) [(.aj (.str [47,102])),(.aj (.int 0)),(.aD 3)])]
noncomputable def la4:List MS:=[.ite (.not (.call 1076 [(.aD 2),(.aD 3),(.bin .mod (.call 1064 [(.aD 0),(.aj (.int 0))]) (.aj (.int 12))),(.bin .mod (.call 1064 [(.aD 0),(.aj (.int 3))]) (.aj (.int 4)))])) [.ret (some (.aj (.bool false)))] [],.ite (.bool false [(.not (.call 1081 [(.aD 2),(.aD 3),(.call 1064 [(.aD 0),(.aj (.int 4))])])),(.not (.call 1091 [(.aD 1),(.aD 2),(.call 1064 [(.aD 0),(.aj (.int 5))])]))]) [.ret (some (.aj (.bool false)))] [],.ret (some (.call 1086 [(.aD 2),(.aD 3),(.call 1064 [(.aD 0),(.aj (.int 6))])]))]
section
variable{n:Nat}{is:List Int}{st:St}{F:zV}{X:vd}{A:TF->St->Mine.Internal.S.T}
noncomputable def LA(is:List Int)(i t:Nat)(r:TF):TF:=some (.lst (is.map .int))::some (.ref i)::some (.ref t)::r
theorem amo(hl:is.length<=63)(h:∀ st' cJ T,al2 1 cJ.i st' cJ T->den (A (LA is cJ.i T.t []) st')):den (mF (E gF (w.C (n + 12)) 22) la1 A F X [some (.lst (is.map .int))] st):=by
 have e0:stk (uw st (.lst (is.map .int)) .none (some (.int 63)))=some (.lst (is.map .int)):=fP ((congrArg (fun l=>some (V.lst l)) (Bf (is.map V.int) 63)).trans (by rw[jR (ak (aR (aQ _)) hl)]))
 refine dV e0 (dG (acA (dG (Zz cC fun s2 σ ei k2 r2 ob tp=>?_)))); o_shape
 refine dG (WQ ei (TY (now:=1) r2 ob tp (bl rfl) fun s3 σ3 T q=>?_))
 have:=h s3 σ3 T (q.i.symm▸q)
 rw[q.i,ei] at this
 exact this
theorem ajq(hs:∀ x∈is,qz x=true)(k:Nat):qz (is.getD k 0)=true:=by
 rw[aV]
 by_cases q:k < is.length
 ·rw[bF q]; exact hs _ (xT q)
 ·rw[cR (gK.mp q)]; exact Gw (by decide)
theorem Oc(d:Int){n:Nat}(h:0 < n):∃ m:Nat,d % n=m/\m < n:=by
 have p:(0:Int) < n:=fu.mpr h
 obtain⟨k,e⟩:=lQ (tL d (Int.ne_of_gt p))
 exact⟨k,e,fu.mp (e▸pX d p)⟩
theorem amq{i t:Nat}(hl:is.length<=63)(hs:∀ x∈is,qz x=true)(h:∀ oc:List UInt8,oc.length<=40->den (A (LA is i t [some (.bytes oc)]) st)):den (mF (E gF (w.C (n + 12)) 22) la2 A F X (LA is i t []) st):=by
 obtain⟨m,em,hm⟩:=Oc (is.getD 2 0) (bl rfl:0 < 41)
 have b:∀ a∈fD m,0<=1 + ((a:Int) * is.getD 1 0) % 255/\1 + ((a:Int) * is.getD 1 0) % 255 < 256:=fun a J=>⟨Int.add_nonneg (by decide) (tL _ (by decide)),Int.add_lt_add_left (pX _ (by decide)) 1⟩
 refine dG (uP (k:=2) (dV (sJ (by decide)) ?_) hl)
 rw[show is.getD 2 0 % 41=(m:Int) from em]
 refine dL (Gy (aO m) (dU (ak (bH hm) (bl rfl)))) (dG (qD (g:=fun i:Nat=>V.int i) (fun a:Nat=>.int (1 + ((a:Int) * is.getD 1 0) % 255)) (sO (aO m) (dU (ak (bH hm) (bl rfl)))) (by rw[cH,cM]; exact aK hm (bl rfl)) (fun a ha K hK=>?_) ?_))
 ·have ha:=qM.mp ha
  rw[cH] at ha
  have sm:stk (Oj st .mul (.int a) (.int (is.getD 1 0)))=some (.int (a * is.getD 1 0)):=fP (if_pos ⟨Gw (by rw[pW]; exact aG (aG ha hm) (bl rfl)),ajq hs 1⟩)
  exact dG (uP (k:=1) (dV sm (dV (sJ (by decide)) hK)) hl)
 ·rw[cH]
  exact dV (Ig b rfl) (h _ (by rw[aQ,cM]; exact cX hm))
end
end
section
variable{w:Wm gF}
section
variable{n goal:Nat}{is:List Int}{oc:List UInt8}{st:St}{σ:Ms}{T:Tr}{F:zV}{X:vd}{A:TF->St->Mine.Internal.S.T}{R:TF}
theorem ajr{D:List Row}(e:D=[([100],17)])(s:List Nat):(D++[([102],24)]).lookup s=JD 0 s:=by
 subst e
 rw[nQ rfl]
 show(if s=[102] then some 24 else(([]:List Row)++[([100],17)]).lookup s)=(if s=[100] then some 17 else if s=[102] then some 24 else none)
 rw[nQ rfl]
 by_cases e1:s=[102]
 ·rw[if_pos e1,if_neg (by rw[e1]; decide),if_pos e1]
 ·rw[if_neg e1,if_neg e1]
  by_cases e2:s=[100]
  ·rw[if_pos e2,if_pos e2]
  ·rw[if_neg e2,if_neg e2]; rfl
theorem amr(ho:oc.length<=40)(q:al2 1 σ.i st σ T)(h:∀ st' cJ,Og T cJ st' σ.i 0 goal 8 oc->den (A (LA is σ.i T.t [some (.bytes oc)]) st')):den (mF (E gF (w.C (n + 12)) 22) la3 A F X (LA is σ.i T.t [some (.bytes oc)]) st):=by
 have t:=q.t
 have hw:T.now < 100000:=q.nw▸bl rfl
 have r0:Rt σ (fun J=>none) 0:=⟨⟨_,q.d2,rfl,fun J=>rfl⟩,_,q.z2,rfl,(by decide:2 < 100 + 0)⟩
 refine dN (aX t.t rfl) (dG (JC (md:=8) (s:=[100]) t (sX r0 ZC) q.d2 rfl (bl rfl) q.z2 (by decide) (bl rfl) hw (q.top▸bl rfl) fun s1 σ1 q1=>?_)); o_shape
 obtain⟨m1,ks1,tp1,d21,z21,z41,d41⟩:=q1
 rw[q.top] at m1 ks1 tp1 d21 z41 d41
 have t1:=t.mv m1
 have r1:Rt σ1 (upk (fun J=>none) [100] 17) 1:=⟨⟨_,d21,rfl,fun s=>nQ rfl s⟩,_,z21,rfl,(by decide:2 + 1 < 100 + 1)⟩
 refine dN (aX t1.t rfl) (dG (CT (md:=1) (s:=[103]) t1 (amn r1 (if_pos rfl) z41 rfl) d41 rfl (bl rfl) z41 (bl rfl) hw (tp1▸bl rfl) fun s2 vf q2=>?_)); o_shape
 obtain⟨m2,Xe,Ua,d42,z42,z52,ar8⟩:=q2
 rw[tp1] at m2 Xe Ua d42 z52 ar8
 have t2:=t1.mv m2
 have r2:=r1.mv m2.c (by decide)
 have d22:=d21.mv m2.c (by decide)
 have z22:=z21.mv m2.c (by decide)
 refine dN (aX t2.t rfl) (dG (CT (md:=1) (s:=[102]) t2 (sX r2 nmF) d22 rfl (bl rfl) z22 (bl rfl) hw (Ua▸bl rfl) fun s3 σ3 q3=>?_)); o_shape
 obtain⟨m3,ks3,tp3,d23,z23,z63,apB⟩:=q3
 rw[Ua] at m3 ks3 tp3 d23 z63 apB
 have t3:=t2.mv m3
 have r3:Rt σ3 (JD 0) 2:=⟨⟨_,d23,rfl,fun s=>ajr rfl s⟩,_,z23,rfl,(by decide:2 + 1 < 100 + 2)⟩
 have fd:Iw σ3 [47,102] true (.inl 6):=kZ (v:=24) r3 nmF (G4 0) (.inl (by decide))
 refine dN (aX t3.t rfl) (dG (Wt (x:=oc) (b:=0) t3 fd z63 (show(0:Nat)≠1 by decide) apB (ak ho (bl rfl)) (bl rfl) hw fun s4 σ4 m4 T9 QM d4 z4=>?_))
 rw[wr0] at d4
 have ei:σ4.i=σ.i:=m4.c.i.trans (m3.c.i.trans (m2.c.i.trans m1.c.i))
 have b4:0 + oc.length + 32<=200:=ak (bU (ak (aR (fU _)) ho) 32) (bl rfl)
 have no:∀ {P:Nat->Prop},∀ k,k < 0->P k:=fun k h=>absurd h (kW k)
 exact h s4 σ4 ⟨t3.mv m4,⟨r3.mv m4.c (by decide),⟨bl rfl,no,no,no⟩,(((q.d1.mv m1.c (by decide)).mv m2.c (by decide)).mv m3.c (by decide)).mv m4.c (by decide),(d42.mv m3.c (by decide)).mv m4.c (by decide),
  ⟨_,(z42.mv m3.c (by decide)).mv m4.c (by decide),rfl,rfl,(by decide:2 < 100)⟩,⟨_,(z52.mv m3.c (by decide)).mv m4.c (by decide),rfl⟩,⟨_,z4,rfl,xW (cL _)⟩,⟨_,b4,d4⟩⟩,ei,QM.trans tp3,by rw[T9,ks3,Xe,ks1,q.ks]; rfl,(((q.d3.mv m1.c (by decide)).mv m2.c (by decide)).mv m3.c (by decide)).mv m4.c (by decide)⟩
theorem ams{i:Nat}{Q:Po}{X:Ex}(hl:is.length<=63)(ho:oc.length<=40)(tn:T.now=1)(to:T.op=[])(a:∀ goal,Og T σ st i 0 goal 8 oc)(h:∀ st',Q (.bool true) st'):
  den (tC (E gF (w.C (n + 13)) 22) la4 (LA is i T.t [some (.bytes oc)]) st (fun fl J st=>.leaf (Q (qe fl) st)) (Od X)):=by
 obtain⟨bM,em,hm⟩:=Oc (is.getD 0 0) (bl rfl:0 < 12)
 obtain⟨goal,eg,hg⟩:=Oc (is.getD 3 0) (bl rfl:0 < 4)
 have hm:=cX hm
 have hw:T.now < 100000:=tn▸bl rfl
 have o9:oc.length<=99:=ak ho (bl rfl)
 refine dG (uP (k:=0) (dV (sJ (by decide)) (dG (uP (k:=3) (dV (sJ (by decide)) ?_) hl))) hl)
 rw[show is.getD 0 0 % 12=(bM:Int) from em,show is.getD 3 0 % 4=(goal:Int) from eg]
 refine dG (agH (a goal) hg hm o9 hw fun s1 σ1 a1=>?_); o_shape
 refine dB (qX rfl) (dG (uP (k:=4) (dG (agM a1 o9 (by rw[to]; rfl) fun s2 a2=>?_)) hl)); o_shape
 refine dB (qx rfl) (dG (uP (k:=5) (dG (W6 a2 to hm hw fun s3 σ3 op t3 l3 tp3=>?_)) hl)); o_shape
 exact dB (qx rfl) (dB (qX rfl) (dG (uP (k:=6) (dG (ajp (T:={T with op:=op}) t3 l3 hm o9 hw tp3 h)) hl)))
end
theorem amt{n:Nat}{is:List Int}{st:St}{Q:Po}{X:Ex}(hl:is.length<=63)(hs:∀ x∈is,qz x=true)(h:∀ st',Q (.bool true) st'):w.C (n + 14) 1096 [.lst (is.map .int)] st Q X:=
 w.h (amo (n:=n + 1) (F:=fun fl J st=>.leaf (Q (qe fl) st)) (X:=Od X) (A:=fun fr st=>mF (E gF (w.C (n + 13)) 22) la2 (fun fr st=>mF (E gF (w.C (n + 13)) 22) la3 (fun fr st=>tC (E gF (w.C (n + 13)) 22) la4 fr st (fun fl J st=>.leaf (Q (qe fl) st)) (Od X)) (fun fl J st=>.leaf (Q (qe fl) st)) (Od X) fr st) (fun fl J st=>.leaf (Q (qe fl) st)) (Od X) fr st) hl fun s1 σ T q=>
  amq (n:=n + 1) hl hs fun oc ho=>amr (n:=n + 1) (goal:=0) ho q fun s2 vf a=>ams (σ:=vf) hl ho q.nw q.op (fun goal=>⟨a.t,⟨a.s.rt,⟨bl rfl,fun k h=>absurd h (kW k),fun k h=>absurd h (kW k),fun k h=>absurd h (kW k)⟩,a.s.d1,a.s.d4,a.s.z4,a.s.z5,a.s.z6,a.s.o6⟩,a.i,a.top,a.ks,a.d3⟩) h)
end
end Mine.Internal.S
namespace Mine.Internal
section
open PySem PySem.W PySem.Calls PyProof.Rows
abbrev Xf:=PySem.Challenge.pw_np0217_02
theorem W8{den:Code->Sem PySem.Fin}{p:dO}{w:cY}:∀(n m:Nat) {s:aB} {t:Thread} {o o':Outcome} {a b:aB},runN den p w n s t=.halted o a->runN den p w m s t=.halted o' b->o=o'/\a=b
 | 0,_,_,_,_,_,_,_,h,_=>nomatch h
 | _ + 1,0,_,_,_,_,_,_,_,h=>nomatch h
 | n + 1,m + 1,s,t,o,o',a,b,h,h'=>by
  simp only[runN] at h h'
  cases hs:PySem.step den p w s t with
  | go s2 t2=>rw[hs] at h h'; exact W8 n m h h'
  | halt o2 s2=>rw[hs] at h h'; cases h; cases h'; exact⟨rfl,rfl⟩
theorem agZ{prog:dO}{w:cY}{t:Sem PySem.Fin}{s:aB}{R1 R2:mQ->aB->Prop}(hz:s.asleep)
  (h1:je (model prog w) callerA t (fun fin s'=>∃ f,fin=.done f/\(R1 (.ok f) s'/\leftWithCleanup s'.gens=false)) (fun e s'=>R1 (.error e) s'/\leftWithCleanup s'.gens=false) s)
  (h2:je (model prog w) callerA t (fun fin s'=>∃ f,fin=.done f/\(R2 (.ok f) s'/\leftWithCleanup s'.gens=false)) (fun e s'=>R2 (.error e) s'/\leftWithCleanup s'.gens=false) s):
  ∃ n r s' s'',runN (denote table) prog w n s ⟨t,.builtin "claim.caller" {},default,[]⟩=.halted (outcomeOf r) s'/\
   schedN (denote table) prog w n (.single s ⟨t,.builtin "claim.caller" {},default,[]⟩)=.halted (outcomeOf r) s'/\s'.forget=s''.forget/\R1 r s''/\∃ r2 s3,R2 r2 s3/\s'.forget=s3.forget:=by
 obtain⟨n,r,c7,Aw,hs,hn,hfo,hR⟩:=wp_halts_full (M:=model prog w) (R:=R1) hz (aaD (R:=fun r s'=>R1 r s'/\leftWithCleanup s'.gens=false) h1 default)
 obtain⟨m,r',abT,ald,_,hn',ar9,hR'⟩:=wp_halts_full (M:=model prog w) (R:=R2) hz (aaD (R:=fun r s'=>R2 r s'/\leftWithCleanup s'.gens=false) h2 default)
 obtain⟨_,e⟩:=W8 n m hn hn'
 exact⟨n,r,Aw,c7,hn,hs,hfo,hR,r',abT,hR',e▸ar9⟩
structure yS(w:cY)(c7:aB)(L:aH)(s':aB):Prop where
 gens:s'.gens=c7.gens
 os:s'.os=c7.os
 S:Ec (bB w c7.heap L) s'.heap
 I:Inv (bB w c7.heap L) s'.heap
theorem W9{B:Bs}{g:G}{h:cD}{R:WRecords}{cl:Str->Option aH}:∀ {is:List Int} {vs:List au} {as:List aH},ReadsAllW R cl h vs (is.map qw) as->jV B g h (is.map V.int) vs
 | [],_,_,r=>(readsAllW_nil_inv r).1▸.nil
 | i::is,_,_,r=>(readsAllW_cons_inv r).elim fun v q=>q.elim fun vs q=>q.elim fun J q=>q.elim fun J q=>(readsW_int_inv q.2.2.1).elim fun t k=>q.1▸k.1▸.cons (.int i t) (W9 q.2.2.2)
theorem apC{a:aH}(q:own ⟨[],[]⟩ a):False:=by cases q with | «at» e _=>cases e | hid q=>cases q
theorem apD{P:Pg}{n k f:Nat}{a:List V}{st:St}{Q:Po}{X:Ex}(h:(S.wm (P:=P)).C n f a st Q X)(e:23 * n=k):(Mine.Internal.W P k).c f a st Q X:=e▸(show S.Cl P n f a st Q X from h) 0 Q X (fun J J q=>q) fun J J q=>q
theorem ajs{k:Nat}(ek:23 * (0 + 14)=k + 1)(hn:callerA.depth + 1 + 2 * k<=990)(hu:callerA.units + 3 + 16 * k<=9000){w:cY}{c7:aB}{L:aH}(H:Gu w c7.heap L){is:List Int}(hl:is.length<=63)(hs:∀ i∈is,qz i=true)
  {a:aH}{o:Obj}{its:Array au}{n:Nat}(ho:c7.heap.get? a=some o)(hc:o.cls=.type "list")(hd:o.data=.seq its n)(hi:jV (bB w c7.heap L) ⟨[],[]⟩ c7.heap (is.map .int) its.toList)(hnew:a∉(bB w c7.heap L).tp):
  je (model Xf w) callerA (call (.ref 1096) [.ref a]) (fun v s'=>v=.bool true/\yS w c7 L s') (fun J J=>False) c7:=by
 have vr:VR (bB w c7.heap L) ⟨[],[]⟩ c7.heap (.lst (is.map .int)) (.ref a):=.lst (vs:=its.toList) ho hc (by rw[hd,Array.toArray_toList]) apC hnew (by rw[aQ]; exact ak hl (by decide)) hi
 have q:∀ k,23 * (0 + 14)=k->(Mine.Internal.W gF k).c 1096 [.lst (is.map .int)] [] (fun v J=>v=.bool true) (fun J J=>False):=
  fun k=>apD (S.amt (w:=S.wm) (n:=0) (is:=is) (st:=[]) (Q:=fun v J=>v=.bool true) (X:=fun J J=>False) hl hs (fun J=>rfl))
 refine bT (acf (B:=bB w c7.heap L) (n:=k) (x:=⟨⟨[],[]⟩,[],c7⟩) H.D (aln H.F H.D k) hn hu ⟨H.T,H.S,H.I,⟨rfl,nofun,nofun,fun q=>(apC q).elim,nofun,nofun⟩⟩ (.cons vr .nil) (q (k + 1) ek)) (fun v s' z=>?_) fun J J e=>e
 obtain⟨g',st',E,W',v',hv,rfl⟩:=z
 have sm:s'={c7 with heap:=s'.heap,toks:=s'.toks}:=E.sm
 have e1:=congrArg Shared.gens sm
 have e2:=congrArg Shared.os sm
 exact⟨VR.inv (v:=.bool true) hv,e1,e2,W'.stay,W'.inv⟩
theorem aa3{w:cY}{c7:aB}{L:aH}(H:Gu w c7.heap L){is:List Int}(hl:is.length<=63)(hs:∀ i∈is,qz i=true){cl:Str->Option aH}{vs:List au}{as:List aH}
  (hr:ReadsAllW [] cl c7.heap vs [.list (is.map qw)] as)(hnew:∀ a∈as,a∉(bB w c7.heap L).tp):
  je (model Xf w) callerA (call (.ref 1096) vs) (fun v s'=>v=.bool true/\yS w c7 L s') (fun J J=>False) c7:=by
 refine(readsAllW_cons_inv hr).elim fun v q=>q.elim fun vs' q=>q.elim fun as1 q=>q.elim fun as2 q=>(readsW_list_inv q.2.2.1).elim fun a k=>k.elim fun its k=>k.elim fun as' k=>k.2.1.elim fun o z=>z.2.2.elim fun n hd=>?_
 rw[q.1,k.1,(readsAllW_nil_inv q.2.2.2).1]
 exact ajs (k:=321) rfl (by decide) (by decide) H hl hs z.1 z.2.1 hd (W9 k.2.2.1) (hnew a (by rw[q.2.1,k.2.2.2]; exact nW _ (.head _)))
structure YP(h:cD):Prop where
 e:Jt h.get? (iy h.get? J1)=true
 al:(J1.all fun a=>(h.get? a).isSome)=true
 ns:VH h.get? 1=true
 law:nsG h.get? mainGlobals "law"=some (.ref 1096)
 eb:∀(w':cY) (h':cD) (L:aH),Xc.map (fun p=>turn {bB w' h' L with K:=iy h.get? J1} p.1)=Xc.map (·.2.body)
 ec:[35,1071].map (yH (iy h.get? J1))=[b35,Jq]
theorem YP.keeps{h h':cD}(y:YP h)(k:∀ b o,h.get? b=some o->h'.get? b=some o):YP h':=by
 have f:iy h'.get? J1=iy h.get? J1:=Js k y.al
 refine⟨by rw[f]; exact Y5 k y.e,bx.mpr fun a ha=>?_,Gs k y.ns,?_,by rw[f]; exact y.eb,by rw[f]; exact y.ec⟩
 ·obtain⟨o,ho⟩:=cV.mp (bx.mp y.al a ha)
  rw[k a o ho]; rfl
 ·have h3:(h.get? mainGlobals).isSome=true:=by
   have:=y.law
   unfold nsG at this
   cases q:h.get? mainGlobals with
   | none=>rw[q] at this; cases this
   | some o=>rfl
  exact(VG k h3 "law").trans y.law
theorem YP.base{w:cY}{h:cD}{L:aH}(hL:LOk L)(y:YP h){p:dO}{loose:List Str}{mean:ExcName->Option au}{mg mb:Str->Option au}(T:Top p loose mean mg mb h):Gu w h L:=
 aiI hL y.e (y.eb w h L) y.ec T.g T.b T.builtins T.nolimit (afo y.ns)
theorem ajt{w:cY}{c7 s':aB}(H:Gu w c7.heap 1)(b1:yS w c7 1 s'){t:aH×aH×Str}(htt:t∈Gq){o:Obj}(ho:c7.heap.get? t.2.1=some o):asItWas c7.heap s'.heap t.2.1 o:=
 (aqS (H.F.Y.tab t htt).1).elim fun oc d=>d.elim fun vs d=>(b1.I.tb t htt).elim fun ps p=>(b1.I.tx t htt ps p.1).elim fun vs0 q=>q.elim fun more v=>by
  rw[aC (ho.symm.trans v.1)]
  exact .inr (.inl ⟨⟨_,oc,vs,d⟩,rfl,vs0,more,rfl,v.2▸p.1⟩)
theorem amu{w:cY}{c7 s' s3:aB}(H:Gu w c7.heap 1)(b1:yS w c7 1 s')(b2:yS w c7 2 s3)(e:s3.heap=s'.heap):OldK c7.heap s'.heap:=by
 refine⟨fun b o ho=>?_,fun J J e=>b1.S.live e⟩
 by_cases ht:b∈Gq.map (·.2.1)
 ·exact(fX.mp ht).elim fun t z=>z.2▸ajt H b1 z.1 (z.2.symm▸ho)
 ·by_cases h2:b=2
  ·subst h2
   exact .inl (b1.S.keep ho fun q=>(aY.mp q).elim (fun z:(2:Nat)=1=>absurd z (by decide)) ht)
  ·exact .inl (e▸b2.S.keep ho fun q=>(aY.mp q).elim h2 ht)
noncomputable abbrev RB(w:cY)(c7:aB)(L:aH):mQ->aB->Prop:=fun r s'=>r=.ok (.ret (.bool true))/\yS w c7 L s'
inductive Ran(w:cY)(c7:aB)(vs:List au):Prop
 | mk {n:Nat} {s2:aB} (run:runN (denote table) Xf w n c7 ⟨(callStub uK.name vs).cur,.builtin "claim.caller" {},default,[]⟩=.halted (.done (.ret (.bool true))) s2)
   (sched:schedN (denote table) Xf w n (.single c7 (callStub uK.name vs))=.halted (.done (.ret (.bool true))) s2) (old:OldK c7.heap s2.heap) (os:s2.os=c7.os)
theorem asa:leftWithCleanup #[]=false:=by decide +kernel
theorem aa4{w:cY}{c7:aB}{L:aH}{vs:List au}(gl:c7.heap.Ns mainGlobals (c7.heap.nsMap mainGlobals))(law:c7.heap.nsMap mainGlobals uK.name=some (.ref 1096))(hg:c7.gens=#[])
  (h:je (model Xf w) callerA (call (.ref 1096) vs) (fun v s'=>v=.bool true/\yS w c7 L s') (fun J J=>False) c7):
  je (model Xf w) callerA (callStub uK.name vs).cur (fun fin s'=>∃ f,fin=.done f/\(RB w c7 L (.ok f) s'/\leftWithCleanup s'.gens=false)) (fun e s'=>RB w c7 L (.error e) s'/\leftWithCleanup s'.gens=false) c7:=by
 show je (model Xf w) callerA (do match ← nsGet mainNs uK.name with
  | some f=>do ret (← PySem.call f vs)
  | none=>unsupported "claim.caller:no-such-global") _ _ c7
 refine bY (wpAny_nsGet gl ?_)
 rw[law]
 exact aP (bT h (fun v s' z=>bL ⟨_,rfl,⟨congrArg (fun v=>Except.ok (Flow.ret v)) z.1,z.2⟩,by rw[z.2.gens,hg,asa]⟩) fun J J e=>e.elim)
theorem amv{w:cY}{c7:aB}{vs:List au}(H1:Gu w c7.heap 1)(gl:c7.heap.Ns mainGlobals (c7.heap.nsMap mainGlobals))(law:c7.heap.nsMap mainGlobals uK.name=some (.ref 1096))(hz:c7.asleep)(hg:c7.gens=#[])
  (r1:je (model Xf w) callerA (call (.ref 1096) vs) (fun v s'=>v=.bool true/\yS w c7 1 s') (fun J J=>False) c7)
  (r2:je (model Xf w) callerA (call (.ref 1096) vs) (fun v s'=>v=.bool true/\yS w c7 2 s') (fun J J=>False) c7):Ran w c7 vs:=
 (agZ (R1:=RB w c7 1) (R2:=RB w c7 2) hz (aa4 gl law hg r1) (aa4 gl law hg r2)).elim fun J q=>q.elim fun r q=>q.elim fun s2 q=>q.elim fun s3 q=>
  have a:=q.2.2.2; a.2.elim fun J b=>b.elim fun s4 b=>
  have e:=Shared.forget_eq q.2.2.1; have e2:=Shared.forget_eq b.2
  have er:outcomeOf r=.done (.ret (.bool true)):=congrArg outcomeOf a.1.1
  .mk (q.1.trans (congrArg (fun o=>Run.halted o s2) er)) (q.2.1.trans (congrArg (fun o=>SRun.halted o s2) er))
   (e.1.symm▸amu H1 a.1.2 b.1.2 (e2.1.symm.trans e.1)) (e.2.2.2.1.trans a.1.2.os)
theorem Xa{α:Type}{x:α}{P:Prop}(h:x∈([]:List α)):P:=(dK h).elim
theorem acT{w:cY}{s:aB}{q:dO}{loose:List Str}{XP:(Str->Option au)->cD->Prop}{free:aH->Prop}{gs:Prop}{kept:cD->Prop}(hk:∀ h,kept h)(y:YP s.heap)
  (G:Ground q loose [] XP w s (s.heap.nsMap mainGlobals) (s.heap.nsMap builtinsNs) s.heap)(hz:s.asleep)(hgens:s.gens=#[]):uK.claim.CallFrom (callStub uK.name) w free gs kept s:=by
 intro args hpre hlay ord hord
 refine(cV.mp (layAllW_isSome (P:=w.params) (ord:=ord) G.has args uK.args s (pre_splitW (r:=uK.toRowW) hpre).1)).elim fun r hlaid=>?_
 refine(reads_layAllW hord _ _ _ hlaid hlay r.2.heap (fun J J e=>e)).elim fun as R=>?_
 refine(afr hpre).elim fun is pi=>?_
 have keeps:=layAllW_keeps _ _ _ hlaid
 have hal:=layAllW_rest _ _ _ hlaid
 have T1:=G.T.keeps keeps
 have y1:=y.keeps keeps
 have Ld:Laid uK.claim.records w s r.2 args r.1 as:=⟨⟨ord,hord,hlaid⟩,R.1,R.2.1,R.2.2,keeps,hal.1.trans hgens,hal.2.2.1⟩
 have nw:∀ {L},Gu w s.heap L->∀ a∈as,a∉(bB w r.2.heap L).tp:=fun {L} H a ha q=>(H.T a q).elim fun o ho=>nn ((Ld.new ha).symm.trans ho)
 have hs:=acg (pi.1▸hlay)
 have hr:ReadsAllW [] (classAt s.heap) r.2.heap r.1 [.list (is.map qw)] as:=pi.1▸R.1
 have H1:Gu w r.2.heap 1:=y1.base (.inl rfl) T1
 cases amv H1 (SQ T1.g) y1.law (Shared.asleep_of_life hal.2.2.2 hz) (hal.1.trans hgens) (aa3 H1 pi.2 hs hr (nw (y.base (.inl rfl) G.T)))
  (aa3 (y1.base (.inr rfl) T1) pi.2 hs hr (nw (y.base (.inr rfl) G.T))) with
 | @mk n s2 run sched old os=>
 exact⟨r.1,r.2,hlaid,n,_,s2,sched,.inl ⟨.bool true,rfl,fun J=>rfl,⟨.bool true,args,[],as,.bool _,R.1.keepsK fun b o e hc=>old.get_of_cls e hc,aci _,fun J=>⟨qN,fun J h=>Xa h,fun J h=>Xa h⟩,fun J J=>ident_freeW (r:=uK.toRowW) rfl rfl rfl _ _⟩,fun J e=>nn e,fun b o y J J J=>old.old b o y,fun J h=>Xa h⟩,
  fun J i x hx=>nn (hgens▸hx),hk _,congrArg Life.seen ((runN_life _ _ _ run).trans hal.2.2.2),Shared.rest_eq (os.trans hal.2.2.1)⟩
theorem acU{q:dO}{loose:List Str}{α:Type}{Yf:aB->α}{Ya:cY->α}{N:Nat}{d:DefRec}{kwd:List (Str×cZ)}(amw:LeftO Xf q loose (fun J=>true) Yf Ya N)(hY:∀ w s,Yf s=Ya w->YP s.heap)
  (hch:chainsOk q=true)(hdef:defOf q uK.name=some (d,kwd))(hp:Xf.theDef uK.name=some (d.params,d.body,d.scope))(hk:kwWritten? d.params.kwonlyargs d.params.kw_defaults=some kwd)
  (k1:uK.wellSaid=true)(ow:opensWell Xf=true)(hb:Xf.bare)(hw:uK.toRowW.promised):uK.Holds:=
 ⟨k1,hw,⟨hb,ow,rfl⟩,hw.witness,fun w=>have l:=LeftO.behind (XP:=fun J J=>True) amw (fun J J=>trivial) hch w; ⟨l.1,fun s' hs'=>
  (l.2 s' hs').elim fun s₀ a=>a.2.2.elim fun s b=>⟨s₀,a.1,a.2.1,s,b.1,fun n hn=>aN.mp hn▸pinned_of_view b.2.2.2.1 b.2.2.2.2.1 hdef hp hk,fun J h=>Xa h,fun J h=>Xa h,
   acT (fun J e=>ff e) (hY w s b.2.2.2.2.2) b.2.2.2.2.1 b.2.1 (Array.eq_empty_of_size_eq_zero (beq_iff_eq.mp b.2.2.1))⟩⟩⟩
end
end Mine.Internal
namespace Mine
open Internal
open PySem PySem.W PySem.Calls PyProof.Rows
def topRunT(tb:String->Option dW)(p:dO)(w:cY)(n₀:Nat)(ann:Option au):Nat->Dd->Thread->Option Dd
 | 0,_,_=>none
 | n + 1,s,t=>match through t with
  | true=>some s
  | false=>match stepOk n₀ ann t with
   | false=>none
   | true=>match stepT (denote tb) p w s t with
    | some (s',t')=>topRunT tb p w n₀ ann n s' t'
    | none=>none
theorem Q7{tb:String->Option dW}{p:dO}{w:cY}{n₀:Nat}{ann:Option au}:∀ {n:Nat} {s s':Dd} {t:Thread},topRunT tb p w n₀ ann n s t=some s'->topRun tb p w n₀ ann n s.abs t=some s'.abs
 | 0,_,_,_,h=>by cases h
 | n + 1,s,s',t,h=>by
  unfold topRunT at h
  unfold topRun
  cases ht:through t with
  | true=>rw[ht] at h; cases h; rfl
  | false=>
   rw[ht] at h
   cases hk:stepOk n₀ ann t with
   | false=>rw[hk] at h; cases h
   | true=>
    rw[hk] at h
    cases hs:stepT (denote tb) p w s t with
    | none=>rw[hs] at h; cases h
    | some r=>obtain⟨Aw,au0⟩:=r; rw[hs] at h; rw[stepT_spec hs]; exact Q7 h
def ag0:List Obj->Nat->BT->BT
 | [],_,t=>t
 | o::l,n,t=>ag0 l (n + 1) (t.ins n o)
noncomputable def s0T(P:Params)(os:vV):Dd:=⟨ag0 (gG P).objs.toList 0 .nil,11,(gG P).life,Bw [],u6,yj,os⟩
def ZW(p:dO):dO:={p with main:={p.main with body:=p.main.body.drop 125}}
def looseQ(p:dO):List Str:=p.boundNames.filter fun k=>k != ("law":Str)
noncomputable def looks0(p:dO)(P:Params)(s:aB):=(staticsOk (importedModules p.main.body) (gG P) s.heap && namesBound p s.heap && gensDone s && laidKept (gG P) s.heap,openSeen (ZW p) (looseQ p) (importedModules p.main.body) (fun J=>true) true s)
theorem amT:((topRunT,looks0,looseQ,treeTable),true).2=true:=by k_qdec
abbrev pw:=PySem.Challenge.pw_np0217_02
noncomputable def wu(s:Dd)(a:aH):Option Obj:=match uc a s.n with
 | true=>alive ((s.tree.get a).getD default)
 | false=>none
theorem aa5(s:Dd):s.abs.heap.get?=wu s:=by
 funext a
 unfold wu
 cases e:uc a s.n with
 | false=>
  refine abs_get_none fun h=>?_
  rw[show uc a s.n=true from Nat.ble_eq_true_of_le h] at e; cases e
 | true=>
  have lt:a < s.n:=cA e
  show(absHeap s.tree s.n s.life).get? a=alive _
  unfold Heap.get?
  rw[absHeap_at,if_pos lt]
  generalize (s.tree.get a).getD default=o
  obtain⟨c,d,dt,sl⟩:=o
  cases dt <;> rfl
noncomputable def bG(w:cY)(h:cD)(L:aH)(g:aH->Option Obj):Bs:={bB w h L with K:=iy g J1}
noncomputable def akq(w:cY)(h:cD)(L:aH)(g:aH->Option Obj):List (List MS)×List (List uf):=(Xc.map fun p=>turn (bG w h L g) p.1,[35,1071].map (yH (iy g J1)))
noncomputable def Xb(g:aH->Option Obj):Bool:=Jt g (iy g J1) && (J1.all fun a=>(g a).isSome) && VH g 1 && nsG g mainGlobals "law"==some (.ref 1096)
noncomputable abbrev fin(w:cY)(os:vV):Option Dd:=PySem.W.Fast.tw8941956224279638915 PySem.W.Fast.tw14364793385576792824 pw w 11 (some (.ref 6)) 9000 (s0T w.params os) (topStub pw)
noncomputable abbrev ag1(g:aH->Option Obj):cY->cD->aH->List (List MS)×List (List uf):=fun w h L=>akq w h L g
noncomputable def yFn(g:aH->Option Obj):Bool:=Xc.all (afe (iy g J1))
noncomputable def ag2(g:aH->Option Obj):Bool:=ab3 g (iy g J1) && ace g (iy g J1) && ((J1.all fun a=>(g a).isSome) && VH g 1 && nsG g mainGlobals "law"==some (.ref 1096))
theorem ag3{g:aH->Option Obj}(a:yFn g=true)(b:ag2 g=true):Xb g=true:=by
 unfold ag2 at b
 unfold Xb Jt
 rw[aL,aL] at b
 rw[b.1.1,b.1.2,(show Xc.all (afe (iy g J1))=true from a),Bool.and_self,Bool.and_self,Bool.true_and,b.2]
theorem apE(w:cY)(os:vV):(fin w os).map (fun s=>PySem.W.Fast.tw3365640209818078933 pw w.params s.abs)=some (true,openGood (ZW pw) (PySem.W.Fast.tw16827347190657378198 pw)):=by kernel_rfl
theorem apF(w:cY)(os:vV):(fin w os).map (fun s=>ag1 (wu s))=some (fun J J J=>(Xc.map (·.2.body),[b35,Jq])):=by kernel_rfl
theorem apG(w:cY)(os:vV):(fin w os).map (fun s=>yFn (wu s))=some true:=by kernel_rfl
theorem apH(w:cY)(os:vV):(fin w os).map (fun s=>ag2 (wu s))=some true:=by kernel_rfl
noncomputable def Yf(s:aB):(cY->cD->aH->List (List MS)×List (List uf))×Bool:=(fun w h L=>akq w h L s.heap.get?,Xb s.heap.get?)
noncomputable def Ya(_:cY):(cY->cD->aH->List (List MS)×List (List uf))×Bool:=(fun J J J=>(Xc.map (·.2.body),[b35,Jq]),true)
theorem amx(P:Params)(os:vV):(s0T P os).abs=⟨gG P,Bw [],u6,yj,os⟩:=by
 show(Shared.mk _ _ _ _ _)=_
 congr 1
theorem apI(P:Params):((gG P).isNs mainGlobals,(gG P).objs.size,(gG P).nsMap mainGlobals "__annotations__")=(true,11,some (.ref 6)):=by kernel_rfl!
theorem aju{p q:dO}{loose:List Str}{α:Type}{Yf:aB->α}{Ya:cY->α}{N m:Nat}{ann:Option au}(e:opening p=plainProg p.main.scope.names)(hN:Nat.ble 600 N=true)(f:∀ s,fenceModules? p s=some s)
  (sz:∀ P,((gG P).isNs mainGlobals,(gG P).objs.size,(gG P).nsMap mainGlobals "__annotations__")=(true,m,ann))
  (hr:∀ w os,∃ s:aB,topRun treeTable p w m ann N ⟨gG w.params,Bw [],u6,yj,os⟩ (topStub p)=some s/\
   ((staticsOk (importedModules p.main.body) (gG w.params) s.heap && namesBound p s.heap && gensDone s && laidKept (gG w.params) s.heap),openSeen q loose (importedModules p.main.body) (fun J=>true) true s)=(true,openGood q loose)/\Yf s=Ya w):
  LeftO p q loose (fun J=>true) Yf Ya N:=fun w=>by
 have o:=boot_open e hN f w
 obtain⟨⟨h,gs,d,k,os⟩,e,e'⟩:=gQ.mp o
 obtain⟨rfl,rfl,rfl,rfl⟩:h=gG w.params/\gs=Bw []/\d=u6/\k=yj:=by simpa using e'
 obtain⟨z1,z2,z3⟩:_/\_/\_:=by simpa only[Prod.mk.injEq] using sz w.params
 obtain⟨s,r,l,y⟩:=hr w os
 obtain⟨l1,l2⟩:_/\_:=by simpa only[Prod.mk.injEq] using l
 have t:topFrom treeTable p w N ⟨gG w.params,Bw [],u6,yj,os⟩=some s:=by
  unfold topFrom
  dsimp only
  rw[z1,z2,z3,r]
  show(match staticsOk (importedModules p.main.body) (gG w.params) s.heap && namesBound p s.heap && gensDone s && laidKept (gG w.params) s.heap with | true=>some s | false=>none)=_
  rw[l1]
 unfold openEnds
 rw[e]
 show(topFrom treeTable p w N _).map _=_
 rw[t]
 exact congrArg some (Prod.ext l2 y)
theorem acV(p:dO)(P:Params)(s:aB):looks0 p P s=((staticsOk (importedModules p.main.body) (gG P) s.heap && namesBound p s.heap && gensDone s && laidKept (gG P) s.heap),openSeen (ZW p) (looseQ p) (importedModules p.main.body) (fun J=>true) true s):=rfl
theorem ag6(w:cY)(os:vV):∃ sT,fin w os=some sT/\topRun treeTable pw w 11 (some (.ref 6)) 9000 ⟨gG w.params,Bw [],u6,yj,os⟩ (topStub pw)=some sT.abs/\
  looks0 pw w.params sT.abs=(true,openGood (ZW pw) (looseQ pw))/\Yf sT.abs=Ya w:=by
 obtain⟨sT,e,q⟩:=gQ.mp (apE w os)
 have b:=apF w os
 have f:=apG w os
 have fr:=apH w os
 rw[e] at b f fr
 have b:=aC b
 have f:=ag3 (aC f) (aC fr)
 refine⟨sT,e,?_,?_,?_⟩
 ·have e:=e
  unfold fin at e
  rw[← PySem.W.Fast.te8941956224279638915,← PySem.W.Fast.te14364793385576792824] at e
  have:=Q7 e
  rw[amx] at this
  exact this
 ·rw[← PySem.W.Fast.te3365640209818078933,← PySem.W.Fast.te16827347190657378198] at q
  exact q
 ·refine Prod.ext ?_ ?_
  ·show ag1 sT.abs.heap.get?=_
   rw[aa5]
   exact b
  ·show Xb sT.abs.heap.get?=_
   rw[aa5]
   exact f
theorem apJ:opening pw=plainProg pw.main.scope.names:=rfl
theorem amw:LeftO pw (ZW pw) (looseQ pw) (fun J=>true) Yf Ya 9000:=aju apJ rfl (fun J=>rfl) apI fun w os=>by
 obtain⟨sT,_,r,l,y⟩:=ag6 w os
 exact⟨sT.abs,r,(acV _ _ _).symm.trans l,y⟩
theorem hY(w:cY)(s:aB)(h:Yf s=Ya w):YP s.heap:=by
 obtain⟨h1,h2⟩:=Prod.mk.inj h
 unfold Xb at h2
 simp only[aL,beq_iff_eq] at h2
 refine⟨h2.1.1.1,h2.1.1.2,h2.1.2,h2.2,fun w' h' L=>?_,?_⟩
 ·exact(Prod.mk.inj (congrFun (congrFun (congrFun h1 w') h') L)).1
 ·exact(Prod.mk.inj (congrFun (congrFun (congrFun h1 w) s.heap) 0)).2
theorem ajv:∃ d kwd,defOf (ZW pw) uK.name=some (d,kwd)/\Xf.theDef uK.name=some (d.params,d.body,d.scope)/\kwWritten? d.params.kwonlyargs d.params.kw_defaults=some kwd:=⟨_,_,rfl,rfl,rfl⟩
theorem ag7:Xf.bare:=⟨rfl,rfl,rfl,rfl,rfl,by decide +kernel⟩
theorem ZX:chainsOk (ZW pw)=true:=by decide +kernel
theorem acW:opensWell Xf=true:=by decide +kernel
theorem T6:uK.toRowW.promised:=⟨[.list []],by decide +kernel,by decide +kernel⟩
theorem asb{a b:Bool}(x:a=true)(y:b=true):(a && b)=true:=by rw[x,y]; rfl
set_option maxHeartbeats 0 in
theorem ag8:OpenLaw.wellSaid PySem.Challenge.rw_np0217_02=true:=by
 unfold OpenLaw.wellSaid OpenRow.wellSaid OpenRow.partSaid looksOpen
 with_reducible repeat' refine asb ?_ ?_
 all_goals (decide +kernel)
theorem row_holds:PySem.Challenge.rw_np0217_02.Holds:=
 holds_law ag8 fun said=>by
  obtain⟨d,kwd,h1,h2,h3⟩:=ajv
  exact acU amw hY ZX h1 h2 h3 said acW ag7 T6
end Mine
set_option maxRecDepth 100000 in
theorem PySem.Challenge.cw_np0217_02_holds : PySem.Challenge.rw_np0217_02.Holds :=
  Mine.row_holds
