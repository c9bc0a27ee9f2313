import PyProof.Rows.All
import Wide.All
import OpenK.AllK
import Wide.FinOn
import KE.KSortTup
import KE.KSortKey
import PySem.Challenge.RW_pq0026_01
set_option Elab.async false
set_option linter.all false
set_option maxRecDepth 100000
namespace Mine
open PySem.Str renaming ofString → zA
open Nat renaming le_trans → zB, le_refl → zK, le_of_ble_eq_true → zL, lt_of_lt_of_le → zO, not_lt_of_le → jK, zero_le → jO, ne_of_lt → jP, le_of_lt_succ → jR, le_of_eq → jU, lt_of_le_of_lt → jY, add_le_add_left → jZ, ne_of_gt → qF, sub_le → qG, add_comm → qH, le_of_lt → qI, add_assoc → qJ, zero_add → qK, eq_of_beq_eq_true → qM, le_add_left → qN, le_add_right → qS, le_sub_one_of_lt → qU, le_of_succ_le_succ → qV, lt_succ_of_lt → qY, add_le_add_right → qZ, sub_le_iff_le_add → yB, sub_self → yD, lt_succ_self → yH, le_succ_of_le → yK, add_le_add → yL, lt_irrefl → yM, le_antisymm → yO, succ_le_succ → yQ, mul_le_mul_right → yR, le_succ → yY, strongRecOn → yZ, lt_of_le_of_ne → vB, min_eq_left → vP, le_of_succ_le → vS, not_succ_le_zero → vU, le_zero → vV, reduceAdd → vX, blt → wA, sub_one_lt → wB, succ_ne_zero → wC, add_sub_cancel_left → wE, mul_le_mul → wF, not_lt_zero → wI, lt_succ_of_le → wL, sub_sub → wM, one_mul → wS, min_eq_right → wU, le_max_right → wX, lt_trans → wY, zero_max → wZ, le_max_left → xD, beq → xE, sub_add_cancel → xI, eq_zero_or_pos → xK, eq_or_lt_of_le → xL, not_lt → xM, add_mul → xO, add_zero → xQ, le_of_not_lt → xT, sub_one_lt_of_lt → xX, le_total → kR, succ → kX, lt_one_iff → kZ
open List renaming getElem?_eq_some_iff → zC, length_map → zD, length_append → zE, getElem?_append_left → zH, mem_of_getElem? → zI, mem_singleton → zM, append_assoc → zP, getElem?_eq_getElem → zQ, take_of_length_le → zR, getElem?_map → zS, map_cons → zU, length_cons → zV, lookup_cons → zX, mem_cons_of_mem → zY, flatMap_cons → zZ, mem_cons_self → jA, getElem?_append_right → jB, getElem?_set_ne → jD, map_map → jE, mem_append → jF, getD_eq_getElem?_getD → jG, append_nil → jI, take_add_one → jJ, cons_append → jM, mem_cons → jN, all_eq_true → jQ, mem_map → jS, length_set → jV, getElem?_set_self → jW, mem_range → jX, map_append → qD, mem_flatMap → qL, map_congr_left → qP, length_range → qR, size_toArray → qT, length_eq_zero_iff → qX, mem_iff_getElem? → yC, range_succ → yE, length_nil → yF, nil_append → yG, flatMap_nil → yI, length_flatMap → yJ, sum_cons → yN, not_mem_nil → yP, getElem?_range → yU, flatMap_append → yW, reverse_append → yX, length_replicate → vA, set_cons_zero → vC, forall_mem_cons → vF, reverse_reverse → vG, replicate_succ → vI, drop_of_length_le → vJ, getElem?_eq_none → vL, length_singleton → vM, nodup_cons → vN, find?_cons → vO, foldl_cons → vQ, nodup_append → vR, length_take_le' → vW, take_succ_cons → vZ, all_map → wG, any_cons → wJ, nodup_nil → wO, set_append_left → wR, length_take → wW, length_reverse → xA, zip_cons_cons → xH, pairwise_cons → xN, getElem?_toArray → xS, filter_cons → xU, drop_eq_nil_iff → xY, map_id → gA
open PySem.Heap renaming get?_push_of_some → zF, get?_push_size → zT, lt_size → jC, size_push → qA, get?_update_ne → yV, size_update → wD, get?_update_self → wK, get?_push_ne → xR
open Array renaming length_toList → zG, getElem?_toList → zW, getElem?_eq_getElem → jT, toList_push → yS, getElem?_eq_none → yT, forIn_toList → vK, mem_toList_iff → wP, perm_iff_toList_perm → wQ, toList_append → kO
open Bool renaming and_eq_true_iff → zJ, and_eq_true → jL, false_ne_true → qW, or_eq_true_iff → vY, eq_iff_iff → xZ
open PySem.Builtin.Slice renaming sliceAdjust → zN, slicePlaces → qE
open PySem.F renaming plainAttrs_list → jH, slot_list_append → qB, type_list_append → qC, slot_list_extend → vD, type_list_extend → vE
open PySem.Builtin.Tuple renaming tupleHashOf → qO, tupleItemsOf → wN, tupleExact → xC
open PySem.SetTable renaming insertAt → qQ
open PySem.Around renaming under_plainId → yA
open PyProof.Rows.KeyOrd renaming kle_refl → vH, kle_of_klt → xP, kle_trans → xV
open Int renaming ofNat_lt → vT, ofNat_le → wT, toNat_sub → xB, sub_add_cancel → xF, add_sub_cancel → xG, natAbs_natCast → xJ, ofNat_sub → xW, le_trans → kT, not_lt → kU
open PySem.Builtin.List renaming listItems → wH
section
open PySem PySem.W PyProof.Rows
def zV2 (tb:String->Option Builtin) (p:Program) (w:World) (n₀:Nat) (ann:Option Value):Nat->SharedT->Thread->Option SharedT
 | 0,_,_=>none
 | n+1,s,t=>match through t with
  | true=>some s
  | false=>match stepOk n₀ ann t with
   | false=>none
   | true=>match stepT (denote tb) p w s t with
    | some r=>zV2 tb p w n₀ ann n r.1 r.2
    | none=>none
theorem jK8 {tb:String->Option Builtin} {p:Program} {w:World} {n₀:Nat} {ann:Option Value} (n:Nat):∀ (s:SharedT) (t:Thread) (r:SharedT),zV2 tb p w n₀ ann n s t=some r->topRun tb p w n₀ ann n s.abs t=some r.abs:=by
 induction n with
 | zero=>exact fun oo1 oo2 oo3 h=>nomatch h
 | succ n ih=>
  intro s t r h
  unfold zV2 at h
  unfold topRun
  cases ht:through t with
  | true=>rw [ht] at h;cases h;rfl
  | false=>
   rw [ht] at h
   cases hk:stepOk n₀ ann t with
   | false=>rw [hk] at h;cases h
   | true=>
    rw [hk] at h
    cases hs:stepT (denote tb) p w s t with
    | none=>rw [hs] at h;cases h
    | some x=>rw [hs] at h;rw [stepT_spec hs];exact ih x.1 x.2 r h
def toTs:List Obj->BT->Nat->Option BT
 | [],t,_=>some t
 | o::l,t,n=>match ((t.ins n o).get n).isSome with
  | true=>toTs l (t.ins n o) (n+1)
  | false=>none
theorem toTs_abs {life:Life} (l:List Obj):∀ (t t':BT) (n:Nat),toTs l t n=some t'->absHeap t' (n+l.length) life=⟨(absHeap t n life).objs++l.toArray,life⟩:=by
 induction l with
 | nil=>intro t t' n h;cases h;simp [absHeap]
 | cons o l ih=>
  intro t t' n h
  unfold toTs at h
  cases g:((t.ins n o).get n).isSome with
  | false=>rw [g] at h;cases h
  | true=>
   rw [g] at h
   have e:=ih _ _ _ h
   rw [zV,qH l.length,<-qJ,e,absHeap_ins g]
   simp [Heap.push]
def atTop (p q:Program) (loose:List Str) (Xt:Shared->Bool) {α:Type} (Yf:Shared->α) (s₀ s:Shared):=
 ((staticsOk (importedModules p.main.body) s₀.heap s.heap && namesBound p s.heap && gensDone s && laidKept s₀.heap s.heap),openSeen q loose (importedModules p.main.body) Xt true s,Yf s)
def ranT (p q:Program) (loose:List Str) (Xt:Shared->Bool) {α:Type} (Yf:Shared->α) (N:Nat) (w:World):=
 (fencedOpening treeTable p w N).bind fun s₀=>match s₀.heap.isNs mainGlobals && s₀.gens.size == 0 with
  | true=>(toTs s₀.heap.objs.toList .nil 0).bind fun t=>(zV2 treeTable p w s₀.heap.objs.size (s₀.heap.nsMap mainGlobals "__annotations__") N ⟨t,s₀.heap.objs.size,s₀.heap.life,s₀.gens,s₀.drawn,s₀.toks,s₀.os⟩ (topStub p)).map fun S=>atTop p q loose Xt Yf s₀ S.abs
  | false=>none
theorem left_of {p q:Program} {loose:List Str} {Xt:Shared->Bool} {α:Type} {Yf:Shared->α} {Ya:World->α} {N:Nat} (h:∀ w,ranT p q loose Xt Yf N w=some (true,openGood q loose,Ya w)):LeftO p q loose Xt Yf Ya N:=fun w=>by
 obtain ⟨s₀,e,h⟩:=Option.bind_eq_some_iff.mp (h w)
 unfold openEnds
 rw [e]
 show (topFrom treeTable p w N s₀).map _=_
 unfold topFrom
 cases hb:s₀.heap.isNs mainGlobals && s₀.gens.size == 0 with
 | false=>rw [hb] at h;cases h
 | true=>
  rw [hb] at h
  obtain ⟨t,et,h⟩:=Option.bind_eq_some_iff.mp h
  obtain ⟨S,es,h⟩:=Option.map_eq_some_iff.mp h
  have r:=jK8 _ _ _ _ es
  have e0:=toTs_abs (life:=s₀.heap.life) _ _ _ _ et
  have e1:absHeap t s₀.heap.objs.size s₀.heap.life=s₀.heap:=by
   have:=e0
   rw [qK,zG] at this
   rw [this]
   simp [absHeap,BT.list]
  have e2:SharedT.abs ⟨t,s₀.heap.objs.size,s₀.heap.life,s₀.gens,s₀.drawn,s₀.toks,s₀.os⟩=s₀:=by
   unfold SharedT.abs
   dsimp only
   rw [e1]
  rw [e2] at r
  dsimp only
  rw [r]
  unfold atTop at h
  obtain ⟨l1,l2⟩:=Prod.mk.inj h
  dsimp only [Option.bind_some]
  rw [l1]
  exact congrArg some l2
abbrev PG:Program:=PySem.Challenge.pw_pq0026_01
noncomputable def VW:Program:={ PG with main:={ PG.main with body:=[0,2,3,4,6,7,8,9,11,12,13,15,17,19,20,21,22,23].filterMap fun i=>PG.main.body[i]? } }
noncomputable def ks (s:String) (t:Nat):Value:=.str (zA s) t
noncomputable def kn (s:String):Str:=zA s
noncomputable def ke (P:Params) (s:String) (t:Nat) (v:Value):DictEntry:=⟨PyData.keyHash P (zA s),.str (zA s) t,v⟩
noncomputable def bodyOf (t:Stmt):List Stmt:=
 Stmt.casesOn (motive_2:=fun oo1=>List Stmt) t (fun oo1 oo2 oo3 oo4 oo5 oo6 oo7 oo8 oo9 oo10=>[]) (fun oo1 oo2 oo3 oo4 oo5 oo6 oo7 oo8 oo9 oo10=>[]) (fun oo1 oo2 oo3 b oo4 oo5 oo6 oo7 oo8 oo9 oo10=>b) (fun oo1 oo2=>[]) (fun oo1 oo2=>[]) (fun oo1 oo2 oo3=>[]) (fun oo1 oo2 oo3 oo4 oo5 oo6 oo7=>[]) (fun oo1 oo2 oo3 oo4=>[]) (fun oo1 oo2 oo3 oo4 oo5=>[]) (fun oo1 oo2 oo3 oo4 oo5=>[]) (fun oo1 oo2 oo3 oo4 oo5=>[]) (fun oo1 oo2 oo3 oo4=>[]) (fun oo1 oo2 oo3 oo4=>[]) (fun oo1 oo2 oo3=>[]) (fun oo1 oo2 oo3=>[]) (fun oo1 oo2 oo3=>[]) (fun oo1 oo2 oo3=>[]) (fun oo1 oo2 oo3 oo4 oo5=>[]) (fun oo1 oo2 oo3 oo4 oo5=>[]) (fun oo1 oo2 oo3=>[]) (fun oo1 oo2=>[]) (fun oo1 oo2 oo3 oo4=>[]) (fun oo1 oo2=>[]) (fun oo1 oo2=>[]) (fun oo1 oo2=>[]) (fun oo1=>[]) (fun oo1=>[]) (fun oo1=>[])
noncomputable def objOf (f:Str->Arguments->List Stmt->Scope->Obj) (t:Stmt):Obj:=
 Stmt.casesOn (motive_2:=fun oo1=>Obj) t (fun n p b oo1 oo2 oo3 s oo4 oo5 oo6=>f n p b s) (fun oo1 oo2 oo3 oo4 oo5 oo6 oo7 oo8 oo9 oo10=>default) (fun oo1 oo2 oo3 oo4 oo5 oo6 oo7 oo8 oo9 oo10 oo11=>default) (fun oo1 oo2=>default) (fun oo1 oo2=>default) (fun oo1 oo2 oo3=>default) (fun oo1 oo2 oo3 oo4 oo5 oo6 oo7=>default) (fun oo1 oo2 oo3 oo4=>default) (fun oo1 oo2 oo3 oo4 oo5=>default) (fun oo1 oo2 oo3 oo4 oo5=>default) (fun oo1 oo2 oo3 oo4 oo5=>default) (fun oo1 oo2 oo3 oo4=>default) (fun oo1 oo2 oo3 oo4=>default) (fun oo1 oo2 oo3=>default) (fun oo1 oo2 oo3=>default) (fun oo1 oo2 oo3=>default) (fun oo1 oo2 oo3=>default) (fun oo1 oo2 oo3 oo4 oo5=>default) (fun oo1 oo2 oo3 oo4 oo5=>default) (fun oo1 oo2 oo3=>default) (fun oo1 oo2=>default) (fun oo1 oo2 oo3 oo4=>default) (fun oo1 oo2=>default) (fun oo1 oo2=>default) (fun oo1 oo2=>default) (fun oo1=>default) (fun oo1=>default) (fun oo1=>default)
noncomputable def kf (i:Nat) (m:Option Nat) (qual:String) (dV kV doc pm:Value) (an:Option Addr) (cd ct:Value):Obj:=
 (match PG.main.body[i]?,m with | some t,some j=>(bodyOf t)[j]? | x,_=>x).elim default (objOf fun name ps body sc=>{ cls:=.type "function",data:=.func { name:=name,qualname:=zA qual,params:=ps,body:=.stmts body,scope:=sc,globals:=3,closure:=[],defaults:=dV,kwdefaults:=kV,doc:=doc,pyModule:=pm,annotations:=an,code:=cd,closureTuple:=ct } })
noncomputable def kc (n q:String) (t:Nat) (l a:Int) (r:Nat) (x y z:Value) (c:Int) (u:Nat):Obj:={ cls:=.type "code",data:=.fields #[ks n t,ks q (t+1),ks "/claim/cut.py" (t+2),.int l 0,.int a 0,.int 0 0,.int 0 0,.int 3 0,.ref r,.bool true,.int 181 0,.ref (r+1),.none,x,y,z,.int c 0,.int l 0,ks "/claim/cut.py" u] }
noncomputable def KF (P:Params):Frag:=[
 (2,{ cls:=.none,data:=.dict #[ke P "type.__subclasses__.Exception.0" 230 (.int 47 0),ke P "type.__subclasses__.Exception.n" 231 (.int 1 0)] 2 }),
 (3,{ cls:=.type "dict",data:=.dict #[ke P "__name__" 165 (ks "law_pq0026_01" 805),ke P "__doc__" 166 (.none),ke P "__package__" 167 (.none),ke P "__loader__" 168 (.builtin "__main__.__loader__#opaque"),ke P "__spec__" 169 (.none),ke P "__annotations__" 170 (.ref 6),ke P "__builtins__" 171 (.ref 4),ke P "__file__" 173 (ks "/claim/cut.py" 172),ke P "__cached__" 174 (.none),ke P "_wall" 193 (.ref 21),ke P "HeapError" 233 (.ref 47),ke P "TermFault" 249 (.ref 60),ke P "LimitFault" 265 (.ref 72),ke P "is_op" 273 (.ref 79),ke P "parts" 279 (.ref 84),ke P "key_of" 285 (.ref 89),ke P "Bank" 416 (.ref 191),ke P "MOST_LISTED" 420 (.int 10000 419),ke P "MOST_SIZE" 422 (.int 200 421),ke P "Counts" 533 (.ref 276),ke P "Unions" 637 (.ref 358),ke P "Heap" 804 (.ref 488),ke P "_law_scoop" 815 (.ref 499),ke P "_law_ring" 821 (.ref 504),ke P "_law_beside" 827 (.ref 509),ke P "_law_key" 838 (.ref 516),ke P "law" 844 (.ref 521)] 27 }),
 (25,{ cls:=.type "cell",data:=.cell (some (.ref 47)) }),
 (46,{ cls:=.type "dict",data:=.dict #[ke P "__module__" 203 (ks "alikeheap.errors" 194),ke P "__firstlineno__" 207 (.int 5 206),ke P "__init__" 216 (.ref 37),ke P "told" 223 (.ref 44),ke P "__static_attributes__" 225 (.ref 45),ke P "__weakref__" 228 (.ref 48),ke P "__doc__" 229 (.none)] 4 }),
 (47,{ cls:=.type "type",data:=.cls { name:=kn "HeapError",bases:=[.type "Exception"],mro:=[.ref 47,.type "Exception",.type "BaseException",.type "object"],ns:=46,qualname:=kn "HeapError",subclasses:=[.ref 60,.ref 72] },slots:=#[some (.ref 22),none,some (ks "HeapError" 196),some (ks "HeapError" 204),some (.builtin "Exception.__new__"),some (.bool true)] }),
 (59,{ cls:=.type "dict",data:=.dict #[ke P "__module__" 241 (ks "alikeheap.errors" 194),ke P "__firstlineno__" 245 (.int 13 244),ke P "__static_attributes__" 246 (.ref 58),ke P "__doc__" 247 (.none)] 2 }),
 (60,{ cls:=.type "type",data:=.cls { name:=kn "TermFault",bases:=[.ref 47],mro:=[.ref 60,.ref 47,.type "Exception",.type "BaseException",.type "object"],ns:=59,qualname:=kn "TermFault" },slots:=#[some (.ref 51),none,some (ks "TermFault" 234),some (ks "TermFault" 242),some (.builtin "Exception.__new__"),some (.bool true)] }),
 (71,{ cls:=.type "dict",data:=.dict #[ke P "__module__" 257 (ks "alikeheap.errors" 194),ke P "__firstlineno__" 261 (.int 15 260),ke P "__static_attributes__" 262 (.ref 70),ke P "__doc__" 263 (.none)] 2 }),
 (72,{ cls:=.type "type",data:=.cls { name:=kn "LimitFault",bases:=[.ref 47],mro:=[.ref 72,.ref 47,.type "Exception",.type "BaseException",.type "object"],ns:=71,qualname:=kn "LimitFault" },slots:=#[some (.ref 63),none,some (ks "LimitFault" 250),some (ks "LimitFault" 258),some (.builtin "Exception.__new__"),some (.bool true)] }),
 (78,kc "is_op" "is_op" 268 18 1 75 .none .none (.ref 77) 271 272),
 (79,kf 6 none "is_op" (.none) (.none) (.none) (ks "alikeheap.terms" 266) none (.ref 78) (.none)),
 (83,kc "parts" "parts" 274 20 1 80 .none .none (.ref 82) 277 278),
 (84,kf 7 none "parts" (.none) (.none) (.none) (ks "alikeheap.terms" 266) none (.ref 83) (.none)),
 (88,kc "key_of" "key_of" 280 25 1 85 .none .none (.ref 87) 283 284),
 (89,kf 8 none "key_of" (.none) (.none) (.none) (ks "alikeheap.terms" 266) none (.ref 88) (.none)),
 (102,kc "__init__" "Bank.__init__" 298 30 1 97 (.ref 99) (.ref 100) (.ref 101) 302 303),
 (103,kf 9 (some 0) "Bank.__init__" (.none) (.none) (.none) (ks "alikeheap.terms" 266) none (.ref 102) (.none)),
 (109,kc "size" "Bank.size" 305 36 1 104 (.ref 106) (.ref 107) (.ref 108) 309 310),
 (110,kf 9 (some 1) "Bank.size" (.none) (.none) (.none) (ks "alikeheap.terms" 266) none (.ref 109) (.none)),
 (114,kc "take" "Bank.take" 312 39 3 111 .none .none (.ref 113) 315 316),
 (115,kf 9 (some 2) "Bank.take" (.none) (.none) (.none) (ks "alikeheap.terms" 266) none (.ref 114) (.none)),
 (121,kc "require" "Bank.require" 318 53 2 116 (.ref 118) (.ref 119) (.ref 120) 323 324),
 (122,kf 9 (some 3) "Bank.require" (.none) (.none) (.none) (ks "alikeheap.terms" 266) none (.ref 121) (.none)),
 (128,kc "put" "Bank.put" 326 57 2 123 (.ref 125) (.ref 126) (.ref 127) 333 334),
 (129,kf 9 (some 4) "Bank.put" (.none) (.none) (.none) (ks "alikeheap.terms" 266) none (.ref 128) (.none)),
 (133,kc "put_all" "Bank.put_all" 336 62 2 130 .none .none (.ref 132) 339 340),
 (134,kf 9 (some 5) "Bank.put_all" (.none) (.none) (.none) (ks "alikeheap.terms" 266) none (.ref 133) (.none)),
 (147,kc "op" "Bank.op" 350 68 2 142 (.ref 144) (.ref 145) (.ref 146) 355 356),
 (148,kf 9 (some 7) "Bank.op" (.none) (.none) (.none) (ks "alikeheap.terms" 266) none (.ref 147) (.none)),
 (154,kc "kids" "Bank.kids" 358 71 2 149 (.ref 151) (.ref 152) (.ref 153) 363 364),
 (155,kf 9 (some 8) "Bank.kids" (.none) (.none) (.none) (ks "alikeheap.terms" 266) none (.ref 154) (.none)),
 (161,kc "node" "Bank.node" 366 74 2 156 (.ref 158) (.ref 159) (.ref 160) 371 372),
 (162,kf 9 (some 9) "Bank.node" (.none) (.none) (.none) (ks "alikeheap.terms" 266) none (.ref 161) (.none)),
 (190,{ cls:=.type "dict",data:=.dict #[ke P "__module__" 293 (ks "alikeheap.terms" 266),ke P "__firstlineno__" 297 (.int 28 296),ke P "__init__" 304 (.ref 103),ke P "size" 311 (.ref 110),ke P "take" 317 (.ref 115),ke P "require" 325 (.ref 122),ke P "put" 335 (.ref 129),ke P "put_all" 341 (.ref 134),ke P "cut" 349 (.ref 141),ke P "op" 357 (.ref 148),ke P "kids" 365 (.ref 155),ke P "node" 373 (.ref 162),ke P "term" 379 (.ref 167),ke P "weight" 387 (.ref 174),ke P "depth" 395 (.ref 181),ke P "seek" 404 (.ref 188),ke P "__static_attributes__" 409 (.ref 189),ke P "__dict__" 411 (.ref 192),ke P "__weakref__" 413 (.ref 193),ke P "__doc__" 414 (.none)] 4 }),
 (191,{ cls:=.type "type",data:=.cls { name:=kn "Bank",bases:=[.type "object"],mro:=[.ref 191,.type "object"],ns:=190,qualname:=kn "Bank" },slots:=#[none,none,some (ks "Bank" 286),some (ks "Bank" 294),some (.builtin "object.__new__"),some (.bool true)] }),
 (208,kc "__init__" "Counts.__init__" 435 102 2 203 (.ref 205) (.ref 206) (.ref 207) 440 441),
 (209,kf 13 (some 0) "Counts.__init__" (.none) (.none) (.none) (ks "alikeheap.counting" 417) none (.ref 208) (.none)),
 (215,kc "renewed" "Counts.renewed" 443 107 2 210 (.ref 212) (.ref 213) (.ref 214) 449 450),
 (216,kf 13 (some 1) "Counts.renewed" (.none) (.none) (.none) (ks "alikeheap.counting" 417) none (.ref 215) (.none)),
 (222,kc "many" "Counts.many" 452 115 3 217 (.ref 219) (.ref 220) (.ref 221) 458 459),
 (223,kf 13 (some 2) "Counts.many" (.none) (.none) (.none) (ks "alikeheap.counting" 417) none (.ref 222) (.none)),
 (234,kc "rows" "Counts.rows" 470 122 3 231 .none .none (.ref 233) 473 474),
 (235,kf 13 (some 4) "Counts.rows" (.none) (.none) (.none) (ks "alikeheap.counting" 417) none (.ref 234) (.none)),
 (239,kc "listed" "Counts.listed" 476 138 3 236 .none .none (.ref 238) 479 480),
 (240,kf 13 (some 5) "Counts.listed" (.none) (.none) (.none) (ks "alikeheap.counting" 417) none (.ref 239) (.none)),
 (244,kc "spread" "Counts.spread" 482 143 3 241 .none .none (.ref 243) 485 486),
 (245,kf 13 (some 6) "Counts.spread" (.none) (.none) (.none) (ks "alikeheap.counting" 417) none (.ref 244) (.none)),
 (275,{ cls:=.type "dict",data:=.dict #[ke P "__module__" 430 (ks "alikeheap.counting" 417),ke P "__firstlineno__" 434 (.int 100 433),ke P "__init__" 442 (.ref 209),ke P "renewed" 451 (.ref 216),ke P "many" 460 (.ref 223),ke P "upto" 469 (.ref 230),ke P "rows" 475 (.ref 235),ke P "listed" 481 (.ref 240),ke P "spread" 487 (.ref 245),ke P "openings" 496 (.ref 252),ke P "nth" 506 (.ref 259),ke P "class_of" 514 (.ref 266),ke P "ranked" 522 (.ref 273),ke P "__static_attributes__" 526 (.ref 274),ke P "__dict__" 528 (.ref 277),ke P "__weakref__" 530 (.ref 278),ke P "__doc__" 531 (.none)] 4 }),
 (276,{ cls:=.type "type",data:=.cls { name:=kn "Counts",bases:=[.type "object"],mro:=[.ref 276,.type "object"],ns:=275,qualname:=kn "Counts" },slots:=#[none,none,some (ks "Counts" 423),some (ks "Counts" 431),some (.builtin "object.__new__"),some (.bool true)] }),
 (293,kc "__init__" "Unions.__init__" 548 172 1 288 (.ref 290) (.ref 291) (.ref 292) 552 553),
 (294,kf 15 (some 0) "Unions.__init__" (.none) (.none) (.none) (ks "alikeheap.unions" 534) none (.ref 293) (.none)),
 (300,kc "make" "Unions.make" 555 177 1 295 (.ref 297) (.ref 298) (.ref 299) 559 560),
 (301,kf 15 (some 1) "Unions.make" (.none) (.none) (.none) (ks "alikeheap.unions" 534) none (.ref 300) (.none)),
 (307,kc "size" "Unions.size" 562 182 1 302 (.ref 304) (.ref 305) (.ref 306) 566 567),
 (308,kf 15 (some 2) "Unions.size" (.none) (.none) (.none) (ks "alikeheap.unions" 534) none (.ref 307) (.none)),
 (314,kc "find" "Unions.find" 569 185 2 309 (.ref 311) (.ref 312) (.ref 313) 574 575),
 (315,kf 15 (some 3) "Unions.find" (.none) (.none) (.none) (ks "alikeheap.unions" 534) none (.ref 314) (.none)),
 (321,kc "merge" "Unions.merge" 577 190 3 316 (.ref 318) (.ref 319) (.ref 320) 585 586),
 (322,kf 15 (some 4) "Unions.merge" (.none) (.none) (.none) (ks "alikeheap.unions" 534) none (.ref 321) (.none)),
 (328,kc "members" "Unions.members" 588 199 2 323 (.ref 325) (.ref 326) (.ref 327) 593 594),
 (329,kf 15 (some 5) "Unions.members" (.none) (.none) (.none) (ks "alikeheap.unions" 534) none (.ref 328) (.none)),
 (357,{ cls:=.type "dict",data:=.dict #[ke P "__module__" 543 (ks "alikeheap.unions" 534),ke P "__firstlineno__" 547 (.int 170 546),ke P "__init__" 554 (.ref 294),ke P "make" 561 (.ref 301),ke P "size" 568 (.ref 308),ke P "find" 576 (.ref 315),ke P "merge" 587 (.ref 322),ke P "members" 595 (.ref 329),ke P "classes" 601 (.ref 334),ke P "log" 608 (.ref 341),ke P "back" 618 (.ref 348),ke P "cut" 626 (.ref 355),ke P "__static_attributes__" 630 (.ref 356),ke P "__dict__" 632 (.ref 359),ke P "__weakref__" 634 (.ref 360),ke P "__doc__" 635 (.none)] 4 }),
 (358,{ cls:=.type "type",data:=.cls { name:=kn "Unions",bases:=[.type "object"],mro:=[.ref 358,.type "object"],ns:=357,qualname:=kn "Unions" },slots:=#[none,none,some (ks "Unions" 536),some (ks "Unions" 544),some (.builtin "object.__new__"),some (.bool true)] }),
 (375,kc "__init__" "Heap.__init__" 652 219 1 370 (.ref 372) (.ref 373) (.ref 374) 656 657),
 (376,kf 17 (some 0) "Heap.__init__" (.none) (.none) (.none) (ks "alikeheap.heap" 638) none (.ref 375) (.none)),
 (382,kc "size" "Heap.size" 659 229 1 377 (.ref 379) (.ref 380) (.ref 381) 663 664),
 (383,kf 17 (some 1) "Heap.size" (.none) (.none) (.none) (ks "alikeheap.heap" 638) none (.ref 382) (.none)),
 (387,kc "node" "Heap.node" 666 232 2 384 .none .none (.ref 386) 669 670),
 (388,kf 17 (some 2) "Heap.node" (.none) (.none) (.none) (ks "alikeheap.heap" 638) none (.ref 387) (.none)),
 (392,kc "add" "Heap.add" 672 235 3 389 .none .none (.ref 391) 675 676),
 (393,kf 17 (some 3) "Heap.add" (.none) (.none) (.none) (ks "alikeheap.heap" 638) none (.ref 392) (.none)),
 (397,kc "put" "Heap.put" 678 246 2 394 .none .none (.ref 396) 681 682),
 (398,kf 17 (some 4) "Heap.put" (.none) (.none) (.none) (ks "alikeheap.heap" 638) none (.ref 397) (.none)),
 (404,kc "look_at" "Heap.look_at" 684 249 2 399 (.ref 401) (.ref 402) (.ref 403) 690 691),
 (405,kf 17 (some 5) "Heap.look_at" (.none) (.none) (.none) (ks "alikeheap.heap" 638) none (.ref 404) (.none)),
 (411,kc "find" "Heap.find" 693 254 2 406 (.ref 408) (.ref 409) (.ref 410) 698 699),
 (412,kf 17 (some 6) "Heap.find" (.none) (.none) (.none) (ks "alikeheap.heap" 638) none (.ref 411) (.none)),
 (425,kc "merge" "Heap.merge" 710 260 4 420 (.ref 422) (.ref 423) (.ref 424) 717 718),
 (426,kf 17 (some 8) "Heap.merge" (.none) (.none) (.none) (ks "alikeheap.heap" 638) none (.ref 425) (.none)),
 (432,kc "join" "Heap.join" 720 263 4 427 (.ref 429) (.ref 430) (.ref 431) 730 731),
 (433,kf 17 (some 9) "Heap.join" (.none) (.none) (.none) (ks "alikeheap.heap" 638) none (.ref 432) (.none)),
 (439,kc "settle" "Heap.settle" 733 274 1 434 (.ref 436) (.ref 437) (.ref 438) 737 738),
 (440,kf 17 (some 10) "Heap.settle" (.none) (.none) (.none) (ks "alikeheap.heap" 638) none (.ref 439) (.none)),
 (460,kc "members" "Heap.members" 754 284 2 455 (.ref 457) (.ref 458) (.ref 459) 759 760),
 (461,kf 17 (some 13) "Heap.members" (.none) (.none) (.none) (ks "alikeheap.heap" 638) none (.ref 460) (.none)),
 (465,kc "nodes_of" "Heap.nodes_of" 762 287 2 462 .none .none (.ref 464) 765 766),
 (466,kf 17 (some 14) "Heap.nodes_of" (.none) (.none) (.none) (ks "alikeheap.heap" 638) none (.ref 465) (.none)),
 (487,{ cls:=.type "dict",data:=.dict #[ke P "__module__" 647 (ks "alikeheap.heap" 638),ke P "__firstlineno__" 651 (.int 217 650),ke P "__init__" 658 (.ref 376),ke P "size" 665 (.ref 383),ke P "node" 671 (.ref 388),ke P "add" 677 (.ref 393),ke P "put" 683 (.ref 398),ke P "look_at" 692 (.ref 405),ke P "find" 700 (.ref 412),ke P "are_like" 709 (.ref 419),ke P "merge" 719 (.ref 426),ke P "join" 732 (.ref 433),ke P "settle" 739 (.ref 440),ke P "is_settled" 746 (.ref 447),ke P "classes" 753 (.ref 454),ke P "members" 761 (.ref 461),ke P "nodes_of" 767 (.ref 466),ke P "many_nodes" 774 (.ref 473),ke P "seek" 780 (.ref 478),ke P "users" 788 (.ref 485),ke P "__static_attributes__" 797 (.ref 486),ke P "__dict__" 799 (.ref 489),ke P "__weakref__" 801 (.ref 490),ke P "__doc__" 802 (.none)] 4 }),
 (488,{ cls:=.type "type",data:=.cls { name:=kn "Heap",bases:=[.type "object"],mro:=[.ref 488,.type "object"],ns:=487,qualname:=kn "Heap" },slots:=#[none,none,some (ks "Heap" 640),some (ks "Heap" 648),some (.builtin "object.__new__"),some (.bool true)] }),
 (498,kc "_law_scoop" "_law_scoop" 807 300 2 493 (.ref 495) (.ref 496) (.ref 497) 813 814),
 (499,kf 19 none "_law_scoop" (.none) (.none) (.none) (ks "law_pq0026_01" 805) none (.ref 498) (.none)),
 (503,kc "_law_ring" "_law_ring" 816 306 3 500 .none .none (.ref 502) 819 820),
 (504,kf 20 none "_law_ring" (.none) (.none) (.none) (ks "law_pq0026_01" 805) none (.ref 503) (.none)),
 (508,kc "_law_beside" "_law_beside" 822 318 5 505 .none .none (.ref 507) 825 826),
 (509,kf 21 none "_law_beside" (.none) (.none) (.none) (ks "law_pq0026_01" 805) none (.ref 508) (.none)),
 (515,kc "_law_key" "_law_key" 828 327 1 510 (.ref 512) (.ref 513) (.ref 514) 836 837),
 (516,kf 22 none "_law_key" (.none) (.none) (.none) (ks "law_pq0026_01" 805) none (.ref 515) (.none)),
 (520,kc "law" "law" 839 335 1 517 .none .none (.ref 519) 842 843),
 (521,kf 23 none "law" (.none) (.none) (.none) (ks "law_pq0026_01" 805) none (.ref 520) (.none))]
noncomputable def kAs:List Addr:=[2,3,25,46,47,59,60,71,72,78,79,83,84,88,89,102,103,109,110,114,115,121,122,128,129,133,134,147,148,154,155,161,162,190,191,208,209,215,216,222,223,234,235,239,240,244,245,275,276,293,294,300,301,307,308,314,315,321,322,328,329,357,358,375,376,382,383,387,388,392,393,397,398,404,405,411,412,425,426,432,433,439,440,460,461,465,466,487,488,498,499,503,504,508,509,515,516,520,521]
theorem hl:LeftO PG VW [] (fun s=>xlAt VW [] s && recOk [] s) (fun s=>kAs.map s.heap.get?) (fun w=>(KF w.params).map fun p=>some p.2) 7036:=left_of fun w=>by kernel_rfl
theorem kAs_is (P:Params):kAs=(KF P).map (·.1):=by kernel_rfl
theorem said:(PySem.Challenge.rw_pq0026_01).wellSaid=true:=by kernel_rfl
noncomputable abbrev rowOf:OpenRow:=PySem.Challenge.rw_pq0026_01.row
end
set_option autoImplicit false
section
open PySem
theorem lenS {α:Type} {Q:List α->Prop} {n:Nat} (h:∀ a l,l.length=n->Q (a::l)) (l:List α) (e:l.length=n+1):Q l:=by
 cases l with
 | nil=>cases e
 | cons a l=>exact h a l (kX.inj e)
theorem len0 {α:Type} {Q:List α->Prop} (h:Q []) (l:List α) (e:l.length=0):Q l:=by
 cases l with
 | nil=>exact h
 | cons=>cases e
theorem len1 {α:Type} {Q:List α->Prop} (h:∀ a,Q [a]):∀ l:List α,l.length=1->Q l:=lenS fun a=>len0 (Q:=fun l=>Q (a::l)) (h a)
theorem len2 {α:Type} {Q:List α->Prop} (h:∀ a b,Q [a,b]):∀ l:List α,l.length=2->Q l:=lenS fun a=>len1 (Q:=fun l=>Q (a::l)) (h a)
theorem len3 {α:Type} {Q:List α->Prop} (h:∀ a b c,Q [a,b,c]):∀ l:List α,l.length=3->Q l:=lenS fun a=>len2 (Q:=fun l=>Q (a::l)) (h a)
theorem len4 {α:Type} {Q:List α->Prop} (h:∀ a b c d,Q [a,b,c,d]):∀ l:List α,l.length=4->Q l:=lenS fun a=>len3 (Q:=fun l=>Q (a::l)) (h a)
theorem len5 {α:Type} {Q:List α->Prop} (h:∀ a b c d e,Q [a,b,c,d,e]):∀ l:List α,l.length=5->Q l:=lenS fun a=>len4 (Q:=fun l=>Q (a::l)) (h a)
theorem ifT {c:Prop} [Decidable c] {a b:Prop} (h:c) (x:a):if c then a else b:=(if_pos h).symm ▸ x
theorem dne {α:Type} [BEq α] [LawfulBEq α] {a:α}:decide ((a != a)=true)=false:=by rw [bne_self_eq_false];rfl
theorem ifF {c:Bool} {a b:Prop} (h:c=false) (x:b):if c=true then a else b:=by subst h;exact x
theorem less1 {n i:Nat} (h:i < n):n+1 - (i+1) < n+1 - i:=Nat.sub_lt_sub_left (qY h) (yH i)
theorem left1 {n i k:Nat} (h:k - i=n+1):k - (i+1)=n:=by rw [Nat.sub_add_eq,h];rfl
theorem at_end {i n:Nat} (h:i<=n) (h':n - i=0):i=n:=yO h (Nat.le_of_sub_eq_zero h')
theorem jO5 {k i n:Nat} (h:k - i=n+1):i < k:=Nat.lt_of_sub_pos (h ▸ Nat.succ_pos n)
theorem sub1 {n i:Nat} (h:i < n):n - 1 - i < n:=jY (qG _ _) (wB (qF (Nat.zero_lt_of_lt h)))
theorem zM8 (n i:Nat):n - 1 - i<=n:=zB (qG _ _) (qG _ _)
theorem cast1 {n i:Nat} (h:i < n):(n:Int) - ((i+1:Nat):Int)=((n - 1 - i:Nat):Int):=by rw [wM,qH 1 i,xW h]
theorem jH4 {n i:Nat} (h:i < n):i+1+(n - 1 - i)=n:=by rw [wM,qH 1 i,Nat.add_sub_cancel' h]
theorem zF6 {n m:Nat} (h:n≠m):((n:Int) == (m:Int))=false:=beq_eq_false_iff_ne.mpr fun q=>h (Int.ofNat.inj q)
theorem abs3 {n l:Nat} (hn:n<=31) (hl:l<=100):((n:Int) - (l:Int)+2).natAbs<=1000000:=zB (Int.natAbs_add_le _ _) (zB (qZ (zB (Int.natAbs_sub_le _ _) (yL hn hl)) 2) (by decide))
theorem jN4 (n l:Nat):((n:Int) - ((l+2:Nat):Int)+2 - 1).toNat=n - l - 1:=by
 show ((n:Int) - ((l:Int)+2)+2 - 1).toNat=_
 rw [<-Int.sub_sub,xF,Int.sub_sub,wM]
 exact xB n (l+1)
theorem jO9 (n l:Nat):((n:Int) - ((l+1:Nat):Int)+2 - 1).toNat=n - l:=by
 show ((n:Int) - ((l:Int)+1)+(1+1) - 1).toNat=_
 rw [<-Int.add_assoc,<-Int.sub_sub,xF,xG]
 exact xB n l
theorem short1 {n l j:Nat} (h:n - l - 1<=j):n - 1 - j < l+1:=wL (yB.mpr (qH j l ▸ yB.mp (Nat.sub_right_comm n l 1 ▸ h)))
theorem short0 {n l i:Nat} (h:n < l+1) (hi:i < n):n - 1 - i < l:=zO (sub1 hi) (jR h)
theorem lapp {α:Type} {l m:List α} {k:Nat} (h:k<=l.length):k<=(l++m).length:=zB h (by rw [zE];exact qS _ _)
theorem nAr:Nonempty Around:=⟨{}⟩
theorem nSh:Nonempty Shared:=⟨{}⟩
noncomputable def pick {α:Type} [Nonempty α] (p:α->Prop):α:=Classical.epsilon fun x=>¬ p x
theorem cst {α:Type} [Nonempty α] {p:α->Prop} (h:p (pick p)) (x:α):p x:=Classical.byContradiction fun c=>Classical.epsilon_spec (p:=fun x=>¬ p x) ⟨x,c⟩ h
noncomputable abbrev hsz (s:Shared):Nat:=s.heap.objs.size
theorem zR3 {M:Model} {Γ:Ctx} {p:Pos} {t:Sem Fin} {fs:List Frame} {s s':Shared} {e:End} (h:Runs M Γ p t fs s e s'):hsz s<=hsz s':=by
 induction h <;> (try simp only [hsz,Shared.setGen,qA,Heap.size_after_update] at *) <;> lia
theorem jM6 {M:Model} {Γ:Ctx} {p:Pos} {g:Nat} {r:Resume} {s s':Shared} {res:GenResult} (h:Wakes M Γ p g r s res s'):hsz s<=hsz s':=by
 unfold Wakes at h
 split at h
 ·exact h.elim
 ·split at h
  ·obtain ⟨e₁,s₁,hr,_,_,rfl⟩:=h
   exact (zR3 hr:hsz (s.setGen g .running)<=hsz s₁)
  ·rw [h.2];exact zK _
  ·rw [h.2];exact zK _
 ·obtain ⟨e₁,s₁,hr,_,_,rfl⟩:=h
  exact (zR3 hr:hsz (s.setGen g .running)<=hsz s₁)
 ·rw [h.2];exact zK _
 ·rw [h.2];exact zK _
theorem wp_size {α:Type} (M:Model) (Γ:Ctx) (n:Nat) (t:Sem α):∀ (Q:α->Pos->Shared->Prop) (E:Value->Pos->Shared->Prop) (p:Pos) (s:Shared),n<=hsz s->Sem.wp M Γ t Q E p s->
  Sem.wp M Γ t (fun a p' s'=>n<=hsz s'/\Q a p' s') (fun e p' s'=>n<=hsz s'/\E e p' s') p s:=by
 have up:∀ (s:Shared) (o:Obj),n<=hsz s->n<=hsz { s with heap:=s.heap.push o }:=fun s o h=>by show n<=(s.heap.push o).objs.size;rw [qA];exact yK h
 have ud:∀ (s:Shared) (a:Addr) (f:Obj->Obj),n<=hsz s->n<=hsz { s with heap:=s.heap.update a f }:=fun s a f h=>by show n<=(s.heap.update a f).objs.size;rw [Heap.size_after_update];exact h
 induction t with
 | pure a=>intro Q E p s hn h;exact ⟨hn,h⟩
 | raise e=>intro Q E p s hn h;exact ⟨hn,h⟩
 | unsupported _=>intro Q E p s _ h;exact h
 | finish _=>intro Q E p s _ h;exact h
 | rule _ k ih=>intro Q E p s hn h;exact ih () Q E p s hn h
 | «at» p' k ih=>intro Q E p s hn h;exact ih () Q E p' s hn h
 | load a _ k ih=>intro Q E p s hn h;obtain ⟨o,ho,h⟩:=h;exact ⟨o,ho,ih o Q E p s hn h⟩
 | update a _ f k ih=>intro Q E p s hn h;exact ⟨h.1,ih () Q E p _ (ud s a f hn) h.2⟩
 | loadIfAlive a k ih=>intro Q E p s hn h;exact ih _ Q E p s hn h
 | point _ k ih=>intro Q E p s hn h;exact ih () Q E p s hn h
 | register _ _=>intro Q E p s _ h;exact h
 | alloc o k ih=>intro Q E p s hn h;exact ih _ Q E p _ (up s o hn) h
 | fresh k ih=>intro Q E p s hn h;exact ih _ Q E p _ hn h
 | ask k ih=>intro Q E p s hn h;exact ih _ Q E p s hn h
 | choose src m k ih=>intro Q E p s hn h;exact ⟨h.1,ih _ Q E p _ hn h.2⟩
 | os q _ k ih=>intro Q E p s hn h;exact ih _ Q E p _ hn h
 | call c hd _ _ k ih=>intro Q E p s hn h;obtain ⟨r,s',hr,h⟩:=h;exact ⟨r,s',hr,ih r Q E p s' (zB hn (zR3 hr)) h⟩
 | handled own k ih=>intro Q E p s hn h;exact ih _ Q E p s hn h
 | genState g k ih=>intro Q E p s hn h;obtain ⟨st,hs,h⟩:=h;exact ⟨st,hs,ih _ Q E p s hn h⟩
 | newGen c k ih=>intro Q E p s hn h;exact ih _ Q E p _ hn h
 | resume g r _ k ih=>intro Q E p s hn h;obtain ⟨res,s',hw,h⟩:=h;exact ⟨res,s',hw,ih res Q E p s' (zB hn (jM6 hw)) h⟩
 | yield _ _ _ _=>intro Q E p s _ h;exact h
 | stack k ih=>intro Q E p s hn h;exact ih _ Q E p s hn h
 | fork _ _=>intro Q E p s _ h;exact h
 | thread k ih=>intro Q E p s hn h;exact ih _ Q E p s hn h
 | await _ _ _ _ _=>intro Q E p s _ h;exact h
theorem zB7 {α:Type} {M:Model} {A:Around} {s:Shared} {t:Sem α} {Q:α->Shared->Prop} {E:Value->Shared->Prop}
  (h:wpAny M A t (fun a s'=>hsz s<=hsz s'->Q a s') E s):wpAny M A t Q E s:=
 fun Γ p hΓ=>Sem.wp_mono M Γ t (fun oo1 oo2 oo3 x=>x.2 x.1) (fun oo1 oo2 oo3 x=>x.2) p s (wp_size M Γ (hsz s) t _ _ p s (zK _) (h Γ p hΓ))
end
section
open PySem PySem.W PyProof.Rows
inductive V where
 | none | bool (b:Bool) | int (i:Int) | str (s:Str) | tup (l:List V) | ref (n:Nat) | con (v:Value)
deriving Inhabited
inductive O where
 | lst (l:List V)
 | dct (l:List (V×V))
 | inst (C:Addr) (d:Nat)
noncomputable abbrev Sto:=List O
noncomputable abbrev Lc:=List (Str×V)
mutual
inductive VR (h:Heap) (ι:List Addr):V->Value->Prop
 | none:VR h ι .none .none
 | bool (b):VR h ι (.bool b) (.bool b)
 | int (i t):VR h ι (.int i) (.int i t)
 | str (x t):VR h ι (.str x) (.str x t)
 | tup {a vs n l}:IsT h a vs n->VRs h ι l vs.toList->VR h ι (.tup l) (.ref a)
 | ref {n a}:ι[n]?=some a->VR h ι (.ref n) (.ref a)
 | con (v):VR h ι (.con v) v
inductive VRs (h:Heap) (ι:List Addr):List V->List Value->Prop
 | nil:VRs h ι [] []
 | cons {v c l cs}:VR h ι v c->VRs h ι l cs->VRs h ι (v::l) (c::cs)
end
noncomputable def gQ (h h':Heap):Prop:=∀ a vs n,IsT h a vs n->IsT h' a vs n
theorem gQ.refl (h:Heap):gQ h h:=fun oo1 oo2 oo3 e=>e
theorem VRs.ind {h:Heap} {ι:List Addr} {motive:(l:List V)->(cs:List Value)->VRs h ι l cs->Prop} (nil:motive [] [] .nil)
  (cons:∀ {v:V} {c:Value} {l:List V} {cs:List Value} (h1:VR h ι v c) (h2:VRs h ι l cs),motive l cs h2->motive (v::l) (c::cs) (.cons h1 h2)) {l:List V} {cs:List Value} (r:VRs h ι l cs):motive l cs r:=
 VRs.rec (motive_1:=fun oo1 oo2 oo3=>True) (motive_2:=motive) trivial (fun oo1=>trivial) (fun oo1 oo2=>trivial) (fun oo1 oo2=>trivial) (fun oo1 oo2 oo3=>trivial) (fun oo1=>trivial) (fun oo1=>trivial) nil (fun h1 h2 oo1 ih=>cons h1 h2 ih) r
theorem VRs.nilE {h:Heap} {ι:List Addr} {motive:(cs:List Value)->VRs h ι [] cs->Prop} (nil:motive [] .nil) {cs:List Value} (r:VRs h ι [] cs):motive cs r:=by cases r;exact nil
theorem VRs.consE {h:Heap} {ι:List Addr} {v:V} {l:List V} {motive:(cs:List Value)->VRs h ι (v::l) cs->Prop} (cons:∀ {c:Value} {cs:List Value} (r1:VR h ι v c) (r:VRs h ι l cs),motive (c::cs) (.cons r1 r)) {cs:List Value} (r:VRs h ι (v::l) cs):motive cs r:=by
 cases r with | cons a b=>exact cons a b
theorem VR.refE {h:Heap} {ι:List Addr} {n:Nat} {motive:(c:Value)->VR h ι (.ref n) c->Prop} (ref:∀ {a:Addr} (ha:ι[n]?=some a),motive (.ref a) (.ref ha)) {c:Value} (r:VR h ι (.ref n) c):motive c r:=by
 cases r with | ref a=>exact ref a
theorem VR.intE {h:Heap} {ι:List Addr} {i:Int} {motive:(c:Value)->VR h ι (.int i) c->Prop} (int:∀ (t:Tok),motive (.int i t) (.int i t)) {c:Value} (r:VR h ι (.int i) c):motive c r:=by cases r;exact int _
theorem VR.strE {h:Heap} {ι:List Addr} {i:Str} {motive:(c:Value)->VR h ι (.str i) c->Prop} (str:∀ (t:Tok),motive (.str i t) (.str i t)) {c:Value} (r:VR h ι (.str i) c):motive c r:=by cases r;exact str _
theorem VR.boolE {h:Heap} {ι:List Addr} {i:Bool} {motive:(c:Value)->VR h ι (.bool i) c->Prop} (bool:motive (.bool i) (.bool i)) {c:Value} (r:VR h ι (.bool i) c):motive c r:=by cases r;exact bool
theorem VR.noneE {h:Heap} {ι:List Addr} {motive:(c:Value)->VR h ι .none c->Prop} (none:motive .none .none) {c:Value} (r:VR h ι .none c):motive c r:=by cases r;exact none
theorem VR.conE {h:Heap} {ι:List Addr} {v:Value} {motive:(c:Value)->VR h ι (.con v) c->Prop} (con:motive v (.con v)) {c:Value} (r:VR h ι (.con v) c):motive c r:=by cases r;exact con
theorem VR.tupE {h:Heap} {ι:List Addr} {l:List V} {motive:(c:Value)->VR h ι (.tup l) c->Prop} (tup:∀ {a:Addr} {vs:Array Value} {n:Nat} (ht:IsT h a vs n) (hv:VRs h ι l vs.toList),motive (.ref a) (.tup ht hv)) {c:Value} (r:VR h ι (.tup l) c):motive c r:=by
 cases r with | tup a b=>exact tup a b
theorem VR.mono {h h':Heap} {ι ι':List Addr} (ht:gQ h h') (hi:∀ (n:Nat) (a:Addr),ι[n]?=some a->ι'[n]?=some a) {v:V} {c:Value} (r:VR h ι v c):VR h' ι' v c:=
 VR.rec (motive_1:=fun v c oo1=>VR h' ι' v c) (motive_2:=fun l cs oo1=>VRs h' ι' l cs) .none .bool .int .str (fun h1 oo1 h4=>.tup (ht _ _ _ h1) h4) (fun h1=>.ref (hi _ _ h1)) .con .nil (fun oo1 oo2 h1 h2=>.cons h1 h2) r
theorem VRs.mono {h h':Heap} {ι ι':List Addr} (ht:gQ h h') (hi:∀ (n:Nat) (a:Addr),ι[n]?=some a->ι'[n]?=some a) {v:List V} {c:List Value} (r:VRs h ι v c):VRs h' ι' v c:=by
 induction r using VRs.ind with
 | nil=>exact .nil
 | cons h1 _ ih=>exact .cons (h1.mono ht hi) ih
theorem VRs.length {h ι} {l:List V} {cs:List Value} (r:VRs h ι l cs):l.length=cs.length:=by
 induction r using VRs.ind with
 | nil=>rfl
 | cons _ _ ih=>exact congrArg (·+1) ih
theorem VRs.append {h ι} {l l':List V} {cs cs':List Value} (r:VRs h ι l cs) (q:VRs h ι l' cs'):VRs h ι (l++l') (cs++cs'):=by
 induction r using VRs.ind with
 | nil=>exact q
 | cons h1 _ ih=>exact .cons h1 ih
theorem VRs.get {h ι} {l:List V} {cs:List Value} (r:VRs h ι l cs):∀ {i:Nat} {v:V},l[i]?=some v->∃ c,cs[i]?=some c/\VR h ι v c:=by
 induction r using VRs.ind with
 | nil=>intro i v e;cases e
 | cons h1 _ ih=>
  intro i v e
  cases i with
  | zero=>exact ⟨_,rfl,Option.some.inj e ▸ h1⟩
  | succ i=>exact ih e
theorem VRs.getc {h ι} {l:List V} {cs:List Value} (r:VRs h ι l cs):∀ {i:Nat} {c:Value},cs[i]?=some c->∃ v,l[i]?=some v/\VR h ι v c:=by
 induction r using VRs.ind with
 | nil=>intro i v e;cases e
 | cons h1 _ ih=>
  intro i v e
  cases i with
  | zero=>exact ⟨_,rfl,Option.some.inj e ▸ h1⟩
  | succ i=>exact ih e
theorem VRs.take {h ι} {l:List V} {cs:List Value} (n:Nat) (r:VRs h ι l cs):VRs h ι (l.take n) (cs.take n):=by
 induction r using VRs.ind generalizing n with
 | nil=>rw [List.take_nil,List.take_nil];exact .nil
 | cons h1 _ ih=>
  cases n with
  | zero=>exact .nil
  | succ n=>exact .cons h1 (ih n)
theorem VRs.drop {h ι} {l:List V} {cs:List Value} (n:Nat) (r:VRs h ι l cs):VRs h ι (l.drop n) (cs.drop n):=by
 induction r using VRs.ind generalizing n with
 | nil=>rw [List.drop_nil,List.drop_nil];exact .nil
 | cons h1 h2 ih=>
  cases n with
  | zero=>exact .cons h1 h2
  | succ n=>exact ih n
theorem VRs.snoc {h ι} {l:List V} {cs:List Value} {v:V} {c:Value} (x:VRs h ι l cs) (y:VR h ι v c):VRs h ι (l++[v]) (cs++[c]):=x.append (.cons y .nil)
theorem VRs.set {h ι} {l:List V} {cs:List Value} (i:Nat) {v:V} {c:Value} (r:VRs h ι l cs) (q:VR h ι v c):VRs h ι (l.set i v) (cs.set i c):=by
 induction r using VRs.ind generalizing i with
 | nil=>exact .nil
 | cons h1 h2 ih=>
  cases i with
  | zero=>exact .cons q h2
  | succ i=>exact .cons h1 (ih i)
theorem VRs.reverse {h ι} {l:List V} {cs:List Value} (r:VRs h ι l cs):VRs h ι l.reverse cs.reverse:=by
 induction r using VRs.ind with
 | nil=>exact .nil
 | cons h1 _ ih=>rw [List.reverse_cons,List.reverse_cons];exact ih.snoc h1
theorem VRs.replicate {h ι} {v:V} {c:Value} (x:VR h ι v c) (n:Nat):VRs h ι (List.replicate n v) (List.replicate n c):=by
 induction n with
 | zero=>exact .nil
 | succ n ih=>exact .cons x ih
noncomputable def V.fold {α:Type} (c:α) (i:Int->α) (s:Str->α) (t:List α->α):V->α:=V.rec (motive_1:=fun oo1=>α) (motive_2:=fun oo1=>List α) c (fun oo1=>c) i s (fun oo1=>t) (fun oo1=>c) (fun oo1=>c) [] (fun oo1 oo2 a b=>a::b)
noncomputable def V.folds {α:Type} (c:α) (i:Int->α) (s:Str->α) (t:List α->α):List V->List α:=V.rec_1 (motive_1:=fun oo1=>α) (motive_2:=fun oo1=>List α) c (fun oo1=>c) i s (fun oo1=>t) (fun oo1=>c) (fun oo1=>c) [] (fun oo1 oo2 a b=>a::b)
noncomputable def zD5 (w:World):V->Int:=V.fold 0 hashInt (hashStr w) fun l=>reduceHash (qO l)
noncomputable def zK0 (w:World):List V->List Int:=V.folds 0 hashInt (hashStr w) fun l=>reduceHash (qO l)
noncomputable def zC3:V->Bool:=V.fold false (fun oo1=>true) (fun oo1=>true) (List.foldr and true)
noncomputable def gR (l:List V):Bool:=(V.folds false (fun oo1=>true) (fun oo1=>true) (List.foldr and true) l).foldr and true
theorem jT0 (l:List V):zC3 (.tup l)=gR l:=rfl
theorem zI1 (v:V) (l:List V):gR (v::l)=(zC3 v && gR l):=rfl
inductive ER (w:World) (h:Heap) (ι:List Addr):List (V×V)->List DictEntry->Prop
 | nil:ER w h ι [] []
 | cons {k v e l es}:VR h ι k e.key->zC3 k=true->e.hash=zD5 w k->VR h ι v e.val->ER w h ι l es->ER w h ι ((k,v)::l) (e::es)
theorem ER.mono {w:World} {h h':Heap} {ι ι':List Addr} (ht:gQ h h') (hi:∀ (n:Nat) (a:Addr),ι[n]?=some a->ι'[n]?=some a) {l:List (V×V)} {es:List DictEntry} (r:ER w h ι l es):ER w h' ι' l es:=by
 induction r with
 | nil=>exact .nil
 | cons a b c d _ ih=>exact .cons (a.mono ht hi) b c (d.mono ht hi) ih
noncomputable def OR (w:World) (h:Heap) (ι:List Addr) (a:Addr):O->Prop
 | .lst l=>∃ vs n,h.get? a=some { cls:=.type "list",data:=.seq vs n }/\VRs h ι l vs.toList
 | .dct l=>∃ es n,h.get? a=some { cls:=.type "dict",data:=.dict es n }/\ER w h ι l es.toList/\(l.map (·.1)).Nodup
 | .inst C d=>∃ dx,ι[d]?=some dx/\h.get? a=some (instObj C dx)
theorem OR.get {w h ι a} {o:O} (r:OR w h ι a o):∃ ob,h.get? a=some ob/\ob.cls≠.type "tuple":=by
 cases o with
 | lst=>obtain ⟨_,_,e,_⟩:=r;exact ⟨_,e,fun c=>by simp at c⟩
 | dct=>obtain ⟨_,_,e,_⟩:=r;exact ⟨_,e,fun c=>by simp at c⟩
 | inst=>obtain ⟨_,_,e⟩:=r;exact ⟨_,e,fun c=>by cases c⟩
theorem OR.mono {w:World} {h h':Heap} {ι ι':List Addr} {a:Addr} (ht:gQ h h') (hi:∀ (n:Nat) (a:Addr),ι[n]?=some a->ι'[n]?=some a) (hk:h'.get? a=h.get? a) {o:O} (r:OR w h ι a o):OR w h' ι' a o:=by
 cases o with
 | lst=>obtain ⟨vs,n,e,r⟩:=r;exact ⟨vs,n,hk.trans e,r.mono ht hi⟩
 | dct=>obtain ⟨es,n,e,r,d⟩:=r;exact ⟨es,n,hk.trans e,r.mono ht hi,d⟩
 | inst=>obtain ⟨dx,e,r⟩:=r;exact ⟨dx,hi _ _ e,hk.trans r⟩
structure Sim (w:World) (h₀ h:Heap) (ι:List Addr) (σ:Sto):Prop where
 keep:∀ b o,h₀.get? b=some o->h.get? b=some o
 big:h₀.objs.size<=h.objs.size
 len:ι.length=σ.length
 nodup:ι.Nodup
 fresh:∀ a∈ι,h₀.objs.size<=a
 objs:∀ (i:Nat) (a:Addr) (o:O),ι[i]?=some a->σ[i]?=some o->OR w h ι a o
theorem Sim.at {w h₀ h ι σ} (S:Sim w h₀ h ι σ) {i:Nat} {o:O} (e:σ[i]?=some o):∃ a,ι[i]?=some a/\OR w h ι a o:=by
 have hi:i < ι.length:=by rw [S.len];exact (zC.mp e).1
 exact ⟨ι[i],zQ hi,S.objs _ _ _ (zQ hi) e⟩
theorem Sim.mem {w h₀ h ι σ} (S:Sim w h₀ h ι σ) {a:Addr} (ha:a∈ι):∃ o,OR w h ι a o:=by
 obtain ⟨i,hi⟩:=yC.mp ha
 have hl:i < σ.length:=by rw [<-S.len];exact (zC.mp hi).1
 exact ⟨σ[i],S.objs _ _ _ hi (zQ hl)⟩
theorem Sim.lt {w h₀ h ι σ} (S:Sim w h₀ h ι σ) {a:Addr} (ha:a∈ι):a < h.objs.size:=by
 obtain ⟨o,ho⟩:=S.mem ha
 obtain ⟨ob,e,_⟩:=ho.get
 exact jC e
theorem Sim.grow {w h₀ h ι σ} (S:Sim w h₀ h ι σ):∀ b o,h₀.get? b=some o->b ∉ ι:=fun b o e m=>absurd (jC e) (jK (S.fresh b m))
theorem Sim.notTup {w h₀ h ι σ} (S:Sim w h₀ h ι σ) {a:Addr} {vs:Array Value} {n:Nat} (e:IsT h a vs n):a ∉ ι:=fun m=>by
 obtain ⟨x,hx⟩:=S.mem m
 obtain ⟨ob,e',hn⟩:=hx.get
 rw [e] at e';cases e'
 exact hn rfl
structure Stp (X:Addr->Prop) (s s':Shared) (ι ι':List Addr):Prop where
 ext:∃ t,ι'=ι++t/\∀ a∈t,s.heap.objs.size<=a
 keep:∀ a o,s.heap.get? a=some o->a ∉ ι->¬ X a->s'.heap.get? a=some o
 grow:s.heap.objs.size<=s'.heap.objs.size
 gens:s'.gens=s.gens
 os:s'.os=s.os
noncomputable def NoX:Addr->Prop:=fun oo1=>False
theorem Stp.refl {X:Addr->Prop} (s:Shared) (ι:List Addr):Stp X s s ι ι:=⟨⟨[],by simp,by simp⟩,fun oo1 oo2 e oo3 oo4=>e,zK _,rfl,rfl⟩
theorem Stp.trans {X:Addr->Prop} {s s' s'':Shared} {ι ι' ι'':List Addr} (a:Stp X s s' ι ι') (b:Stp X s' s'' ι' ι''):Stp X s s'' ι ι'':=by
 obtain ⟨t,rfl,ht⟩:=a.ext
 obtain ⟨t',rfl,ht'⟩:=b.ext
 refine ⟨⟨t++t',by simp,fun x hx=>?_⟩,fun x o e hi hX=>b.keep _ _ (a.keep _ _ e hi hX) (fun m=>?_) hX,zB a.grow b.grow,b.gens.trans a.gens,b.os.trans a.os⟩
 ·rcases jF.mp hx with h | h
  ·exact ht x h
  ·exact zB a.grow (ht' x h)
 ·rcases jF.mp m with h | h
  ·exact hi h
  ·exact absurd (jC e) (jK (ht x h))
theorem Stp.weak {X Y:Addr->Prop} {s s':Shared} {ι ι':List Addr} (a:Stp X s s' ι ι') (h:∀ x,X x->Y x):Stp Y s s' ι ι':=⟨a.ext,fun x o e hi hY=>a.keep x o e hi fun hx=>hY (h x hx),a.grow,a.gens,a.os⟩
theorem Stp.of_no {Y:Addr->Prop} {s s':Shared} {ι ι':List Addr} (a:Stp NoX s s' ι ι'):Stp Y s s' ι ι':=a.weak fun oo1 h=>h.elim
theorem Stp.fresh {X:Addr->Prop} {s s':Shared} {ι ι':List Addr} (a:Stp X s s' ι ι') (h:∀ x,X x->s.heap.objs.size<=x):Stp NoX s s' ι ι':=
 ⟨a.ext,fun x o e hi oo1=>a.keep x o e hi fun hx=>absurd (jC e) (jK (h x hx)),a.grow,a.gens,a.os⟩
theorem Stp.idx {X:Addr->Prop} {s s':Shared} {ι ι':List Addr} (a:Stp X s s' ι ι'):∀ (n:Nat) (x:Addr),ι[n]?=some x->ι'[n]?=some x:=by
 obtain ⟨t,rfl,_⟩:=a.ext
 intro n x e
 rw [zH (zC.mp e).1];exact e
theorem Stp.tup {w h₀ σ} {X:Addr->Prop} {s s':Shared} {ι ι':List Addr} (a:Stp X s s' ι ι') (S:Sim w h₀ s.heap ι σ)
  (hX:∀ x vs n,IsT s.heap x vs n->¬ X x):gQ s.heap s'.heap:=
 fun x vs n e=>a.keep x _ e (S.notTup e) (hX x vs n e)
theorem Stp.tup0 {w h₀ σ} {s s':Shared} {ι ι':List Addr} (a:Stp NoX s s' ι ι') (S:Sim w h₀ s.heap ι σ):gQ s.heap s'.heap:=a.tup S fun oo1 oo2 oo3 oo4 h=>h
theorem VR.stp {w h₀ σ} {s s':Shared} {ι ι':List Addr} {v:V} {c:Value} (r:VR s.heap ι v c) (a:Stp NoX s s' ι ι') (S:Sim w h₀ s.heap ι σ):VR s'.heap ι' v c:=r.mono (a.tup0 S) a.idx
theorem VRs.stp {w h₀ σ} {s s':Shared} {ι ι':List Addr} {v:List V} {c:List Value} (r:VRs s.heap ι v c) (a:Stp NoX s s' ι ι') (S:Sim w h₀ s.heap ι σ):VRs s'.heap ι' v c:=r.mono (a.tup0 S) a.idx
structure Room (A:Around) (d:Nat):Prop where
 depth:A.depth+3 * d < 900
 units:A.units+60 * d+600 < cLine
 handled:A.handled=none
theorem zP4 {a w d n:Nat} (hw:w<=3) (h:a+3 * (d+1) < n):a+w+3 * d < n:=jY (qZ (jZ hw _) _) (by rw [qJ,qH 3];exact h)
theorem zQ6 {a u d n:Nat} (hu:u<=60) (h:a+60 * (d+1)+600 < n):a+u+60 * d+600 < n:=jY (qZ (qZ (jZ hu _) _) _) (by rw [qJ a,qH 60];exact h)
theorem Room.in1 {A:Around} {d:Nat} (r:Room A (d+1)):Room A.in1 d:=⟨zP4 (a:=A.depth) (w:=0) (by decide) r.depth,zQ6 (a:=A.units) (u:=1) (by decide) r.units,r.handled⟩
theorem Room.le {A:Around} {d d':Nat} (r:Room A d) (h:d'<=d):Room A d':=⟨by have:=r.depth;lia,by have:=r.units;lia,r.handled⟩
theorem Room.u {A:Around} {d:Nat} (r:Room A d):A.units+600 < cLine:=by have:=r.units;lia
theorem Room.u0 {A:Around} {d:Nat} (r:Room A d):A.units < cLine:=by have:=r.units;lia
theorem Room.lim {A:Around} {d:Nat} (r:Room A d):A.depth < recursionLimit:=by have:=r.depth;show _ < 1000;lia
noncomputable def Own (env:Env) (a:Addr):Prop:=a=env.locals∨∃ x,env.cells.lookup x=some a
structure FR (h₀ h:Heap) (ι:List Addr) (env:Env) (ρ:Lc):Prop where
 kind:env.scope.kind=.function
 globals:env.globals=mainGlobals
 builtins:env.builtins=builtinsNs
 ns:∃ m,h.Ns env.locals m/\∀ x v,ρ.lookup x=some v->env.kindOf x=some .local->∃ c,m x=some c/\VR h ι v c
 lnew:env.locals ∉ ι/\h₀.objs.size<=env.locals
 cel:∀ x v,ρ.lookup x=some v->(env.kindOf x=some .cell∨env.kindOf x=some .free)->∃ a c,env.cells.lookup x=some a/\h.IsCell a (some c)/\VR h ι v c
 dom:∀ x v,ρ.lookup x=some v->env.kindOf x=some .local∨env.kindOf x=some .cell∨env.kindOf x=some .free
 cells:∀ x a,env.cells.lookup x=some a->a ∉ ι/\h₀.objs.size<=a/\∃ v,h.IsCell a v
 apart:∀ x y a,env.cells.lookup x=some a->env.cells.lookup y=some a->x=y
 hasc:∀ x,env.kindOf x=some .cell->(env.cells.lookup x).isSome=true
theorem FR.own {h₀ h ι env ρ} (F:FR h₀ h ι env ρ) {a:Addr} (ho:Own env a):a ∉ ι/\h₀.objs.size<=a/\∃ o,h.get? a=some o/\∀ vs n,o.data≠.seq vs n:=by
 rcases ho with rfl | ⟨x,hx⟩
 ·obtain ⟨m,⟨o,es,ep,e,hd,_⟩,_⟩:=F.ns
  exact ⟨F.lnew.1,F.lnew.2,o,e,fun vs n q=>by rw [hd] at q;cases q⟩
 ·obtain ⟨h1,h2,v,o,e,hd⟩:=F.cells x a hx
  exact ⟨h1,h2,o,e,fun vs n q=>by rw [hd] at q;cases q⟩
theorem FR.own_lt {h₀ h ι env ρ} (F:FR h₀ h ι env ρ) {a:Addr} (ho:Own env a):a < h.objs.size:=by
 obtain ⟨_,_,o,e,_⟩:=F.own ho
 exact jC e
theorem FR.stp {w h₀ σ} {s s':Shared} {ι ι':List Addr} {env:Env} {ρ:Lc} (F:FR h₀ s.heap ι env ρ) (a:Stp NoX s s' ι ι') (S:Sim w h₀ s.heap ι σ):FR h₀ s'.heap ι' env ρ:=by
 have keep:∀ {b o},s.heap.get? b=some o->Own env b->s'.heap.get? b=some o:=fun e ho=>a.keep _ _ e (F.own ho).1 id
 have hn:∀ {b},Own env b->b ∉ ι':=fun {b} ho m=>by
  obtain ⟨t,rfl,ht⟩:=a.ext
  rcases jF.mp m with h | h
  ·exact (F.own ho).1 h
  ·exact absurd (F.own_lt ho) (jK (ht b h))
 have kc:∀ {x b v},env.cells.lookup x=some b->s.heap.IsCell b v->s'.heap.IsCell b v:=fun hx ⟨o,e,hd⟩=>⟨o,keep e (.inr ⟨_,hx⟩),hd⟩
 obtain ⟨m,hns,hm⟩:=F.ns
 refine ⟨F.kind,F.globals,F.builtins,⟨m,?_,fun x v hx hk=>?_⟩,⟨hn (.inl rfl),F.lnew.2⟩,fun x v hx hk=>?_,F.dom,fun x b hx=>?_,F.apart,F.hasc⟩
 ·obtain ⟨o,es,ep,e,r⟩:=hns
  exact ⟨o,es,ep,keep e (.inl rfl),r⟩
 ·obtain ⟨c,hc,r⟩:=hm x v hx hk
  exact ⟨c,hc,r.stp a S⟩
 ·obtain ⟨b,c,h1,h2,r⟩:=F.cel x v hx hk
  exact ⟨b,c,h1,kc h1 h2,r.stp a S⟩
 ·obtain ⟨_,h2,v,hv⟩:=F.cells x b hx
  exact ⟨hn (.inr ⟨_,hx⟩),h2,v,kc hx hv⟩
theorem FR.sub {h₀ h ι env} {ρ ρ':Lc} (F:FR h₀ h ι env ρ) (hs:∀ x v,ρ'.lookup x=some v->ρ.lookup x=some v):FR h₀ h ι env ρ':=
 ⟨F.kind,F.globals,F.builtins,(let ⟨m,h1,h2⟩:=F.ns;⟨m,h1,fun x v hx=>h2 x v (hs x v hx)⟩),F.lnew,fun x v hx=>F.cel x v (hs x v hx),fun x v hx=>F.dom x v (hs x v hx),F.cells,F.apart,F.hasc⟩
section
variable {w:World} {h₀:Heap} {α β γ δ:Type}
inductive DoO (w:World) (h₀:Heap) {α β:Type} (R:Heap->List Addr->β->α->Prop) (s:Shared) (ι:List Addr) (P:β->Sto->Prop) (c:α) (s':Shared):Prop
 | mk (ι':List Addr) (v:β) (σ':Sto):Stp NoX s s' ι ι'->Sim w h₀ s'.heap ι' σ'->R s'.heap ι' v c->P v σ'->DoO w h₀ R s ι P c s'
inductive DoFO (w:World) (h₀:Heap) {α β:Type} (env:Env) (R:Heap->List Addr->β->α->Prop) (s:Shared) (ι:List Addr) (P:β->Lc->Sto->Prop) (c:α) (s':Shared):Prop
 | mk (ι':List Addr) (v:β) (ρ':Lc) (σ':Sto):Stp (Own env) s s' ι ι'->FR h₀ s'.heap ι' env ρ'->Sim w h₀ s'.heap ι' σ'->R s'.heap ι' v c->P v ρ' σ'->DoFO w h₀ env R s ι P c s'
inductive AsO (w:World) (h₀:Heap) {α:Type} (X:Addr->Prop) (env:Env) (s:Shared) (ι:List Addr) (P:Lc->Sto->Prop) (c:α) (s':Shared):Prop
 | mk (ι':List Addr) (ρ':Lc) (σ':Sto):Stp X s s' ι ι'->FR h₀ s'.heap ι' env ρ'->Sim w h₀ s'.heap ι' σ'->P ρ' σ'->AsO w h₀ X env s ι P c s'
noncomputable def Do (w:World) (h₀:Heap) (A:Around) (t:Sem α) (R:Heap->List Addr->β->α->Prop) (s:Shared) (ι:List Addr) (P:β->Sto->Prop):Prop:=
 ∀ E:Value->Shared->Prop,wpAny (model PG w) A t (DoO w h₀ R s ι P) E s
noncomputable def DoF (w:World) (h₀:Heap) (A:Around) (env:Env) (t:Sem α) (R:Heap->List Addr->β->α->Prop) (s:Shared) (ι:List Addr) (P:β->Lc->Sto->Prop):Prop:=
 ∀ E:Value->Shared->Prop,wpAny (model PG w) A t (DoFO w h₀ env R s ι P) E s
noncomputable def EqR:Heap->List Addr->β->β->Prop:=fun oo1 oo2 v c=>v=c
noncomputable def UnR:Heap->List Addr->Unit->Unit->Prop:=fun oo1 oo2 oo3 oo4=>True
theorem Do.seq {A:Around} {t:Sem α} {R:Heap->List Addr->β->α->Prop} {s:Shared} {ι:List Addr} {P:β->Sto->Prop} {Q:α->Shared->Prop} {E:Value->Shared->Prop}
  (h:Do w h₀ A t R s ι P) (hk:∀ c s' ι' v σ',Stp NoX s s' ι ι'->Sim w h₀ s'.heap ι' σ'->R s'.heap ι' v c->P v σ'->Q c s'):wpAny (model PG w) A t Q E s:=
 wpAny_mono (h E) (fun c s' ⟨ι',v,σ',st,S,r,p⟩=>hk c s' ι' v σ' st S r p) fun oo1 oo2 x=>x
theorem Do.up {A:Around} {t:Sem α} {R:Heap->List Addr->β->α->Prop} {s s₀:Shared} {ι ι₀:List Addr} {P:β->Sto->Prop} {E:Value->Shared->Prop} (h:Do w h₀ A t R s ι P) (st:Stp NoX s₀ s ι₀ ι) :
  wpAny (model PG w) A t (DoO w h₀ R s₀ ι₀ P) E s:=
 wpAny_mono (h E) (fun _ _ ⟨ι',v,σ',st',S,r,p⟩=>⟨ι',v,σ',st.trans st',S,r,p⟩) fun oo1 oo2 x=>x
theorem Do.bind {A:Around} {t:Sem α} {R:Heap->List Addr->β->α->Prop} {s:Shared} {ι:List Addr} {P:β->Sto->Prop} {k:α->Sem γ} {R':Heap->List Addr->δ->γ->Prop} {P':δ->Sto->Prop}
  (h:Do w h₀ A t R s ι P)
  (hk:∀ c s' ι' v σ',Stp NoX s s' ι ι'->Sim w h₀ s'.heap ι' σ'->R s'.heap ι' v c->P v σ'->Do w h₀ A (k c) R' s' ι' P') :
  Do w h₀ A (t >>= k) R' s ι P':=fun oo1=>wpAny_bind (h.seq fun c s' ι' v σ' st S r p=>(hk c s' ι' v σ' st S r p).up st)
theorem Do.mono {A:Around} {t:Sem α} {R:Heap->List Addr->β->α->Prop} {s:Shared} {ι:List Addr} {P P':β->Sto->Prop}
  (h:Do w h₀ A t R s ι P) (hp:∀ v σ,P v σ->P' v σ):Do w h₀ A t R s ι P':=
 fun E=>wpAny_mono (h E) (fun _ _ ⟨ι',v,σ',st,S,r,p⟩=>⟨ι',v,σ',st,S,r,hp _ _ p⟩) fun oo1 oo2 x=>x
theorem Do.same {R:Heap->List Addr->β->α->Prop} {s:Shared} {ι:List Addr} {σ:Sto} {P:β->Sto->Prop} {c:α} {v:β}
  (S:Sim w h₀ s.heap ι σ) (r:R s.heap ι v c) (p:P v σ):DoO w h₀ R s ι P c s:=⟨ι,v,σ,.refl ..,S,r,p⟩
theorem Do.tok {R:Heap->List Addr->β->α->Prop} {s:Shared} {t:Nat} {ι:List Addr} {σ:Sto} {P:β->Sto->Prop} {c:α} {v:β}
  (S:Sim w h₀ s.heap ι σ) (r:R s.heap ι v c) (p:P v σ):DoO w h₀ R s ι P c { s with toks:=t }:=
 ⟨ι,v,σ,⟨⟨[],by simp,by simp⟩,fun oo1 oo2 e oo3 oo4=>e,zK _,rfl,rfl⟩,S,r,p⟩
theorem Do.pure {A:Around} {R:Heap->List Addr->β->α->Prop} {s:Shared} {ι:List Addr} {σ:Sto} {P:β->Sto->Prop} {c:α} {v:β}
  (S:Sim w h₀ s.heap ι σ) (r:R s.heap ι v c) (p:P v σ):Do w h₀ A (Pure.pure c) R s ι P:=fun oo1=>wpAny_pure (Do.same S r p)
theorem Stp.tupO {σ:Sto} {ρ:Lc} {env:Env} {s s':Shared} {ι ι':List Addr} (a:Stp (Own env) s s' ι ι') (S:Sim w h₀ s.heap ι σ) (F:FR h₀ s.heap ι env ρ):gQ s.heap s'.heap:=
 a.tup S fun x vs n e hx=>by
  obtain ⟨_,_,o',e',hn⟩:=F.own hx
  rw [e] at e';cases e'
  exact hn vs n rfl
theorem VR.stpO {σ:Sto} {ρ:Lc} {env:Env} {s s':Shared} {ι ι':List Addr} {v:V} {c:Value} (r:VR s.heap ι v c) (a:Stp (Own env) s s' ι ι') (S:Sim w h₀ s.heap ι σ) (F:FR h₀ s.heap ι env ρ):VR s'.heap ι' v c:=
 r.mono (a.tupO S F) a.idx
theorem VRs.stpO {σ:Sto} {ρ:Lc} {env:Env} {s s':Shared} {ι ι':List Addr} {v:List V} {c:List Value} (r:VRs s.heap ι v c) (a:Stp (Own env) s s' ι ι') (S:Sim w h₀ s.heap ι σ) (F:FR h₀ s.heap ι env ρ):VRs s'.heap ι' v c:=
 r.mono (a.tupO S F) a.idx
theorem DoF.seq {A:Around} {env:Env} {t:Sem α} {R:Heap->List Addr->β->α->Prop} {s:Shared} {ι:List Addr} {P:β->Lc->Sto->Prop} {Q:α->Shared->Prop} {E:Value->Shared->Prop}
  (h:DoF w h₀ A env t R s ι P)
  (hk:∀ c s' ι' v ρ' σ',Stp (Own env) s s' ι ι'->FR h₀ s'.heap ι' env ρ'->Sim w h₀ s'.heap ι' σ'->R s'.heap ι' v c->P v ρ' σ'->Q c s'):wpAny (model PG w) A t Q E s:=
 wpAny_mono (h E) (fun c s' ⟨ι',v,ρ',σ',st,F,S,r,p⟩=>hk c s' ι' v ρ' σ' st F S r p) fun oo1 oo2 x=>x
theorem DoF.up {A:Around} {env:Env} {t:Sem α} {R:Heap->List Addr->β->α->Prop} {s s₀:Shared} {ι ι₀:List Addr} {P:β->Lc->Sto->Prop} {E:Value->Shared->Prop} (h:DoF w h₀ A env t R s ι P) (st:Stp (Own env) s₀ s ι₀ ι) :
  wpAny (model PG w) A t (DoFO w h₀ env R s₀ ι₀ P) E s:=
 wpAny_mono (h E) (fun _ _ ⟨ι',v,ρ',σ',st',F,S,r,p⟩=>⟨ι',v,ρ',σ',st.trans st',F,S,r,p⟩) fun oo1 oo2 x=>x
theorem DoF.mono {A:Around} {env:Env} {t:Sem α} {R:Heap->List Addr->β->α->Prop} {s:Shared} {ι:List Addr} {P P':β->Lc->Sto->Prop}
  (h:DoF w h₀ A env t R s ι P) (hp:∀ v ρ σ,P v ρ σ->P' v ρ σ):DoF w h₀ A env t R s ι P':=
 fun E=>wpAny_mono (h E) (fun _ _ ⟨ι',v,ρ',σ',st,F,S,r,p⟩=>⟨ι',v,ρ',σ',st,F,S,r,hp _ _ _ p⟩) fun oo1 oo2 x=>x
end
inductive Fl where
 | next | brk | cont | ret (v:V)
inductive FlR (h:Heap) (ι:List Addr):Fl->Flow->Prop
 | next:FlR h ι .next .next
 | brk:FlR h ι .brk .brk
 | cont:FlR h ι .cont .cont
 | ret {v c}:VR h ι v c->FlR h ι (.ret v) (.ret c)
section
variable (w:World) (h₀:Heap) (d:Nat) (sc:Scope)
noncomputable def Ev (e:Expr) (ρ:Lc) (σ:Sto) (P:V->Sto->Prop):Prop:=
 ∀ (A:Around) (env:Env) (s:Shared) (ι:List Addr),Room A d->env.scope=sc->FR h₀ s.heap ι env ρ->Sim w h₀ s.heap ι σ->Do w h₀ A (eval e env) VR s ι P
noncomputable def Ts (e:Expr) (ρ:Lc) (σ:Sto) (P:Bool->Sto->Prop):Prop:=
 ∀ (A:Around) (env:Env) (s:Shared) (ι:List Addr),Room A d->env.scope=sc->FR h₀ s.heap ι env ρ->Sim w h₀ s.heap ι σ->Do w h₀ A (isTrue e env (eval e env)) EqR s ι P
noncomputable def Evs (es:List Expr) (ρ:Lc) (σ:Sto) (P:List V->Sto->Prop):Prop:=
 ∀ (A:Around) (env:Env) (s:Shared) (ι:List Addr) (pos:Pos),Room A d->env.scope=sc->FR h₀ s.heap ι env ρ->Sim w h₀ s.heap ι σ->Do w h₀ A (spliced (backTo pos (starEach es env))) VRs s ι P
noncomputable def Ex (st:Stmt) (ρ:Lc) (σ:Sto) (P:Fl->Lc->Sto->Prop):Prop:=
 ∀ (A:Around) (env:Env) (s:Shared) (ι:List Addr),Room A d->env.scope=sc->FR h₀ s.heap ι env ρ->Sim w h₀ s.heap ι σ->DoF w h₀ A env (exec st env) FlR s ι P
noncomputable def Exs (st:List Stmt) (ρ:Lc) (σ:Sto) (P:Fl->Lc->Sto->Prop):Prop:=
 ∀ (A:Around) (env:Env) (s:Shared) (ι:List Addr),Room A d->env.scope=sc->FR h₀ s.heap ι env ρ->Sim w h₀ s.heap ι σ->DoF w h₀ A env (execs st env) FlR s ι P
noncomputable def As (t:Expr) (v:V) (ρ:Lc) (σ:Sto) (P:Lc->Sto->Prop):Prop:=
 ∀ (A:Around) (env:Env) (s:Shared) (ι:List Addr) (c:Value),Room A d->env.scope=sc->FR h₀ s.heap ι env ρ->Sim w h₀ s.heap ι σ->VR s.heap ι v c->DoF w h₀ A env (assign t env c) UnR s ι (fun oo1=>P)
end
section
variable (w:World) (h₀:Heap) (d:Nat)
noncomputable def Bn (op:Operator) (a b:V) (σ:Sto) (P:V->Sto->Prop):Prop:=
 ∀ (A:Around) (s:Shared) (ι:List Addr) (ca cb:Value),Room A d->Sim w h₀ s.heap ι σ->VR s.heap ι a ca->VR s.heap ι b cb->Do w h₀ A (binaryOp op ca cb) VR s ι P
noncomputable def Cm (op:CmpOp) (a b:V) (σ:Sto) (P:V->Sto->Prop):Prop:=
 ∀ (A:Around) (s:Shared) (ι:List Addr) (ca cb:Value),Room A d->Sim w h₀ s.heap ι σ->VR s.heap ι a ca->VR s.heap ι b cb->Do w h₀ A (compareOp op ca cb) VR s ι P
noncomputable def Tr (a:V) (σ:Sto) (P:Bool->Sto->Prop):Prop:=
 ∀ (A:Around) (s:Shared) (ι:List Addr) (ca:Value),Room A d->Sim w h₀ s.heap ι σ->VR s.heap ι a ca->Do w h₀ A (truthy ca) EqR s ι P
noncomputable def Gi (a b:V) (σ:Sto) (P:V->Sto->Prop):Prop:=
 ∀ (A:Around) (s:Shared) (ι:List Addr) (ca cb:Value),Room A d->Sim w h₀ s.heap ι σ->VR s.heap ι a ca->VR s.heap ι b cb->Do w h₀ A (getItem ca cb) VR s ι P
noncomputable def Si (a b v:V) (σ:Sto) (P:Sto->Prop):Prop:=
 ∀ (A:Around) (s:Shared) (ι:List Addr) (ca cb cv:Value),Room A d->Sim w h₀ s.heap ι σ->VR s.heap ι a ca->VR s.heap ι b cb->VR s.heap ι v cv->Do w h₀ A (setItem ca cb cv) UnR s ι (fun oo1=>P)
noncomputable def Cl (f:Value) (args:List V) (σ:Sto) (P:V->Sto->Prop):Prop:=
 ∀ (A:Around) (s:Shared) (ι:List Addr) (cs:List Value),Room A d->Sim w h₀ s.heap ι σ->VRs s.heap ι args cs->Do w h₀ A (call f cs) VR s ι P
end
section
variable {w:World} {h₀:Heap} {d:Nat} {sc:Scope} {ρ:Lc} {σ:Sto}
theorem Ev.mono {e:Expr} {P P':V->Sto->Prop} (h:Ev w h₀ d sc e ρ σ P) (hp:∀ v σ,P v σ->P' v σ):Ev w h₀ d sc e ρ σ P':=fun A env s ι hA hs F S=>(h A env s ι hA hs F S).mono hp
theorem Cl.mono {f:Value} {args:List V} {P P':V->Sto->Prop} (h:Cl w h₀ d f args σ P) (hp:∀ v σ,P v σ->P' v σ):Cl w h₀ d f args σ P':=fun A s ι cs hA S r=>(h A s ι cs hA S r).mono hp
theorem Cl.le {f:Value} {args:List V} {P:V->Sto->Prop} {d':Nat} (h:Cl w h₀ d f args σ P) (hd:d<=d'):Cl w h₀ d' f args σ P:=fun A s ι cs hA S r=>h A s ι cs (hA.le hd) S r
theorem Exs.mono {st:List Stmt} {P P':Fl->Lc->Sto->Prop} (h:Exs w h₀ d sc st ρ σ P) (hp:∀ v ρ σ,P v ρ σ->P' v ρ σ):Exs w h₀ d sc st ρ σ P':=fun A env s ι hA hs F S=>(h A env s ι hA hs F S).mono hp
theorem Ex.mono {st:Stmt} {P P':Fl->Lc->Sto->Prop} (h:Ex w h₀ d sc st ρ σ P) (hp:∀ v ρ σ,P v ρ σ->P' v ρ σ):Ex w h₀ d sc st ρ σ P':=fun A env s ι hA hs F S=>(h A env s ι hA hs F S).mono hp
theorem Exs.sub {st:List Stmt} {P:Fl->Lc->Sto->Prop} {ρ':Lc} (h:Exs w h₀ d sc st ρ' σ P) (hs:∀ x v,ρ'.lookup x=some v->ρ.lookup x=some v):Exs w h₀ d sc st ρ σ P:=
 fun A env s ι hA hsc F S=>h A env s ι hA hsc (F.sub hs) S
theorem gI {i:Int} {k:Nat} {pos:Pos} {P:V->Sto->Prop} (h:P (.int i) σ):Ev w h₀ d sc (.Constant (.int i) k pos) ρ σ P:=
 fun oo1 oo2 oo3 oo4 oo5 oo6 oo7 S oo8=>wpAny_Constant_int (Do.tok S (.int _ _) h)
theorem zH4 {x:Str} {k:Nat} {pos:Pos} {P:V->Sto->Prop} (h:P (.str x) σ):Ev w h₀ d sc (.Constant (.str x) k pos) ρ σ P:=
 fun oo1 oo2 oo3 oo4 oo5 oo6 oo7 S oo8=>wpAny_Constant_str (Do.tok S (.str _ _) h)
theorem jO6 {k:Nat} {pos:Pos} {P:V->Sto->Prop} (h:P .none σ):Ev w h₀ d sc (.Constant .none k pos) ρ σ P:=
 fun oo1 oo2 oo3 oo4 oo5 oo6 oo7 S oo8=>wpAny_Constant_none (Do.same S .none h)
theorem jP3 {b:Bool} {k:Nat} {pos:Pos} {P:V->Sto->Prop} (h:P (.bool b) σ):Ev w h₀ d sc (.Constant (.bool b) k pos) ρ σ P:=
 fun oo1 oo2 oo3 oo4 oo5 oo6 oo7 S oo8=>wpAny_Constant_bool (Do.same S (.bool _) h)
theorem jA2 {A:Around} {env:Env} {s:Shared} {ι:List Addr} {x:Str} {v:V} {P:V->Sto->Prop} (F:FR h₀ s.heap ι env ρ) (S:Sim w h₀ s.heap ι σ) (hv:ρ.lookup x=some v) (h:P v σ)
  (hc:(x == ("__classdict__":Str))=false):Do w h₀ A (loadName env x) VR s ι P:=fun E=>by
 rcases F.dom x v hv with hk | hk | hk
 ·obtain ⟨m,hns,hm⟩:=F.ns
  obtain ⟨c,hc,r⟩:=hm x v hv hk
  exact wpAny_loadName_local F.kind hk hns hc (Do.same S r h)
 ·obtain ⟨a,c,h1,h2,r⟩:=F.cel x v hv (.inl hk)
  exact wpAny_loadName_cell F.kind hk h1 h2 (Do.same S r h)
 ·obtain ⟨a,c,h1,h2,r⟩:=F.cel x v hv (.inr hk)
  exact wpAny_loadName_free F.kind hk h1 h2 (Do.same S r h) hc
theorem gB {x:Str} {pos:Pos} {v:V} {P:V->Sto->Prop} (hv:ρ.lookup x=some v) (h:P v σ)
  (hd:(x == ("__debug__":Str))=false:=by rfl) (hc:(x == ("__classdict__":Str))=false:=by rfl):Ev w h₀ d sc (.Name x pos) ρ σ P:=
 fun oo1 oo2 oo3 oo4 oo5 oo6 F S E=>wpAny_Name (jA2 F S hv h hc E) hd
theorem gV {l r:Expr} {op:Operator} {pos:Pos} {P:V->Sto->Prop} (h:Ev w h₀ d sc l ρ σ fun a σ₁=>Ev w h₀ d sc r ρ σ₁ fun b σ₂=>Bn w h₀ d op a b σ₂ P):Ev w h₀ d sc (.BinOp l op r pos) ρ σ P:=
 fun A env s ι hA hs F S oo1=>wpAny_BinOp ((h A env s ι hA hs F S).seq fun oo1 s' ι' oo2 oo3 st S' ra pa=>(pa A env s' ι' hA hs (F.stp st S) S').seq fun oo1 s₂ ι₂ oo2 oo3 st₂ S₂ rb pb=>(pb A s₂ ι₂ _ _ hA S₂ (ra.stp st₂ S') rb).up (st.trans st₂))
theorem jG3 {l r:Expr} {op:CmpOp} {pos:Pos} {P:V->Sto->Prop} (h:Ev w h₀ d sc l ρ σ fun a σ₁=>Ev w h₀ d sc r ρ σ₁ fun b σ₂=>Cm w h₀ d op a b σ₂ P)
  (hm:behindInMarks op r=false:=by rfl):Ev w h₀ d sc (.Compare l [op] [r] pos) ρ σ P:=
 fun A env s ι hA hs F S oo1=>wpAny_Compare1 ((h A env s ι hA hs F S).seq fun oo1 s' ι' oo2 oo3 st S' ra pa=>(pa A env s' ι' hA hs (F.stp st S) S').seq fun oo1 s₂ ι₂ oo2 oo3 st₂ S₂ rb pb=>(pb A s₂ ι₂ _ _ hA S₂ (ra.stp st₂ S') rb).up (st.trans st₂)) hm
theorem zG3 {t a b:Expr} {pos:Pos} {P:V->Sto->Prop} (h:Ts w h₀ d sc t ρ σ fun c σ₁=>if c then Ev w h₀ d sc a ρ σ₁ P else Ev w h₀ d sc b ρ σ₁ P):Ev w h₀ d sc (.IfExp t a b pos) ρ σ P:=
 fun A env s ι hA hs F S oo1=>wpAny_IfExp ((h A env s ι hA hs F S).seq fun c s' ι' c' σ' st S' e p=>by
  cases e;cases c
  ·exact (p A env s' ι' hA hs (F.stp st S) S').up st
  ·exact (p A env s' ι' hA hs (F.stp st S) S').up st)
theorem gU {l r:Expr} {op:CmpOp} {pos:Pos} {P:Bool->Sto->Prop} (h:Ev w h₀ d sc l ρ σ fun a σ₁=>Ev w h₀ d sc r ρ σ₁ fun b σ₂=>Cm w h₀ d op a b σ₂ fun c σ₃=>Tr w h₀ d c σ₃ P)
  (hm:behindInMarks op r=false:=by rfl):Ts w h₀ d sc (.Compare l [op] [r] pos) ρ σ P:=
 fun A env s ι hA hs F S oo1=>wpAny_isTrue_Compare1 ((h A env s ι hA hs F S).seq fun oo1 s' ι' oo2 oo3 st S' ra pa=>(pa A env s' ι' hA hs (F.stp st S) S').seq fun oo1 s₂ ι₂ oo2 oo3 st₂ S₂ rb pb=>
  (pb A s₂ ι₂ _ _ hA S₂ (ra.stp st₂ S') rb).seq fun oo1 s₃ ι₃ oo2 oo3 st₃ S₃ rc pc=>(pc A s₃ ι₃ _ hA S₃ rc).up ((st.trans st₂).trans st₃)) hm
theorem ts_not {x:Expr} {pos:Pos} {P:Bool->Sto->Prop} (h:Ts w h₀ d sc x ρ σ fun b σ₁=>P (!b) σ₁):Ts w h₀ d sc (.UnaryOp .Not x pos) ρ σ P:=
 fun A env s ι hA hs F S E=>wpAny_isTrue_Not (wpAny_mono (h A env s ι hA hs F S E) (fun _ _ ⟨ι',v,σ',st,S',r,p⟩=>⟨ι',!v,σ',st,S',congrArg not r,p⟩) fun oo1 oo2 x=>x)
theorem gM {b:Bool} {P:Bool->Sto->Prop} (h:P b σ):Tr w h₀ d (.bool b) σ P:=fun oo1 oo2 oo3 oo4 oo5 S r oo6=>by cases r;exact wpAny_truthy_bool (Do.same S rfl h)
theorem zX6 {e:Expr} {P:Bool->Sto->Prop} (h:Ev w h₀ d sc e ρ σ fun a σ₁=>Tr w h₀ d a σ₁ P)
  (he:∀ env whole,isTrue e env whole=(do let v <-whole;standAt e.pos;holding [v] (truthy v)):=by intros; rfl):Ts w h₀ d sc e ρ σ P:=
 fun A env s ι hA hs F S oo1=>wpAny_isTrue_value ((h A env s ι hA hs F S).seq fun oo1 s' ι' oo2 oo3 st S' ra pa=>(pa A s' ι' _ hA S' ra).up st) (he _ _)
theorem jN9 {x y:Expr} {pos:Pos} {P:Bool->Sto->Prop} (h:Ts w h₀ d sc x ρ σ fun b σ₁=>if b then Ts w h₀ d sc y ρ σ₁ P else P false σ₁):Ts w h₀ d sc (.BoolOp .And [x,y] pos) ρ σ P:=
 fun A env s ι hA hs F S E=>wpAny_isTrue_BoolOp (wpAny_allTrue_And_cons (wpAny_mono (h A env s ι hA hs F S E) (fun b s' ⟨ι',v,σ',st,S',r,p⟩=>by
  have r:v=b:=r
  subst r;cases v
  ·exact ⟨ι',false,σ',st,S',rfl,p⟩
  ·refine wpAny_allTrue_And_cons (wpAny_mono (p A env s' ι' hA hs (F.stp st S) S' E) (fun b s'' ⟨ι'',v',σ'',st',S'',r',p'⟩=>?_) fun oo1 oo2 x=>x)
   have r':v'=b:=r'
   subst r';cases v'
   ·exact ⟨ι'',false,σ'',st.trans st',S'',rfl,p'⟩
   ·exact wpAny_allTrue_And_nil ⟨ι'',true,σ'',st.trans st',S'',rfl,p'⟩) fun oo1 oo2 x=>x))
theorem zS6 {x y:Expr} {pos:Pos} {P:Bool->Sto->Prop} (h:Ts w h₀ d sc x ρ σ fun b σ₁=>if b then P true σ₁ else Ts w h₀ d sc y ρ σ₁ P):Ts w h₀ d sc (.BoolOp .Or [x,y] pos) ρ σ P:=
 fun A env s ι hA hs F S E=>wpAny_isTrue_BoolOp (wpAny_allTrue_Or_cons (wpAny_mono (h A env s ι hA hs F S E) (fun b s' ⟨ι',v,σ',st,S',r,p⟩=>by
  have r:v=b:=r
  subst r;cases v
  ·refine wpAny_allTrue_Or_cons (wpAny_mono (p A env s' ι' hA hs (F.stp st S) S' E) (fun b s'' ⟨ι'',v',σ'',st',S'',r',p'⟩=>?_) fun oo1 oo2 x=>x)
   have r':v'=b:=r'
   subst r';cases v'
   ·exact wpAny_allTrue_Or_nil ⟨ι'',false,σ'',st.trans st',S'',rfl,p'⟩
   ·exact ⟨ι'',true,σ'',st.trans st',S'',rfl,p'⟩
  ·exact ⟨ι',true,σ',st,S',rfl,p⟩) fun oo1 oo2 x=>x))
theorem ev_and2 {x y:Expr} {pos:Pos} {P:V->Sto->Prop} (h:Ev w h₀ d sc x ρ σ fun a σ₁=>Tr w h₀ d a σ₁ fun b σ₂=>if b then Ev w h₀ d sc y ρ σ₂ P else P a σ₂):Ev w h₀ d sc (.BoolOp .And [x,y] pos) ρ σ P:=
 fun A env s ι hA hs F S E=>wpAny_And2 (wpAny_mono (h A env s ι hA hs F S E) (fun c s₁ ⟨ι₁,a,σ₁,st₁,S₁,ra,pa⟩=>wpAny_mono (pa A s₁ ι₁ c hA S₁ ra E) (fun b s₂ ⟨ι₂,b',σ₂,st₂,S₂,rb,pb⟩=>by
  cases rb;cases b
  ·exact ⟨ι₂,a,σ₂,st₁.trans st₂,S₂,ra.stp st₂ S₁,pb⟩
  ·exact wpAny_mono (pb A env s₂ ι₂ hA hs (F.stp (st₁.trans st₂) S) S₂ E) (fun _ _ ⟨ι₃,v,σ₃,st₃,S₃,r,p⟩=>⟨ι₃,v,σ₃,(st₁.trans st₂).trans st₃,S₃,r,p⟩) fun oo1 oo2 x=>x) fun oo1 oo2 x=>x) fun oo1 oo2 x=>x)
theorem gF {P:List V->Sto->Prop} (h:P [] σ):Evs w h₀ d sc [] ρ σ P:=fun oo1 oo2 oo3 oo4 oo5 oo6 oo7 oo8 S oo9=>wpAny_items_nil (Do.same S .nil h)
theorem gD {e:Expr} {es:List Expr} {P:List V->Sto->Prop} (h:Ev w h₀ d sc e ρ σ fun v σ₁=>Evs w h₀ d sc es ρ σ₁ fun vs σ₂=>P (v::vs) σ₂)
  (he:∀ env,starEach (e::es) env=(false,eval e env)::starEach es env:=by intro; rfl):Evs w h₀ d sc (e::es) ρ σ P:=
 fun A env s ι pos hA hs F S E=>wpAny_items_cons (wpAny_mono (h A env s ι hA hs F S E) (fun c s₁ ⟨ι₁,v,σ₁,st₁,S₁,r₁,p₁⟩=>
  wpAny_mono (p₁ A env s₁ ι₁ pos hA hs (F.stp st₁ S) S₁ E) (fun cs s₂ ⟨ι₂,vs,σ₂,st₂,S₂,r₂,p₂⟩=>⟨ι₂,v::vs,σ₂,st₁.trans st₂,S₂,.cons (r₁.stp st₂ S₁) r₂,p₂⟩) fun oo1 oo2 x=>x) fun oo1 oo2 x=>x) (he env)
end
theorem gQ.push (h:Heap) (ob:Obj):gQ h (h.push ob):=fun oo1 oo2 oo3 e=>zF _ e
theorem zE3 {ι:List Addr} {x:Addr}:∀ (n:Nat) (a:Addr),ι[n]?=some a->(ι++[x])[n]?=some a:=fun n a e=>by
 rw [zH (zC.mp e).1];exact e
section
variable {w:World} {h₀:Heap} {s:Shared} {ι:List Addr} {σ:Sto}
theorem Sim.mono {h h':Heap} (S:Sim w h₀ h ι σ) (hk:∀ b o,h.get? b=some o->h'.get? b=some o) (hb:h.objs.size<=h'.objs.size):Sim w h₀ h' ι σ:=
 ⟨fun b o e=>hk _ _ (S.keep b o e),zB S.big hb,S.len,S.nodup,S.fresh,fun i a o hi ho=>by
  have z:=S.objs i a o hi ho
  obtain ⟨ob,e,_⟩:=z.get
  exact z.mono (fun a vs n e=>hk _ _ e) (fun oo1 oo2 e=>e) ((hk _ _ e).trans e.symm)⟩
theorem Stp.more {X:Addr->Prop} {s s':Shared} (hk:∀ b o,s.heap.get? b=some o->s'.heap.get? b=some o) (hb:s.heap.objs.size<=s'.heap.objs.size) (hg:s'.gens=s.gens) (ho:s'.os=s.os):Stp X s s' ι ι:=
 ⟨⟨[],by simp,by simp⟩,fun a o e oo1 oo2=>hk a o e,hb,hg,ho⟩
theorem Sim.push {h:Heap} (S:Sim w h₀ h ι σ) (ob:Obj):Sim w h₀ (h.push ob) ι σ:=S.mono (fun oo1 oo2 e=>zF _ e) (by rw [qA];lia)
theorem Stp.push {X:Addr->Prop} (s:Shared) (ob:Obj):Stp X s { s with heap:=s.heap.push ob } ι ι:=.more (fun oo1 oo2 e=>zF _ e) (by show _<=(s.heap.push ob).objs.size;rw [qA];lia) rfl rfl
theorem Sim.alloc {h:Heap} (S:Sim w h₀ h ι σ) {ob:Obj} {o:O} (ho:OR w (h.push ob) (ι++[h.objs.size]) h.objs.size o):Sim w h₀ (h.push ob) (ι++[h.objs.size]) (σ++[o]):=by
 have P:=S.push ob
 refine ⟨P.keep,P.big,by simp [S.len],?_,fun a ha=>?_,fun i a o' hi ho'=>?_⟩
 ·refine vR.mpr ⟨S.nodup,by simp,fun a ha b hb=>?_⟩
  rw [zM.mp hb]
  exact jP (S.lt ha)
 ·rcases jF.mp ha with h | h
  ·exact S.fresh a h
  ·rw [zM.mp h];exact S.big
 ·by_cases hl:i < ι.length
  ·rw [zH hl] at hi
   rw [zH (by rw [<-S.len];exact hl)] at ho'
   exact (P.objs i a o' hi ho').mono (.refl _) zE3 rfl
  ·rw [jB (xT hl)] at hi
   rw [jB (by rw [<-S.len];exact xT hl)] at ho'
   have h0:i - ι.length=0:=by
    have:=(zC.mp hi).1;simp at this;lia
   rw [h0] at hi;rw [<-S.len,h0] at ho'
   simp at hi ho';subst hi ho'
   exact ho
theorem Stp.alloc {X:Addr->Prop} (s:Shared) (ob:Obj):Stp X s { s with heap:=s.heap.push ob } ι (ι++[s.heap.objs.size]):=
 ⟨⟨_,rfl,by simp⟩,fun oo1 oo2 e oo3 oo4=>zF _ e,by show _<=(s.heap.push ob).objs.size;rw [qA];lia,rfl,rfl⟩
theorem Sim.update {h h':Heap} (S:Sim w h₀ h ι σ) {i:Nat} {a:Addr} {o':O} (hi:ι[i]?=some a) (hs:Heap.SameBut a h h') (ho:gQ h h'->OR w h' ι a o'):Sim w h₀ h' ι (σ.set i o'):=by
 have hm:a∈ι:=zI hi
 have tk:gQ h h':=fun b vs n e=>(hs.2 b fun q=>by subst q;exact S.notTup e hm).trans e
 refine ⟨fun b o e=>(hs.2 b fun q=>by subst q;exact S.grow b o e hm).trans (S.keep b o e),by rw [hs.1];exact S.big,by rw [jV];exact S.len,S.nodup,S.fresh,fun j b o hj hb=>?_⟩
 by_cases hij:i=j
 ·subst hij
  rw [hi] at hj;cases hj
  rw [List.getElem?_set] at hb
  simp at hb
  obtain ⟨_,rfl⟩:=hb
  exact ho tk
 ·rw [jD hij] at hb
  have hne:b≠a:=fun q=>by
   subst q
   exact hij ((List.getElem?_inj (zC.mp hi).1 S.nodup).mp (hi.trans hj.symm))
  exact (S.objs j b o hj hb).mono tk (fun oo1 oo2 e=>e) (hs.2 b hne)
theorem Stp.same {X:Addr->Prop} {s s':Shared} {a:Addr} (ha:a∈ι) (hs:Heap.SameBut a s.heap s'.heap) (hg:s'.gens=s.gens) (ho:s'.os=s.os):Stp X s s' ι ι:=
 ⟨⟨[],by simp,by simp⟩,fun b o e hb oo1=>(hs.2 b fun q=>hb (q ▸ ha)).trans e,jU hs.1.symm,hg,ho⟩
end
section
variable {w:World} {h₀:Heap} {d:Nat} {sc:Scope} {ρ:Lc} {σ:Sto}
theorem zB9 {es:List Expr} {k:Nat} {pos:Pos} {P:V->Sto->Prop} (h:Evs w h₀ d sc es ρ σ fun vs σ₁=>vs.length<=1000/\P (.tup vs) σ₁):Ev w h₀ d sc (.Tuple es k pos) ρ σ P:=
 fun A env s ι hA hs F S oo1=>wpAny_Tuple ((h A env s ι pos hA hs F S).seq fun cs s₁ ι₁ vs σ₁ st S₁ r p=>⟨by rw [sizeLine_eq,<-r.length];lia,
  ι₁,.tup vs,σ₁,st.trans (.push ..),S₁.push _,.tup (zT _ rfl) (r.mono (gQ.push _ _) fun oo1 oo2 e=>e),p.2⟩)
theorem gY {es:List Expr} {pos:Pos} {P:V->Sto->Prop} (h:Evs w h₀ d sc es ρ σ fun vs σ₁=>vs.length<=1000/\P (.ref σ₁.length) (σ₁++[.lst vs])):Ev w h₀ d sc (.List es pos) ρ σ P:=
 fun A env s ι hA hs F S oo1=>wpAny_List ((h A env s ι pos hA hs F S).seq fun cs s₁ ι₁ vs σ₁ st S₁ r p=>⟨by rw [sizeLine_eq,<-r.length];lia,
  _,.ref σ₁.length,_,st.trans (.alloc ..),S₁.alloc (o:=.lst vs) ⟨_,0,zT _ rfl,r.mono (gQ.push _ _) zE3⟩,.ref (by rw [<-S₁.len];simp),p.2⟩)
theorem jR5 {kindOf:Str->Option NameKind}:∀ {binds:List (Str×Value)} {m:Str->Option Value} {x:Str} {c:Value},(binds.map (·.1)).Nodup->binds.lookup x=some c->kindOf x=some .local->bindL kindOf binds m x=some c:=by
 have skip:∀ (binds:List (Str×Value)) (m:Str->Option Value) (x:Str),x ∉ binds.map (·.1)->bindL kindOf binds m x=m x:=by
  intro binds
  induction binds with
  | nil=>intros;rfl
  | cons p r ih=>
   intro m x hx
   obtain ⟨n,v⟩:=p
   simp only [zU,jN,not_or] at hx
   rw [bindL,ih _ _ hx.2]
   split
   ·simp [hx.1]
   ·rfl
 intro binds
 induction binds with
 | nil=>intro m x c _ e;simp at e
 | cons p r ih=>
  intro m x c hn e hk
  obtain ⟨n,v⟩:=p
  rw [zU,vN] at hn
  rw [bindL]
  rw [zX] at e
  by_cases hx:x=n
  ·subst hx
   simp at e;subst e
   rw [skip _ _ _ hn.1,if_pos hk];simp
  ·have:(x == n)=false:=by simpa using hx
   rw [this] at e
   exact ih hn.2 e hk
theorem jR0 {kindOf:Str->Option NameKind}:∀ {binds:List (Str×Value)} {m:Str->Option Value} {x:Str} {c:Value},(binds.map (·.1)).Nodup->binds.lookup x=some c->kindOf x≠some .local->bindC kindOf binds m x=some c:=by
 have skip:∀ (binds:List (Str×Value)) (m:Str->Option Value) (x:Str),x ∉ binds.map (·.1)->bindC kindOf binds m x=m x:=by
  intro binds
  induction binds with
  | nil=>intros;rfl
  | cons p r ih=>
   intro m x hx
   obtain ⟨n,v⟩:=p
   simp only [zU,jN,not_or] at hx
   rw [bindC,ih _ _ hx.2]
   split
   ·rfl
   ·simp [hx.1]
 intro binds
 induction binds with
 | nil=>intro m x c _ e;simp at e
 | cons p r ih=>
  intro m x c hn e hk
  obtain ⟨n,v⟩:=p
  rw [zU,vN] at hn
  rw [bindC]
  rw [zX] at e
  by_cases hx:x=n
  ·subst hx
   simp at e;subst e
   rw [skip _ _ _ hn.1,if_neg hk];simp
  ·have:(x == n)=false:=by simpa using hx
   rw [this] at e
   exact ih hn.2 e hk
theorem zO2 {h:Heap} {ι:List Addr} {x:Str} {v:V} {ps:List Str} {args:List V} {cs:List Value} (r:VRs h ι args cs) (e:(ps.zip args).lookup x=some v):∃ c,(ps.zip cs).lookup x=some c/\VR h ι v c:=by
 induction r using VRs.ind generalizing ps with
 | nil=>rw [List.zip_nil_right] at e;cases e
 | cons h1 _ ih=>
  cases ps with
  | nil=>cases e
  | cons p ps=>
   rw [xH,zX] at e ⊢
   cases hx:x == p with
   | true=>rw [hx] at e;exact ⟨_,rfl,Option.some.inj e ▸ h1⟩
   | false=>rw [hx] at e;exact ih e
structure Bs (w:World) (h₀:Heap):Prop where
 K:(Mine.KF w.params).In h₀
 top:∃ mg mb mean,Top Mine.VW (looseW Mine.VW []) mean mg mb h₀
theorem Around.deeper_room {A:Around} {env:Env} (r:Room A (d+1)):Room (A.deeper env) d:=⟨zP4 (a:=A.depth) (w:=1) (by decide) r.depth,zQ6 (a:=A.units) (u:=3) (by decide) r.units,r.handled⟩
noncomputable def Cd (w:World) (h₀:Heap) (d:Nat) (f:Value) (args:List V) (σ:Sto) (P:V->Sto->Prop):Prop:=
 ∀ (A:Around) (s:Shared) (ι:List Addr) (cs:List Value) (E:Value->Shared->Prop),Room A d->Sim w h₀ s.heap ι σ->VRs s.heap ι args cs->
  codeAny (model PG w) A (.call f ⟨cs,[]⟩) (fun r s'=>match r with
   | .ok (.ret c)=>DoO w h₀ VR s ι P c s'
   | .ok _=>False
   | .error e=>E e s') s
theorem Cd.cl {f:Value} {args:List V} {P:V->Sto->Prop} (h:Cd w h₀ d f args σ P):Cl w h₀ d f args σ P:=fun A s ι cs hA S r E=>wpAny_call (h A s ι cs E hA S r)
theorem zA3 {f:Addr} {name qual:Str} {params:Arguments} {body:List Stmt} {scope:Scope} {dV kV doc pm cdv ct oc:Value} {an od:Option Addr} {osl:Array (Option Value)} {ps:List Str} {args:List V} {P:V->Sto->Prop}
  (B:Bs w h₀) (hf:(Mine.KF w.params).lookup f=some ⟨oc,od,.func (fnOf name qual params body scope dV kV doc pm an cdv ct),osl⟩) (hcd:codeIn (Mine.KF w.params) cdv qual=true)
  (hb:∀ cs:List Value,cs.length=args.length->bindArgs (fnOf name qual params body scope dV kV doc pm an cdv ct) ⟨cs,[]⟩=pure (ps.zip cs))
  (hl:ps.length=args.length) (hn:ps.Nodup) (hkind:∀ n,(ps.all fun x=>scope.names.lookup x == some .local || (scope.names.lookup x == some .cell && ((cellsFrom n scope.names []).lookup x).isSome))=true)
  (h:Exs w h₀ d scope body (ps.zip args) σ fun fl oo1 σ'=>P (match fl with | .ret v=>v | _=>.none) σ')
  (hco:scope.isCoroutine=false:=by rfl) (hgen:scope.isGenerator=false:=by rfl) (hk:scope.kind=.function:=by rfl):Cd w h₀ (d+1) (.ref f) args σ P:=by
 intro A s ι cs E hA S r
 obtain ⟨mg,mb,mean,T⟩:=B.top
 have hlen:cs.length=args.length:=r.length.symm
 have hz:(ps.zip cs).map (·.1)=ps:=by rw [List.map_fst_zip];lia
 have hK:∀ n,∀ x∈ps,scope.names.lookup x=some .local∨(scope.names.lookup x=some .cell/\((cellsFrom n scope.names []).lookup x).isSome=true):=fun n x hx=>by
  have:=jQ.mp (hkind n) x hx
  rcases vY.mp this with q | q
  ·exact .inl (by simpa using q)
  ·exact .inr ((zJ.mp q).imp (fun q=>by simpa using q) id)
 have hps:∀ y∈ps.zip cs,y.1∈ps:=fun y hy=>by rw [<-hz];exact List.mem_map_of_mem hy
 refine (codeAny_call_cells (fd:=fnOf name qual params body scope dV kV doc pm an cdv ct) hA.lim (S.keep _ _ (B.K _ _ hf)) rfl (T.nolimit.keeps S.keep) ((codeRec_of B.K hcd).keeps S.keep) rfl (hb cs hlen) rfl
  (fun x hx=>hK _ _ (hps x hx)) (fun s₁ x=>?_) hco hgen hk)
 obtain ⟨h₁,tk,rfl,_⟩:=x.done
 have hk₁:=x.toInCall.keep
 have hsz:s.heap.objs.size<=h₁.objs.size:=by
  obtain ⟨o,_,_,e,_⟩:=x.toInCall.ns
  exact qI (jY x.toInCall.fresh (jC e))
 have st:Stp NoX s { s with heap:=h₁,toks:=tk } ι ι:=.more hk₁ hsz rfl rfl
 have S₁:Sim w h₀ h₁ ι σ:=S.mono hk₁ hsz
 have nin:∀ {a:Addr},s.heap.objs.size<=a->a ∉ ι:=fun ha m=>absurd (S.lt m) (jK ha)
 have kof:∀ y,(callEnvC (fnOf name qual params body scope dV kV doc pm an cdv ct) s.heap.objs.size f).kindOf y=scope.names.lookup y:=fun oo1=>rfl
 have F:FR h₀ h₁ ι (callEnvC (fnOf name qual params body scope dV kV doc pm an cdv ct) s.heap.objs.size f) (ps.zip args):=by
  refine ⟨hk,rfl,rfl,⟨_,x.toInCall.ns,fun y v hy hyk=>?_⟩,⟨nin (zK _),S.big⟩,fun y v hy hyk=>?_,fun y v hy=>?_,fun y a hy=>?_,fun y z a hy hz'=>?_,fun y hy=>PySem.W.cellsFrom_some _ _ _ (.inl hy)⟩
  ·obtain ⟨c,hc,rc⟩:=zO2 r hy
   exact ⟨c,jR5 (by rw [hz];exact hn) hc hyk,rc.stp st S⟩
  ·obtain ⟨c,hc,rc⟩:=zO2 r hy
   have hmem:y∈ps:=by
    have:=PySem.mem_of_lookup hc
    exact hps _ this
   have hcell:scope.names.lookup y=some .cell/\((cellsFrom (s.heap.objs.size+1) scope.names []).lookup y).isSome=true:=by
    rcases hK (s.heap.objs.size+1) y hmem with q | q
    ·rw [kof,q] at hyk;simp at hyk
    ·exact q
   obtain ⟨a,ha⟩:=Option.isSome_iff_exists.mp hcell.2
   refine ⟨a,c,ha,?_,rc.stp st S⟩
   have:=x.cell y a ha
   rw [jR0 (by rw [hz];exact hn) hc (by rw [kof,hcell.1];simp)] at this
   exact this
  ·obtain ⟨c,hc,_⟩:=zO2 r hy
   rcases hK 0 y (hps _ (PySem.mem_of_lookup hc)) with q | q
   ·exact .inl q
   ·exact .inr (.inl q.1)
  ·have hab:=x.above y a (PySem.mem_of_lookup hy)
   have hab':s.heap.objs.size<=a:=qI hab
   exact ⟨nin hab',zB S.big hab',_,x.cell y a hy⟩
  ·exact PySem.name_of_addr x.apart (PySem.mem_of_lookup hy) (PySem.mem_of_lookup hz')
 have own:∀ a,Own (callEnvC (fnOf name qual params body scope dV kV doc pm an cdv ct) s.heap.objs.size f) a->s.heap.objs.size<=a:=fun a ha=>by
  rcases ha with rfl | ⟨y,hy⟩
  ·exact zK _
  ·exact qI (x.above y a (PySem.mem_of_lookup hy))
 refine (h _ _ _ ι (Around.deeper_room hA) rfl F S₁).seq fun fl s' ι' v ρ' σ' st' F' S' rf p=>?_
 have st2:Stp NoX s s' ι ι':=(st.of_no.trans st').fresh own
 cases rf with
 | ret rv=>exact ⟨ι',_,σ',st2,S',rv,p⟩
 | next=>exact ⟨ι',.none,σ',st2,S',.none,p⟩
 | brk=>exact ⟨ι',.none,σ',st2,S',.none,p⟩
 | cont=>exact ⟨ι',.none,σ',st2,S',.none,p⟩
end
section
variable {w:World} {h₀:Heap} {d:Nat} {sc:Scope} {ρ:Lc} {σ:Sto}
theorem FR.keepA {σ₀:Sto} {env:Env} {s s':Shared} {ι:List Addr} {a:Addr} (F:FR h₀ s.heap ι env ρ) (S:Sim w h₀ s.heap ι σ₀) (ho:Own env a) (hs:Heap.SameBut a s.heap s'.heap) (hg:s'.gens=s.gens) (hos:s'.os=s.os) :
  Stp (·=a) s s' ι ι/\Sim w h₀ s'.heap ι σ₀:=by
 have ha:=(F.own ho).1
 have st:Stp (·=a) s s' ι ι:=⟨⟨[],by simp,by simp⟩,fun b o e oo1 hX=>(hs.2 b fun q=>hX q).trans e,jU hs.1.symm,hg,hos⟩
 refine ⟨st,⟨fun b o e=>(hs.2 b fun q=>?_).trans (S.keep b o e),by rw [hs.1];exact S.big,S.len,S.nodup,S.fresh,fun i b o hi hb=>?_⟩⟩
 ·subst q;exact absurd (jC e) (jK (F.own ho).2.1)
 ·have hne:b≠a:=fun q=>ha (q ▸ zI hi)
  exact (S.objs i b o hi hb).mono ((st.weak (Y:=Own env) fun x hx=>hx ▸ ho).tupO S F) (fun oo1 oo2 e=>e) (hs.2 b hne)
theorem FR.keepO {σ₀:Sto} {env:Env} {s s':Shared} {ι:List Addr} {a:Addr} (F:FR h₀ s.heap ι env ρ) (S:Sim w h₀ s.heap ι σ₀) (ho:Own env a) (hs:Heap.SameBut a s.heap s'.heap) (hg:s'.gens=s.gens) (hos:s'.os=s.os) :
  Stp (Own env) s s' ι ι/\Sim w h₀ s'.heap ι σ₀:=
 let ⟨st,S'⟩:=F.keepA S ho hs hg hos
 ⟨st.weak fun x hx=>hx ▸ ho,S'⟩
theorem zE0 {x y:Str} {v:V} {ρ:Lc}:List.lookup y ((x,v)::ρ)=if y=x then some v else ρ.lookup y:=by
 rw [zX]
 by_cases h:y=x
 ·subst h;simp
 ·have:(y == x)=false:=by simpa using h
  rw [this,if_neg h]
theorem zL7 {A:Around} {env:Env} {s:Shared} {ι:List Addr} {x:Str} {v:V} {c:Value} {P:Lc->Sto->Prop} (F:FR h₀ s.heap ι env ρ) (S:Sim w h₀ s.heap ι σ) (r:VR s.heap ι v c)
  (hk:env.kindOf x=some .local) (h:P ((x,v)::ρ) σ) (E:Value->Shared->Prop) :
  wpAny (model PG w) A (storeName env x c) (AsO w h₀ (·=env.locals) env s ι P) E s:=by
  obtain ⟨m,hns,hm⟩:=F.ns
  refine wpAny_storeName_local hk hns (fun h' hn' hs'=>?_) (by rw [F.kind];rfl)
  obtain ⟨st,S'⟩:=F.keepA (s':={ s with heap:=h',toks:=s.toks+1 }) S (.inl rfl) hs' rfl rfl
  have tk:=(st.weak (Y:=Own env) fun x hx=>.inl hx).tupO S F
  refine ⟨ι,_,σ,st,⟨F.kind,F.globals,F.builtins,⟨_,hn',fun y u hy hyk=>?_⟩,F.lnew,fun y u hy hyk=>?_,fun y u hy=>?_,fun y a hy=>?_,F.apart,F.hasc⟩,S',h⟩
  ·rw [zE0] at hy
   by_cases e:y=x
   ·rw [if_pos e] at hy;cases hy
    exact ⟨c,by simp [e],r.mono tk fun oo1 oo2 e=>e⟩
   ·rw [if_neg e] at hy
    obtain ⟨c',hc',r'⟩:=hm y u hy hyk
    exact ⟨c',by simp [e,hc'],r'.mono tk fun oo1 oo2 e=>e⟩
  ·rw [zE0] at hy
   by_cases e:y=x
   ·subst e;rw [hk] at hyk;simp at hyk
   ·rw [if_neg e] at hy
    obtain ⟨a,c',h1,⟨o,h2,h3⟩,r'⟩:=F.cel y u hy hyk
    refine ⟨a,c',h1,⟨o,(hs'.2 a fun q=>?_).trans h2,h3⟩,r'.mono tk fun oo1 oo2 e=>e⟩
    obtain ⟨oL,es,ep,eL,hd,_⟩:=hns
    rw [q,eL] at h2;cases h2;rw [hd] at h3;cases h3
  ·rw [zE0] at hy
   by_cases e:y=x
   ·subst e;exact .inl hk
   ·rw [if_neg e] at hy;exact F.dom y u hy
  ·obtain ⟨h1,h2,v',o,h3,h4⟩:=F.cells y a hy
   refine ⟨h1,h2,v',o,(hs'.2 a fun q=>?_).trans h3,h4⟩
   obtain ⟨oL,es,ep,eL,hd,_⟩:=hns
   rw [q,eL] at h3;cases h3;rw [hd] at h4;cases h4
theorem jL7 {A:Around} {env:Env} {s:Shared} {ι:List Addr} {x:Str} {v:V} {c:Value} {P:Lc->Sto->Prop} (F:FR h₀ s.heap ι env ρ) (S:Sim w h₀ s.heap ι σ) (r:VR s.heap ι v c)
  (hk:env.kindOf x=some .local∨env.kindOf x=some .cell) (h:P ((x,v)::ρ) σ):DoF w h₀ A env (storeName env x c) UnR s ι (fun oo1=>P):=fun E=>by
 rcases hk with hk | hk
 ·exact wpAny_mono (zL7 F S r hk h E) (fun _ _ ⟨ι',ρ',σ',st,F',S',p⟩=>⟨ι',(),ρ',σ',st.weak fun x hx=>.inl hx,F',S',trivial,p⟩) fun oo1 oo2 x=>x
 ·obtain ⟨a,ha⟩:=Option.isSome_iff_exists.mp (F.hasc x hk)
  obtain ⟨h1,h2,v₀,hv₀⟩:=F.cells x a ha
  refine wpAny_storeName_cell F.kind hk ha hv₀ fun h' hc' hs'=>?_
  obtain ⟨st,S'⟩:=F.keepO (s':={ s with heap:=h' }) S (.inr ⟨x,ha⟩) hs' rfl rfl
  have tk:=st.tupO S F
  obtain ⟨m,hns,hm⟩:=F.ns
  have hne:env.locals≠a:=fun q=>by
   obtain ⟨oL,es,ep,eL,hd,_⟩:=hns
   obtain ⟨o,h3,h4⟩:=hv₀
   rw [<-q,eL] at h3;cases h3;rw [hd] at h4;cases h4
  refine ⟨ι,(),_,σ,st,⟨F.kind,F.globals,F.builtins,⟨m,hns.sameBut hs' hne,fun y u hy hyk=>?_⟩,F.lnew,fun y u hy hyk=>?_,fun y u hy=>?_,fun y b hy=>?_,F.apart,F.hasc⟩,S',trivial,h⟩
  ·rw [zE0] at hy
   by_cases e:y=x
   ·subst e;rw [hk] at hyk;simp at hyk
   ·rw [if_neg e] at hy
    obtain ⟨c',hc',r'⟩:=hm y u hy hyk
    exact ⟨c',hc',r'.mono tk fun oo1 oo2 e=>e⟩
  ·rw [zE0] at hy
   by_cases e:y=x
   ·rw [if_pos e] at hy;cases hy;subst e
    exact ⟨a,c,ha,hc',r.mono tk fun oo1 oo2 e=>e⟩
   ·rw [if_neg e] at hy
    obtain ⟨b,c',g1,g2,r'⟩:=F.cel y u hy hyk
    exact ⟨b,c',g1,g2.sameBut hs' fun q=>e (F.apart y x a (q ▸ g1) ha),r'.mono tk fun oo1 oo2 e=>e⟩
  ·rw [zE0] at hy
   by_cases e:y=x
   ·subst e;exact .inr (.inl hk)
   ·rw [if_neg e] at hy;exact F.dom y u hy
  ·obtain ⟨g1,g2,v',g3⟩:=F.cells y b hy
   by_cases e:b=a
   ·subst e;exact ⟨g1,g2,_,hc'⟩
   ·exact ⟨g1,g2,v',g3.sameBut hs' e⟩
theorem gN {x:Str} {pos:Pos} {v:V} {P:Lc->Sto->Prop} (hk:(sc.names.lookup x == some .local || sc.names.lookup x == some .cell)=true) (h:P ((x,v)::ρ) σ):As w h₀ d sc (.Name x pos) v ρ σ P:=
 fun A env s ι c hA hs F S r E=>by
  show wpAny _ A (do standAt pos;bindName env x c) _ E s
  refine wpAny_bind (wpAny_standAt (wpAny_bindName (jL7 F S r ?_ h E)))
  rcases vY.mp hk with q | q
  ·exact .inl (by show env.scope.names.lookup x=_;rw [hs];simpa using q)
  ·exact .inr (by show env.scope.names.lookup x=_;rw [hs];simpa using q)
theorem gG {P:Fl->Lc->Sto->Prop} (h:P .next ρ σ):Exs w h₀ d sc [] ρ σ P:=fun oo1 oo2 oo3 ι oo4 oo5 F S oo6=>wpAny_execs_nil ⟨ι,.next,ρ,σ,.refl ..,F,S,.next,h⟩
theorem zE7 {st:Stmt} {rest:List Stmt} {P:Fl->Lc->Sto->Prop} (h:Ex w h₀ d sc st ρ σ fun f ρ₁ σ₁=>match f with | .next=>Exs w h₀ d sc rest ρ₁ σ₁ P | f=>P f ρ₁ σ₁):Exs w h₀ d sc (st::rest) ρ σ P:=
 fun A env s ι hA hs F S oo1=>wpAny_execs_cons ((h A env s ι hA hs F S).seq fun f s₁ ι₁ fl ρ₁ σ₁ st₁ F₁ S₁ r p=>by
  cases r with
  | next=>exact (p A env s₁ ι₁ hA hs F₁ S₁).up st₁
  | brk=>exact ⟨ι₁,_,ρ₁,σ₁,st₁,F₁,S₁,.brk,p⟩
  | cont=>exact ⟨ι₁,_,ρ₁,σ₁,st₁,F₁,S₁,.cont,p⟩
  | ret rv=>exact ⟨ι₁,_,ρ₁,σ₁,st₁,F₁,S₁,.ret rv,p⟩)
theorem gL {e:Expr} {pos:Pos} {P:Fl->Lc->Sto->Prop} (h:Ev w h₀ d sc e ρ σ fun v σ₁=>P (.ret v) ρ σ₁):Ex w h₀ d sc (.Return (some e) pos) ρ σ P:=
 fun A env s ι hA hs F S oo1=>wpAny_Return_some ((h A env s ι hA hs F S).seq fun oo1 oo2 ι₁ oo3 σ₁ st S₁ r p=>⟨ι₁,_,ρ,σ₁,st.of_no,F.stp st S,S₁,.ret r,p⟩)
theorem zC1 {t:Expr} {b o:List Stmt} {pos:Pos} {P:Fl->Lc->Sto->Prop} (h:Ts w h₀ d sc t ρ σ fun c σ₁=>if c then Exs w h₀ d sc b ρ σ₁ P else Exs w h₀ d sc o ρ σ₁ P):Ex w h₀ d sc (.If t b o pos) ρ σ P:=
 fun A env s ι hA hs F S oo1=>wpAny_If ((h A env s ι hA hs F S).seq fun c s₁ ι₁ c' σ₁ st S₁ r p=>by
  cases r;cases c
  ·exact (p A env s₁ ι₁ hA hs (F.stp st S) S₁).up st.of_no
  ·exact (p A env s₁ ι₁ hA hs (F.stp st S) S₁).up st.of_no)
theorem zA2 {e:Expr} {pos:Pos} {P:Fl->Lc->Sto->Prop} (h:Ev w h₀ d sc e ρ σ fun oo1 σ₁=>P .next ρ σ₁) (hs':∀ env,swapsWith e none pos.line env=pure false:=by intro; rfl):Ex w h₀ d sc (.Expr e pos) ρ σ P:=
 fun A env s ι hA hs F S E=>by
  rw [exec_Expr env e pos (by unfold interactive;rw [F.kind];rfl) (hs' env)]
  exact wpAny_bind (wpAny_standAt (wpAny_bind ((h A env s ι hA hs F S).seq fun oo1 oo2 ι₁ oo3 σ₁ st S₁ r p=>PySem.wpAny_dropValue ⟨ι₁,.next,ρ,σ₁,st.of_no,F.stp st S,S₁,.next,p⟩)))
theorem jD1 {t e:Expr} {pos:Pos} {P:Fl->Lc->Sto->Prop} (h:Ev w h₀ d sc e ρ σ fun v σ₁=>As w h₀ d sc t v ρ σ₁ fun ρ₂ σ₂=>P .next ρ₂ σ₂)
  (hx:∀ env,env.scope=sc->exec (.Assign [t] e pos) env=(do standAt pos;let v <-eval e env;assign t env v;pure .next)):Ex w h₀ d sc (.Assign [t] e pos) ρ σ P:=
 fun A env s ι hA hs F S E=>by
  rw [hx env hs]
  refine wpAny_bind (wpAny_standAt (wpAny_bind ((h A env s ι hA hs F S).seq fun c s₁ ι₁ v σ₁ st S₁ r p=>wpAny_bind ((p A env s₁ ι₁ c hA hs (F.stp st S) S₁ r).seq fun oo1 s₂ ι₂ oo2 ρ₂ σ₂ st₂ F₂ S₂ oo3 p₂=>
   wpAny_pure ⟨ι₂,.next,ρ₂,σ₂,st.of_no.trans st₂,F₂,S₂,.next,p₂⟩))))
end
end
section
open PySem PySem.W PySem.Calls PyProof.Rows
noncomputable def isS (name:Str) (v:V):Bool:=V.casesOn v false (fun oo1=>false) (fun oo1=>false) (fun x=>x == name) (fun oo1=>false) (fun oo1=>false) fun oo1=>false
noncomputable def zP7 (name:Str):List (V×V)->Option V:=List.rec none fun p oo1 ih=>if isS name p.1 then some p.2 else ih
noncomputable def putV (name:Str) (v:V):List (V×V)->List (V×V):=List.rec [(.str name,v)] fun p r ih=>if isS name p.1 then (p.1,v)::r else p::ih
noncomputable def zM7 (l:List (V×V)):Bool:=l.all fun p=>V.casesOn p.1 false (fun oo1=>false) (fun oo1=>false) (fun oo1=>true) (fun oo1=>false) (fun oo1=>false) fun oo1=>false
noncomputable def V.plain (v:V):Bool:=V.casesOn v true (fun oo1=>true) (fun oo1=>true) (fun oo1=>true) (fun oo1=>true) (fun oo1=>true) fun oo1=>false
theorem zK5 (name:Str) (p:V×V) (r:List (V×V)):zP7 name (p::r)=if isS name p.1 then some p.2 else zP7 name r:=rfl
theorem zR5 (name:Str) (v:V) (p:V×V) (r:List (V×V)):putV name v (p::r)=if isS name p.1 then (p.1,v)::r else p::putV name v r:=rfl
section
variable {w:World} {h₀:Heap} {d:Nat} {sc:Scope} {ρ:Lc} {σ:Sto}
theorem VR.isStr {h:Heap} {ι:List Addr} {k:V} {c:Value} {name:Str} (r:VR h ι k c) (hp:zC3 k=true):c.isStr name=isS name k:=by
 cases r with
 | con=>exact nomatch hp
 | _=>rfl
theorem VR.refKey {h:Heap} {ι:List Addr} {x:Str} {c:Value} (r:VR h ι (.str x) c):∃ t,c=.str x t:=by cases r using VR.strE;exact ⟨_,rfl⟩
theorem VR.handedIn {h:Heap} {ι:List Addr} {v:V} {c:Value} (r:VR h ι v c) (hp:v.plain=true):handedIn c=true:=by
 cases r with
 | con=>exact nomatch hp
 | _=>rfl
theorem ER.getL {h:Heap} {ι:List Addr} {name:Str} {kvs:List (V×V)} {es:List DictEntry} {v:V} (r:ER w h ι kvs es) (e:zP7 name kvs=some v):∃ c,PySem.W.getL name es=some (some c)/\VR h ι v c:=by
 suffices ∃ e,es.find? (·.key.isStr name)=some e/\VR h ι v e.val by
  obtain ⟨e,h1,h2⟩:=this
  exact ⟨_,by unfold PySem.W.getL;rw [h1],h2⟩
 induction r with
 | nil=>exact nomatch e
 | @cons k u x l xs h1 h2 _ h4 _ ih=>
  rw [zK5] at e
  rw [vO,h1.isStr h2]
  cases q:isS name k with
  | true=>rw [q] at e;cases e;exact ⟨_,rfl,h4⟩
  | false=>rw [q] at e;exact ih e
theorem ER.noRef {h:Heap} {ι:List Addr} {kvs:List (V×V)} {es:List DictEntry} (r:ER w h ι kvs es) (e:zM7 kvs=true):es.any (·.refKey)=false:=by
 induction r with
 | nil=>rfl
 | @cons k _ _ _ _ h1 _ _ _ _ ih=>
  have e:=zJ.mp e
  cases k with
  | str=>
   obtain ⟨t,hq⟩:=h1.refKey
   rw [wJ,ih e.2,Bool.or_false]
   unfold DictEntry.refKey;rw [hq]
  | _=>exact nomatch e.1
theorem ER.getN {h:Heap} {ι:List Addr} {name:Str} {kvs:List (V×V)} {es:List DictEntry} (r:ER w h ι kvs es) (hs:zM7 kvs=true) (e:zP7 name kvs=none):PySem.W.getL name es=some none:=by
 have nr:=r.noRef hs
 unfold PySem.W.getL
 have:es.find? (·.key.isStr name)=none:=by
  clear nr hs
  induction r with
  | nil=>rfl
  | @cons k u x l xs h1 h2 _ _ _ ih=>
   rw [zK5] at e
   rw [vO,h1.isStr h2]
   cases q:isS name k with
   | true=>rw [q] at e;cases e
   | false=>rw [q] at e;exact ih e
 rw [this,nr];rfl
theorem ER.putL {h:Heap} {ι:List Addr} {name:Str} {v:V} {c:Value} {t:Tok} {kvs:List (V×V)} {es:List DictEntry} (q:ER w h ι kvs es) (r:VR h ι v c):ER w h ι (putV name v kvs) (PySem.W.putL name (PyData.keyHash w.params name) (.str name t) c es):=by
 induction q with
 | nil=>exact .cons (.str _ _) rfl rfl r .nil
 | @cons k u x l xs h1 h2 h3 h4 h5 ih=>
  rw [zR5]
  unfold PySem.W.putL
  rw [h1.isStr h2]
  cases isS name k with
  | true=>exact .cons h1 h2 h3 r h5
  | false=>exact .cons h1 h2 h3 h4 ih
theorem ER.length {h:Heap} {ι:List Addr} {kvs:List (V×V)} {es:List DictEntry} (r:ER w h ι kvs es):kvs.length=es.length:=by
 induction r with
 | nil=>rfl
 | cons _ _ _ _ _ ih=>exact congrArg (·+1) ih
theorem jR8 {name:Str} {v:V} {kvs:List (V×V)}:(putV name v kvs).map (·.1)=kvs.map (·.1)∨(putV name v kvs).map (·.1)=kvs.map (·.1)++[.str name]/\zP7 name kvs=none:=by
 induction kvs with
 | nil=>exact .inr ⟨rfl,rfl⟩
 | cons p r ih=>
  rw [zR5,zK5]
  cases isS name p.1 with
  | true=>exact .inl rfl
  | false=>exact ih.imp (fun q=>congrArg (p.1::·) q) fun q=>⟨congrArg (p.1::·) q.1,q.2⟩
theorem jS9 {name:Str} {kvs:List (V×V)} (e:zP7 name kvs=none):V.str name ∉ kvs.map (·.1):=by
 induction kvs with
 | nil=>exact yP
 | cons p r ih=>
  rw [zK5] at e
  cases q:isS name p.1 with
  | true=>rw [q] at e;cases e
  | false=>
   rw [q] at e
   rw [zU,jN]
   refine fun z=>z.elim (fun z=>?_) (ih e)
   rw [<-z] at q
   exact absurd (beq_self_eq_true name) (Bool.eq_false_iff.mp q)
theorem jL6 {name:Str} {v:V} {kvs:List (V×V)} (h:(kvs.map (·.1)).Nodup):((putV name v kvs).map (·.1)).Nodup:=by
 rcases @jR8 name v kvs with q | ⟨q,q'⟩
 ·rw [q];exact h
 ·rw [q]
  refine vR.mpr ⟨h,by simp,fun a ha b hb e=>?_⟩
  rw [zM.mp hb] at e
  exact jS9 q' (e ▸ ha)
theorem putV_len {name:Str} {v:V} {kvs:List (V×V)}:(putV name v kvs).length<=kvs.length+1:=by
 induction kvs with
 | nil=>exact zK _
 | cons p r ih=>
  rw [zR5]
  cases isS name p.1 with
  | true=>exact yY _
  | false=>exact yQ ih
noncomputable abbrev KK (w:World):Frag:=Mine.KF w.params
structure Fld (w:World) (C:Addr) (name:Str):Prop where
 get:plainGet (KK w) C name=true
 dict:hasDictIn (KK w) C=true
 at_:findIn (KK w) (.ref C) name=some none
structure Mth (w:World) (C:Addr) (name:Str) (f:Addr):Prop where
 get:plainGet (KK w) C name=true
 find:findIn (KK w) (.ref C) name=some (some (.ref f))
 fn:typeIn (KK w) (.ref f)=some (.type "function")
 keep:keepIn (KK w) (.ref f)=true
structure Sets (w:World) (C:Addr) (name:Str):Prop where
 set:findIn (KK w) (.ref C) "__setattr__"=some (some (.builtin "object.__setattr__"))
 over:plainOver (KK w) C=true
 taker:takerIn (KK w) C name=some none
 dict:hasDictIn (KK w) C=true
theorem Bs.KIn {h:Heap} {ι:List Addr} (B:Bs w h₀) (S:Sim w h₀ h ι σ):(KK w).In h:=B.K.keeps S.keep
theorem zU4 {h:Heap} {ι:List Addr} (S:Sim w h₀ h ι σ) {n dd:Nat} {C:Addr} {kvs:List (V×V)} {a:Addr} (hi:σ[n]?=some (.inst C dd)) (hd:σ[dd]?=some (.dct kvs)) (ha:ι[n]?=some a) :
  ∃ dx es k,ι[dd]?=some dx/\h.get? dx=some (dictOf es k)/\ER w h ι kvs es/\(kvs.map (·.1)).Nodup/\h.get? a=some (instObj C dx)/\InstAt h a (instObj C dx) C (some (dictOf es k)):=by
 obtain ⟨dx,hdx,ho⟩:=S.objs n a _ ha hi
 obtain ⟨es,k,he,hr,hn⟩:=S.objs dd dx _ hdx hd
 refine ⟨dx,es.toList,k,hdx,?_,hr,hn,ho,ho,rfl,rfl,?_⟩
 ·rw [he]
 ·show h.get? dx=_;rw [he]
theorem Ga {A:Around} {s:Shared} {ι:List Addr} {n dd:Nat} {C:Addr} {kvs:List (V×V)} {a:Addr} {name:Str} {v:V} {P:V->Sto->Prop} {b:Bool} (B:Bs w h₀) (S:Sim w h₀ s.heap ι σ) (hi:σ[n]?=some (.inst C dd)) (hd:σ[dd]?=some (.dct kvs)) (ha:ι[n]?=some a)
  (hf:Fld w C name) (hv:zP7 name kvs=some v) (hp:v.plain=true) (h:P v σ):Do w h₀ A (getAttr (.ref a) name b) VR s ι P:=fun E=>by
 obtain ⟨dx,es,k,hdx,he,hr,_,ho,I⟩:=zU4 S hi hd ha
 obtain ⟨c,hc,rc⟩:=hr.getL hv
 exact get_value (B.KIn S) I (plainGet_of hf.get).1 (findObj_own hf.dict hf.at_ rfl hc) (rc.handedIn hp) (Do.tok S rc h)
inductive AttrO (w:World) (name:Str) (K:V->Sto->Prop) (u:V) (σ:Sto):Prop
 | mk (n:Nat) (C:Addr) (dd:Nat) (kvs:List (V×V)) (v:V):u=.ref n->σ[n]?=some (.inst C dd)->σ[dd]?=some (.dct kvs)->zP7 name kvs=some v->v.plain=true->Fld w C name->K v σ->AttrO w name K u σ
inductive MethO (w:World) (name:Str) (K:Nat->Addr->Sto->Prop) (u:V) (σ:Sto):Prop
 | mk (n:Nat) (C:Addr) (dd:Nat) (kvs:List (V×V)) (f:Addr):u=.ref n->σ[n]?=some (.inst C dd)->σ[dd]?=some (.dct kvs)->zM7 kvs=true->zP7 name kvs=none->Mth w C name f->K n f σ->MethO w name K u σ
inductive KeepO (w:World) (K:Value->Sto->Prop) (u:V) (σ:Sto):Prop
 | mk (fv:Value):u=.con fv->keepIn (KK w) fv=true->K fv σ->KeepO w K u σ
theorem gH {o:Expr} {name:Str} {pos:Pos} {P:V->Sto->Prop} (B:Bs w h₀)
  (h:Ev w h₀ d sc o ρ σ (AttrO w name P))
  (he:∀ env,eval (.Attribute o name pos) env=(do
   let o' <-eval o env
   standAt pos.atName
   let r <-holding [o'] (getAttr o' name true)
   letTemporaryGo o o' r
   pure r):=by intro; rfl):Ev w h₀ d sc (.Attribute o name pos) ρ σ P:=
 fun A env s ι hA hs F S E=>Attribute_any_ ((h A env s ι hA hs F S).seq fun c s₁ ι₁ u σ₁ st S₁ r ⟨n,C,dd,kvs,v,hu,hi,hd,hv,hp,hf,p⟩=>by
  subst hu
  cases r using VR.refE with
  | ref ha=>exact (Ga (A:=A) (b:=true) B S₁ hi hd ha hf hv hp p).up st) (he env)
theorem Sa {A:Around} {s:Shared} {ι:List Addr} {n dd:Nat} {C:Addr} {kvs:List (V×V)} {a:Addr} {name:Str} {v:V} {c:Value} {P:Sto->Prop} (B:Bs w h₀) (S:Sim w h₀ s.heap ι σ) (hi:σ[n]?=some (.inst C dd)) (hd:σ[dd]?=some (.dct kvs)) (ha:ι[n]?=some a)
  (hf:Sets w C name) (hk:zM7 kvs=true) (hz:kvs.length<=100) (r:VR s.heap ι v c) (h:P (σ.set dd (.dct (putV name v kvs)))):Do w h₀ A (setAttr (.ref a) name c) UnR s ι (fun oo1=>P):=fun E=>by
 obtain ⟨dx,es,k,hdx,he,hr,hn,ho,I⟩:=zU4 S hi hd ha
 have X:=B.KIn S
 have X':(KK w).In ({ s with toks:=s.toks+1 }:Shared).heap:=X
 refine set_plain X I hf.set (osa_open (s:={ s with toks:=s.toks+1 }) X' I hf.over hf.taker fun b=>?_)
 obtain ⟨cd,hc,hd'⟩:=any_some hf.dict
 have ha0:=I.at_
 refine wpAny_bind (wpAny_pure (wpAny_bind (wpAny_bind (wpAny_loadPart ha0 (wpAny_bind ((looks_clsIn X' hc).here ?_))))))
 rw [hd']
 refine wpAny_pure (a:=some dx) (wpAny_bind (wpAny_pure (wpAny_bind ?_)))
 unfold nsSet
 refine wpAny_bind (wpAny_bind (wpAny_askSetting (wpAny_pure (wpAny_bind (wpAny_mkText (wpAny_bind (wpAny_loadPart he ?_)))))))
 dsimp only
 have c0:(!es.toArray.any (·.key.isStr name) && es.toArray.any (·.refKey))=false:=by
  rw [<-Array.any_toList,<-Array.any_toList]
  rw [show es.toArray.toList=es from rfl,hr.noRef hk,Bool.and_false]
 rw [aRefKeyMayBeTheName_at,c0]
 have he2:(s.heap.update dx (Obj.putName name (PyData.keyHash w.params name) (.str name (s.toks+1)) c)).get? dx=some (dictOf (putL name (PyData.keyHash w.params name) (.str name (s.toks+1)) c es) (putN name es k)):=by
  rw [wK _ he (by rw [putName_dict];rfl),putName_dict]
 refine wpAny_updatePart he ?_
 refine wpAny_bind (wpAny_lookBehind (s:={ heap:=s.heap.update dx (Obj.putName name (PyData.keyHash w.params name) (.str name (s.toks+1)) c),gens:=s.gens,drawn:=s.drawn,toks:=s.toks+1+1,os:=s.os }) he2 (pastItsLine_dict ?_) ?_)
 ·have h1:=(hr.putL (name:=name) (t:=s.toks+1) r).length
  have h2:=@putV_len name v kvs
  rw [qT,sizeLine_eq];lia
 ·refine wpAny_pure ?_
  have hs:Heap.SameBut dx s.heap (s.heap.update dx (Obj.putName name (PyData.keyHash w.params name) (.str name (s.toks+1)) c)):=Heap.SameBut.update ..
  refine ⟨ι,(),_,.same (zI hdx) hs rfl rfl,S.update (o':=.dct (putV name v kvs)) hdx hs fun tk=>⟨_,_,he2,?_,jL6 hn⟩,trivial,h⟩
  exact (hr.putL r).mono tk fun oo1 oo2 e=>e
inductive SetO (w:World) (name:Str) (v:V) (P:Sto->Prop) (u:V) (σ:Sto):Prop
 | mk (n:Nat) (C:Addr) (dd:Nat) (kvs:List (V×V)):u=.ref n->σ[n]?=some (.inst C dd)->σ[dd]?=some (.dct kvs)->Sets w C name->zM7 kvs=true->kvs.length<=100->P (σ.set dd (.dct (putV name v kvs)))->SetO w name v P u σ
theorem jD5 {o:Expr} {name:Str} {pos:Pos} {v:V} {P:Lc->Sto->Prop} (B:Bs w h₀)
  (h:Ev w h₀ d sc o ρ σ (SetO w name v (P ρ))):As w h₀ d sc (.Attribute o name pos) v ρ σ P:=
 fun A env s ι c hA hs F S r E=>by
  show wpAny _ A (do
   let ov <-holding [c] (eval o env)
   standAt pos.atName
   holding [c,ov] (setAttr ov name c)
   release [c,ov] []) _ E s
  refine wpAny_bind (wpAny_holding ((h A env s ι hA hs F S).seq fun co s₁ ι₁ u σ₁ st S₁ ru ⟨n,C,dd,kvs,hu,hi,hd,hf,hk,hz,p⟩=>wpAny_bind (wpAny_standAt (wpAny_bind (wpAny_holding ?_)))))
  subst hu
  cases ru using VR.refE with
  | ref ha=>
   refine (Sa (A:=A) B S₁ hi hd ha hf hk hz (r.stp st S) p).seq fun oo1 s₂ ι₂ oo2 σ₂ st₂ S₂ oo3 p₂=>?_
   refine fun Γ q hΓ=>?_
   rw [show (release [c,Value.ref _] [])=release.go [] ([c,Value.ref _].filter fun | .ref _=>true | _=>false) from rfl,Sem.wp_release_go]
   exact ⟨ι₂,(),ρ,σ₂,(st.trans st₂).of_no,F.stp (st.trans st₂) S,S₂,trivial,p₂⟩
theorem zA1 {x:Str} {pos:Pos} {v:Value} {P:V->Sto->Prop} (B:Bs w h₀) (hx:sc.names.lookup x=some .globalImplicit) (hg:nsIn (KK w) mainGlobals x=some (some v)) (h:P (.con v) σ)
  (hd:(x == ("__debug__":Str))=false:=by rfl):Ev w h₀ d sc (.Name x pos) ρ σ P:=fun A env s ι oo1 hs F S E=>by
 obtain ⟨mg,mb,mean,T⟩:=B.top
 refine Name_function_global F.kind (by show env.scope.names.lookup x=_;rw [hs];exact hx) (loadGlobal_global (mg:=mg) ?_ (mg_of B.K T.g hg) (Do.same S (.con _) h)) hd
 rw [F.globals];exact T.g.keeps S.keep
theorem zZ1 {x:Str} {pos:Pos} {i:Int} {t:Tok} {P:V->Sto->Prop} (B:Bs w h₀) (hx:sc.names.lookup x=some .globalImplicit) (hg:nsIn (KK w) mainGlobals x=some (some (.int i t))) (h:P (.int i) σ)
  (hd:(x == ("__debug__":Str))=false:=by rfl):Ev w h₀ d sc (.Name x pos) ρ σ P:=fun A env s ι oo1 hs F S E=>by
 obtain ⟨mg,mb,mean,T⟩:=B.top
 refine Name_function_global F.kind (by show env.scope.names.lookup x=_;rw [hs];exact hx) (loadGlobal_global (mg:=mg) ?_ (mg_of B.K T.g hg) (Do.same S (.int _ _) h)) hd
 rw [F.globals];exact T.g.keeps S.keep
theorem gW {x:Str} {pos:Pos} {v:Value} {P:V->Sto->Prop} (B:Bs w h₀) (hx:sc.names.lookup x=some .globalImplicit) (hg:nsIn (KK w) mainGlobals x=some none) (hv:bootBuiltins x=some v) (hn:x≠"__name__") (h:P (.con v) σ)
  (hd:(x == ("__debug__":Str))=false:=by rfl):Ev w h₀ d sc (.Name x pos) ρ σ P:=fun A env s ι oo1 hs F S E=>by
 obtain ⟨mg,mb,mean,T⟩:=B.top
 refine Name_function_global F.kind (by show env.scope.names.lookup x=_;rw [hs];exact hx) (loadGlobal_builtin (mg:=mg) (mb:=mb) ?_ (mg_none_of B.K T.g hg) ?_ ((T.builtins x hn).trans hv) (Do.same S (.con _) h)) hd
 ·rw [F.globals];exact T.g.keeps S.keep
 ·rw [F.builtins];exact T.b.keeps S.keep
theorem zB8 {f:Expr} {e:Expr} {args:List Expr} {pos:Pos} {P:V->Sto->Prop} (B:Bs w h₀)
  (h:Ev w h₀ d sc f ρ σ (KeepO w fun fv σ₁=>Evs w h₀ d sc (e::args) ρ σ₁ (Cl w h₀ d fv · · P)))
  (he:∀ env,eval (.Call f (e::args) [] pos) env=(do callWith pos (<-eval f env) [] (backTo pos (starEach (e::args) env)) (backToKw pos (keywordEach [] env))):=by intro; rfl)
  (hs1:∀ env,starEach (e::args) env=(false,eval e env)::starEach args env:=by intro; rfl) (hs2:∀ env pos,(backTo pos (starEach args env)).any (·.1)=false:=by intros; rfl) :
  Ev w h₀ d sc (.Call f (e::args) [] pos) ρ σ P:=fun A env s ι hA hs F S E=>Call_ ((h A env s ι hA hs F S).seq fun c s₁ ι₁ u σ₁ st S₁ r ⟨fv,hu,hk,p⟩=>by
  subst hu
  cases r using VR.conE
  refine callWith_K B.K hk (((p A env s₁ ι₁ pos hA hs (F.stp st S) S₁).seq fun cs s₂ ι₂ vs σ₂ st₂ S₂ r₂ p₂=>⟨B.KIn S₂,?_⟩)) (hs1 env) (hs2 env pos)
  exact (p₂ A s₂ ι₂ cs hA S₂ r₂).up (st.trans st₂)) (he env)
theorem zY8 {f:Expr} {pos:Pos} {P:V->Sto->Prop} (B:Bs w h₀)
  (h:Ev w h₀ d sc f ρ σ (KeepO w fun fv σ₁=>Cl w h₀ d fv [] σ₁ P))
  (he:∀ env,eval (.Call f [] [] pos) env=(do callWith pos (<-eval f env) [] (backTo pos (starEach [] env)) (backToKw pos (keywordEach [] env))):=by intro; rfl) :
  Ev w h₀ d sc (.Call f [] [] pos) ρ σ P:=fun A env s ι hA hs F S E=>Call_ ((h A env s ι hA hs F S).seq fun c s₁ ι₁ u σ₁ st S₁ r ⟨fv,hu,hk,p⟩=>by
  subst hu
  cases r using VR.conE
  exact callWith_K0 (B.KIn S₁) hk ((p A s₁ ι₁ [] hA S₁ .nil).up st)) (he env)
theorem gO {o:Expr} {name:Str} {e:Expr} {args:List Expr} {apos pos:Pos} {pl:Env->Sem Bool} {P:V->Sto->Prop} (B:Bs w h₀)
  (h:Ev w h₀ d sc o ρ σ (MethO w name fun n f σ₁=>Evs w h₀ d sc (e::args) ρ σ₁ fun vs σ₂=>Cl w h₀ d (.ref f) (.ref n::vs) σ₂ P))
  (he:∀ env,eval (.Call (.Attribute o name apos) (e::args) [] pos) env=(do
   let ov <-eval o env
   standAt apos.atName
   let (f,first) <-holding [ov] (getMethod ov name (pl env))
   callWith pos f first (backTo pos (starEach (e::args) env)) []):=by intro; rfl)
  (hs1:∀ env,starEach (e::args) env=(false,eval e env)::starEach args env:=by intro; rfl) (hs2:∀ env pos,(backTo pos (starEach args env)).any (·.1)=false:=by intros; rfl) :
  Ev w h₀ d sc (.Call (.Attribute o name apos) (e::args) [] pos) ρ σ P:=fun A env s ι hA hs F S E=>MethodCall_ (pl:=pl env) ((h A env s ι hA hs F S).seq fun c s₁ ι₁ u σ₁ st S₁ r ⟨n,C,dd,kvs,f,hu,hi,hd,hk,ha,hm,p⟩=>by
  subst hu
  cases r using VR.refE with
  | ref hx=>
   obtain ⟨dx,es,k,hdx,hes,hr,_,ho,I⟩:=zU4 S₁ hi hd hx
   refine method_fn (B.KIn S₁) I (plainGet_of hm.get).1 (plainGet_of hm.get).2 hm.find hm.fn (by show (lookIn name (dictOf es k)).map _=_;rw [lookIn_dict,hr.getN hk ha];rfl) ?_
   refine callWith_K B.K hm.keep (((p A env s₁ ι₁ pos hA hs (F.stp st S) S₁).seq fun cs s₂ ι₂ vs σ₂ st₂ S₂ r₂ p₂=>⟨B.KIn S₂,?_⟩)) (hs1 env) (hs2 env pos)
   exact (p₂ A s₂ ι₂ _ hA S₂ (.cons (.ref (st₂.idx _ _ hx)) r₂)).up (st.trans st₂)) (he env)
theorem zJ5 {o:Expr} {name:Str} {apos pos:Pos} {pl:Env->Sem Bool} {P:V->Sto->Prop} (B:Bs w h₀)
  (h:Ev w h₀ d sc o ρ σ (MethO w name fun n f σ₁=>Cl w h₀ d (.ref f) [.ref n] σ₁ P))
  (he:∀ env,eval (.Call (.Attribute o name apos) [] [] pos) env=(do
   let ov <-eval o env
   standAt apos.atName
   let (f,first) <-holding [ov] (getMethod ov name (pl env))
   callWith pos f first (backTo pos (starEach [] env)) []):=by intro; rfl) :
  Ev w h₀ d sc (.Call (.Attribute o name apos) [] [] pos) ρ σ P:=fun A env s ι hA hs F S E=>MethodCall_ (pl:=pl env) ((h A env s ι hA hs F S).seq fun c s₁ ι₁ u σ₁ st S₁ r ⟨n,C,dd,kvs,f,hu,hi,hd,hk,ha,hm,p⟩=>by
  subst hu
  cases r using VR.refE with
  | ref hx=>
   obtain ⟨dx,es,k,hdx,hes,hr,_,ho,I⟩:=zU4 S₁ hi hd hx
   refine method_fn (B.KIn S₁) I (plainGet_of hm.get).1 (plainGet_of hm.get).2 hm.find hm.fn (by show (lookIn name (dictOf es k)).map _=_;rw [lookIn_dict,hr.getN hk ha];rfl) ?_
   exact callWith_K0 (B.KIn S₁) hm.keep ((p A s₁ ι₁ _ hA S₁ (.cons (.ref hx) .nil)).up st)) (he env)
end
noncomputable def zS0 (w:World) (f:Addr):FuncData:=match (Mine.KF w.params).lookup f with
 | some ⟨_,_,.func fd,_⟩=>fd
 | _=>default
noncomputable def getS (w:World) (f:Addr):Scope:=(zS0 w f).scope
noncomputable def getB (w:World) (f:Addr):List Stmt:=match (zS0 w f).body with
 | .stmts b=>b
 | _=>[]
noncomputable def Bad (x:World×Heap):Prop:=∃ (a:Addr) (vs:List Value) (ns:List Int),Bs x.1 x.2/\x.2.IsList a vs.toArray/\IntsAre vs ns/\ns.length<=63/\¬ Exs x.1 x.2 60 (getS x.1 521) (getB x.1 521) [(zA "script",.con (.ref a))] [] (fun fl oo1 oo2=>fl=.ret (.bool true))
theorem jO0:Nonempty (World×Heap):=⟨⟨⟨fun oo1 oo2=>0,{ strHash:=fun oo1=>0,shareClass:=fun oo1=>0,mergeTok:=id,idOf:=fun oo1=>0,idOfShared:=fun oo1 oo2=>0,followText:=fun oo1=>false,idOfImm:=fun oo1=>0 }⟩,default⟩⟩
@[irreducible] noncomputable def w:World:=(@Classical.epsilon _ jO0 Bad).1
@[irreducible] noncomputable def h₀:Heap:=(@Classical.epsilon _ jO0 Bad).2
noncomputable def zI7 (h:Heap) (b:Addr):Prop:=∀ vs n,¬ IsT h b vs n
noncomputable def Sub (ρ' ρ:Lc):Prop:=∀ x v,ρ'.lookup x=some v->ρ.lookup x=some v
theorem Sub.refl (ρ:Lc):Sub ρ ρ:=fun oo1 oo2 e=>e
section
variable {d:Nat} {sc:Scope} {ρ:Lc} {σ:Sto} {ι:List Addr}
theorem Sim.off {h h':Heap} {fp:List Addr} (S:Sim w h₀ h ι σ) (hf:∀ b∈fp,b ∉ ι/\h₀.objs.size<=b/\zI7 h b) (hk:∀ b o,b ∉ fp->h.get? b=some o->h'.get? b=some o) (hb:h.objs.size<=h'.objs.size) :
  Sim w h₀ h' ι σ/\gQ h h':=by
 have tk:gQ h h':=fun a vs n e=>hk a _ (fun m=>(hf a m).2.2 vs n e) e
 refine ⟨⟨fun b o e=>hk b o (fun m=>absurd (jC e) (jK (hf b m).2.1)) (S.keep b o e),zB S.big hb,S.len,S.nodup,S.fresh,fun i a o hi ho=>?_⟩,tk⟩
 have z:=S.objs i a o hi ho
 obtain ⟨ob,e,_⟩:=z.get
 exact z.mono tk (fun oo1 oo2 e=>e) ((hk a _ (fun m=>(hf a m).1 (zI hi)) e).trans e.symm)
theorem FR.off {h h':Heap} {fp:List Addr} {env:Env} (F:FR h₀ h ι env ρ) (hf:∀ b∈fp,¬ Own env b) (tk:gQ h h') (hk:∀ b o,b ∉ fp->h.get? b=some o->h'.get? b=some o):FR h₀ h' ι env ρ:=by
 have keep:∀ {b o},h.get? b=some o->Own env b->h'.get? b=some o:=fun e ho=>hk _ _ (fun m=>hf _ m ho) e
 have kc:∀ {x b v},env.cells.lookup x=some b->h.IsCell b v->h'.IsCell b v:=fun hx ⟨o,e,hd⟩=>⟨o,keep e (.inr ⟨_,hx⟩),hd⟩
 obtain ⟨m,hns,hm⟩:=F.ns
 refine ⟨F.kind,F.globals,F.builtins,⟨m,?_,fun x v hx hk=>?_⟩,F.lnew,fun x v hx hk=>?_,F.dom,fun x b hx=>?_,F.apart,F.hasc⟩
 ·obtain ⟨o,es,ep,e,r⟩:=hns
  exact ⟨o,es,ep,keep e (.inl rfl),r⟩
 ·obtain ⟨c,hc,r⟩:=hm x v hx hk
  exact ⟨c,hc,r.mono tk fun oo1 oo2 e=>e⟩
 ·obtain ⟨b,c,h1,h2,r⟩:=F.cel x v hx hk
  exact ⟨b,c,h1,kc h1 h2,r.mono tk fun oo1 oo2 e=>e⟩
 ·obtain ⟨h1,h2,v,hv⟩:=F.cells x b hx
  exact ⟨h1,h2,v,kc hx hv⟩
theorem Stp.or_fresh {Y Z:Addr->Prop} {s s':Shared} {ι ι':List Addr} (a:Stp (fun x=>Y x∨Z x) s s' ι ι') (h:∀ x,Z x->s.heap.objs.size<=x):Stp Y s s' ι ι':=
 ⟨a.ext,fun x o e hi hy=>a.keep x o e hi fun hx=>hx.elim hy fun hz=>absurd (jC e) (jK (h x hz)),a.grow,a.gens,a.os⟩
structure Src (w:World) (h₀:Heap) (A:Around) (tg:Expr) (it:Addr) (fp:List Addr) (l:List V) (Ok:Sto->Prop) (St:Nat->Heap->List Addr->Prop):Prop where
 frame:∀ i h h' ι ι',St i h ι->(∀ b∈fp,∀ o,h.get? b=some o->h'.get? b=some o)->gQ h h'->(∀ (n:Nat) (a:Addr),ι[n]?=some a->ι'[n]?=some a)->St i h' ι'
 item:∀ (i:Nat) (v:V) (s:Shared) (ι:List Addr) (σ:Sto) (Q:Value->Shared->Prop) (E E':Value->Shared->Prop),l[i]?=some v->St i s.heap ι->Sim w h₀ s.heap ι σ->Ok σ->
  (∀ c h' tk,(gQ s.heap h'->VR h' ι v c)->(gQ s.heap h'->St (i+1) h' ι)->(∀ b o,b ∉ fp->s.heap.get? b=some o->h'.get? b=some o)->s.heap.objs.size<=h'.objs.size->(∀ b∈fp,∃ o,h'.get? b=some o/\∀ vs n,o.data≠.seq vs n)->Q c { s with heap:=h',toks:=tk })->
  wpAny (model PG w) A (pyNext (.ref it)) (fun r s'=>match r with | none=>False | some c=>wpAny (model PG w) A (letOwnedTupleGo tg (.ref it) c) (fun oo1 s''=>Q c s'') E' s') E s
 done:∀ (s:Shared) (ι:List Addr) (σ:Sto) (Q:Shared->Prop) (E:Value->Shared->Prop),St l.length s.heap ι->Sim w h₀ s.heap ι σ->Ok σ->
  (∀ h' tk,(∀ b o,b ∉ fp->s.heap.get? b=some o->h'.get? b=some o)->s.heap.objs.size<=h'.objs.size->Q { s with heap:=h',toks:=tk })->
  wpAny (model PG w) A (pyNext (.ref it)) (fun r s'=>match r with | none=>Q s' | some _=>False) E s
 self:∀ (i:Nat) (s:Shared) (ι:List Addr) (Q:Value->Shared->Prop) (E:Value->Shared->Prop),St i s.heap ι->Q (.ref it) s->wpAny (model PG w) A (pyIter (.ref it)) Q E s
noncomputable def Iter (w:World) (h₀:Heap) (d:Nat) (tg:Expr) (v:V) (l:List V) (Ok:Sto->Prop) (σ:Sto):Prop:=
 ∀ (A:Around) (s:Shared) (ι:List Addr) (c:Value) (Q:Value->Shared->Prop) (E:Value->Shared->Prop),Room A d->Sim w h₀ s.heap ι σ->VR s.heap ι v c->
  (∀ it fp St h' tk,(∀ b o,s.heap.get? b=some o->h'.get? b=some o)->s.heap.objs.size<=h'.objs.size->(∀ b∈fp,s.heap.objs.size<=b/\∃ o,h'.get? b=some o/\∀ vs n,o.data≠.seq vs n)->St 0 h' ι->
   (∀ A':Around,A'.handled=none->Src w h₀ A' tg it fp l Ok St)->Q (.ref it) { s with heap:=h',toks:=tk })->wpAny (model PG w) A (pyIter c) Q E s
theorem jA5 {h:Heap} {b:Addr} (x:∃ o,h.get? b=some o/\∀ vs n,o.data≠.seq vs n):zI7 h b:=fun vs n e=>by
 obtain ⟨o,e',hn⟩:=x
 rw [e] at e';cases e'
 exact hn vs n rfl
noncomputable def Its (w:World) (h₀:Heap) (d:Nat) (sc:Scope) (tg iter:Expr) (ρ:Lc) (σ:Sto) (P:List V->(Sto->Prop)->Sto->Prop):Prop:=
 ∀ (A:Around) (env:Env) (s:Shared) (ι:List Addr) (Q:Value->Shared->Prop) (E:Value->Shared->Prop),Room A d->env.scope=sc->FR h₀ s.heap ι env ρ->Sim w h₀ s.heap ι σ->
  (∀ it fp St s' ι' l Ok σ',Stp NoX s s' ι ι'->Sim w h₀ s'.heap ι' σ'->(∀ b∈fp,s.heap.objs.size<=b/\b ∉ ι'/\∃ o,s'.heap.get? b=some o/\∀ vs n,o.data≠.seq vs n)->St 0 s'.heap ι'->
   (∀ A':Around,A'.handled=none->Src w h₀ A' tg it fp l Ok St)->P l Ok σ'->Q (.ref it) s')->
  wpAny (model PG w) A (eval iter env) (fun x s₁=>wpAny (model PG w) A (pyIter x) Q E s₁) E s
theorem zB0 {tg iter:Expr} {P:List V->(Sto->Prop)->Sto->Prop} (h:Ev w h₀ d sc iter ρ σ fun v σ₁=>∃ l Ok,Iter w h₀ d tg v l Ok σ₁/\P l Ok σ₁):Its w h₀ d sc tg iter ρ σ P:=
 fun A env s ι Q E hA hs F S hQ=>(h A env s ι hA hs F S).seq fun c s₁ ι₁ v σ₁ st₁ S₁ r₁ ⟨l,Ok,hI,p⟩=>
  hI A s₁ ι₁ c _ _ hA S₁ r₁ fun it fp St h₂ tk₂ hk₂ hb₂ hfp hSt hSrc=>
   hQ it fp St { s₁ with heap:=h₂,toks:=tk₂ } ι₁ l Ok σ₁ (st₁.trans (.more hk₂ hb₂ rfl rfl)) (S₁.mono hk₂ hb₂)
    (fun b hb=>⟨zB st₁.grow (hfp b hb).1,fun m=>absurd (S₁.lt m) (jK (hfp b hb).1),(hfp b hb).2⟩) hSt hSrc p
theorem jP9 {tg t a b:Expr} {pos:Pos} {P:List V->(Sto->Prop)->Sto->Prop} (h:Ts w h₀ d sc t ρ σ fun c σ₁=>if c then Its w h₀ d sc tg a ρ σ₁ P else Its w h₀ d sc tg b ρ σ₁ P):Its w h₀ d sc tg (.IfExp t a b pos) ρ σ P:=
 fun A env s ι Q E hA hs F S hQ=>wpAny_IfExp ((h A env s ι hA hs F S).seq fun c s₁ ι₁ c' σ₁ st₁ S₁ r₁ p=>by
  have F₁:=F.stp st₁ S
  have hQ':∀ it fp St s' ι' l Ok σ',Stp NoX s₁ s' ι₁ ι'->Sim w h₀ s'.heap ι' σ'->(∀ b∈fp,s₁.heap.objs.size<=b/\b ∉ ι'/\∃ o,s'.heap.get? b=some o/\∀ vs n,o.data≠.seq vs n)->St 0 s'.heap ι'->
   (∀ A':Around,A'.handled=none->Src w h₀ A' tg it fp l Ok St)->P l Ok σ'->Q (.ref it) s':=fun it fp St s' ι' l Ok σ' st S' hfp hSt hSrc p=>
    hQ it fp St s' ι' l Ok σ' (st₁.trans st) S' (fun b hb=>⟨zB st₁.grow (hfp b hb).1,(hfp b hb).2⟩) hSt hSrc p
  cases r₁;cases c
  ·exact p A env s₁ ι₁ Q E hA hs F₁ S₁ hQ'
  ·exact p A env s₁ ι₁ Q E hA hs F₁ S₁ hQ')
theorem zW0 {tg iter:Expr} {body:List Stmt} {pos:Pos} {P:Fl->Lc->Sto->Prop}
  (h:Its w h₀ d sc tg iter ρ σ fun l Ok σ₁=>∃ (I:Nat->Lc->Sto->Prop),I 0 ρ σ₁/\(∀ i ρ' σ',I i ρ' σ'->Ok σ')/\
   (∀ i v ρ' σ',l[i]?=some v->I i ρ' σ'->As w h₀ d sc tg v ρ' σ' fun ρ₂ σ₂=>Exs w h₀ d sc body ρ₂ σ₂ fun fl ρ₃ σ₃=>match fl with
    | .next=>∃ ρ₄,Sub ρ₄ ρ₃/\I (i+1) ρ₄ σ₃
    | .cont=>∃ ρ₄,Sub ρ₄ ρ₃/\I (i+1) ρ₄ σ₃
    | .brk=>P .next ρ₃ σ₃
    | .ret v=>P (.ret v) ρ₃ σ₃)/\
   (∀ ρ' σ',I l.length ρ' σ'->P .next ρ' σ'))
  (hs0:∀ env x,foldedSetIterable iter env x=pure x:=by intros; rfl):Ex w h₀ d sc (.For tg iter body [] pos) ρ σ P:=by
 intro A env s ι hA hs F S E
 show wpAny _ A (do
  standAt pos
  let x <-foldedSetIterable iter env (<-eval iter env)
  standAt iter.pos
  runOwn (.forLoop tg (<-holding [x] (pyIter x)) body [] env) env) _ E s
 refine wpAny_bind (wpAny_standAt (wpAny_bind (wpAny_mono (h A env s ι (fun it s'=>wpAny (model PG w) A (runOwn (.forLoop tg it body [] env) env) (DoFO w h₀ env FlR s ι P) E s') E hA hs F S ?_)
  (fun c s₁ h₁=>wpAny_bind (wpAny_of_eq (hs0 env c) (wpAny_bind (wpAny_standAt (wpAny_bind (wpAny_holding h₁)))))) fun oo1 oo2 x=>x)))
 intro it fp St s₂ ι₁ l Ok σ₁ st₂ S₂ hfp hSt hSrc ⟨I,hI0,hOk,turn,fin⟩
 have SR:=hSrc A hA.handled
 have F₂:FR h₀ s₂.heap ι₁ env ρ:=F.stp st₂ S
 have fpS:∀ b∈fp,b ∉ ι₁/\h₀.objs.size<=b/\¬ Own env b:=fun b hb=>
  ⟨(hfp b hb).2.1,zB S.big (hfp b hb).1,fun ho=>absurd (F.own_lt ho) (jK (hfp b hb).1)⟩
 refine wpAny_runOwn (h:=none) (codeAny_forLoop_any
  (fun n s'=>∃ i ρ' σ' ι',i<=l.length/\n=l.length+1 - i/\Stp (fun a=>Own env a∨a∈fp) s₂ s' ι₁ ι'/\FR h₀ s'.heap ι' env ρ'/\Sim w h₀ s'.heap ι' σ'/\St i s'.heap ι'/\
   (∀ b∈fp,b ∉ ι'/\∃ o,s'.heap.get? b=some o/\∀ vs n,o.data≠.seq vs n)/\I i ρ' σ') ?_ (l.length+1)
  ⟨0,ρ,σ₁,ι₁,jO _,rfl,.refl ..,F₂,S₂,hSt,fun b hb=>(hfp b hb).2,hI0⟩)
 rintro n s' ⟨i,ρ',σ',ι',hi,rfl,st',F',S',hSt',hfp',hInv⟩
 have toTop:∀ {s'':Shared} {ι'':List Addr},Stp (fun a=>Own env a∨a∈fp) s₂ s'' ι₁ ι''->Stp (Own env) s s'' ι ι'':=fun z=>
  Stp.or_fresh (Z:=(·∈fp)) ((st₂.of_no).trans z) fun x hx=>(hfp x hx).1
 have hfF:∀ b∈fp,b ∉ ι'/\h₀.objs.size<=b/\zI7 s'.heap b:=fun b hb=>⟨(hfp' b hb).1,(fpS b hb).2.1,jA5 (hfp' b hb).2⟩
 have stOff:∀ {h':Heap} {tk:Nat},(∀ b o,b ∉ fp->s'.heap.get? b=some o->h'.get? b=some o)->s'.heap.objs.size<=h'.objs.size->Stp (fun a=>Own env a∨a∈fp) s' { s' with heap:=h',toks:=tk } ι' ι':=fun hk hb=>
  ⟨⟨[],by simp,by simp⟩,fun a o e oo1 hx=>hk a o (fun m=>hx (.inr m)) e,hb,rfl,rfl⟩
 by_cases hlt:i < l.length
 ·have hv:l[i]?=some l[i]:=zQ hlt
  refine wpAny_mono (SR.item i _ s' ι' σ' (fun c s''=>wpAny (model PG w) (A.mark none) (assign tg env c) (fun oo1 s₂=>wpAny (model PG w) (A.mark none) (execs body env) (fun f s₃=>_) _ s₂) _ s'') _ _ hv hSt' S' (hOk _ _ _ hInv) fun c h₃ tk₃ hvr hst₃ hk₃ hb₃ hfo=>?_)
   (fun r s₃ hr=>by cases r with | none=>exact hr.elim | some c=>exact hr) fun oo1 oo2 x=>x
  obtain ⟨S₃,tk⟩:=S'.off hfF hk₃ hb₃
  have F₃:FR h₀ h₃ ι' env ρ':=F'.off (fun b hb=>(fpS b hb).2.2) tk hk₃
  have st₃:=stOff (tk:=tk₃) hk₃ hb₃
  have hA':Room (A.mark none) d:=⟨hA.depth,hA.units,hA.handled⟩
  refine (turn i _ ρ' σ' hv hInv (A.mark none) env { s' with heap:=h₃,toks:=tk₃ } ι' c hA' hs F₃ S₃ (hvr tk)).seq fun oo1 s₄ ι₄ oo2 ρ₄ σ₄ st₄ F₄ S₄ oo3 p₄=>?_
  refine (p₄ (A.mark none) env s₄ ι₄ hA' hs F₄ S₄).seq fun f s₅ ι₅ fl ρ₅ σ₅ st₅ F₅ S₅ rf p₅=>?_
  have st45:=st₄.trans st₅
  have stAll:Stp (fun a=>Own env a∨a∈fp) s₂ s₅ ι₁ ι₅:=(st'.trans st₃).trans (st45.weak fun oo1 h=>.inl h)
  have keepFp:∀ b∈fp,∀ o,h₃.get? b=some o->s₅.heap.get? b=some o:=fun b hb o e=>st45.keep b o e (hfp' b hb).1 (fpS b hb).2.2
  have next:∀ ρ₆,Sub ρ₆ ρ₅->I (i+1) ρ₆ σ₅->∃ m,m < l.length+1 - i/\∃ i ρ' σ' ι',i<=l.length/\m=l.length+1 - i/\Stp (fun a=>Own env a∨a∈fp) s₂ s₅ ι₁ ι'/\FR h₀ s₅.heap ι' env ρ'/\Sim w h₀ s₅.heap ι' σ'/\St i s₅.heap ι'/\
    (∀ b∈fp,b ∉ ι'/\∃ o,s₅.heap.get? b=some o/\∀ vs n,o.data≠.seq vs n)/\I i ρ' σ':=fun ρ₆ hsub hI'=>
   ⟨l.length+1 - (i+1),less1 hlt,i+1,ρ₆,σ₅,ι₅,hlt,rfl,stAll,F₅.sub hsub,S₅,SR.frame _ _ _ _ _ (hst₃ tk) keepFp (st45.tupO S₃ F₃) st45.idx,fun b hb=>by
    obtain ⟨o,e,hn⟩:=hfo b hb
    refine ⟨fun m=>?_,o,keepFp b hb o e,hn⟩
    obtain ⟨t,rfl,ht⟩:=st45.ext
    rcases jF.mp m with m | m
    ·exact (hfp' b hb).1 m
    ·exact absurd (jC e) (jK (ht b m)),hI'⟩
  cases rf with
  | next=>obtain ⟨ρ₆,h6,h7⟩:=p₅;exact next ρ₆ h6 h7
  | cont=>obtain ⟨ρ₆,h6,h7⟩:=p₅;exact next ρ₆ h6 h7
  | brk=>exact ⟨ι₅,.next,ρ₅,σ₅,toTop stAll,F₅,S₅,.next,p₅⟩
  | ret rv=>exact ⟨ι₅,_,ρ₅,σ₅,toTop stAll,F₅,S₅,.ret rv,p₅⟩
 ·have hin:i=l.length:=by lia
  subst hin
  refine wpAny_mono (SR.done s' ι' σ' _ _ hSt' S' (hOk _ _ _ hInv) fun h₃ tk₃ hk₃ hb₃=>?_) (fun r s₃ hr=>by cases r with | none=>exact hr | some c=>exact hr.elim) fun oo1 oo2 x=>x
  obtain ⟨S₃,tk⟩:=S'.off hfF hk₃ hb₃
  have F₃:FR h₀ h₃ ι' env ρ':=F'.off (fun b hb=>(fpS b hb).2.2) tk hk₃
  exact wpAny_execs_nil ⟨ι',.next,ρ',σ',toTop (st'.trans (stOff (tk:=tk₃) hk₃ hb₃)),F₃,S₃,.next,fin _ _ hInv⟩
end
section
variable {d:Nat} {sc:Scope} {ρ:Lc} {σ:Sto} {ι:List Addr}
theorem zP9 {A:Around} {s:Shared} {it:Addr} {o:Obj} {T:String} {tg:Expr} {c:Value} {Q:Unit->Shared->Prop} {E:Value->Shared->Prop} (e:s.heap.get? it=some o) (hc:o.cls=.type T)
  (hT:["enumerate","zip","dict_itemiterator","dict_reverseitemiterator","odict_iterator","itertools.zip_longest","itertools.pairwise"].contains T=false) (h:Q () s):wpAny (model PG w) A (letOwnedTupleGo tg (.ref it) c) Q E s:=by
 have body:∀ (x:Value),wpAny (model PG w) A (do
   let (.ref r,.ref a):=((Value.ref it,x):Value×Value) | return
   let o <-load r
   match o.cls,o.data with
   | .type n,.fields vs=>
    if ["enumerate","zip","dict_itemiterator","dict_reverseitemiterator","odict_iterator","itertools.zip_longest","itertools.pairwise"].contains n && vs[0]? == some (rawInt a) then
     rule "for.unpacks-the-owned-tuple"
     updateField r 0 .none
   | _,_=>pure ()) Q E s:=by
  intro x
  cases x <;> try exact wpAny_pure h
  refine wpAny_bind (wpAny_load e ?_)
  rw [hc]
  cases o.data <;> try exact wpAny_pure h
  dsimp only
  rw [hT,Bool.false_and]
  exact wpAny_pure h
 cases tg <;> first | exact wpAny_pure h | exact body c
theorem zH9 {tg:Expr} {l:List V}:Iter w h₀ d tg (.tup l) l (fun oo1=>True) σ:=by
 intro A s ι c Q E hA S r hQ
 cases r using VR.tupE with
 | tup ht hv=>
  rename_i t vs n
  refine wpAny_pyIter_tuple ⟨_,ht,rfl,n,rfl⟩ ?_
  have hne:t≠s.heap.objs.size:=jP (jC ht)
  refine hQ s.heap.objs.size [s.heap.objs.size] (fun i h ι'=>h.IsTupleIter s.heap.objs.size t i/\IsT h t vs n/\VRs h ι' l vs.toList) _ s.toks (fun oo1 oo2 e=>zF _ e) (by rw [qA];lia)
   (fun b hb=>?_) ⟨⟨_,zT _ rfl,rfl,rfl⟩,zF _ ht,hv.mono (gQ.push _ _) fun oo1 oo2 e=>e⟩ fun A' hA'=>⟨?_,?_,?_,?_⟩
  ·rw [zM.mp hb]
   exact ⟨zK _,_,zT _ rfl,fun oo1 oo2 q=>by cases q⟩
  ·rintro i h h' ι ι' ⟨⟨o,e,h1,h2⟩,h3,h4⟩ hk tk hi
   exact ⟨⟨o,hk _ (by simp) o e,h1,h2⟩,tk _ _ _ h3,h4.mono tk hi⟩
  ·rintro i v s' ι' σ' Q' E1 E2 hv' ⟨hit,ht',hvs⟩ S' - hQ'
   obtain ⟨c,hc,rc⟩:=hvs.get hv'
   refine wpAny_pyNext_tuple_item hit ⟨_,ht',rfl,n,rfl⟩ (x:=c) (by rw [<-zW];exact hc) fun h' hit' hs'=>?_
   obtain ⟨o,e,h1,h2⟩:=id hit'
   refine zP9 (s:={ s' with heap:=h' }) e h1 (by decide) (hQ' c h' s'.toks (fun tk=>rc.mono tk fun oo1 oo2 e=>e) (fun tk=>⟨hit',tk _ _ _ ht',hvs.mono tk fun oo1 oo2 e=>e⟩) (fun b o hb e=>(hs'.2 b fun q=>hb (by simp [q])).trans e) (jU hs'.1.symm) fun b hb=>?_)
   rw [zM.mp hb]
   exact ⟨o,e,fun oo1 oo2 q=>by rw [h2] at q;cases q⟩
  ·rintro s' ι' σ' Q' E1 ⟨hit,ht',hvs⟩ S' - hQ'
   have hl:=hvs.length
   refine zB7 (wpAny_pyNext_tuple_end hA' hit ⟨_,ht',rfl,n,rfl⟩ (by rw [<-zW,hl];simp) fun h' he' hz=>?_)
   exact hQ' h' s'.toks (fun b o hb e=>he' b o (fun q=>hb (by simp [q])) e) hz
  ·rintro i s' ι' Q' E1 ⟨hit,_⟩ hq
   exact wpAny_pyIter_tupleiter hit hq
theorem gZ {tg:Expr} {l:List V} {n:Nat} (hn:σ[n]?=some (.lst l)):Iter w h₀ d tg (.ref n) l (fun σ'=>σ'[n]?=some (.lst l)) σ:=by
 intro A s ι c Q E hA S r hQ
 cases r using VR.refE with
 | ref ha=>
  rename_i a
  obtain ⟨vs,k,hl,hv⟩:=S.objs n a _ ha hn
  refine wpAny_pyIter_list ⟨_,hl,rfl,k,rfl⟩ ?_
  refine hQ s.heap.objs.size [s.heap.objs.size] (fun i h ι'=>h.IsListIter s.heap.objs.size a i/\ι'[n]?=some a) _ s.toks (fun oo1 oo2 e=>zF _ e) (by rw [qA];lia)
   (fun b hb=>?_) ⟨⟨_,zT _ rfl,rfl,rfl⟩,ha⟩ fun A' hA'=>⟨?_,?_,?_,?_⟩
  ·rw [zM.mp hb]
   exact ⟨zK _,_,zT _ rfl,fun oo1 oo2 q=>by cases q⟩
  ·rintro i h h' ι ι' ⟨⟨o,e,h1,h2⟩,h3⟩ hk tk hi
   exact ⟨⟨o,hk _ (by simp) o e,h1,h2⟩,hi _ _ h3⟩
  ·rintro i v s' ι' σ' Q' E1 E2 hv' ⟨hit,ha'⟩ S' hok hQ'
   obtain ⟨vs',k',hl',hvs⟩:=S'.objs n a _ ha' hok
   obtain ⟨c,hc,rc⟩:=hvs.get hv'
   refine wpAny_pyNext_list_item hit ⟨_,hl',rfl,k',rfl⟩ (x:=c) (by rw [<-zW];exact hc) fun h' hit' hs'=>?_
   obtain ⟨o,e,h1,h2⟩:=id hit'
   refine zP9 (s:={ s' with heap:=h' }) e h1 (by decide) (hQ' c h' s'.toks (fun tk=>rc.mono tk fun oo1 oo2 e=>e) (fun tk=>⟨hit',ha'⟩) (fun b o hb e=>(hs'.2 b fun q=>hb (by simp [q])).trans e) (jU hs'.1.symm) fun b hb=>?_)
   rw [zM.mp hb]
   exact ⟨o,e,fun oo1 oo2 q=>by rw [h2] at q;cases q⟩
  ·rintro s' ι' σ' Q' E1 ⟨hit,ha'⟩ S' hok hQ'
   obtain ⟨vs',k',hl',hvs⟩:=S'.objs n a _ ha' hok
   have hlen:=hvs.length
   refine zB7 (wpAny_pyNext_list_end hA' hit ⟨_,hl',rfl,k',rfl⟩ (by rw [<-zW,hlen];simp) fun h' he' hz=>?_)
   exact hQ' h' s'.toks (fun b o hb e=>he' b o (fun q=>hb (by simp [q])) e) hz
  ·rintro i s' ι' Q' E1 ⟨hit,_⟩ hq
   exact wpAny_pyIter_listiter hit hq
end
noncomputable def relab (scope sc:Scope):Scope:=
 { scope with names:=scope.names.map fun (n,k)=>if (k == .free && sc.kind == .function && sc.names.lookup n == some .cell) then (n,.cell) else (n,k) }
noncomputable def seen (scope sc:Scope) (ρ:Lc):Lc:=ρ.filter fun p=>(relab scope sc).names.lookup p.1 == some .cell
theorem zS9 {scope sc:Scope} {x:Str} {v:V} {ρ:Lc} (e:(seen scope sc ρ).lookup x=some v):ρ.lookup x=some v/\(relab scope sc).names.lookup x=some .cell:=by
 induction ρ with
 | nil=>exact nomatch e
 | cons p r ih=>
  unfold seen at e
  rw [xU] at e
  rw [zX]
  cases q:(relab scope sc).names.lookup p.1 == some .cell with
  | true=>
   rw [q,if_pos rfl,zX] at e
   cases h:x == p.1 with
   | true=>rw [h] at e;rw [eq_of_beq h];exact ⟨e,eq_of_beq q⟩
   | false=>rw [h] at e;exact ih e
  | false=>
   rw [q,if_neg qW] at e
   have z:=ih e
   cases h:x == p.1 with
   | true=>rw [<-eq_of_beq h,z.2] at q;cases q
   | false=>exact z
section
variable {d:Nat} {sc:Scope} {ρ:Lc} {σ:Sto} {ι:List Addr}
theorem jK7 {env:Env} (f:Str×NameKind->List (Str×Addr)->Sem (ForInStep (List (Str×Addr))))
  (hf:∀ n k r,f (n,k) r=if (k == .free)=true then (do let c <-cellOf env n;pure (.yield ((n,c)::r))) else pure (.yield r)) (names:List (Str×NameKind)) :
  ∀ (acc:List (Str×Addr)),(∀ p∈names,p.2=.free->(env.cells.lookup p.1).isSome=true)->
   ∃ cl,forIn names acc f=pure cl/\(∀ x a,cl.lookup x=some a->acc.lookup x=some a∨env.cells.lookup x=some a)/\(∀ p∈names,p.2=.free->(cl.lookup p.1).isSome=true)/\(∀ x,(acc.lookup x).isSome=true->(cl.lookup x).isSome=true):=by
 induction names with
 | nil=>exact fun acc oo1=>⟨acc,rfl,fun oo1 oo2 e=>.inl e,fun oo1 h=>(nomatch h),fun oo1 h=>h⟩
 | cons nk r ih=>
  intro acc h
  have hr:∀ p∈r,p.2=.free->(env.cells.lookup p.1).isSome=true:=fun p hp=>h p (zY _ hp)
  rw [List.forIn_cons,hf]
  by_cases hk:nk.2=.free
  ·obtain ⟨c,hc⟩:=Option.isSome_iff_exists.mp (h nk jA hk)
   obtain ⟨cl,e,h1,h2,h3⟩:=ih ((nk.1,c)::acc) hr
   refine ⟨cl,?_,fun x a hx=>?_,vF.mpr ⟨fun oo1=>h3 nk.1 (by rw [zX,beq_self_eq_true];rfl),h2⟩,fun x hx=>h3 x ?_⟩
   ·rw [hk];unfold cellOf;rw [hc];exact e
   ·rcases h1 x a hx with q | q
    ·rw [zX] at q
     cases hxn:x == nk.1 with
     | true=>rw [hxn] at q;rw [eq_of_beq hxn];cases q;exact .inr hc
     | false=>rw [hxn] at q;exact .inl q
    ·exact .inr q
   ·rw [zX];exact match x == nk.1 with | true=>rfl | false=>hx
  ·obtain ⟨cl,e,h1,h2,h3⟩:=ih acc hr
   refine ⟨cl,?_,h1,vF.mpr ⟨fun q=>absurd q hk,h2⟩,h3⟩
   rw [show (nk.2 == NameKind.free)=false from beq_eq_false_iff_ne.mpr hk];exact e
theorem zO7 {env:Env} {scope:Scope} (h:∀ p∈scope.names,p.2=.free->(env.cells.lookup p.1).isSome=true) :
  ∃ cl,closureFor scope env=pure cl/\(∀ x a,cl.lookup x=some a->env.cells.lookup x=some a)/\(∀ p∈scope.names,p.2=.free->(cl.lookup p.1).isSome=true):=by
 obtain ⟨cl,e,h1,h2,_⟩:=jK7 (env:=env) (fun p cs=>if (p.2 == .free)=true then (do let c <-cellOf env p.1;pure (.yield ((p.1,c)::cs))) else pure (.yield cs)) (fun oo1 oo2 oo3=>rfl) scope.names [] h
 refine ⟨cl,?_,fun x a hx=>(h1 x a hx).elim (fun q=>by simp at q) id,h2⟩
 have z:closureFor scope env=(forIn scope.names ([]:List (Str×Addr)) (fun p cs=>if (p.2 == .free)=true then (do let c <-cellOf env p.1;pure (.yield ((p.1,c)::cs))) else pure (.yield cs))) >>= fun r=>pure r:=rfl
 rw [z,e]
 rfl
noncomputable def AsC (w:World) (h₀:Heap) (d:Nat) (sc:Scope) (t:Expr) (v:V) (ρ:Lc) (σ:Sto) (P:Lc->Sto->Prop):Prop:=
 ∀ (A:Around) (env:Env) (s:Shared) (ι:List Addr) (c:Value) (E:Value->Shared->Prop),Room A d->env.scope=sc->FR h₀ s.heap ι env ρ->Sim w h₀ s.heap ι σ->VR s.heap ι v c->
  wpAny (model PG w) A (assign t env c) (AsO w h₀ (·=env.locals) env s ι P) E s
theorem zA4 {x:Str} {pos:Pos} {v:V} {P:Lc->Sto->Prop} (hk:sc.names.lookup x=some .local) (h:P ((x,v)::ρ) σ):AsC w h₀ d sc (.Name x pos) v ρ σ P:=
 fun A env s ι c E hA hs F S r=>by
  show wpAny _ A (do standAt pos;bindName env x c) _ E s
  exact wpAny_bind (wpAny_standAt (wpAny_bindName (zL7 F S r (by show env.scope.names.lookup x=_;rw [hs];exact hk) h E)))
theorem ltA {h:Heap} {a:Nat} {o:Obj} (e:h.get? a=some o):a < h.objs.size:=jC e
theorem neA {a b:Nat} (h:a≠b):a≠b:=h
theorem FR.ltA {h:Heap} {env:Env} {a:Nat} (F:FR h₀ h ι env ρ) (ho:Own env a):a < h.objs.size:=F.own_lt ho
theorem listNot {h:Heap} {a:Addr} {vs vs':Array Value} {n k:Nat} (e:h.get? a=some { cls:=.type "list",data:=.seq vs k }):¬ IsT h a vs' n:=fun q=>by
 have:=congrArg (Option.map Obj.cls) (e.symm.trans q)
 simp at this
theorem Sim.adopt {h:Heap} (S:Sim w h₀ h ι σ) {D:Addr} {o:O} (hD:D ∉ ι) (hb:h₀.objs.size<=D) (ho:OR w h (ι++[D]) D o):Sim w h₀ h (ι++[D]) (σ++[o]):=by
 refine ⟨S.keep,S.big,by simp [S.len],?_,fun a ha=>?_,fun i a o' hi ho'=>?_⟩
 ·refine vR.mpr ⟨S.nodup,by simp,fun a ha b hb e=>?_⟩
  rw [zM.mp hb] at e
  exact hD (e ▸ ha)
 ·rcases jF.mp ha with h | h
  ·exact S.fresh a h
  ·rw [zM.mp h];exact hb
 ·by_cases hl:i < ι.length
  ·rw [zH hl] at hi
   rw [zH (by rw [<-S.len];exact hl)] at ho'
   exact (S.objs i a o' hi ho').mono (.refl _) zE3 rfl
  ·rw [jB (xT hl)] at hi
   rw [jB (by rw [<-S.len];exact xT hl)] at ho'
   have h0:i - ι.length=0:=by
    have:=(zC.mp hi).1;simp at this;lia
   rw [h0] at hi;rw [<-S.len,h0] at ho'
   simp at hi ho';subst hi ho'
   exact ho
inductive BO (w:World) (h₀:Heap) (J:List V->Sto->Prop) (D:Addr) (s:Shared) (ι:List Addr) (s':Shared):Prop
 | mk (ι':List Addr) (σ':Sto) (acc:List V) (vs:Array Value) (k:Nat):Stp (fun a=>a=D) s s' ι ι'->Sim w h₀ s'.heap ι' σ'->gQ s.heap s'.heap->D ∉ ι'->s'.heap.get? D=some { cls:=.type "list",data:=.seq vs k }->VRs s'.heap ι' acc vs.toList->J acc σ'->BO w h₀ J D s ι s'
inductive CE (w:World) (h₀:Heap) (J:List V->Sto->Prop) (D C:Addr) (X:Addr->Prop) (s:Shared) (ι:List Addr) (s':Shared):Prop
 | mk (ι':List Addr) (σ':Sto) (acc:List V) (vs:Array Value) (k:Nat) (m:Str->Option Value):Stp X s s' ι ι'->Sim w h₀ s'.heap ι' σ'->D ∉ ι'->C ∉ ι'->s'.heap.get? D=some { cls:=.type "list",data:=.seq vs k }->VRs s'.heap ι' acc vs.toList->s'.heap.Ns C m->J acc σ'->CE w h₀ J D C X s ι s'
noncomputable def CX (C D:Addr) (fp:List Addr) (a:Addr):Prop:=a=C∨(a=D∨a∈fp)
inductive CI (w:World) (h₀:Heap) (ce:Env) (ρ:Lc) (D:Addr) (fp:List Addr) (St:Nat->Heap->List Addr->Prop) (I:Nat->List V->Sto->Prop) (N:Nat) (s:Shared) (ι:List Addr) (n:Nat) (s':Shared):Prop
 | mk (i:Nat) (acc:List V) (σ':Sto) (ι':List Addr) (vs:Array Value) (k:Nat):i<=N->n=N+1 - i->Stp (CX ce.locals D fp) s s' ι ι'->FR h₀ s'.heap ι' ce ρ->Sim w h₀ s'.heap ι' σ'->St i s'.heap ι'->
  (∀ b∈fp,b ∉ ι'/\∃ o,s'.heap.get? b=some o/\∀ vs n,o.data≠.seq vs n)->D ∉ ι'->s'.heap.get? D=some { cls:=.type "list",data:=.seq vs k }->VRs s'.heap ι' acc vs.toList->I i acc σ'->CI w h₀ ce ρ D fp St I N s ι n s'
theorem Stp.notin {X:Addr->Prop} {s s':Shared} {ι ι':List Addr} (a:Stp X s s' ι ι') {b:Addr} (h:b ∉ ι) (hb:b < s.heap.objs.size):b ∉ ι':=fun m=>by
 obtain ⟨t,rfl,ht⟩:=a.ext
 exact (jF.mp m).elim h fun m=>absurd hb (jK (ht b m))
theorem Stp.off {X:Addr->Prop} {s:Shared} {h':Heap} {tk:Nat} {fp ι:List Addr} (hk:∀ b o,b ∉ fp->s.heap.get? b=some o->h'.get? b=some o) (hb:s.heap.objs.size<=h'.objs.size) (hX:∀ b∈fp,X b):Stp X s { s with heap:=h',toks:=tk } ι ι:=
 ⟨⟨[],(jI _).symm,fun oo1 h=>nomatch h⟩,fun a o e oo1 hx=>hk a o (fun m=>hx (hX a m)) e,hb,rfl,rfl⟩
theorem jS3 {elt tg iter:Expr} {ifs:List Expr} {scope scC:Scope} {pos:Pos} {ce:Env} {A:Around} {R:Result->Shared->Prop} {it D:Addr} {fp:List Addr} {St:Nat->Heap->List Addr->Prop} {l:List V} {Ok:Sto->Prop} {s s₄:Shared} {n₀:Nat}
  {I:Nat->List V->Sto->Prop} {Bd:Nat->List V->Lc->Sto->Prop} {rest:Sem PySem.Fin} (hA:Room A d)
  (ht:compTurn (.ListComp elt [⟨tg,iter,ifs,0⟩] scope pos) 0 (.ref it) (.ref D) ce=(standAt iter.pos >>= fun oo1=>pyNext (.ref it) >>= fun r=>match r with
   | none=>pure (.done .next)
   | some v=>letOwnedTupleGo tg (.ref it) v >>= fun oo1=>assign tg ce v >>= fun oo1=>rest))
  (hsC:ce.scope=scC) (hown:∀ b x,ce.cells.lookup x=some b->b < n₀) (hDs:n₀<=D) (hDC:D≠ce.locals) (hCs:n₀<=ce.locals) (hdom:∀ x v,ρ.lookup x=some v->ce.kindOf x=some .cell)
  (hfp:∀ b∈fp,n₀<=b/\h₀.objs.size<=b/\b≠D/\b≠ce.locals) (SR:Src w h₀ A tg it fp l Ok St) (hOk:∀ i acc σ',I i acc σ'->Ok σ')
  (turn:∀ i v acc σ',l[i]?=some v->I i acc σ'->AsC w h₀ d scC tg v ρ σ' (Bd i acc))
  (body:∀ i acc ρ₂ σ₂ σ',i < l.length->I i acc σ'->Bd i acc ρ₂ σ₂->∀ (s:Shared) (ι:List Addr) (vs:Array Value) (k:Nat) (Q:PySem.Fin->Shared->Prop) (E:Value->Shared->Prop),FR h₀ s.heap ι ce ρ₂->Sim w h₀ s.heap ι σ₂->D ∉ ι->s.heap.get? D=some { cls:=.type "list",data:=.seq vs k }->VRs s.heap ι acc vs.toList->
   (∀ s',BO w h₀ (I (i+1)) D s ι s'->Q (.again (.compLoop (.ListComp elt [⟨tg,iter,ifs,0⟩] scope pos) 0 (.ref it) (.ref D) ce)) s')->wpAny (model PG w) A rest Q E s)
  (fin:∀ s',CE w h₀ (I l.length) D ce.locals (CX ce.locals D fp) s ι s'->R (.ok .next) s')
  (init:CI w h₀ ce ρ D fp St I l.length s ι (l.length+1) s₄):codeAny (model PG w) A (.compLoop (.ListComp elt [⟨tg,iter,ifs,0⟩] scope pos) 0 (.ref it) (.ref D) ce) R s₄:=by
 refine codeAny_loop rfl (CI w h₀ ce ρ D fp St I l.length s ι) ?_ (l.length+1) init
 rintro n s' ⟨i,acc,σ',ι',vs,k,hi,rfl,st',F',S',hSt',hfp',hDi,hDl,hvs,hInv⟩
 show wpAny _ A ((compTurn (.ListComp elt [⟨tg,iter,ifs,0⟩] scope pos) 0 (.ref it) (.ref D) ce).onRaise (fun x=>do noteFrame x ce;theTreesLotGoes x)) _ _ s'
 refine wpAny_noted ?_
 rw [ht]
 refine wpAny_bind (wpAny_standAt (wpAny_bind ?_))
 have hfF:∀ b∈fp,b ∉ ι'/\h₀.objs.size<=b/\zI7 s'.heap b:=fun b hb=>⟨(hfp' b hb).1,(hfp b hb).2.1,jA5 (hfp' b hb).2⟩
 have hOwnF:∀ b∈fp,¬ Own ce b:=fun b hb ho=>ho.elim (hfp b hb).2.2.2 fun ⟨x,hx⟩=>absurd (hown b x hx) (jK (hfp b hb).1)
 by_cases hlt:i < l.length
 ·refine wpAny_mono (SR.item i _ s' ι' σ' (fun c s''=>wpAny (model PG w) A (assign tg ce c >>= fun oo1=>rest) _ _ s'') _ _ (zQ hlt) hSt' S' (hOk _ _ _ hInv) fun c h₅ tk₅ hvr hst₅ hk₅ hb₅ hfo=>?_)
   (fun r s₃ hr=>by cases r with | none=>exact hr.elim | some c=>exact wpAny_bind hr) fun oo1 oo2 x=>x
  obtain ⟨S₅,tk⟩:=S'.off hfF hk₅ hb₅
  have F₅:=F'.off hOwnF tk hk₅
  have hD₅:=hk₅ D _ (fun m=>(hfp D m).2.2.1 rfl) hDl
  have st₅:Stp (CX ce.locals D fp) s' { s' with heap:=h₅,toks:=tk₅ } ι' ι':=.off hk₅ hb₅ fun b hb=>.inr (.inr hb)
  refine wpAny_bind (wpAny_mono (turn i _ acc σ' (zQ hlt) hInv A ce { s' with heap:=h₅,toks:=tk₅ } ι' c _ hA hsC F₅ S₅ (hvr tk)) (fun oo1 s₆ hh=>?_) fun oo1 oo2 x=>x)
  obtain ⟨ι₆,ρ₆,σ₆,st₆,F₆,S₆,p₆⟩:=hh
  have tk6:=(st₆.weak (Y:=Own ce) fun x hx=>.inl hx).tupO S₅ F₅
  refine body i acc ρ₆ σ₆ σ' hlt hInv p₆ s₆ ι₆ vs k _ _ F₆ S₆ (st₆.notin hDi (jC hD₅)) (st₆.keep D _ hD₅ hDi hDC) ((hvs.mono tk fun oo1 oo2 e=>e).mono tk6 st₆.idx) fun s₈ hb=>?_
  obtain ⟨ι₈,σ₈,acc₈,vs₈,k₈,st₈,S₈,tk8,hDi₈,hD₈,hvs₈,p₈⟩:=hb
  have keep:∀ {b o},h₅.get? b=some o->b ∉ ι'->b≠ce.locals->b≠D->s₈.heap.get? b=some o/\b ∉ ι₈:=fun {b o} e h1 h2 h3=>
   have e6:=st₆.keep b o e h1 h2
   ⟨st₈.keep b o e6 (st₆.notin h1 (jC e)) h3,st₈.notin (st₆.notin h1 (jC e)) (jC e6)⟩
  have tk58:gQ h₅ s₈.heap:=fun a vs n e=>tk8 _ _ _ (tk6 _ _ _ e)
  have idx58:∀ n a,ι'[n]?=some a->ι₈[n]?=some a:=fun n a e=>st₈.idx _ _ (st₆.idx _ _ e)
  have cell:∀ {x a v},ce.cells.lookup x=some a->h₅.IsCell a v->s₈.heap.IsCell a v/\a ∉ ι₈:=fun {x a v} hx ⟨o,e,hd⟩=>
   have z:=hown a x hx
   have y:=keep e (F₅.cells x a hx).1 (jP (zO z hCs)) (jP (zO z hDs))
   ⟨⟨o,y.1,hd⟩,y.2⟩
  have F₈:FR h₀ s₈.heap ι₈ ce ρ:=by
   obtain ⟨m,⟨o,es,ep,e,r⟩,_⟩:=F₆.ns
   refine ⟨F₅.kind,F₅.globals,F₅.builtins,⟨m,⟨o,es,ep,st₈.keep _ _ e F₆.lnew.1 hDC.symm,r⟩,fun x v hx hk=>?_⟩,⟨st₈.notin F₆.lnew.1 (jC e),F₆.lnew.2⟩,fun x v hx hk=>?_,F₅.dom,fun x a hx=>?_,F₅.apart,F₅.hasc⟩
   ·rw [hdom x v hx] at hk;cases hk
   ·obtain ⟨a,c,g1,g2,g3⟩:=F₅.cel x v hx hk
    exact ⟨a,c,g1,(cell g1 g2).1,g3.mono tk58 idx58⟩
   ·obtain ⟨_,h2,v,g⟩:=F₅.cells x a hx
    exact ⟨(cell hx g).2,h2,v,(cell hx g).1⟩
  refine ⟨rfl,l.length+1 - (i+1),less1 hlt,i+1,acc₈,σ₈,ι₈,vs₈,k₈,hlt,rfl,(st'.trans st₅).trans ((st₆.weak fun x hx=>.inl hx).trans (st₈.weak fun x hx=>.inr (.inl hx))),F₈,S₈,SR.frame _ _ _ _ _ (hst₅ tk) (fun b hb o e=>(keep e (hfp' b hb).1 (hfp b hb).2.2.2 (hfp b hb).2.2.1).1) tk58 idx58,fun b hb=>?_,hDi₈,hD₈,hvs₈,p₈⟩
  obtain ⟨o,e,hn⟩:=hfo b hb
  have y:=keep e (hfp' b hb).1 (hfp b hb).2.2.2 (hfp b hb).2.2.1
  exact ⟨y.2,o,y.1,hn⟩
 ·obtain rfl:i=l.length:=by lia
  refine wpAny_mono (SR.done s' ι' σ' _ _ hSt' S' (hOk _ _ _ hInv) fun h₅ tk₅ hk₅ hb₅=>?_) (fun r s₃ hr=>by cases r with | none=>exact wpAny_pure hr | some c=>exact hr.elim) fun oo1 oo2 x=>x
  obtain ⟨S₅,tk⟩:=S'.off hfF hk₅ hb₅
  obtain ⟨m,hm,_⟩:=(F'.off hOwnF tk hk₅).ns
  exact fin _ ⟨ι',σ',acc,vs,k,m,st'.trans (.off hk₅ hb₅ fun b hb=>.inr (.inr hb)),S₅,hDi,F'.lnew.1,hk₅ D _ (fun m=>(hfp D m).2.2.1 rfl) hDl,hvs.mono tk fun oo1 oo2 e=>e,hm,hInv⟩
theorem zR6 {elt tg iter:Expr} {ifs:List Expr} {scope:Scope} {pos:Pos} {env:Env} {A:Around} {E:Value->Shared->Prop} {use:Option (Value->Sem Unit)} {Q:Value->Shared->Prop} {cl:List (Str×Addr)} {it:Addr} {fp:List Addr} {St:Nat->Heap->List Addr->Prop} {l:List V} {Ok:Sto->Prop} {s s₂:Shared} {ι₁:List Addr} {σ₁:Sto}
  {I:Nat->List V->Sto->Prop} {Bd:Nat->List V->Lc->Sto->Prop} {rest:Addr->Env->Sem PySem.Fin} (hA:Room A d) (hs:env.scope=sc) (F:FR h₀ s.heap ι env ρ) (S:Sim w h₀ s.heap ι σ)
  (hkind:scope.kind=.function) (hcell:∀ x∈scope.names,x.2≠.cell) (hcl1:∀ x a,cl.lookup x=some a->env.cells.lookup x=some a) (hcl2:∀ p∈scope.names,p.2=.free->(cl.lookup p.1).isSome=true)
  (st₂:Stp NoX s s₂ ι ι₁) (S₂:Sim w h₀ s₂.heap ι₁ σ₁) (hfp:∀ b∈fp,s.heap.objs.size<=b/\b ∉ ι₁/\∃ o,s₂.heap.get? b=some o/\∀ vs n,o.data≠.seq vs n) (hSt:St 0 s₂.heap ι₁) (SR:Src w h₀ A tg it fp l Ok St)
  (ht:∀ D ce,compTurn (.ListComp elt [⟨tg,iter,ifs,0⟩] scope pos) 0 (.ref it) (.ref D) ce=(standAt iter.pos >>= fun oo1=>pyNext (.ref it) >>= fun r=>match r with
   | none=>pure (.done .next)
   | some v=>letOwnedTupleGo tg (.ref it) v >>= fun oo1=>assign tg ce v >>= fun oo1=>rest D ce))
  (hI0:I 0 [] σ₁) (hOk:∀ i acc σ',I i acc σ'->Ok σ')
  (turn:∀ i v acc σ',l[i]?=some v->I i acc σ'->AsC w h₀ d (relab scope sc) tg v (seen scope sc ρ) σ' (Bd i acc))
  (body:∀ i acc ρ₂ σ₂ σ',i < l.length->I i acc σ'->Bd i acc ρ₂ σ₂->∀ (D:Addr) (ce:Env),ce.scope=relab scope sc->h₀.objs.size<=D->∀ (s:Shared) (ι:List Addr) (vs:Array Value) (k:Nat) (Q:PySem.Fin->Shared->Prop) (E:Value->Shared->Prop),FR h₀ s.heap ι ce ρ₂->Sim w h₀ s.heap ι σ₂->D ∉ ι->s.heap.get? D=some { cls:=.type "list",data:=.seq vs k }->VRs s.heap ι acc vs.toList->
   (∀ s',BO w h₀ (I (i+1)) D s ι s'->Q (.again (.compLoop (.ListComp elt [⟨tg,iter,ifs,0⟩] scope pos) 0 (.ref it) (.ref D) ce)) s')->wpAny (model PG w) A (rest D ce) Q E s)
  (fin:∀ C D s',s.heap.objs.size<=C->s.heap.objs.size<=D->D≠C->CE w h₀ (I l.length) D C NoX s ι s'->compPost (model PG w) A E use Q (.ref D) C (.ok .next) s') :
  wpAny (model PG w) A (newList []) (fun acc s₃=>wpAny (model PG w) A (newFunctionEnv scope env.globals cl [] env.qual none .none (some env)) (fun cenv s₄=>
   codeAny (model PG w) A (.compStart (.ListComp elt [⟨tg,iter,ifs,0⟩] scope pos) 0 (.ref it) acc { cenv with scope:=relabel scope env }) (compPost (model PG w) A E use Q acc cenv.locals) s₄) E s₃) E s₂:=by
 refine wpAny_newObj_type (wpAny_newFunctionEnv hcell (fun y hy=>nomatch hy) (fun h₄ hns₄ hsb₄=>?_) hkind)
 dsimp only at hns₄ hsb₄ ⊢
 obtain ⟨D,hD⟩:∃ D,s₂.heap.objs.size=D:=⟨_,rfl⟩
 rw [hD]
 generalize hH3:s₂.heap.push { cls:=.type "list",dict:=none,data:=.seq ([]:List Value).toArray }=H3 at hns₄ hsb₄ ⊢
 have hC:H3.objs.size=D+1:=by rw [<-hH3,qA,hD]
 obtain ⟨C,hCC⟩:∃ C,H3.objs.size=C:=⟨_,rfl⟩
 rw [hCC] at hC hns₄ hsb₄ ⊢
 have hDC:D≠C:=jP (hC ▸ yH D)
 have old₄:∀ b o,s₂.heap.get? b=some o->h₄.get? b=some o:=fun b o e=>by
  have:=Mine.ltA e
  exact hsb₄.extBut b o (neA (by lia)) (zF _ (hH3 ▸ zF _ e))
 have hD₄:h₄.get? D=some { cls:=.type "list",data:=.seq #[] }:=hsb₄.extBut _ _ hDC (zF _ (by rw [<-hH3,<-hD];exact zT _ rfl))
 have hb₄:s₂.heap.objs.size<=h₄.objs.size:=by
  rw [hsb₄.1,qA];lia
 have S₄:Sim w h₀ h₄ ι₁ σ₁:=S₂.mono old₄ hb₄
 have hsC:s.heap.objs.size<=C:=zB st₂.grow (by lia)
 have hsD:s.heap.objs.size<=D:=hD ▸ st₂.grow
 have hnD:D ∉ ι₁:=fun m=>absurd (S₂.lt m) (hD ▸ yM _)
 have hnC:C ∉ ι₁:=fun m=>absurd (S₂.lt m) (jK (by lia))
 have hcold:∀ b x,cl.lookup x=some b->b < s.heap.objs.size:=fun b x hx=>F.ltA (.inr ⟨x,hcl1 x b hx⟩)
 have krel:∀ y,(compEnvC scope cl C env).kindOf y=(relab scope sc).names.lookup y:=fun y=>by rw [<-hs];rfl
 have hdom:∀ x v,(seen scope sc ρ).lookup x=some v->(compEnvC scope cl C env).kindOf x=some .cell:=fun x v hx=>(krel x).trans (zS9 hx).2
 have was:∀ y,(relab scope sc).names.lookup y=some .cell->(y,NameKind.free)∈scope.names/\sc.names.lookup y=some .cell:=fun y hy=>by
  obtain ⟨⟨n,k⟩,hp,e⟩:=jS.mp (PySem.mem_of_lookup hy)
  dsimp only at e
  split at e
  ·rename_i q
   cases e
   have q:=zJ.mp q
   have hk:k=.free:=eq_of_beq (zJ.mp q.1).1
   subst hk
   exact ⟨hp,eq_of_beq q.2⟩
  ·cases e;exact absurd rfl (hcell _ hp)
 have F₄:FR h₀ h₄ ι₁ (compEnvC scope cl C env) (seen scope sc ρ):=by
  have F₄':=(F.stp st₂ S).stp (s':={ s₂ with heap:=h₄ }) (.more old₄ hb₄ rfl rfl) S₂
  refine ⟨hkind,F.globals,F.builtins,⟨_,hns₄,fun x v hx hk=>?_⟩,⟨hnC,zB S.big hsC⟩,fun x v hx hk=>?_,fun x v hx=>.inr (.inl (hdom x v hx)),fun x a hx=>F₄'.cells x a (hcl1 x a hx),fun x y a hx hy=>F.apart x y a (hcl1 x a hx) (hcl1 y a hy),fun x hx=>hcl2 _ (was x ((krel x).symm.trans hx)).1 rfl⟩
  ·rw [hdom x v hx] at hk;cases hk
  ·have z:=zS9 hx
   obtain ⟨a,ha⟩:=Option.isSome_iff_exists.mp (hcl2 _ (was x z.2).1 rfl)
   obtain ⟨b,c,g1,g2,g3⟩:=F₄'.cel x v z.1 (.inl (by show env.scope.names.lookup x=_;rw [hs];exact (was x z.2).2))
   cases (hcl1 x a ha).symm.trans g1
   exact ⟨a,c,ha,g2,g3⟩
 have ini:∀ s₄:Shared,s₄.heap=h₄->s₄.gens=s₂.gens->s₄.os=s₂.os->CI w h₀ (compEnvC scope cl C env) (seen scope sc ρ) D fp St I l.length s₂ ι₁ (l.length+1) s₄:=fun s₄ hs₄ hg₄ ho₄=>
  have st24:Stp NoX s₂ s₄ ι₁ ι₁:=.more (fun b o e=>by rw [hs₄];exact old₄ b o e) (by rw [hs₄];exact hb₄) hg₄ ho₄
  ⟨0,[],σ₁,ι₁,#[],0,jO _,rfl,st24.of_no,hs₄ ▸ F₄,hs₄ ▸ S₄,SR.frame _ _ _ _ _ hSt (fun b hb o e=>by rw [hs₄];exact old₄ b o e) (st24.tup0 S₂) fun oo1 oo2 e=>e,fun b hb=>by
   obtain ⟨_,h2,o,e,hn⟩:=hfp b hb
   exact ⟨h2,o,by rw [hs₄];exact old₄ b o e,hn⟩,hnD,by rw [hs₄];exact hD₄,.nil,hI0⟩
 have hsc:(compEnvC scope cl C env).scope=relab scope sc:=by rw [<-hs];rfl
 have loop:∀ s₄:Shared,s₄.heap=h₄->s₄.gens=s₂.gens->s₄.os=s₂.os->codeAny (model PG w) A (.compLoop (.ListComp elt [⟨tg,iter,ifs,0⟩] scope pos) 0 (.ref it) (.ref D) (compEnvC scope cl C env)) (compPost (model PG w) A E use Q (.ref D) C) s₄:=fun s₄ hs₄ hg₄ ho₄=>
  jS3 (s:=s₂) hA (ht D _) hsc hcold hsD hDC hsC hdom (fun b hb=>by
    obtain ⟨h1,h2,o,h3,_⟩:=hfp b hb
    have:=Mine.ltA h3
    exact ⟨h1,zB S.big h1,neA (by lia),neA (by show b≠C;lia)⟩) SR hOk turn (fun i acc ρ₂ σ₂ σ' h1 h2 h3=>body i acc ρ₂ σ₂ σ' h1 h2 h3 D _ hsc (zB S.big hsD))
   (fun s' hce=>by
    obtain ⟨ι',σ',acc,vs,k,m,st,S',h1,h2,h3,h4,h5,h6⟩:=hce
    exact fin C D s' hsC hsD hDC ⟨ι',σ',acc,vs,k,m,(st₂.of_no.trans st).fresh fun x hx=>hx.elim (fun q=>q ▸ hsC) fun q=>q.elim (fun q=>q ▸ hsD) fun q=>(hfp x q).1,S',h1,h2,h3,h4,h5,h6⟩) (ini s₄ hs₄ hg₄ ho₄)
 exact codeAny_compStart_list (loop _ rfl rfl rfl) (SR.self 0 _ ι₁ _ _ (SR.frame _ _ _ _ _ hSt (fun b hb o e=>old₄ b o e) ((Stp.more (s:=s₂) (s':={ s₂ with heap:=h₄ }) old₄ hb₄ rfl rfl).tup0 S₂) fun oo1 oo2 e=>e) (loop _ rfl rfl rfl))
theorem jJ5 {A:Around} {s s₇:Shared} {ι ι₇:List Addr} {D:Addr} {vs:Array Value} {k:Nat} {acc:List V} {u:Value} {v:V} {σ₂ σ₇:Sto} {J:List V->Sto->Prop} {Q:PySem.Fin->Shared->Prop} {E:Value->Shared->Prop} {c:PySem.Fin} (S:Sim w h₀ s.heap ι σ₂) (hD0:h₀.objs.size<=D) (hDi:D ∉ ι) (hD:s.heap.get? D=some { cls:=.type "list",data:=.seq vs k }) (hvs:VRs s.heap ι acc vs.toList)
  (st₇:Stp NoX s s₇ ι ι₇) (S₇:Sim w h₀ s₇.heap ι₇ σ₇) (r₇:VR s₇.heap ι₇ v u) (hl:acc.length<=1000000) (p:J (acc++[v]) σ₇) (hQ:∀ s',BO w h₀ J D s ι s'->Q c s') :
  wpAny (model PG w) A (call (.builtin "list.append") [.ref D,u]) (fun oo1 s'=>Q c s') E s₇:=by
 have hD₇:=st₇.keep D _ hD hDi id
 have nD:=st₇.notin hDi (jC hD)
 have tk7:=st₇.tup0 S
 refine wpAny_list_append_plain ⟨k,hD₇⟩ (fun h₈ hl₈ hs₈=>?_) (by rw [sizeLine_eq,<-zG,<-hvs.length];lia)
 obtain ⟨k',hl₈⟩:=hl₈
 have hk:∀ b o,b ∉ [D]->s₇.heap.get? b=some o->h₈.get? b=some o:=fun b o hb e=>(hs₈.2 b fun q=>hb (q ▸ zM.mpr rfl)).trans e
 have hz:=jU hs₈.1.symm
 have hf:∀ b∈[D],b ∉ ι₇/\h₀.objs.size<=b/\zI7 s₇.heap b:=fun b hb=>by rw [zM.mp hb];exact ⟨nD,hD0,fun vs n=>listNot hD₇⟩
 obtain ⟨S₈,tk8⟩:=S₇.off hf hk hz
 refine hQ _ ⟨ι₇,σ₇,acc++[v],vs.push u,k',st₇.of_no.trans (.off (tk:=s₇.toks) hk hz fun b hb=>zM.mp hb),S₈,fun a vs n e=>tk8 _ _ _ (tk7 _ _ _ e),nD,hl₈,?_,p⟩
 rw [yS]
 exact ((hvs.mono tk7 st₇.idx).mono tk8 fun oo1 oo2 e=>e).snoc (r₇.mono tk8 fun oo1 oo2 e=>e)
theorem CE.adopt {J:List V->Sto->Prop} {D C:Addr} {s s':Shared} (c:CE w h₀ J D C NoX s ι s') (hsD:s.heap.objs.size<=D) (hD0:h₀.objs.size<=D) (hDC:D≠C) :
  ∃ ι' σ' acc m,Stp NoX s s' ι ι'/\Sim w h₀ s'.heap ι' (σ'++[.lst acc])/\VR s'.heap ι' (.ref σ'.length) (.ref D)/\C ∉ ι'/\s'.heap.Ns C m/\J acc σ':=by
 obtain ⟨ι',σ',acc,vs,k,m,st,S,hDi,hCi,hD,hvs,hm,hJ⟩:=c
 refine ⟨ι'++[D],σ',acc,m,⟨?_,st.keep,st.grow,st.gens,st.os⟩,S.adopt (o:=.lst acc) hDi hD0 ⟨vs,k,hD,hvs.mono (.refl _) zE3⟩,.ref (by rw [<-S.len];simp),fun m=>(jF.mp m).elim hCi fun m=>hDC (zM.mp m).symm,hm,hJ⟩
 obtain ⟨t,ht,ht'⟩:=st.ext
 exact ⟨t++[D],by rw [ht,zP],fun a ha=>(jF.mp ha).elim (ht' a) fun q=>zM.mp q ▸ hsD⟩
theorem jG0 {s':Shared} {ι':List Addr} {σ':Sto} {C:Addr} {m:Str->Option Value} {h':Heap} (S:Sim w h₀ s'.heap ι' σ') (hC:C ∉ ι') (hC0:h₀.objs.size<=C) (hm:s'.heap.Ns C m) (hs:Heap.SameBut C s'.heap h') :
  Sim w h₀ h' ι' σ'/\gQ s'.heap h'/\(∀ b o,b ∉ [C]->s'.heap.get? b=some o->h'.get? b=some o)/\Stp (fun a=>a=C) s' { s' with heap:=h' } ι' ι':=by
 obtain ⟨oC,_,_,eC,hdC,_⟩:=hm
 have hk:∀ b o,b ∉ [C]->s'.heap.get? b=some o->h'.get? b=some o:=fun b o hb e=>(hs.2 b fun q=>hb (q ▸ zM.mpr rfl)).trans e
 have hz:=jU hs.1.symm
 obtain ⟨S',tk⟩:=S.off (fp:=[C]) (fun b hb=>by
  rw [zM.mp hb]
  exact ⟨hC,hC0,fun vs n e=>by cases eC.symm.trans e;cases hdC⟩) hk hz
 exact ⟨S',tk,hk,.off (tk:=s'.toks) hk hz fun b hb=>zM.mp hb⟩
theorem zC8 {elt tg iter:Expr} {scope:Scope} {pos:Pos} {P:V->Sto->Prop}
  (hsc:sc.kind=.function) (hkind:scope.kind=.function) (hcell:∀ x∈scope.names,x.2≠.cell)
  (hnames:∀ x∈scope.names,x.2=.local->scope.names.lookup x.1=some .local)
  (hfree:(scope.names.all fun p=>p.2 != .free || sc.names.lookup p.1 == some .cell)=true)
  (h:Its w h₀ d sc tg iter ρ σ fun l Ok σ₁=>∃ (I:Nat->List V->Sto->Prop),I 0 [] σ₁/\l.length<=1000000/\(∀ i acc σ',I i acc σ'->Ok σ')/\
   (∀ i v acc σ',l[i]?=some v->acc.length=i->I i acc σ'->AsC w h₀ d (relab scope sc) tg v (seen scope sc ρ) σ' fun ρ₂ σ₂=>Ev w h₀ d (relab scope sc) elt ρ₂ σ₂ fun u σ₃=>I (i+1) (acc++[u]) σ₃)/\
   (∀ acc σ',acc.length=l.length->I l.length acc σ'->P (.ref σ'.length) (σ'++[.lst acc])))
  (hs0:∀ env x,foldedSetIterable iter env x=pure x:=by intros; rfl):Ev w h₀ d sc (.ListComp elt [⟨tg,iter,[],0⟩] scope pos) ρ σ P:=by
 intro A env s ι hA hs F S E
 have hfc:∀ p∈scope.names,p.2=.free->env.kindOf p.1=some .cell:=fun p hp hpf=>by
  have:=jQ.mp hfree p hp
  rw [hpf] at this
  show env.scope.names.lookup p.1=_
  rw [hs];simpa using this
 obtain ⟨cl,hcl,hcl1,hcl2⟩:=zO7 (env:=env) (scope:=scope) fun p hp hpf=>F.hasc _ (hfc p hp hpf)
 rw [eval_ListComp]
 refine wpAny_comprehension_free (e:=.ListComp elt [⟨tg,iter,[],0⟩] scope pos) (g:=⟨tg,iter,[],0⟩) (gs:=[]) rfl (hs0 env) hcl hkind hnames ?_
 refine h A env s ι _ E hA hs F S ?_
 intro it fp St s₂ ι₁ l Ok σ₁ st₂ S₂ hfp hSt hSrc hh
 obtain ⟨I,hI0,hlen,hOk,turn,fin⟩:=hh
 refine zR6 (I:=fun i acc σ'=>acc.length=i/\I i acc σ') (Bd:=fun i acc ρ₂ σ₂=>Ev w h₀ d (relab scope sc) elt ρ₂ σ₂ fun u σ₃=>I (i+1) (acc++[u]) σ₃) hA hs F S hkind hcell hcl1 hcl2 st₂ S₂ hfp hSt (hSrc A hA.handled) (fun oo1 oo2=>compTurn_list1 ..) ⟨rfl,hI0⟩
  (fun i acc σ' q=>hOk i acc σ' q.2) (fun i v acc σ' hv q=>turn i v acc σ' hv q.1 q.2) (fun i acc ρ₂ σ₂ σ' hi q hb D ce hsc hD0 s ι vs k Q E F S hDi hD hvs hQ=>?_) fun C D s' hsC hsD hDC c=>?_
 ·exact wpAny_bind (wpAny_bind ((hb A ce s ι hA hsc F S).seq fun u s₇ ι₇ v₇ σ₇ st₇ S₇ r₇ p₇=>wpAny_bind (wpAny_mono (jJ5 (J:=fun acc σ'=>acc.length=i+1/\I (i+1) acc σ') S hD0 hDi hD hvs st₇ S₇ r₇ (by have:=q.1;lia) ⟨by rw [zE,q.1];rfl,p₇⟩ hQ) (fun oo1 oo2 hq=>wpAny_pure (wpAny_pure hq)) fun oo1 oo2 x=>x)))
 ·obtain ⟨ι',σ',acc,m,st,S',r,hCi,hm,hJ⟩:=c.adopt hsD (zB S.big hsD) hDC
  refine ⟨m,hm,fun h' hs'=>?_⟩
  obtain ⟨S'',tk,_,stC⟩:=jG0 S' hCi (zB S.big hsC) hm hs'
  exact ⟨ι',_,_,(st.of_no.trans stC).fresh fun x hx=>hx ▸ hsC,S'',r.mono tk fun oo1 oo2 e=>e,fin acc σ' hJ.1 hJ.2⟩
end
section
variable {d:Nat} {sc:Scope} {ρ:Lc} {σ:Sto} {ι:List Addr}
section
variable {a b:Int} {P:V->Sto->Prop}
theorem zF8 (h:P (.int (a+b)) σ):Bn w h₀ d .Add (.int a) (.int b) σ P:=fun oo1 oo2 oo3 oo4 oo5 oo6 S ra rb oo7=>by cases ra using VR.intE;cases rb using VR.intE;exact add_int (Do.tok S (.int _ _) h)
theorem zK1 (h:P (.int (a - b)) σ):Bn w h₀ d .Sub (.int a) (.int b) σ P:=fun oo1 oo2 oo3 oo4 oo5 oo6 S ra rb oo7=>by cases ra using VR.intE;cases rb using VR.intE;exact sub_int (Do.tok S (.int _ _) h)
theorem jE6 (hl:Builtin.Int.intBits a<=64) (h:P (.int (a * b)) σ):Bn w h₀ d .Mult (.int a) (.int b) σ P:=fun oo1 oo2 oo3 oo4 oo5 oo6 S ra rb oo7=>by cases ra using VR.intE;cases rb using VR.intE;exact mul_int (Do.tok S (.int _ _) h) (IntMulOk.of_left hl)
theorem jG4 (hb:b≠0) (h:P (.int (a.fmod b)) σ):Bn w h₀ d .Mod (.int a) (.int b) σ P:=fun oo1 oo2 oo3 oo4 oo5 oo6 S ra rb oo7=>by cases ra using VR.intE;cases rb using VR.intE;exact mod_int hb (Do.tok S (.int _ _) h)
theorem zQ0 (h:P (.bool (decide (a < b))) σ):Cm w h₀ d .Lt (.int a) (.int b) σ P:=fun oo1 oo2 oo3 oo4 oo5 oo6 S ra rb oo7=>by cases ra using VR.intE;cases rb using VR.intE;exact lt_int (Do.same S (.bool _) h)
theorem jK2 (h:P (.bool (decide (b < a))) σ):Cm w h₀ d .Gt (.int a) (.int b) σ P:=fun oo1 oo2 oo3 oo4 oo5 oo6 S ra rb oo7=>by cases ra using VR.intE;cases rb using VR.intE;exact gt_int (Do.same S (.bool _) h)
theorem cm_le (h:P (.bool (decide (a<=b))) σ):Cm w h₀ d .LtE (.int a) (.int b) σ P:=fun oo1 oo2 oo3 oo4 oo5 oo6 S ra rb oo7=>by cases ra using VR.intE;cases rb using VR.intE;exact le_int (Do.same S (.bool _) h)
theorem zE4 (h:P (.bool (a == b)) σ):Cm w h₀ d .Eq (.int a) (.int b) σ P:=fun oo1 oo2 oo3 oo4 oo5 oo6 S ra rb oo7=>by cases ra using VR.intE;cases rb using VR.intE;exact eq_int (Do.same S (.bool _) h)
theorem cm_ne (h:P (.bool (a != b)) σ):Cm w h₀ d .NotEq (.int a) (.int b) σ P:=fun oo1 oo2 oo3 oo4 oo5 oo6 S ra rb oo7=>by cases ra using VR.intE;cases rb using VR.intE;exact ne_int (Do.same S (.bool _) h)
end
theorem Do.tup {s:Shared} {l:List V} {vs:List Value} {P:V->Sto->Prop} (S:Sim w h₀ s.heap ι σ) (r:VRs s.heap ι l vs) (p:P (.tup l) σ) :
  DoO w h₀ VR s ι P (.ref s.heap.objs.size) { s with heap:=s.heap.push { cls:=.type "tuple",data:=.seq vs.toArray } }:=
 ⟨ι,.tup l,σ,.push ..,S.push _,.tup (n:=0) (zT _ rfl) (r.mono (gQ.push _ _) fun oo1 oo2 e=>e),p⟩
theorem Do.lst {s:Shared} {l:List V} {vs:List Value} {P:V->Sto->Prop} (S:Sim w h₀ s.heap ι σ) (r:VRs s.heap ι l vs) (p:P (.ref σ.length) (σ++[.lst l])) :
  DoO w h₀ VR s ι P (.ref s.heap.objs.size) { s with heap:=s.heap.push { cls:=.type "list",data:=.seq vs.toArray } }:=
 ⟨_,.ref σ.length,_,.alloc ..,S.alloc (o:=.lst l) ⟨_,0,zT _ rfl,r.mono (gQ.push _ _) zE3⟩,.ref (by rw [<-S.len];simp),p⟩
theorem zO6 {a b:List V} {P:V->Sto->Prop} (hz:a.length+b.length<=1000000) (h:P (.tup (a++b)) σ):Bn w h₀ d .Add (.tup a) (.tup b) σ P:=fun A s ι ca cb hA S ra rb E=>by
 cases ra using VR.tupE with
 | tup ha va=>
  cases rb using VR.tupE with
  | tup hb vb=>
   rename_i ta xs n tb ys k
   have la:a.length=xs.size:=by rw [<-zG];exact va.length
   have lb:b.length=ys.size:=by rw [<-zG];exact vb.length
   by_cases ea:xs.isEmpty=true
   ·have:a=[]:=by
     rw [Array.isEmpty_iff] at ea
     rw [ea] at la;exact qX.mp la
    subst this
    exact concat_meets ⟨_,ha,rfl⟩ ⟨_,hb,rfl⟩ noFill_tuple_add seq_tuple_add F.slot_tuple_add F.entry_tuple_add (F.args_tuple_add_2 _ _) (AutoSeq1.tuple___add___tuple_tuple_0 _ xs n _ ys k ea) ⟨ha,hb,Do.same S (.tup hb vb) h⟩
   ·by_cases eb:ys.isEmpty=true
    ·have:b=[]:=by
      rw [Array.isEmpty_iff] at eb
      rw [eb] at lb;exact qX.mp lb
     subst this
     rw [jI] at h
     exact concat_meets ⟨_,ha,rfl⟩ ⟨_,hb,rfl⟩ noFill_tuple_add seq_tuple_add F.slot_tuple_add F.entry_tuple_add (F.args_tuple_add_2 _ _) (AutoSeq1.tuple___add___tuple_tuple_1 _ xs n _ ys k ea eb) ⟨ha,hb,Do.same S (.tup ha va) h⟩
    ·refine PySem.P.add_tuple ha hb ea eb ?_ (by rw [sizeLine_eq];lia)
     have e:xs++ys=(xs.toList++ys.toList).toArray:=by simp
     rw [e]
     exact Do.tup S (va.append vb) h
theorem zY5 {n k:Nat} {a b:List V} {P:V->Sto->Prop} (hn:σ[n]?=some (.lst a)) (hk:σ[k]?=some (.lst b)) (hz:a.length+b.length<=1000000) (h:P (.ref σ.length) (σ++[.lst (a++b)])) :
  Bn w h₀ d .Add (.ref n) (.ref k) σ P:=fun A s ι ca cb hA S ra rb E=>by
 cases ra using VR.refE with
 | ref ha=>
  cases rb using VR.refE with
  | ref hb=>
   obtain ⟨xs,m,hx,vx⟩:=S.objs _ _ _ ha hn
   obtain ⟨ys,m',hy,vy⟩:=S.objs _ _ _ hb hk
   have la:a.length=xs.size:=by rw [<-zG];exact vx.length
   have lb:b.length=ys.size:=by rw [<-zG];exact vy.length
   refine concat_meets ⟨_,hx,rfl⟩ ⟨_,hy,rfl⟩ noFill_list_add seq_list_add F.slot_list_add F.entry_list_add (F.args_list_add_2 _ _) (AutoSeq1.list___add___list_list_0 _ xs m _ ys m' (by rw [sizeLine_eq];lia)) ⟨hx,hy,?_⟩
   have e:xs++ys=(xs.toList++ys.toList).toArray:=by simp
   rw [e]
   exact Do.lst S (vx.append vy) h
noncomputable def Gt (w:World) (h₀:Heap) (d:Nat) (a b:V) (σ:Sto) (P:V->Sto->Prop):Prop:=
 ∀ (A:Around) (s:Shared) (ι:List Addr) (ca cb:Value),Room A d->Sim w h₀ s.heap ι σ->VR s.heap ι a ca->VR s.heap ι b cb->
  ∃ T id,s.TypeIs ca T/\typeLookup (.type T) "__getitem__"=pure (some (.builtin id))/\Do w h₀ A (getItem ca cb) VR s ι P
theorem zA8 {o i:Expr} {pos:Pos} {P:V->Sto->Prop} (h:Ev w h₀ d sc o ρ σ fun a σ₁=>Ev w h₀ d sc i ρ σ₁ fun b σ₂=>Gt w h₀ d a b σ₂ P)
  (hs:∀ a b,∃ ops,subscripted i false a b=operate ops (getItem a b):=by intro _ _; exact ⟨_, rfl⟩):Ev w h₀ d sc (.Subscript o i pos) ρ σ P:=
 fun A env s ι hA hsc F S E=>Subscript_ ((h A env s ι hA hsc F S).seq fun ca s₁ ι₁ a σ₁ st₁ S₁ ra p₁=>(p₁ A env s₁ ι₁ hA hsc (F.stp st₁ S) S₁).seq fun cb s₂ ι₂ b σ₂ st₂ S₂ rb p₂=>by
  obtain ⟨T,id,hT,hl,hd⟩:=p₂ A s₂ ι₂ ca cb hA S₂ (ra.stp st₂ S₁) rb
  obtain ⟨ops,ho⟩:=hs ca cb
  exact tail_any hT hl (hd.up (st₁.trans st₂)) ho)
theorem zJ7 {l:List V} {i:Nat} {v:V} {P:V->Sto->Prop} (hi:l[i]?=some v) (hz:i < 1000000) (h:P v σ):Gt w h₀ d (.tup l) (.int (i:Int)) σ P:=fun A s ι ca cb hA S ra rb=>by
 cases rb using VR.intE
 cases ra using VR.tupE with
 | tup ht hv=>
  rename_i t vs n
  obtain ⟨c,hc,rc⟩:=hv.get hi
  have hl:i < vs.size:=by
   have:=(zC.mp hc).1
   simpa using this
  refine ⟨_,_,⟨_,ht,rfl⟩,F.slot_tuple_getitem.lookup,fun E=>PySem.P.getItem_tuple ht (by lia) (by lia) (k:=i) ?_ (y:=c) (by rw [<-zW];exact hc) (Do.same S rc h)⟩
  unfold seqIndex?
  simp;lia
theorem zI4 {n:Nat} {l:List V} {i:Nat} {v:V} {P:V->Sto->Prop} (hn:σ[n]?=some (.lst l)) (hi:l[i]?=some v) (hz:i < 1000000) (h:P v σ):Gt w h₀ d (.ref n) (.int (i:Int)) σ P:=fun A s ι ca cb hA S ra rb=>by
 cases rb using VR.intE
 cases ra using VR.refE with
 | ref ha=>
  obtain ⟨vs,k,hl,hv⟩:=S.objs _ _ _ ha hn
  obtain ⟨c,hc,rc⟩:=hv.get hi
  exact ⟨_,_,⟨_,hl,rfl⟩,F.slot_list_getitem.lookup,fun E=>wpAny_getItem_list ⟨_,hl,rfl,k,rfl⟩ (by lia) (by lia) (x:=c) (by simpa [<-zW] using hc) (Do.same S rc h)⟩
end
noncomputable def slcT {α:Type} (l:List α) (lo hi:Option Int) (st:Int):List α:=
 (List.range (qE (zN lo hi st l.length).1 (zN lo hi st l.length).2 st)).filterMap fun (k:Nat)=>l[((zN lo hi st l.length).1+(k:Int) * st).toNat]?
noncomputable def slcL {α:Type} (l:List α) (lo hi st:Option Int):List α:=
 (sliceRange (sliceBounds lo hi st l.length).1 (sliceBounds lo hi st l.length).2.1 (sliceBounds lo hi st l.length).2.2).filterMap (l[·]?)
theorem VRs.pick {h:Heap} {ι:List Addr} {l:List V} {cs:List Value} (r:VRs h ι l cs) (ix:List Nat):VRs h ι (ix.filterMap (l[·]?)) (ix.filterMap (cs[·]?)):=by
 induction ix with
 | nil=>exact .nil
 | cons i ix ih=>
  rw [List.filterMap_cons,List.filterMap_cons]
  cases hl:l[i]? with
  | none=>
   cases hc:cs[i]? with
   | none=>exact ih
   | some c=>obtain ⟨v,hv,_⟩:=r.getc hc;rw [hl] at hv;cases hv
  | some v=>
   obtain ⟨c,hc,rc⟩:=r.get hl
   rw [hc]
   exact .cons rc (ih)
theorem slcT_eq {α:Type} (l:List α) (lo hi:Option Int) (st:Int):∃ ix:List Nat,∀ {β:Type} (m:List β),m.length=l.length->slcT m lo hi st=ix.filterMap (m[·]?):=by
 refine ⟨(List.range (qE (zN lo hi st l.length).1 (zN lo hi st l.length).2 st)).map fun (k:Nat)=>((zN lo hi st l.length).1+(k:Int) * st).toNat,fun m hm=>?_⟩
 unfold slcT
 rw [hm,List.filterMap_map]
 rfl
theorem VRs.slcT {h:Heap} {ι:List Addr} {l:List V} {cs:List Value} (r:VRs h ι l cs) (lo hi:Option Int) (st:Int):VRs h ι (Mine.slcT l lo hi st) (Mine.slcT cs lo hi st):=by
 obtain ⟨ix,hx⟩:=slcT_eq l lo hi st
 rw [hx l rfl,hx cs r.length.symm]
 exact r.pick ix
theorem cmin (a b:Nat):min (a:Int) (b:Int)=((min a b:Nat):Int):=by
 rcases kR a b with h | h
 ·rw [vP h,Int.min_eq_left (wT.mpr h)]
 ·rw [wU h,Int.min_eq_right (wT.mpr h)]
theorem jT3 {α:Type} (l:List α) (a:Nat):slcT l (some (a:Int)) none 1=l.drop a:=by
 unfold slcT
 have e:zN (some (a:Int)) none 1 (l.length:Int)=(((min a l.length:Nat):Int),(l.length:Int)):=by
  unfold zN
  have h1:¬ ((1:Int) < 0):=by decide
  have h2:¬ ((a:Int) < 0):=kU.mpr (Int.natCast_nonneg a)
  simp only [h1,h2,if_false]
  congr 1
  exact cmin _ _
 rw [e]
 dsimp only
 rw [places_from _ _ (Nat.min_le_right _ _)]
 have p:=pick_run l.toArray (min a l.length) (l.length - min a l.length)
 rw [List.filterMap_map] at p
 have e2:(fun (k:Nat)=>l[(((min a l.length:Nat):Int)+(k:Int) * 1).toNat]?)=(fun x=>l.toArray[x]?) ∘ fun x=>min a l.length+x:=by
  funext k
  have:(((min a l.length:Nat):Int)+(k:Int) * 1).toNat=min a l.length+k:=by rw [Int.mul_one];rfl
  rw [this]
  simp
 rw [e2,p]
 show List.take _ (List.drop _ l)=_
 rw [zR (by simp)]
 rcases kR a l.length with h | h
 ·rw [vP h]
 ·rw [wU h,vJ (zK _),vJ h]
theorem jL8 {α:Type}:∀ (l:List α),slcT l none (some 1) 1=l.take 1
 | []=>rfl
 | x::l=>by
  unfold slcT
  have e:zN none (some 1) 1 ((x::l).length:Int)=(0,1):=by
   unfold zN
   have h1:¬ ((1:Int) < 0):=by decide
   simp only [h1,if_false,zV]
   congr 1
   exact Int.min_eq_left (wT.mpr (qN 1 _))
  rw [e]
  rfl
theorem slcT_rev {α:Type} (l:List α):slcT l none (some 0) (-1)=(l.drop 1).reverse:=by
 cases l with
 | nil=>rfl
 | cons x t=>
  unfold slcT
  have e0:(((x::t).length:Nat):Int) - 1=(t.length:Int):=xG (t.length:Int) 1
  have e:zN none (some 0) (-1) ((x::t).length:Int)=((t.length:Int),0):=by
   unfold zN
   simp only [show ((-1:Int) < 0) from (by decide),if_true,e0]
   congr 1
  have e2:qE (t.length:Int) 0 (-1)=t.length:=by
   unfold qE
   simp only [show ¬ ((-1:Int) > 0) from (by decide),if_false,Int.neg_neg,Int.ediv_one,Int.sub_zero,xF]
   by_cases h:(t.length:Int) > 0
   ·rw [if_pos h];rfl
   ·rw [if_neg h];exact (Nat.eq_zero_of_not_pos fun q=>h (Int.natCast_pos.mpr q)).symm
  rw [e]
  dsimp only
  rw [e2]
  have key:∀ n,n<=t.length->((List.range n).filterMap fun (k:Nat)=>(x::t)[((t.length:Int)+(k:Int) * (-1)).toNat]?)=t.reverse.take n:=by
   intro n
   induction n with
   | zero=>intro _;rfl
   | succ n ih=>
    intro hn
    rw [yE,List.filterMap_append,ih (vS hn),jJ,List.filterMap_cons,List.filterMap_nil,Int.mul_neg_one,<-Int.sub_eq_add_neg,xB,<-xI (Nat.sub_pos_of_lt hn),List.getElem?_cons_succ,List.getElem?_reverse hn,Nat.sub_right_comm,
     zQ (jY (qG _ _) (wB (qF (Nat.zero_lt_of_lt hn))))]
    rfl
  rw [key _ (zK _),zR (jU xA)]
  rfl
theorem jP7 {α:Type} (l:List α) (a:Nat):slcL l (some (a:Int)) none none=l.drop a:=by
 have:=sliceBounds_plain (some (a:Int)) none l.length
 unfold slcL
 rw [this]
 simp only [sliceRange_one,Option.elim,clipAt_nat]
 have p:=pick_run l.toArray (min a l.length) (l.length - min a l.length)
 have e:(fun (x:Nat)=>l.toArray[x]?)=fun x=>l[x]?:=by funext x;simp
 rw [e] at p
 rw [p]
 show List.take _ (List.drop _ l)=_
 rw [zR (by simp)]
 rcases kR a l.length with h | h
 ·rw [vP h]
 ·rw [wU h,vJ (zK _),vJ h]
theorem jA4 {α:Type} (l:List α) (b:Nat):slcL l none (some (b:Int)) none=l.take b:=by
 have:=sliceBounds_plain none (some (b:Int)) l.length
 unfold slcL
 rw [this]
 simp only [sliceRange_one,Option.elim,clipAt_nat]
 have p:=pick_run l.toArray 0 (min b l.length - 0)
 have e:(fun (x:Nat)=>l.toArray[x]?)=fun x=>l[x]?:=by funext x;simp
 rw [e] at p
 rw [p]
 show List.take _ l=_
 rcases kR b l.length with h | h
 ·rw [vP h];simp
 ·rw [wU h,zR (by simp),zR h]
section
variable {d:Nat} {sc:Scope} {ρ:Lc} {σ:Sto} {ι:List Addr}
theorem zS5 {A:Around} {E:Value->Shared->Prop} {s:Shared} {v:Value} {k:Option Int} {Q:Option Int->Shared->Prop} (p:IsPart v k) (h:Q k s):wpAny (model PG w) A (Builtin.Slice.slicePartIndex v) Q E s:=by
 cases p with
 | none=>exact slicePart_none h
 | int i t=>exact slicePart_int h
theorem jA1 {A:Around} {E:Value->Shared->Prop} {s:Shared} {sl:Addr} {vl vu vs:Value} {lo hi st:Option Int} {n:Nat} {Q:Int×Int×Nat->Shared->Prop} (hs:s.heap.IsSliceOf sl vl vu vs) (pl:IsPart vl lo) (pu:IsPart vu hi) (ps:IsPart vs st) (h0:st≠some 0)
  (h:Q ((zN lo hi (st.getD 1) n).1,st.getD 1,qE (zN lo hi (st.getD 1) n).1 (zN lo hi (st.getD 1) n).2 (st.getD 1)) s) :
  wpAny (model PG w) A (Builtin.Slice.sliceApplied (.ref sl) (pure (n:Int))) Q E s:=by
 obtain ⟨os,hos,hcs,hds⟩:=id hs
 refine wpAny_bind (wpAny_bind (wpAny_field hos hds (x:=vl) rfl (wpAny_bind (wpAny_field hos hds (x:=vu) rfl (wpAny_bind (wpAny_field hos hds (x:=vs) rfl (wpAny_pure ?_)))))))
 refine wpAny_bind (zS5 ps ?_)
 have hz:¬ ((st.getD 1 == 0)=true):=by
  cases st with
  | none=>decide
  | some c=>intro q;exact h0 (by simpa using q)
 show wpAny _ _ (if ((st.getD 1) == 0)=true then _ else _) _ _ s
 rw [if_neg hz]
 exact wpAny_bind (zS5 pl (wpAny_bind (zS5 pu (wpAny_bind (wpAny_pure (wpAny_pure h))))))
theorem jE2 {A:Around} {s:Shared} {t sl:Addr} {items:Array Value} {k:Nat} {vl vu vs:Value} {lo hi st:Option Int} {l:List V} {P:V->Sto->Prop} (S:Sim w h₀ s.heap ι σ) (ht:IsT s.heap t items k) (hv:VRs s.heap ι l items.toList)
  (hs:s.heap.IsSliceOf sl vl vu vs) (pl:IsPart vl lo) (pu:IsPart vu hi) (ps:IsPart vs st) (h0:st≠some 0) (hz:l.length<=1000000) (hp:(slcT l lo hi (st.getD 1)).length<=1000000)
  (hw:(zN lo hi (st.getD 1) l.length).1=0->st.getD 1=1->qE (zN lo hi (st.getD 1) l.length).1 (zN lo hi (st.getD 1) l.length).2 (st.getD 1)=l.length->slcT l lo hi (st.getD 1)=l)
  (h:P (.tup (slcT l lo hi (st.getD 1))) σ):Do w h₀ A (getItem (.ref t) (.ref sl)) VR s ι P:=by
 intro E
 have hlen:l.length=items.size:=by rw [<-zG];exact hv.length
 obtain ⟨os,hos,hcs,hds⟩:=id hs
 have hTs:s.TypeIs (.ref sl) "slice":=⟨os,hos,hcs⟩
 have hT:s.TypeIs (.ref t) "tuple":=⟨_,ht,rfl⟩
 unfold getItem
 refine wpAny_holding ?_
 refine wpAny_bind (wpAny_sequenceKey hT (by decide) ?_)
 refine wpAny_bind (wpAny_callSpecial?_slot (name:=zA "__getitem__") hT F.slot_tuple_getitem
  (wpAny_call_entry F.slot_tuple_getitem hT F.entry_tuple_getitem ?_ (F.args_tuple_getitem_2 _ _)))
 show wpAny _ _ (wN (.ref t) >>= _) _ _ s
 refine wpAny_bind (wpAny_tupleItemsOf ht rfl ?_)
 refine wpAny_bind (wpAny_typeOf hTs ?_)
 rw [if_pos (by decide)]
 refine wpAny_bind (jA1 hs pl pu ps h0 ?_)
 have hpk:((List.range (qE (zN lo hi (st.getD 1) items.size).1 (zN lo hi (st.getD 1) items.size).2 (st.getD 1))).filterMap fun (j:Nat)=>items[((zN lo hi (st.getD 1) items.size).1+(j:Int) * st.getD 1).toNat]?)=slcT items.toList lo hi (st.getD 1):=by
  unfold slcT
  rw [zG]
  congr 1
  funext j
  rw [zW]
 have hsl:=hv.slcT lo hi (st.getD 1)
 rw [hlen] at hw
 generalize hlo:(zN lo hi (st.getD 1) items.size).1=lo' at hpk hw ⊢
 generalize hpl:qE lo' (zN lo hi (st.getD 1) items.size).2 (st.getD 1)=np at hpk hw ⊢
 have other:wpAny (model PG w) A.in1 (xC (slcT items.toList lo hi (st.getD 1)).toArray >>= fun x=>ret x) (fun fin s'=>∃ v,fin=Fin.done (Flow.ret v)/\wpAny (model PG w) A (pure v) (DoO w h₀ VR s ι P) E s') E s:=
  wpAny_bind (m:=xC _) (wpAny_newObj_type (wpAny_pure ⟨_,rfl,wpAny_pure (Do.tup S hsl h)⟩) (by
   show (slcT items.toList lo hi (st.getD 1)).toArray.size<=sizeLine
   rw [qT,sizeLine_eq,<-hsl.length];lia))
 dsimp only
 rw [hpk]
 by_cases hc:(lo' == 0 && st.getD 1 == 1 && np == items.size)=true
 ·rw [if_pos hc]
  obtain ⟨c12,c3⟩:=zJ.mp hc
  obtain ⟨c1,c2⟩:=zJ.mp c12
  have e:=hw (by simpa using c1) (by simpa using c2) (by simpa using c3)
  rw [e] at h
  refine wpAny_bind (wpAny_bind (wpAny_typeOf hT (wpAny_pure ?_)))
  rw [if_pos (by decide)]
  exact wpAny_bind (wpAny_rule (wpAny_pure ⟨_,rfl,wpAny_pure (Do.same S (.tup ht hv) h)⟩))
 ·rw [if_neg hc]
  exact other
noncomputable def Opt (w:World) (h₀:Heap) (d:Nat) (sc:Scope) (x:Option Expr) (ρ:Lc) (σ:Sto) (P:Option Int->Sto->Prop):Prop:=
 match x with
 | none=>P none σ
 | some e=>Ev w h₀ d sc e ρ σ fun v σ₁=>∃ i,v=.int i/\P (some i) σ₁
theorem Opt.go {x:Option Expr} {P:Option Int->Sto->Prop} (h:Opt w h₀ d sc x ρ σ P) {A:Around} {env:Env} {s:Shared} {Q:Value->Shared->Prop} {E:Value->Shared->Prop} (hA:Room A d) (hs:env.scope=sc) (F:FR h₀ s.heap ι env ρ) (S:Sim w h₀ s.heap ι σ)
  (hQ:∀ c k s' ι' σ',Stp NoX s s' ι ι'->Sim w h₀ s'.heap ι' σ'->IsPart c k->P k σ'->Q c s'):wpAny (model PG w) A (evalPart x env) Q E s:=by
 cases x with
 | none=>rw [evalPart_none];exact wpAny_pure (hQ _ _ _ _ _ (.refl ..) S .none h)
 | some e=>
  rw [evalPart_some]
  refine (h A env s ι hA hs F S).seq fun c s' ι' v σ' st S' r ⟨i,hv,p⟩=>?_
  subst hv
  cases r using VR.intE
  exact hQ _ _ _ _ _ st S' (.int _ _) p
noncomputable def Gs (w:World) (h₀:Heap) (d:Nat) (a:V) (lo hi st:Option Int) (σ:Sto) (P:V->Sto->Prop):Prop:=
 ∀ (A:Around) (s:Shared) (ι:List Addr) (ca:Value) (sl:Addr) (vl vu vs:Value),Room A d->Sim w h₀ s.heap ι σ->VR s.heap ι a ca->s.heap.IsSliceOf sl vl vu vs->IsPart vl lo->IsPart vu hi->IsPart vs st->
  ∃ T id,s.TypeIs ca T/\typeLookup (.type T) "__getitem__"=pure (some (.builtin id))/\Do w h₀ A (getItem ca (.ref sl)) VR s ι P
theorem zC0 {o:Expr} {lo hi st:Option Expr} {p pos:Pos} {P:V->Sto->Prop} (h:Ev w h₀ d sc o ρ σ fun a σ₁=>Opt w h₀ d sc lo ρ σ₁ fun l σ₂=>Opt w h₀ d sc hi ρ σ₂ fun u σ₃=>Opt w h₀ d sc st ρ σ₃ fun t σ₄=>Gs w h₀ d a l u t σ₄ P)
  (hs:∀ a b,∃ ops,subscripted (.Slice lo hi st p) false a b=operate ops (getItem a b):=by intro _ _; exact ⟨_, rfl⟩):Ev w h₀ d sc (.Subscript o (.Slice lo hi st p) pos) ρ σ P:=
 fun A env s ι hA hsc F S E=>Subscript_ ((h A env s ι hA hsc F S).seq fun ca s₁ ι₁ a σ₁ st₁ S₁ ra p₁=>wpAny_Slice (Opt.go p₁ hA hsc (F.stp st₁ S) S₁ fun cl kl s₂ ι₂ σ₂ st₂ S₂ pl p₂=>
  Opt.go p₂ hA hsc (F.stp (st₁.trans st₂) S) S₂ fun cu ku s₃ ι₃ σ₃ st₃ S₃ pu p₃=>Opt.go p₃ hA hsc (F.stp ((st₁.trans st₂).trans st₃) S) S₃ fun ct kt s₄ ι₄ σ₄ st₄ S₄ pt p₄=>by
   have ra₄:=((ra.stp st₂ S₁).stp st₃ S₂).stp st₄ S₃
   obtain ⟨T,id,hT,hl,hd⟩:=p₄ A { s₄ with heap:=s₄.heap.push { cls:=.type "slice",data:=.fields #[cl,cu,ct] } } ι₄ ca s₄.heap.objs.size cl cu ct hA (S₄.push _) (ra₄.mono (gQ.push _ _) fun oo1 oo2 e=>e) (.new _ _ _ _) pl pu pt
   obtain ⟨ops,ho⟩:=hs ca (.ref s₄.heap.objs.size)
   exact tail_any hT hl (hd.up ((((st₁.trans st₂).trans st₃).trans st₄).trans (.push ..))) ho))
theorem jL1 {l:List V} {lo hi st:Option Int} {P:V->Sto->Prop} (h0:st≠some 0) (hz:l.length<=1000000) (hp:(slcT l lo hi (st.getD 1)).length<=1000000)
  (hw:(zN lo hi (st.getD 1) l.length).1=0->st.getD 1=1->qE (zN lo hi (st.getD 1) l.length).1 (zN lo hi (st.getD 1) l.length).2 (st.getD 1)=l.length->slcT l lo hi (st.getD 1)=l)
  (h:P (.tup (slcT l lo hi (st.getD 1))) σ):Gs w h₀ d (.tup l) lo hi st σ P:=fun A s ι ca sl vl vu vs hA S ra hs pl pu pt=>by
 cases ra using VR.tupE with
 | tup ht hv=>exact ⟨_,_,⟨_,ht,rfl⟩,F.slot_tuple_getitem.lookup,jE2 S ht hv hs pl pu pt h0 hz hp hw h⟩
theorem zG1 {l:List V} {a:Nat} {P:V->Sto->Prop} (hz:l.length<=1000000) (h:P (.tup (l.drop a)) σ):Gs w h₀ d (.tup l) (some (a:Int)) none none σ P:=by
 have e:=jT3 l a
 refine jL1 (by simp) hz ?_ (fun h1 oo1 h3=>?_) ?_
 ·show (slcT l (some (a:Int)) none 1).length<=_
  rw [e,List.length_drop];exact zB (qG _ _) hz
 ·show slcT l (some (a:Int)) none 1=l
  rw [e]
  have e2:zN (some (a:Int)) none 1 (l.length:Int)=(((min a l.length:Nat):Int),(l.length:Int)):=by
   unfold zN
   have h1:¬ ((1:Int) < 0):=by decide
   have h2:¬ ((a:Int) < 0):=kU.mpr (Int.natCast_nonneg a)
   simp only [h1,h2,if_false]
   congr 1
   exact cmin _ _
  have h1':(zN (some (a:Int)) none 1 (l.length:Int)).1=0:=h1
  rw [e2] at h1'
  have:min a l.length=0:=by simpa using h1'
  rcases kR a l.length with q | q
  ·rw [vP q] at this;subst this;rfl
  ·rw [wU q] at this
   rw [qX.mp this];simp
 ·show P (.tup (slcT l (some (a:Int)) none 1)) σ
  rw [e];exact h
theorem jJ8 {l:List V} {P:V->Sto->Prop} (hz:l.length<=1000000) (h:P (.tup (l.take 1)) σ):Gs w h₀ d (.tup l) none (some 1) none σ P:=by
 have e:=jL8 l
 refine jL1 (by simp) hz ?_ (fun oo1 oo2 h3=>?_) ?_
 ·show (slcT l none (some 1) 1).length<=_
  rw [e,wW];exact zB (Nat.min_le_right _ _) hz
 ·show slcT l none (some 1) 1=l
  rw [e]
  match l,h3 with
  | [],_=>rfl
  | [x],_=>rfl
  | x::y::r,h3=>
   exfalso
   have e2:zN none (some 1) 1 ((x::y::r).length:Int)=(0,1):=by
    unfold zN
    have h1:¬ ((1:Int) < 0):=by decide
    simp only [h1,if_false,zV]
    congr 1
    exact Int.min_eq_left (wT.mpr (qN 1 _))
   have h3':qE (zN none (some 1) 1 ((x::y::r).length:Int)).1 (zN none (some 1) 1 ((x::y::r).length:Int)).2 1=(x::y::r).length:=h3
   rw [e2] at h3'
   have:qE 0 1 1=1:=by decide
   rw [this] at h3'
   simp at h3'
 ·show P (.tup (slcT l none (some 1) 1)) σ
  rw [e];exact h
theorem gs_rev {l:List V} {P:V->Sto->Prop} (hz:l.length<=1000000) (h:P (.tup (l.drop 1).reverse) σ):Gs w h₀ d (.tup l) none (some 0) (some (-1)) σ P:=by
 have e:=slcT_rev l
 refine jL1 (by simp) hz ?_ (fun oo1 h2 oo2=>by cases h2) ?_
 ·show (slcT l none (some 0) (-1)).length<=_
  rw [e,xA,List.length_drop];exact zB (qG _ _) hz
 ·show P (.tup (slcT l none (some 0) (-1))) σ
  rw [e];exact h
theorem gs_lst {n:Nat} {l:List V} {lo hi st:Option Int} {P:V->Sto->Prop} (hn:σ[n]?=some (.lst l)) (h0:st≠some 0) (hz:l.length<=1000000) (h:P (.ref σ.length) (σ++[.lst (slcL l lo hi st)])) :
  Gs w h₀ d (.ref n) lo hi st σ P:=fun A s ι ca sl vl vu vs hA S ra hs pl pu pt=>by
 cases ra using VR.refE with
 | ref ha=>
  obtain ⟨ys,k,hl,hv⟩:=S.objs _ _ _ ha hn
  have hlen:l.length=ys.size:=by rw [<-zG];exact hv.length
  refine ⟨_,_,⟨_,hl,rfl⟩,F.slot_list_getitem.lookup,fun E=>wpAny_getItem_list_slice ⟨_,hl,rfl,k,rfl⟩ hs pl pu pt h0 ?_ (by rw [sizeLine_eq];lia)⟩
  have e:slicePick ys lo hi st=(slcL ys.toList lo hi st).toArray:=by
   unfold slicePick slcL
   rw [zG]
   congr 1
   congr 1
   funext j
   rw [zW]
  rw [e]
  refine Do.lst S ?_ h
  unfold slcL
  have hl':ys.toList.length=l.length:=by rw [zG];exact hlen.symm
  rw [hl']
  exact hv.pick _
end
section
variable {d:Nat} {sc:Scope} {ρ:Lc} {σ:Sto} {ι:List Addr}
theorem evs_mono {es:List Expr} {P P':List V->Sto->Prop} (h:Evs w h₀ d sc es ρ σ P) (hp:∀ v σ,P v σ->P' v σ):Evs w h₀ d sc es ρ σ P':=fun A env s ι pos hA hs F S=>(h A env s ι pos hA hs F S).mono hp
noncomputable def AsX (X:Env->Addr->Prop) (w:World) (h₀:Heap) (d:Nat) (sc:Scope) (t:Expr) (v:V) (ρ:Lc) (σ:Sto) (P:Lc->Sto->Prop):Prop:=
 ∀ (A:Around) (env:Env) (s:Shared) (ι:List Addr) (c:Value) (E:Value->Shared->Prop),Room A d->env.scope=sc->FR h₀ s.heap ι env ρ->Sim w h₀ s.heap ι σ->VR s.heap ι v c->
  wpAny (model PG w) A (assign t env c) (AsO w h₀ (X env) env s ι P) E s
noncomputable def LocX (env:Env) (a:Addr):Prop:=a=env.locals
theorem jL3 {t:Expr} {v:V} {P:Lc->Sto->Prop} (h:AsX Own w h₀ d sc t v ρ σ P):As w h₀ d sc t v ρ σ P:=fun A env s ι c hA hs F S r E=>
 wpAny_mono (h A env s ι c E hA hs F S r) (fun _ _ ⟨ι',ρ',σ',st,F',S',p⟩=>⟨ι',(),ρ',σ',st,F',S',trivial,p⟩) fun oo1 oo2 x=>x
theorem zR9 {t:Expr} {v:V} {P:Lc->Sto->Prop} (h:As w h₀ d sc t v ρ σ P):AsX Own w h₀ d sc t v ρ σ P:=fun A env s ι c E hA hs F S r=>
 wpAny_mono (h A env s ι c hA hs F S r E) (fun _ _ ⟨ι',_,ρ',σ',st,F',S',_,p⟩=>⟨ι',ρ',σ',st,F',S',p⟩) fun oo1 oo2 x=>x
theorem jO4 {t:Expr} {v:V} {P:Lc->Sto->Prop} (h:AsX LocX w h₀ d sc t v ρ σ P):AsC w h₀ d sc t v ρ σ P:=h
theorem zU9 {t:Expr} {v:V} {P:Lc->Sto->Prop} (h:AsC w h₀ d sc t v ρ σ P):AsX LocX w h₀ d sc t v ρ σ P:=h
theorem stTmp {s:Shared} {h':Heap} {X:Addr->Prop} (he:Heap.ExtBut s.heap.objs.size s.heap h') (hz:s.heap.objs.size<=h'.objs.size):Stp X s { s with heap:=h' } ι ι:=
 .more (fun b o e=>he b o (fun q=>by subst q;exact absurd (jC e) (yM _)) e) hz rfl rfl
theorem jM2 {h h':Heap} (S:Sim w h₀ h ι σ) (he:Heap.ExtBut h.objs.size h h') (hz:h.objs.size<=h'.objs.size):Sim w h₀ h' ι σ:=
 S.mono (fun b o e=>he b o (fun q=>by subst q;exact absurd (jC e) (yM _)) e) hz
theorem jJ0 {X:Env->Addr->Prop} (hX:∀ env a,X env a->Own env a) {e1 e2:Expr} {a b:V} {P:Lc->Sto->Prop} (h:AsX X w h₀ d sc e1 a ρ σ fun ρ₁ σ₁=>AsX X w h₀ d sc e2 b ρ₁ σ₁ P)
  {A:Around} {env:Env} {s:Shared} {ca cb:Value} (hA:Room A d) (hs:env.scope=sc) (F:FR h₀ s.heap ι env ρ) (S:Sim w h₀ s.heap ι σ) (ra:VR s.heap ι a ca) (rb:VR s.heap ι b cb) (E:Value->Shared->Prop) :
  wpAny (model PG w) A (assignInOrder [assign e1 env,assign e2 env] [ca,cb]) (AsO w h₀ (X env) env s ι P) E s:=by
 show wpAny _ A (do holding [cb] (assign e1 env ca);(do holding [] (assign e2 env cb);pure ())) _ E s
 refine wpAny_bind (wpAny_holding (wpAny_mono (h A env s ι ca E hA hs F S ra) (fun _ s₁ ⟨ι₁,ρ₁,σ₁,st₁,F₁,S₁,p₁⟩=>?_) fun oo1 oo2 x=>x))
 have st₁':Stp (Own env) s s₁ ι ι₁:=st₁.weak (hX env)
 refine wpAny_bind (wpAny_holding (wpAny_mono (p₁ A env s₁ ι₁ cb E hA hs F₁ S₁ (rb.mono (st₁'.tupO S F) st₁.idx)) (fun _ s₂ ⟨ι₂,ρ₂,σ₂,st₂,F₂,S₂,p₂⟩=>wpAny_pure ⟨ι₂,ρ₂,σ₂,st₁.trans st₂,F₂,S₂,p₂⟩) fun oo1 oo2 x=>x))
theorem zP0 {X:Env->Addr->Prop} (hX:∀ env a,X env a->Own env a) {e1 e2:Expr} {k:Nat} {pos:Pos} {a b:V} {P:Lc->Sto->Prop} (h:AsX X w h₀ d sc e1 a ρ σ fun ρ₁ σ₁=>AsX X w h₀ d sc e2 b ρ₁ σ₁ P)
  (he:∀ env,assignEach [e1,e2] env=[(false,assign e1 env),(false,assign e2 env)]:=by intro; rfl):AsX X w h₀ d sc (.Tuple [e1,e2] k pos) (.tup [a,b]) ρ σ P:=fun A env s ι c E hA hs F S r=>by
 cases r using VR.tupE with
 | tup ht hv=>
  rename_i t vs n
  obtain ⟨ca,cb,hvs,ra,rb⟩:∃ ca cb,vs.toList=[ca,cb]/\VR s.heap ι a ca/\VR s.heap ι b cb:=by
   generalize vs.toList=l at hv
   cases hv using VRs.consE with
   | cons h1 h2=>cases h2 using VRs.consE with
    | cons h2 h3=>cases h3;exact ⟨_,_,rfl,h1,h2⟩
  have hlen:vs.size=2:=by rw [<-zG,hvs];rfl
  refine zB7 (wpAny_mono (Q:=fun x s'=>hsz s<=hsz s'/\AsO w h₀ (X env) env s ι P x s') ?_ (fun oo1 oo2 q oo3=>q.2) fun oo1 oo2 x=>x)
  rw [arm_assign_Tuple]
  refine wpAny_bind (wpAny_standAt ?_)
  unfold unpack
  rw [he]
  refine wpAny_bind (wpAny_holding ?_)
  show wpAny _ A (unpackItems (.ref t) 2 none) _ E s
  rw [<-hlen]
  refine zB7 (wpAny_unpackItems_tuple hA.handled ⟨_,ht,rfl,n,rfl⟩ fun h' he' hz=>?_)
  rw [hvs]
  have st:=stTmp (X:=NoX) (ι:=ι) he' hz
  have S':=jM2 S he' hz
  refine wpAny_mono (jJ0 hX h hA hs (F.stp st S) S' (ra.stp st S) (rb.stp st S) E) (fun _ s' ⟨ι',ρ',σ',st',F',S'',p⟩=>⟨zB hz st'.grow,ι',ρ',σ',st.of_no.trans st',F',S'',p⟩) fun oo1 oo2 x=>x
end
namespace kB7
def S (A:Around) (s:Shared) (l:Addr) (vs:Array Value) (k:Nat) (Q:List Value->Shared->Prop) (E:Value->Shared->Prop):Prop:=∀ (hh:A.handled=none) (hl:s.heap.get? l=some { cls:=.type "list",data:=.seq vs k }) (hQ:∀ h',Heap.ExtBut s.heap.objs.size s.heap h'->s.heap.objs.size<=h'.objs.size->Q vs.toList { s with heap:=h' }),wpAny (model PG w) A (unpackItems (.ref l) vs.size none) Q E s
noncomputable def A:Around:=@pick Around nAr fun z=>∀ s l vs k Q E,S z s l vs k Q E
noncomputable def s:Shared:=@pick Shared nSh fun z=>∀ l vs k Q E,S A z l vs k Q E
noncomputable def l:Addr:=pick fun z=>∀ vs k Q E,S A s z vs k Q E
noncomputable def vs:Array Value:=pick fun z=>∀ k Q E,S A s l z k Q E
noncomputable def k:Nat:=pick fun z=>∀ Q E,S A s l vs z Q E
noncomputable def Q:List Value->Shared->Prop:=pick fun z=>∀ E,S A s l vs k z E
noncomputable def E:Value->Shared->Prop:=pick fun z=>S A s l vs k Q z
theorem core:S A s l vs k Q E:=by
 intro hh hl hQ
 have hlt:l≠s.heap.objs.size:=jP (jC hl)
 have hT:s.TypeIs (.ref l) "list":=⟨_,hl,rfl⟩
 have draw:∀ (n i:Nat) (s':Shared) (Q:List Value->Shared->Prop),s'.heap.IsListIter s.heap.objs.size l i->s'.heap.get? l=some { cls:=.type "list",data:=.seq vs k }->i+n<=vs.size->
   (∀ h',h'.IsListIter s.heap.objs.size l (i+n)->Heap.SameBut s.heap.objs.size s'.heap h'->Q ((vs.toList.drop i).take n) { s' with heap:=h' })->wpAny (model PG w) A (PySem.draw (.ref s.heap.objs.size) n) Q E s':=by
  intro n
  induction n with
  | zero=>intro i s' Q hit _ _ hQ;exact wpAny_pure (by simpa using hQ s'.heap hit (Heap.SameBut.refl ..))
  | succ n ih=>
   intro i s' Q hit hl' hle hQ
   have hi:i < vs.size:=by lia
   show wpAny _ _ (pyNext (.ref s.heap.objs.size) >>= _) Q E s'
   refine wpAny_bind (wpAny_pyNext_list_item hit ⟨_,hl',rfl,k,rfl⟩ (x:=vs[i]) (by simp [hi]) fun h₁ hit₁ hs₁=>?_)
   refine wpAny_bind (wpAny_holding (ih (i+1) _ _ hit₁ ((hs₁.2 _ hlt).trans hl') (by lia) fun h₂ hit₂ hs₂=>wpAny_pure ?_))
   have hd:vs.toList.drop i=vs[i]::vs.toList.drop (i+1):=by simp [List.drop_eq_getElem_cons,hi]
   have:=hQ h₂ (by rw [show i+(n+1)=i+1+n by lia];exact hit₂) (hs₁.trans hs₂)
   rw [hd,vZ] at this
   exact this
 refine wpAny_bind ?_
 refine wpAny_bind (wpAny_specialOf hT F.slot_list_iter.lookup ?_)
 refine wpAny_pure ?_
 refine wpAny_ite_false rfl ?_
 refine wpAny_bind (wpAny_holding (wpAny_pyIter_list ⟨_,hl,rfl,k,rfl⟩ ?_))
 refine wpAny_bind (wpAny_holding (draw vs.size 0 _ _ ⟨_,zT _ rfl,rfl,rfl⟩ (zF _ hl) (by lia) fun h₁ hit₁ hs₁=>?_))
 have hall:List.take vs.size (List.drop 0 vs.toList)=vs.toList:=by
  rw [List.drop_zero];exact zR (by simp)
 rw [hall]
 rw [if_neg (by simp)]
 have hl₁:h₁.get? l=some { cls:=.type "list",data:=.seq vs k }:=(hs₁.2 _ hlt).trans (zF _ hl)
 refine wpAny_bind (wpAny_holding (zB7 (wpAny_pyNext_list_end hh hit₁ ⟨_,hl₁,rfl,k,rfl⟩ (by simp) fun h₂ he₂ hz=>?_)))
 refine wpAny_ite_false rfl ?_
 have hz1:h₁.objs.size=s.heap.objs.size+1:=hs₁.1.trans (qA ..)
 exact wpAny_pure (hQ h₂ (fun b o hb e=>he₂ b o hb (hs₁.extBut b o hb (zF _ e))) (zB (by rw [hz1];exact yY _) (show h₁.objs.size<=h₂.objs.size from hz)))
theorem all:∀ A s l vs k Q E,S A s l vs k Q E:=@cst Around nAr (fun z=>∀ s l vs k Q E,S z s l vs k Q E) (@cst Shared nSh (fun z=>∀ l vs k Q E,S A z l vs k Q E) (cst (p:=fun z=>∀ vs k Q E,S A s z vs k Q E) (cst (p:=fun z=>∀ k Q E,S A s l z k Q E) (cst (p:=fun z=>∀ Q E,S A s l vs z Q E) (cst (p:=fun z=>∀ E,S A s l vs k z E) (cst (p:=fun z=>S A s l vs k Q z) core))))))
end kB7
section
variable {d:Nat} {sc:Scope} {ρ:Lc} {σ:Sto} {ι:List Addr}
theorem zS2 {A s l vs k Q E}:kB7.S A s l vs k Q E:=kB7.all A s l vs k Q E
theorem jR4 {X:Env->Addr->Prop} (hX:∀ env a,X env a->Own env a) {e1 e2:Expr} {k:Nat} {pos:Pos} {a b:V} {n:Nat} {P:Lc->Sto->Prop} (hn:σ[n]?=some (.lst [a,b])) (h:AsX X w h₀ d sc e1 a ρ σ fun ρ₁ σ₁=>AsX X w h₀ d sc e2 b ρ₁ σ₁ P)
  (he:∀ env,assignEach [e1,e2] env=[(false,assign e1 env),(false,assign e2 env)]:=by intro; rfl):AsX X w h₀ d sc (.Tuple [e1,e2] k pos) (.ref n) ρ σ P:=fun A env s ι c E hA hs F S r=>by
 cases r using VR.refE with
 | ref hx=>
  rename_i t
  obtain ⟨vs,m,hl,hv⟩:=S.objs _ _ _ hx hn
  obtain ⟨ca,cb,hvs,ra,rb⟩:∃ ca cb,vs.toList=[ca,cb]/\VR s.heap ι a ca/\VR s.heap ι b cb:=by
   generalize vs.toList=l at hv
   cases hv using VRs.consE with
   | cons h1 h2=>cases h2 using VRs.consE with
    | cons h2 h3=>cases h3;exact ⟨_,_,rfl,h1,h2⟩
  have hlen:vs.size=2:=by rw [<-zG,hvs];rfl
  rw [arm_assign_Tuple]
  refine wpAny_bind (wpAny_standAt ?_)
  unfold unpack
  rw [he]
  refine wpAny_bind (wpAny_holding ?_)
  show wpAny _ A (unpackItems (.ref t) 2 none) _ E s
  rw [<-hlen]
  refine zS2 hA.handled hl fun h' he' hz=>?_
  rw [hvs]
  have st:=stTmp (X:=NoX) (ι:=ι) he' hz
  have S':=jM2 S he' hz
  exact wpAny_mono (jJ0 hX h hA hs (F.stp st S) S' (ra.stp st S) (rb.stp st S) E) (fun _ s' ⟨ι',ρ',σ',st',F',S'',p⟩=>⟨ι',ρ',σ',st.of_no.trans st',F',S'',p⟩) fun oo1 oo2 x=>x
theorem jT6 {P:Lc->Sto->Prop}:∀ (nv:List (Str×V)) (ρ:Lc) (A:Around) (env:Env) (s:Shared) (ι:List Addr) (cs:List Value) (E:Value->Shared->Prop),FR h₀ s.heap ι env ρ->Sim w h₀ s.heap ι σ->VRs s.heap ι (nv.map (·.2)) cs->
  (∀ p∈nv,env.kindOf p.1=some .local)->P (nv.reverse++ρ) σ->
  wpAny (model PG w) A (assignInOrder (nv.map fun p=>bindName env p.1) cs) (AsO w h₀ (Own env) env s ι P) E s:=by
 intro nv
 induction nv with
 | nil=>
  intro ρ A env s ι cs E F S r _ p
  cases r using VRs.nilE
  exact wpAny_pure ⟨ι,ρ,σ,.refl ..,F,S,p⟩
 | cons xv nv ih=>
  obtain ⟨x,v⟩:=xv
  intro ρ A env s ι cs E F S r hk p
  cases r using VRs.consE with
  | cons rv rr=>
   rename_i c cs'
   show wpAny _ A (do holding cs' (bindName env x c);assignInOrder (nv.map fun p=>bindName env p.1) cs') _ E s
   refine wpAny_bind (wpAny_holding (wpAny_bindName (wpAny_mono (zL7 (P:=fun ρ₁ σ₁=>(x,v)::ρ=ρ₁/\σ=σ₁) F S rv (hk (x,v) jA) ⟨rfl,rfl⟩ E) (fun oo1 s₁ hh=>?_) fun oo1 oo2 x=>x)))
   obtain ⟨ι₁,ρ₁,σ₁,st₁,F₁,S₁,hρ,hσ⟩:=hh
   subst hρ hσ
   have st₁':Stp (Own env) s s₁ ι ι₁:=st₁.weak fun oo1 q=>.inl q
   refine wpAny_mono (ih ((x,v)::ρ) A env s₁ ι₁ cs' E F₁ S₁ (rr.mono (st₁'.tupO S F) st₁.idx) (fun q hq=>hk q (zY _ hq)) (by simpa using p)) (fun oo1 s₂ hh=>?_) fun oo1 oo2 x=>x
   obtain ⟨ι₂,ρ₂,σ₂,st₂,F₂,S₂,p₂⟩:=hh
   exact ⟨ι₂,ρ₂,σ₂,st₁'.trans st₂,F₂,S₂,p₂⟩
theorem zV0 {ts:List Expr} {es:List Expr} {k k':Nat} {p p' pos:Pos} {names:List Str} {P:Fl->Lc->Sto->Prop} (h:Evs w h₀ d sc es ρ σ fun vs σ₁=>vs.length=names.length/\P .next (names.zip vs++ρ) σ₁)
  (hl:names.length<=100) (hloc:(names.all fun x=>sc.names.lookup x == some .local)=true)
  (hx:∀ env,env.scope=sc->exec (.Assign [.Tuple ts k p] (.Tuple es k' p') pos) env=(do standAt pos;let v <-eval (.Tuple es k' p') env;assignStores env v (some names) ((assignEach [.Tuple ts k p] env).map (·.2)))) :
  Ex w h₀ d sc (.Assign [.Tuple ts k p] (.Tuple es k' p') pos) ρ σ P:=fun A env s ι hA hs F S E=>by
 rw [hx env hs]
 refine wpAny_bind (wpAny_standAt (wpAny_bind ((zB9 (P:=fun v σ₁=>∃ vs,v=.tup vs/\vs.length=names.length/\P .next (names.zip vs++ρ) σ₁) (evs_mono h fun vs σ₁ q=>⟨by lia,vs,rfl,q⟩) A env s ι hA hs F S).seq fun c s₁ ι₁ v σ₁ st₁ S₁ r ⟨vs,hv,hvl,hP⟩=>?_)))
 subst hv
 cases r using VR.tupE with
 | tup ht hv=>
  rename_i t cs n
  have hlen:cs.size=names.length:=by rw [<-zG,<-hv.length];exact hvl
  show wpAny _ A (do
   rule "assign.swapped-stores"
   let items <-unpackItems (.ref t) names.length none
   assignInOrder (names.reverse.map fun n=>bindName env n) items.reverse
   pure Flow.next) _ E s₁
  rw [<-hlen]
  refine wpAny_bind (wpAny_rule (wpAny_bind (zB7 (wpAny_unpackItems_tuple hA.handled ⟨_,ht,rfl,n,rfl⟩ fun h' he' hz=>?_))))
  have st:=stTmp (X:=NoX) (ι:=ι₁) he' hz
  have S':=jM2 S₁ he' hz
  have F₁:=F.stp st₁ S
  have e1:(names.reverse.map fun n=>bindName env n)=((names.zip vs).reverse.map fun p=>bindName env p.1):=by
   rw [List.map_reverse,List.map_reverse]
   have:((names.zip vs).map (·.1)).map (fun x=>bindName env x)=names.map fun x=>bindName env x:=by rw [List.map_fst_zip (by lia)]
   rw [<-this,jE]
   rfl
  have e2:(names.zip vs).reverse.map (·.2)=vs.reverse:=by rw [List.map_reverse,List.map_snd_zip (by lia)]
  rw [e1]
  refine wpAny_bind (wpAny_mono (jT6 (P:=fun ρ' σ'=>P .next ρ' σ') (names.zip vs).reverse ρ A env _ ι₁ cs.toList.reverse E (F₁.stp st S₁) S' (by rw [e2];exact (hv.stp st S₁).reverse) (fun q hq=>?_) (by rw [vG];exact hP)) (fun _ s₂ ⟨ι₂,ρ₂,σ₂,st₂,F₂,S₂,p₂⟩=>wpAny_pure ⟨ι₂,.next,ρ₂,σ₂,(st₁.trans st).of_no.trans st₂,F₂,S₂,.next,p₂⟩) fun oo1 oo2 x=>x)
  have hm:q.1∈names:=by
   have:=List.mem_map_of_mem (f:=Prod.fst) (List.mem_reverse.mp hq)
   rwa [List.map_fst_zip (by lia)] at this
  have:=jQ.mp hloc _ hm
  show env.scope.names.lookup q.1=_
  rw [hs];simpa using this
theorem zV7 {test:Expr} {body:List Stmt} {pos:Pos} {P:Fl->Lc->Sto->Prop} (I:Nat->Lc->Sto->Prop) (n₀:Nat) (h0:I n₀ ρ σ)
  (turn:∀ n ρ' σ',I n ρ' σ'->Ts w h₀ d sc test ρ' σ' fun b σ₁=>if b then Exs w h₀ d sc body ρ' σ₁ fun fl ρ₂ σ₂=>match fl with
    | .next=>∃ ρ₃ m,Sub ρ₃ ρ₂/\m < n/\I m ρ₃ σ₂
    | .cont=>∃ ρ₃ m,Sub ρ₃ ρ₂/\m < n/\I m ρ₃ σ₂
    | .brk=>P .next ρ₂ σ₂
    | .ret v=>P (.ret v) ρ₂ σ₂
   else P .next ρ' σ₁):Ex w h₀ d sc (.While test body [] pos) ρ σ P:=by
 intro A env s ι hA hs F S E
 refine wpAny_While (codeAny_whileLoop (fun n s'=>∃ ρ' σ' ι',Stp (Own env) s s' ι ι'/\FR h₀ s'.heap ι' env ρ'/\Sim w h₀ s'.heap ι' σ'/\I n ρ' σ') ?_ n₀ ⟨ρ,σ,ι,.refl ..,F,S,h0⟩)
 rintro n s' ⟨ρ',σ',ι',st',F',S',hI⟩
 refine (turn n ρ' σ' hI A env s' ι' hA hs F' S').seq fun b s₁ ι₁ b' σ₁ st₁ S₁ e p=>?_
 have e:b'=b:=e
 subst e
 have F₁:=F'.stp st₁ S'
 cases b'
 ·exact wpAny_execs_nil ⟨ι₁,.next,ρ',σ₁,st'.trans st₁.of_no,F₁,S₁,.next,p⟩
 ·refine (p A env s₁ ι₁ hA hs F₁ S₁).seq fun f s₂ ι₂ fl ρ₂ σ₂ st₂ F₂ S₂ rf p₂=>?_
  have stA:=(st'.trans st₁.of_no).trans st₂
  cases rf with
  | next=>obtain ⟨ρ₃,m,h3,h4,h5⟩:=p₂;exact ⟨m,h4,ρ₃,σ₂,ι₂,stA,F₂.sub h3,S₂,h5⟩
  | cont=>obtain ⟨ρ₃,m,h3,h4,h5⟩:=p₂;exact ⟨m,h4,ρ₃,σ₂,ι₂,stA,F₂.sub h3,S₂,h5⟩
  | brk=>exact ⟨ι₂,.next,ρ₂,σ₂,stA,F₂,S₂,.next,p₂⟩
  | ret rv=>exact ⟨ι₂,_,ρ₂,σ₂,stA,F₂,S₂,.ret rv,p₂⟩
end
section
variable {d:Nat} {sc:Scope} {ρ:Lc} {σ:Sto} {ι:List Addr}
noncomputable def ItC (w:World) (h₀:Heap) (d:Nat) (tg:Expr) (f:Value) (args:List V) (σ:Sto) (P:List V->(Sto->Prop)->Sto->Prop):Prop:=
 ∀ (A:Around) (s:Shared) (ι:List Addr) (cs:List Value) (Q:Value->Shared->Prop) (E:Value->Shared->Prop),Room A d->Sim w h₀ s.heap ι σ->VRs s.heap ι args cs->
  (∀ it fp St s' ι' l Ok σ',Stp NoX s s' ι ι'->Sim w h₀ s'.heap ι' σ'->(∀ b∈fp,s.heap.objs.size<=b/\b ∉ ι'/\∃ o,s'.heap.get? b=some o/\∀ vs n,o.data≠.seq vs n)->St 0 s'.heap ι'->
   (∀ A':Around,A'.handled=none->Src w h₀ A' tg it fp l Ok St)->P l Ok σ'->Q (.ref it) s')->
  wpAny (model PG w) A (call f cs) (fun x s₁=>wpAny (model PG w) A (pyIter x) Q E s₁) E s
noncomputable def nonref:Value->Bool
 | .ref _=>false
 | _=>true
theorem zL1 {f:Value} (h:nonref f=true):keeperOf f=pure .machine:=by cases f <;> first | rfl | cases h
section
variable {M:Model} {A:Around} {env:Env} {s:Shared} {Q:Value->Shared->Prop} {E:Value->Shared->Prop} {f:Value} {pos:Pos} {first:List Value}
theorem zH2 {e:Expr} {rest:List Expr} (hk:nonref f=true) (h:wpAny M A (spliced (backTo pos (starEach (e::rest) env))) (fun vs s₁=>wpAny M A (call f (first++vs)) Q E s₁) E s)
  (he:starEach (e::rest) env=(false,eval e env)::starEach rest env:=by rfl) (hplain:(backTo pos (starEach rest env)).any (·.1)=false:=by rfl) :
  wpAny M A (callWith pos f first (backTo pos (starEach (e::rest) env)) []) Q E s:=by
 rw [he] at h ⊢
 exact callWith_of (P:=fun oo1=>True) (by show ((false || (backTo pos (starEach rest env)).any (·.1)) || false)=false;rw [hplain];rfl) (fun oo1 oo2=>⟨.machine,.inr (.inl rfl),.of_pure (zL1 hk)⟩)
  (evalArgs_plain (wpAny_mono h (fun oo1 oo2 q=>⟨trivial,q⟩) fun oo1 oo2 x=>x))
theorem jK4 (hk:nonref f=true) (h:wpAny M A (call f (first++[])) Q E s):wpAny M A (callWith pos f first (backTo pos (starEach [] env)) []) Q E s:=
 callWith_of (P:=fun oo1=>True) rfl (fun oo1 oo2=>⟨.machine,.inr (.inl rfl),.of_pure (zL1 hk)⟩) (evalArgs_nil3 ⟨trivial,h⟩)
end
inductive BltO (K:Value->Sto->Prop) (u:V) (σ:Sto):Prop
 | mk (fv:Value):u=.con fv->nonref fv=true->K fv σ->BltO K u σ
theorem gP {f:Expr} {e:Expr} {args:List Expr} {pos:Pos} {P:V->Sto->Prop}
  (h:Ev w h₀ d sc f ρ σ (BltO fun fv σ₁=>Evs w h₀ d sc (e::args) ρ σ₁ (Cl w h₀ d fv · · P)))
  (he:∀ env,eval (.Call f (e::args) [] pos) env=(do callWith pos (<-eval f env) [] (backTo pos (starEach (e::args) env)) (backToKw pos (keywordEach [] env))):=by intro; rfl)
  (hs1:∀ env,starEach (e::args) env=(false,eval e env)::starEach args env:=by intro; rfl) (hs2:∀ env pos,(backTo pos (starEach args env)).any (·.1)=false:=by intros; rfl) :
  Ev w h₀ d sc (.Call f (e::args) [] pos) ρ σ P:=fun A env s ι hA hs F S E=>Call_ ((h A env s ι hA hs F S).seq fun c s₁ ι₁ u σ₁ st S₁ r ⟨fv,hu,hk,p⟩=>by
  subst hu
  cases r using VR.conE
  refine zH2 hk (((p A env s₁ ι₁ pos hA hs (F.stp st S) S₁).seq fun cs s₂ ι₂ vs σ₂ st₂ S₂ r₂ p₂=>?_)) (hs1 env) (hs2 env pos)
  exact (p₂ A s₂ ι₂ cs hA S₂ r₂).up (st.trans st₂)) (he env)
theorem zI9 {tg f e:Expr} {args:List Expr} {pos:Pos} {P:List V->(Sto->Prop)->Sto->Prop}
  (h:Ev w h₀ d sc f ρ σ (BltO fun fv σ₁=>Evs w h₀ d sc (e::args) ρ σ₁ (ItC w h₀ d tg fv · · P)))
  (he:∀ env,eval (.Call f (e::args) [] pos) env=(do callWith pos (<-eval f env) [] (backTo pos (starEach (e::args) env)) (backToKw pos (keywordEach [] env))):=by intro; rfl)
  (hs1:∀ env,starEach (e::args) env=(false,eval e env)::starEach args env:=by intro; rfl) (hs2:∀ env pos,(backTo pos (starEach args env)).any (·.1)=false:=by intros; rfl) :
  Its w h₀ d sc tg (.Call f (e::args) [] pos) ρ σ P:=fun A env s ι Q E hA hs F S hQ=>Call_ ((h A env s ι hA hs F S).seq fun c s₁ ι₁ u σ₁ st S₁ r ⟨fv,hu,hk,p⟩=>by
  subst hu
  cases r using VR.conE
  refine zH2 hk (((p A env s₁ ι₁ pos hA hs (F.stp st S) S₁).seq fun cs s₂ ι₂ vs σ₂ st₂ S₂ r₂ p₂=>?_)) (hs1 env) (hs2 env pos)
  exact p₂ A s₂ ι₂ cs Q E hA S₂ r₂ fun it fp St s' ι' l Ok σ' st' S' hfp hSt hSrc p=>
   hQ it fp St s' ι' l Ok σ' ((st.trans st₂).trans st') S' (fun b hb=>⟨zB (st.trans st₂).grow (hfp b hb).1,(hfp b hb).2⟩) hSt hSrc p) (he env)
noncomputable def TyOf (σ:Sto) (v:V) (T:String):Prop:=
 match v with
 | .str _=>T="str"
 | .tup _=>T="tuple"
 | .ref n=>(∃ l,σ[n]?=some (.lst l)/\T="list")∨(∃ l,σ[n]?=some (.dct l)/\T="dict")
 | _=>False
theorem TyOf.is {s:Shared} {v:V} {c:Value} {T:String} (t:TyOf σ v T) (S:Sim w h₀ s.heap ι σ) (r:VR s.heap ι v c):s.TypeIs c T/\∀ a,c=.ref a->∃ o,s.heap.get? a=some o/\o.dict=none:=by
 cases r with
 | none=>exact t.elim
 | bool=>exact t.elim
 | int=>exact t.elim
 | con=>exact t.elim
 | str x u=>have t:T="str":=t;subst t;exact ⟨typeIs_str _ _ _,fun a q=>by cases q⟩
 | tup h1 _=>have t:T="tuple":=t;subst t;exact ⟨⟨_,h1,rfl⟩,fun a q=>by cases q;exact ⟨_,h1,rfl⟩⟩
 | ref hx=>
  rcases t with ⟨l,h1,rfl⟩ | ⟨l,h1,rfl⟩
  ·obtain ⟨vs,n,e,_⟩:=S.objs _ _ _ hx h1
   exact ⟨⟨_,e,rfl⟩,fun a q=>by cases q;exact ⟨_,e,rfl⟩⟩
  ·obtain ⟨es,n,e,_⟩:=S.objs _ _ _ hx h1
   exact ⟨⟨_,e,rfl⟩,fun a q=>by cases q;exact ⟨_,e,rfl⟩⟩
inductive MtbO (name:Str) (K:String->V->Sto->Prop) (u:V) (σ:Sto):Prop
 | mk (T id:String):TyOf σ u T->PlainAttrs T->Slot T name id->typeOf (.builtin id)=pure (.type "method_descriptor")->K id u σ->MtbO name K u σ
theorem zB1 {o:Expr} {name:Str} {e:Expr} {args:List Expr} {apos pos:Pos} {pl:Env->Sem Bool} {P:V->Sto->Prop}
  (h:Ev w h₀ d sc o ρ σ (MtbO name fun id u σ₁=>Evs w h₀ d sc (e::args) ρ σ₁ fun vs σ₂=>Cl w h₀ d (.builtin id) (u::vs) σ₂ P))
  (he:∀ env,eval (.Call (.Attribute o name apos) (e::args) [] pos) env=(do
   let ov <-eval o env
   standAt apos.atName
   let (f,first) <-holding [ov] (getMethod ov name (pl env))
   callWith pos f first (backTo pos (starEach (e::args) env)) []):=by intro; rfl)
  (hs1:∀ env,starEach (e::args) env=(false,eval e env)::starEach args env:=by intro; rfl) (hs2:∀ env pos,(backTo pos (starEach args env)).any (·.1)=false:=by intros; rfl) :
  Ev w h₀ d sc (.Call (.Attribute o name apos) (e::args) [] pos) ρ σ P:=fun A env s ι hA hs F S E=>MethodCall_ (pl:=pl env) ((h A env s ι hA hs F S).seq fun c s₁ ι₁ u σ₁ st S₁ r ⟨T,id,hT,hp,hsl,hty,p⟩=>by
  obtain ⟨t1,t2⟩:=hT.is S₁ r
  refine getMethod_builtin t1 hp hsl hty t2 ?_
  refine zH2 rfl (((p A env s₁ ι₁ pos hA hs (F.stp st S) S₁).seq fun cs s₂ ι₂ vs σ₂ st₂ S₂ r₂ p₂=>?_)) (hs1 env) (hs2 env pos)
  exact (p₂ A s₂ ι₂ _ hA S₂ (.cons (r.stp st₂ S₁) r₂)).up (st.trans st₂)) (he env)
theorem jC7 {o:Expr} {name:Str} {apos pos:Pos} {pl:Env->Sem Bool} {P:V->Sto->Prop}
  (h:Ev w h₀ d sc o ρ σ (MtbO name fun id u σ₁=>Cl w h₀ d (.builtin id) [u] σ₁ P))
  (he:∀ env,eval (.Call (.Attribute o name apos) [] [] pos) env=(do
   let ov <-eval o env
   standAt apos.atName
   let (f,first) <-holding [ov] (getMethod ov name (pl env))
   callWith pos f first (backTo pos (starEach [] env)) []):=by intro; rfl) :
  Ev w h₀ d sc (.Call (.Attribute o name apos) [] [] pos) ρ σ P:=fun A env s ι hA hs F S E=>MethodCall_ (pl:=pl env) ((h A env s ι hA hs F S).seq fun c s₁ ι₁ u σ₁ st S₁ r ⟨T,id,hT,hp,hsl,hty,p⟩=>by
  obtain ⟨t1,t2⟩:=hT.is S₁ r
  refine getMethod_builtin t1 hp hsl hty t2 ?_
  exact jK4 rfl ((p A s₁ ι₁ _ hA S₁ (.cons r .nil)).up st)) (he env)
theorem Stp.pushT {X:Addr->Prop} (s:Shared) (ob:Obj) (t:Nat):Stp X s { s with heap:=s.heap.push ob,toks:=t } ι ι:=.more (fun oo1 oo2 e=>zF _ e) (by show _<=(s.heap.push ob).objs.size;rw [qA];lia) rfl rfl
noncomputable def upto (a b:Int):List V:=(List.range (b - a).toNat).map fun (k:Nat)=>V.int (a+k)
theorem zE5 (a b:Int):(upto a b).length=(b - a).toNat:=by simp [upto]
theorem zL0 {a b:Int} {i:Nat} {v:V} (h:(upto a b)[i]?=some v):v=.int (a+i)/\i < (b - a).toNat:=by
 unfold upto at h
 rw [zS] at h
 cases hr:(List.range (b - a).toNat)[i]? with
 | none=>rw [hr] at h;cases h
 | some k=>
  rw [hr] at h
  obtain ⟨h1,h2⟩:=zC.mp hr
  simp at h2 h1
  subst h2
  exact ⟨(Option.some.inj h).symm,by simpa using h1⟩
theorem jI9 {A:Around} {tg:Expr} {s:Shared} {r:Addr} {a b:Int} {t u v:Tok} {Q:Value->Shared->Prop} {E:Value->Shared->Prop} {P:List V->(Sto->Prop)->Sto->Prop} (hr:IsRange s.heap r a b 1 t u v) (S:Sim w h₀ s.heap ι σ)
  (ha:a.natAbs<=1000000) (hb:b.natAbs<=1000000) (p:P (upto a b) (fun oo1=>True) σ)
  (hQ:∀ it fp St s' ι' l Ok σ',Stp NoX s s' ι ι'->Sim w h₀ s'.heap ι' σ'->(∀ b∈fp,s.heap.objs.size<=b/\b ∉ ι'/\∃ o,s'.heap.get? b=some o/\∀ vs n,o.data≠.seq vs n)->St 0 s'.heap ι'->
   (∀ A':Around,A'.handled=none->Src w h₀ A' tg it fp l Ok St)->P l Ok σ'->Q (.ref it) s'):wpAny (model PG w) A (pyIter (.ref r)) Q E s:=by
 have hsz:Builtin.Range.rangeSize a b 1=((b - a).toNat:Int):=by
  unfold Builtin.Range.rangeSize
  have h1:(1:Int) > 0:=by decide
  simp only [h1,if_true,Int.ediv_one]
  by_cases h:b > a
  ·rw [if_pos h,xF,Int.toNat_of_nonneg (Int.sub_nonneg_of_le (Int.le_of_lt h))]
  ·rw [if_neg h,Int.toNat_of_nonpos (Int.sub_nonpos_of_le (kU.mp h))];rfl
 have hfit:∀ x:Int,x.natAbs<=3000000->Builtin.Range.rangeFitsLong x=true:=fun x hx=>by
  unfold Builtin.Range.rangeFitsLong
  have h1:=wT.mpr hx
  exact zJ.mpr ⟨decide_eq_true (Int.neg_le_of_neg_le (kT Int.le_natAbs (by rw [Int.natAbs_neg];exact kT h1 (by decide)))),decide_eq_true (Int.lt_of_le_of_lt (kT Int.le_natAbs h1) (by decide))⟩
 refine wpAny_pyIter_range hr ?_ ?_
 ·unfold Builtin.Range.small
  rw [hsz,hfit a (zB ha (by decide)),hfit b (zB hb (by decide)),hfit 1 (by decide),hfit _ (by rw [xJ];exact Int.toNat_le.mpr (kT Int.le_natAbs (wT.mpr (zB (Int.natAbs_sub_le b a) (zB (yL hb ha) (by decide))))))]
  have h1:(1:Int) > 0:=by decide
  simp only [h1,if_true,Bool.and_true,Bool.true_and]
  rw [hfit (b+(1 - 1)) (by rw [Int.sub_self,Int.add_zero];exact zB hb (by decide))]
  simp
 ·rw [hsz]
  refine hQ s.heap.objs.size [s.heap.objs.size] (fun i h oo1=>IsRangeIter h s.heap.objs.size (a+i) (((b - a).toNat:Int) - i) 1) { s with heap:=s.heap.push { cls:=.type "range_iterator",data:=.fields #[rawInt a,rawInt (((b - a).toNat:Nat):Int),rawInt 1] } } ι (upto a b) (fun oo1=>True) σ (.push ..) (S.push _) (fun c hc=>?_) ?_ (fun A' hA'=>⟨?_,?_,?_,?_⟩) p
  ·rw [zM.mp hc]
   exact ⟨zK _,fun m=>absurd (S.lt m) (yM _),_,zT _ rfl,fun oo1 oo2 q=>by cases q⟩
  ·show IsRangeIter _ _ (a+(0:Nat)) (((b - a).toNat:Int) - (0:Nat)) 1
   have e1:a+((0:Nat):Int)=a:=Int.add_zero a
   have e2:((b - a).toNat:Int) - ((0:Nat):Int)=((b - a).toNat:Int):=Int.sub_zero _
   rw [e1,e2]
   exact zT _ rfl
  ·intro i h h' ι ι' hs hk tk hi
   exact hk _ (by simp) _ hs
  ·intro i v s' ι' σ' Q' E1 E2 hv hs S' _ hQ'
   obtain ⟨rfl,hi⟩:=zL0 hv
   refine wpAny_pyNext_range_item hs (Int.sub_pos_of_lt (vT.mpr hi)) fun h' hit' hs'=>?_
   have e1:a+(i:Int)+1=a+((i+1:Nat):Int):=Int.add_assoc _ _ _
   have e2:((b - a).toNat:Int) - (i:Int) - 1=((b - a).toNat:Int) - ((i+1:Nat):Int):=Int.sub_sub _ _ _
   rw [e1,e2] at hit'
   refine zP9 (s:={ s' with heap:=h',toks:=s'.toks+1 }) hit' rfl (by decide) (hQ' _ h' (s'.toks+1) (fun oo1=>.int _ _) (fun oo1=>hit') (fun b o hb e=>(hs'.2 b fun q=>hb (by simp [q])).trans e) (jU hs'.1.symm) fun b hb=>?_)
   rw [zM.mp hb]
   exact ⟨_,hit',fun oo1 oo2 q=>by cases q⟩
  ·intro s' ι' σ' Q' E1 hs S' _ hQ'
   rw [zE5] at hs
   exact zB7 (wpAny_pyNext_range_end hA' hs (Int.le_of_eq (Int.sub_self _)) fun h' he' hz=>hQ' h' s'.toks (fun b o hb e=>he' b o (fun q=>hb (by simp [q])) e) hz)
  ·intro i s' ι' Q' E1 hs hq
   exact wpAny_pyIter_rangeiter hs hq
theorem zK4 {tg:Expr} {a b:Int} {P:List V->(Sto->Prop)->Sto->Prop} (ha:a.natAbs<=1000000) (hb:b.natAbs<=1000000) (p:P (upto a b) (fun oo1=>True) σ):ItC w h₀ d tg (.type "range") [.int a,.int b] σ P:=by
 intro A s ι cs Q E hA S r hQ
 cases r using VRs.consE with
 | cons ra r=>cases r using VRs.consE with
  | cons rb r=>
   cases r using VRs.nilE;cases ra using VR.intE;cases rb using VR.intE
   refine call_range_2 ?_
   refine jI9 (s:={ s with heap:=_,toks:=s.toks+1 }) (zT _ rfl) (S.push _) ha hb p fun it fp St s' ι' l Ok σ' st' S' hfp hSt hSrc p=>hQ it fp St s' ι' l Ok σ' ?_ S' (fun b hb=>⟨?_,(hfp b hb).2⟩) hSt hSrc p
   ·exact Stp.trans (Stp.pushT ..) st'
   ·have:=(hfp b hb).1
    refine zB ?_ this
    show _<=(s.heap.push _).objs.size;rw [qA];lia
theorem jL2 {tg:Expr} {b:Int} {P:List V->(Sto->Prop)->Sto->Prop} (hb:b.natAbs<=1000000) (p:P (upto 0 b) (fun oo1=>True) σ):ItC w h₀ d tg (.type "range") [.int b] σ P:=by
 intro A s ι cs Q E hA S r hQ
 cases r using VRs.consE with
 | cons rb r=>
  cases r using VRs.nilE;cases rb using VR.intE
  refine call_range_1 ?_
  refine jI9 (s:={ s with heap:=_,toks:=s.toks+1+1 }) (zT _ rfl) (S.push _) (by decide) hb p fun it fp St s' ι' l Ok σ' st' S' hfp hSt hSrc p=>hQ it fp St s' ι' l Ok σ' ?_ S' (fun b hb=>⟨?_,(hfp b hb).2⟩) hSt hSrc p
  ·exact Stp.trans (Stp.pushT ..) st'
  ·have:=(hfp b hb).1
   refine zB ?_ this
   show _<=(s.heap.push _).objs.size;rw [qA];lia
end
section
variable {d:Nat} {sc:Scope} {ρ:Lc} {σ:Sto} {ι:List Addr}
theorem VRs.ints {h:Heap} {ns:List Int} {cs:List Value} (r:VRs h ι (ns.map .int) cs):IntsAre cs ns:=by
 induction ns generalizing cs with
 | nil=>cases r using VRs.nilE;exact .nil
 | cons n ns ih=>
  cases r using VRs.consE with
  | cons r1 r=>cases r1 using VR.intE;exact .cons _ _ (ih r)
theorem Do.turn {β α:Type} {R:Heap->List Addr->β->α->Prop} {s:Shared} {h':Heap} {t:Nat} {n:Nat} {a:Addr} {o':O} {c:α} {v:β} {P:β->Sto->Prop} (S:Sim w h₀ s.heap ι σ) (hn:ι[n]?=some a) (hs:Heap.SameBut a s.heap h')
  (ho:gQ s.heap h'->OR w h' ι a o') (hr:gQ s.heap h'->R h' ι v c) (p:P v (σ.set n o')) :
  DoO w h₀ R s ι P c { s with heap:=h',toks:=t }:=by
 have st:Stp NoX s { s with heap:=h',toks:=t } ι ι:=.same (zI hn) hs rfl rfl
 exact ⟨ι,v,_,st,S.update hn hs ho,hr (st.tup0 S),p⟩
theorem zC4 {n:Nat} {l:List V} {v:V} {P:V->Sto->Prop} (hn:σ[n]?=some (.lst l)) (hz:l.length<=1000000) (h:P .none (σ.set n (.lst (l++[v])))):Cl w h₀ d (.builtin "list.append") [.ref n,v] σ P:=fun A s ι cs hA S r E=>by
 cases r using VRs.consE with
 | cons r1 r=>cases r using VRs.consE with
  | cons r2 r=>cases r using VRs.nilE;cases r1 using VR.refE with
   | ref ha=>
    obtain ⟨vs,k,hl,hv⟩:=S.objs _ _ _ ha hn
    have e:l.length=vs.size:=by rw [<-zG];exact hv.length
    refine wpAny_list_append_plain ⟨k,hl⟩ (fun h' ⟨k',hl'⟩ hs'=>?_) (by rw [sizeLine_eq];lia)
    exact Do.turn (o':=.lst (l++[v])) (v:=V.none) S ha hs' (fun tk=>⟨_,_,hl',by rw [yS];exact (hv.mono tk fun oo1 oo2 e=>e).snoc (r2.mono tk fun oo1 oo2 e=>e)⟩) (fun oo1=>.none) h
theorem cl_pop {n:Nat} {l:List V} {v:V} {P:V->Sto->Prop} (hn:σ[n]?=some (.lst (l++[v]))) (hz:l.length<=1000000) (h:P v (σ.set n (.lst l))):Cl w h₀ d (.builtin "list.pop") [.ref n] σ P:=fun A s ι cs hA S r E=>by
 cases r using VRs.consE with
 | cons r1 r=>cases r using VRs.nilE;cases r1 using VR.refE with
  | ref ha=>
   rename_i a
   obtain ⟨vs,k,hl,hv⟩:=S.objs _ _ _ ha hn
   have e:(l++[v]).length=vs.size:=by rw [<-zG];exact hv.length
   have e':vs.size=l.length+1:=by rw [<-e];simp
   obtain ⟨c,hc,rc⟩:=hv.get (i:=l.length) (v:=v) (by simp)
   refine call_meets F.slot_list_pop ⟨_,hl,rfl⟩ F.entry_list_pop (F.args_list_pop_1 _) (MeetsSeq.list_pop_last a vs k c (by rw [e',<-zW];exact hc) (by rw [sizeLine_eq];lia)) ⟨hl,?_⟩
   have hl':=get?_update_seq hl (fun xs=>xs.eraseIdxIfInBounds (vs.size - 1))
   refine Do.turn (o':=.lst l) (t:=s.toks) S ha (Heap.SameBut.update ..) (fun tk=>⟨_,_,hl',?_⟩) (fun tk=>rc.mono tk fun oo1 oo2 e=>e) h
   have:(vs.eraseIdxIfInBounds (vs.size - 1)).toList=vs.toList.take l.length:=by
    rw [Array.toList_eraseIdxIfInBounds,e',Nat.add_sub_cancel,List.eraseIdx_eq_take_drop_succ,vJ (by rw [zG];lia),jI]
   rw [this]
   have:=(hv.take l.length).mono tk fun oo1 oo2 e=>e
   rwa [List.take_left'  rfl] at this
theorem jP5 {a b:Nat} (h:a+b<=1000000) (x:Bool):¬(x && Builtin.List.listTooLong (a+b))=true:=by
 unfold Builtin.List.listTooLong
 rw [sizeLine_eq]
 intro _;lia
theorem zM5 {n m:Nat} {l l':List V} {P:V->Sto->Prop} (hn:σ[n]?=some (.lst l)) (hm:σ[m]?=some (.lst l')) (hz:l.length+l'.length<=1000000) (h:P .none (σ.set n (.lst (l++l')))):Cl w h₀ d (.builtin "list.extend") [.ref n,.ref m] σ P:=fun A s ι cs hA S r E=>by
 cases r using VRs.consE with
 | cons r1 r=>cases r using VRs.consE with
  | cons r2 r=>cases r using VRs.nilE;cases r1 using VR.refE with
   | ref ha=>cases r2 using VR.refE with
    | ref hb=>
     obtain ⟨vs,k,hl,hv⟩:=S.objs _ _ _ ha hn
     obtain ⟨us,k',hl2,hu⟩:=S.objs _ _ _ hb hm
     have e:l.length=vs.size:=by rw [<-zG];exact hv.length
     have e':l'.length=us.size:=by rw [<-zG];exact hu.length
     refine call_meets F.slot_list_extend ⟨_,hl,rfl⟩ F.entry_list_extend (F.args_list_extend_2 _ _) (AutoSeq1.list_extend_list_list_0 _ vs k _ us k' (jP5 (by lia) _) (by rw [sizeLine_eq];lia) (by rw [sizeLine_eq];lia)) ⟨hl,hl2,?_⟩
     have hl':=get?_update_seq hl (fun x=>x++us)
     exact Do.turn (o':=.lst (l++l')) (v:=V.none) S ha (Heap.SameBut.update ..) (fun tk=>⟨_,_,hl',by rw [kO];exact (hv.append hu).mono tk fun oo1 oo2 e=>e⟩) (fun oo1=>.none) h
theorem zZ8 {n:Nat} {l l':List V} {P:V->Sto->Prop} (hn:σ[n]?=some (.lst l)) (hz:l.length+l'.length<=1000000) (h:P .none (σ.set n (.lst (l++l')))):Cl w h₀ d (.builtin "list.extend") [.ref n,.tup l'] σ P:=fun A s ι cs hA S r E=>by
 cases r using VRs.consE with
 | cons r1 r=>cases r using VRs.consE with
  | cons r2 r=>cases r using VRs.nilE;cases r1 using VR.refE with
   | ref ha=>cases r2 using VR.tupE with
    | tup ht hu=>
     rename_i us k'
     obtain ⟨vs,k,hl,hv⟩:=S.objs _ _ _ ha hn
     have e:l.length=vs.size:=by rw [<-zG];exact hv.length
     have e':l'.length=us.size:=by rw [<-zG];exact hu.length
     refine call_meets F.slot_list_extend ⟨_,hl,rfl⟩ F.entry_list_extend (F.args_list_extend_2 _ _) (AutoSeq1.list_extend_list_tuple_0 _ vs k _ us k' (jP5 (by lia) _) (by rw [sizeLine_eq];lia) (by rw [sizeLine_eq];lia)) ⟨hl,ht,?_⟩
     have hl':=get?_update_seq hl (fun x=>x++us)
     exact Do.turn (o':=.lst (l++l')) (v:=V.none) S ha (Heap.SameBut.update ..) (fun tk=>⟨_,_,hl',by rw [kO];exact (hv.append hu).mono tk fun oo1 oo2 e=>e⟩) (fun oo1=>.none) h
theorem zA9 {l:List V} {P:V->Sto->Prop} (hz:l.length<=1000000) (h:P (.int l.length) σ):Cl w h₀ d (.builtin "len") [.tup l] σ P:=fun A s ι cs hA S r E=>by
 cases r using VRs.consE with
 | cons r1 r=>cases r using VRs.nilE;cases r1 using VR.tupE with
  | tup ht hv=>
   rename_i t vs n
   have e:l.length=vs.size:=by rw [<-zG];exact hv.length
   rw [e] at h
   exact PySem.P.len_tuple ht (by lia) (Do.tok S (.int _ _) h)
theorem zA7 {n:Nat} {l:List V} {P:V->Sto->Prop} (hn:σ[n]?=some (.lst l)) (hz:l.length<=1000000) (h:P (.int l.length) σ):Cl w h₀ d (.builtin "len") [.ref n] σ P:=fun A s ι cs hA S r E=>by
 cases r using VRs.consE with
 | cons r1 r=>cases r using VRs.nilE;cases r1 using VR.refE with
  | ref ha=>
   obtain ⟨vs,k,hl,hv⟩:=S.objs _ _ _ ha hn
   have e:l.length=vs.size:=by rw [<-zG];exact hv.length
   rw [e] at h
   exact Calls.call_len_list ⟨_,hl,rfl,k,rfl⟩ (Int.lt_of_le_of_lt (wT.mpr (e ▸ hz)) (by decide)) (Do.tok S (.int _ _) h)
theorem cl_sum {n:Nat} {ns:List Int} {P:V->Sto->Prop} (hn:σ[n]?=some (.lst (ns.map .int))) (h:P (.int ns.sum) σ):Cl w h₀ d (.builtin "sum") [.ref n] σ P:=fun A s ι cs hA S r E=>by
 cases r using VRs.consE with
 | cons r1 r=>cases r using VRs.nilE;cases r1 using VR.refE with
  | ref ha=>
   obtain ⟨vs,k,hl,hv⟩:=S.objs _ _ _ ha hn
   have hi:=hv.ints
   obtain ⟨xs,hx⟩:=(show AllInts vs by have:=hi.allInts;simpa using this).items
   have en:ns=xs.toList.map (·.1):=by rw [<-nums_intItems,<-hx];exact hi.numsOf.symm
   subst hx
   refine zB7 (sum_intListG hA.handled ⟨_,hl,rfl,k,rfl⟩ fun h' tk t' hk hz=>?_)
   rw [preSum_eq,zR (by simp),<-en]
   exact ⟨ι,.int ns.sum,σ,.more hk hz rfl rfl,S.mono hk hz,.int _ _,h⟩
theorem cl_max {n:Nat} {ns:List Int} {P:V->Sto->Prop} (hn:σ[n]?=some (.lst (ns.map .int))) (hne:ns≠[]) (h:∀ m,m∈ns->(∀ a∈ns,a<=m)->P (.int m) σ):Cl w h₀ d (.builtin "max") [.ref n] σ P:=fun A s ι cs hA S r E=>by
 cases r using VRs.consE with
 | cons r1 r=>cases r using VRs.nilE;cases r1 using VR.refE with
  | ref ha=>
   obtain ⟨vs,k,hl,hv⟩:=S.objs _ _ _ ha hn
   have hi:=hv.ints
   obtain ⟨xs,hx⟩:=(show AllInts vs by have:=hi.allInts;simpa using this).items
   have en:ns=xs.toList.map (·.1):=by rw [<-nums_intItems,<-hx];exact hi.numsOf.symm
   subst hx
   have hpos:0 < xs.size:=by
    rcases xK xs.size with q | q
    ·exfalso;apply hne;rw [en]
     have:xs=#[]:=Array.eq_empty_of_size_eq_zero q
     rw [this];rfl
    ·exact q
   refine zB7 (max_intList hA.handled ⟨_,hl,rfl,k,rfl⟩ hpos fun v h' tk hv' hk hz=>?_)
   obtain ⟨t,rfl⟩:=intItems_at hv'
   obtain ⟨h1,h2⟩:=argBest_gt (numAt xs) (xs.size - 1)
   refine ⟨ι,.int _,σ,.more hk hz rfl rfl,S.mono hk hz,.int _ _,h _ ?_ fun a ha=>?_⟩
   ·rw [en,numAt_eq];exact getD_mem (by rw [zD,zG];exact jY h1 (Nat.sub_lt hpos Nat.one_pos))
   ·rw [en] at ha
    obtain ⟨j,hj,rfl⟩:=mem_getD ha
    rw [zD,zG] at hj
    rw [<-numAt_eq];exact h2 j (Nat.le_pred_of_lt hj)
theorem zG7 {n:Nat} {l:List V} {P:V->Sto->Prop} (hn:σ[n]?=some (.lst l)) (hz:l.length<=1000000) (h:P (.tup l) σ):Cl w h₀ d (.type "tuple") [.ref n] σ P:=fun A s ι cs hA S r E=>by
 cases r using VRs.consE with
 | cons r1 r=>cases r using VRs.nilE;cases r1 using VR.refE with
  | ref ha=>
   obtain ⟨vs,k,hl,hv⟩:=S.objs _ _ _ ha hn
   have e:l.length=vs.size:=by rw [<-zG];exact hv.length
   refine zB7 (call_tuple_list ⟨_,hl,rfl,k,rfl⟩ (fun h' hk hz=>?_) (by rw [sizeLine_eq];lia))
   have hk':∀ b o,s.heap.get? b=some o->(h'.push { cls:=.type "tuple",data:=.seq vs }).get? b=some o:=fun b o e=>zF _ (hk b o e)
   exact ⟨ι,.tup l,σ,.more hk' hz rfl rfl,S.mono hk' hz,.tup (n:=0) (zT _ rfl) (hv.mono (fun a vs n e=>hk' _ _ e) fun oo1 oo2 e=>e),h⟩
theorem zP8 {l:List V} {P:V->Sto->Prop} (h:P (.tup l) σ):Cl w h₀ d (.type "tuple") [.tup l] σ P:=fun A s ι cs hA S r E=>by
 cases r using VRs.consE with
 | cons r1 r=>cases r using VRs.nilE;cases r1 using VR.tupE with
  | tup ht hv=>
   rename_i t vs n
   exact call_tuple_same ⟨_,ht,rfl,n,rfl⟩ (Do.same S (.tup ht hv) h)
theorem zT2 {n:Nat} {l:List V} {P:V->Sto->Prop} (hn:σ[n]?=some (.lst l)) (hz:l.length<=1000000) (h:P (.ref σ.length) (σ++[.lst l])):Cl w h₀ d (.type "list") [.ref n] σ P:=fun A s ι cs hA S r E=>by
 cases r using VRs.consE with
 | cons r1 r=>cases r using VRs.nilE;cases r1 using VR.refE with
  | ref ha=>
   obtain ⟨vs,k,hl,hv⟩:=S.objs _ _ _ ha hn
   have e:l.length=vs.size:=by rw [<-zG];exact hv.length
   refine zB7 (call_list_seq _ (.inl rfl) hl rfl rfl (fun h' c' hk hD hz=>?_) (by rw [sizeLine_eq];lia))
   have hnew:s.heap.objs.size ∉ ι:=fun m=>absurd (S.lt m) (yM _)
   have st:Stp NoX s { s with heap:=h' } ι (ι++[s.heap.objs.size]):=⟨⟨_,rfl,by simp⟩,fun a o e oo1 oo2=>hk a o e,hz,rfl,rfl⟩
   exact ⟨_,.ref σ.length,_,st,(S.mono hk hz).adopt (o:=.lst l) hnew S.big ⟨vs,c',hD,hv.mono (fun a vs n e=>hk _ _ e) zE3⟩,.ref (by rw [<-S.len];simp),h⟩
theorem cl_int {i:Int} {P:V->Sto->Prop} (h:P (.int i) σ):Cl w h₀ d (.type "int") [.int i] σ P:=fun A s ι cs hA S r E=>by
 cases r using VRs.consE with
 | cons r1 r=>cases r using VRs.nilE;cases r1 using VR.intE;exact call_int_int (Do.same S (.int _ _) h)
theorem jL9 {x:Str} {P:V->Sto->Prop} (h:P (.bool (Txt.isspace x)) σ):Cl w h₀ d (.builtin "str.isspace") [.str x] σ P:=fun A s ι cs hA S r E=>by
 cases r using VRs.consE with
 | cons r1 r=>cases r using VRs.nilE;cases r1 using VR.strE;exact call_gives F.slot_str_isspace (typeIs_str _ _ _) F.entry_str_isspace (F.args_str_isspace_1 _) (gives_str_isspace x _) (Do.same S (.bool _) h)
end
end
section
open PySem PySem.W PySem.Calls PyProof.Rows PySem.SeqAt
noncomputable def asI (a:Int) (u:V):Bool:=V.casesOn u false (fun oo1=>false) (fun b=>a == b) (fun oo1=>false) (fun oo1=>false) (fun oo1=>false) fun oo1=>false
noncomputable def asS (a:Str) (u:V):Bool:=V.casesOn u false (fun oo1=>false) (fun oo1=>false) (fun b=>a == b) (fun oo1=>false) (fun oo1=>false) fun oo1=>false
noncomputable def asT (f:List V->Bool) (u:V):Bool:=V.casesOn u false (fun oo1=>false) (fun oo1=>false) (fun oo1=>false) f (fun oo1=>false) fun oo1=>false
noncomputable def jP0 (u:V):Bool:=V.casesOn u false (fun oo1=>false) (fun oo1=>true) (fun oo1=>true) (fun oo1=>false) (fun oo1=>false) fun oo1=>false
noncomputable def eqL:List (V->Bool)->List V->Bool:=List.rec (fun m=>m.isEmpty) fun f oo1 ih m=>List.casesOn m false fun u m=>f u && ih m
noncomputable def V.eqb:V->V->Bool:=V.fold (fun oo1=>false) asI asS fun fs=>asT (eqL fs)
noncomputable def eqbs (l:List V):List V->Bool:=eqL (V.folds (fun oo1=>false) asI asS (fun fs=>asT (eqL fs)) l)
noncomputable def V.dep:V->Nat:=V.fold 0 (fun oo1=>0) (fun oo1=>0) fun l=>l.foldr max 0+1
noncomputable def deps (l:List V):Nat:=(V.folds 0 (fun oo1=>0) (fun oo1=>0) (fun l=>l.foldr max 0+1) l).foldr max 0
theorem jN6 (l:List V):(V.tup l).dep=deps l+1:=rfl
theorem zH1 (v:V) (l:List V):deps (v::l)=max v.dep (deps l):=rfl
theorem jB1 (v u:V) (l m:List V):eqbs (v::l) (u::m)=(v.eqb u && eqbs l m):=rfl
theorem V.eqb_iff {v u:V}:zC3 v=true->zC3 u=true->(v.eqb u=true ↔ v=u):=
 V.rec (motive_1:=fun v=>∀ u,zC3 v=true->zC3 u=true->(v.eqb u=true ↔ v=u)) (motive_2:=fun l=>∀ m,gR l=true->gR m=true->(eqbs l m=true ↔ l=m))
  (fun oo1 h=>nomatch h) (fun oo1 oo2 h=>nomatch h)
  (fun a u oo1 hu=>by
   cases u with
   | int b=>exact beq_iff_eq.trans ⟨congrArg V.int,V.int.inj⟩
   | str | tup=>exact ⟨fun h=>(nomatch h),fun h=>(nomatch h)⟩
   | _=>exact nomatch hu)
  (fun a u oo1 hu=>by
   cases u with
   | str b=>exact beq_iff_eq.trans ⟨congrArg V.str,V.str.inj⟩
   | int | tup=>exact ⟨fun h=>(nomatch h),fun h=>(nomatch h)⟩
   | _=>exact nomatch hu)
  (fun a ih u hv hu=>by
   cases u with
   | tup b=>exact (ih b hv hu).trans ⟨congrArg V.tup,V.tup.inj⟩
   | int | str=>exact ⟨fun h=>(nomatch h),fun h=>(nomatch h)⟩
   | _=>exact nomatch hu)
  (fun oo1 oo2 h=>nomatch h) (fun oo1 oo2 h=>nomatch h)
  (fun m oo1 oo2=>by
   cases m with
   | nil=>exact ⟨fun oo1=>rfl,fun oo1=>rfl⟩
   | cons=>exact ⟨fun h=>(nomatch h),fun h=>(nomatch h)⟩)
  (fun v l i1 i2 m hv hu=>by
   cases m with
   | nil=>exact ⟨fun h=>(nomatch h),fun h=>(nomatch h)⟩
   | cons u m=>
    have hv:=zJ.mp hv
    have hu:=zJ.mp hu
    refine zJ.trans ⟨fun h=>?_,fun h=>?_⟩
    ·rw [(i1 u hv.1 hu.1).mp h.1,(i2 m hv.2 hu.2).mp h.2]
    ·exact ⟨(i1 u hv.1 hu.1).mpr (List.cons.inj h).1,(i2 m hv.2 hu.2).mpr (List.cons.inj h).2⟩) v u
theorem zP2 {l m:List V} (hl:gR l=true) (hm:gR m=true):eqbs l m=true ↔ l=m:=(V.eqb_iff (v:=.tup l) (u:=.tup m) hl hm).trans ⟨V.tup.inj,congrArg V.tup⟩
theorem V.eqb_false {v u:V} (hv:zC3 v=true) (hu:zC3 u=true) (h:v≠u):v.eqb u=false:=by
 cases e:v.eqb u
 ·rfl
 ·exact absurd ((V.eqb_iff hv hu).mp e) h
theorem jG8 {l:List V}:∀ {m:List V},eqbs l m=true->l.length=m.length:=by
 induction l with
 | nil=>intro m h;cases m with | nil=>rfl | cons=>exact nomatch h
 | cons v l ih=>intro m h;cases m with | nil=>exact nomatch h | cons u m=>exact congrArg kX (ih (zJ.mp h).2)
noncomputable def eqJ (l m:List V) (j:Nat):Bool:=l[j]?.elim false fun v=>m[j]?.elim false v.eqb
theorem jE7 {l m:List V} {j:Nat} {v u:V} (h1:l[j]?=some v) (h2:m[j]?=some u):eqJ l m j=v.eqb u:=by unfold eqJ;rw [h1,h2];rfl
theorem zN8 {l:List V}:∀ m:List V,((List.range (min l.length m.length)).all (eqJ l m) && l.length == m.length)=eqbs l m:=by
 induction l with
 | nil=>intro m;rw [yF,Nat.zero_min];cases m <;> rfl
 | cons v l ih=>
  intro m
  cases m with
  | nil=>rfl
  | cons u m=>
   rw [jB1,<-ih m,zV,zV,Nat.add_min_add_right,List.range_succ_eq_map,List.all_cons,wG,Bool.and_assoc,show (l.length+1 == m.length+1)=(l.length == m.length) from xZ.mpr (beq_iff_eq.trans (Nat.succ_inj.trans beq_iff_eq.symm))]
   rfl
theorem zB6 {l:List V} {v:V} (hp:gR l=true) (h:v∈l):zC3 v=true:=by
 induction l with
 | nil=>exact nomatch h
 | cons u l ih=>exact (jN.mp h).elim (fun e=>e ▸ (zJ.mp hp).1) (ih (zJ.mp hp).2)
theorem zG2 {l:List V} {v:V} (h:v∈l):v.dep<=deps l:=by
 induction l with
 | nil=>exact nomatch h
 | cons u l ih=>exact (jN.mp h).elim (fun e=>e ▸ xD _ _) fun h=>zB (ih h) (wX _ _)
noncomputable abbrev dropP (h:Heap) (ι:List Addr) (v:V) (c:Value):Prop:=zC3 v=true->VR h ι v c
noncomputable abbrev dropQ (h:Heap) (ι:List Addr) (l:List V) (cs:List Value):Prop:=gR l=true->VRs h ι l cs
theorem VR.drop {h:Heap} {ι ι':List Addr} {v:V} {c:Value} (p:zC3 v=true) (r:VR h ι v c):VR h ι' v c:=
 VR.rec (motive_1:=fun v c oo1=>dropP h ι' v c) (motive_2:=fun l cs oo1=>dropQ h ι' l cs) (fun p=>nomatch p) (fun oo1 p=>nomatch p) (fun i t oo1=>.int i t) (fun x t oo1=>.str x t) (fun h1 oo1 ih p=>.tup h1 (ih p)) (fun oo1 p=>nomatch p) (fun oo1 p=>nomatch p)
  (fun oo1=>.nil) (fun oo1 oo2 i1 i2 p=>.cons (i1 (zJ.mp p).1) (i2 (zJ.mp p).2)) r p
theorem VRs.dropp {h:Heap} {ι ι':List Addr} {v:List V} {c:List Value} (p:gR v=true) (r:VRs h ι v c):VRs h ι' v c:=by
 induction r using VRs.ind with
 | nil=>exact .nil
 | cons h1 _ ih=>exact .cons (h1.drop (zJ.mp p).1) (ih (zJ.mp p).2)
noncomputable def zN4:V->Bool:=V.rec (motive_1:=fun oo1=>Bool) (motive_2:=fun oo1=>Bool) true (fun oo1=>true) (fun oo1=>true) (fun oo1=>true) (fun oo1 b=>b) (fun oo1=>true) (fun oo1=>false) true fun oo1 oo2 a b=>a && b
noncomputable def zN9:List V->Bool:=V.rec_1 (motive_1:=fun oo1=>Bool) (motive_2:=fun oo1=>Bool) true (fun oo1=>true) (fun oo1=>true) (fun oo1=>true) (fun oo1 b=>b) (fun oo1=>true) (fun oo1=>false) true fun oo1 oo2 a b=>a && b
theorem zY6 {v:V}:zC3 v=true->zN4 v=true:=
 V.rec (motive_1:=fun v=>zC3 v=true->zN4 v=true) (motive_2:=fun l=>gR l=true->zN9 l=true) (fun h=>nomatch h) (fun oo1 h=>nomatch h) (fun oo1 oo2=>rfl) (fun oo1 oo2=>rfl) (fun oo1 ih h=>ih h) (fun oo1 h=>nomatch h) (fun oo1 h=>nomatch h) (fun oo1=>rfl)
  (fun oo1 oo2 i1 i2 h=>zJ.mpr ⟨i1 (zJ.mp h).1,i2 (zJ.mp h).2⟩) v
noncomputable def OfC (h:Heap) (ι:List Addr) (u:V) (c:Value):Prop:=match c with
 | .none=>u=.none
 | .bool b=>u=.bool b
 | .int i _=>u=.int i
 | .str x _=>u=.str x
 | .ref a=>(∃ n,u=.ref n/\ι[n]?=some a)∨∃ vs n l,u=.tup l/\IsT h a vs n/\VRs h ι l vs.toList
 | _=>False
theorem VR.ofC {h:Heap} {ι:List Addr} {u:V} {c:Value} (r:VR h ι u c) (hq:zN4 u=true):OfC h ι u c:=by
 cases r with
 | tup h1 h2=>exact .inr ⟨_,_,_,rfl,h1,h2⟩
 | ref e=>exact .inl ⟨_,rfl,e⟩
 | con=>exact nomatch hq
 | _=>rfl
noncomputable abbrev oneP (h:Heap) (ι:List Addr) (v:V) (c:Value) (_:VR h ι v c):Prop:=zN4 v=true->∀ u,zN4 u=true->VR h ι u c->v=u
noncomputable abbrev oneQ (h:Heap) (ι:List Addr) (l:List V) (cs:List Value) (_:VRs h ι l cs):Prop:=zN9 l=true->∀ m,zN9 m=true->VRs h ι m cs->l=m
theorem VR.one {h:Heap} {ι:List Addr} (hd:ι.Nodup) (ht:∀ a∈ι,zI7 h a) (v u:V) (c:Value) (hp:zN4 v=true) (hq:zN4 u=true) (r:VR h ι v c) (q:VR h ι u c):v=u:=by
 refine VR.rec (motive_1:=oneP h ι) (motive_2:=oneQ h ι) (fun oo1 u hu q=>(q.ofC hu).symm) (fun oo1 oo2 u hu q=>(q.ofC hu).symm) (fun oo1 oo2 oo3 u hu q=>(q.ofC hu).symm) (fun oo1 oo2 oo3 u hu q=>(q.ofC hu).symm) (fun h1 oo1 ih hp u hu q=>?_) (fun e oo1 u hu q=>?_) (fun oo1 p=>nomatch p) (fun oo1 m oo2 q=>?_) (fun oo1 oo2 i1 i2 hp m hm q=>?_) r hp u hq q
 ·rcases q.ofC hu with ⟨n,_,e⟩ | ⟨vs,k,m,e,h2,h3⟩
  ·exact absurd h1 (ht _ (zI e) _ _)
  ·subst e
   cases h1.symm.trans h2
   exact congrArg V.tup (ih hp m hu h3)
 ·rcases q.ofC hu with ⟨n,e',e2⟩ | ⟨vs,k,m,_,h2,_⟩
  ·rw [e',(List.getElem?_inj (zC.mp e).1 hd).mp (e.trans e2.symm)]
  ·exact absurd h2 (ht _ (zI e) _ _)
 ·cases q;rfl
 ·cases q with
  | cons h1 h2=>rw [i1 (zJ.mp hp).1 _ (zJ.mp hm).1 h1,i2 (zJ.mp hp).2 _ (zJ.mp hm).2 h2]
theorem VR.inj {h:Heap} {ι:List Addr} {v u:V} {c:Value} (hv:zC3 v=true) (hu:zC3 u=true) (r:VR h ι v c) (q:VR h ι u c):v=u:=
 VR.one (ι:=[]) wO (fun oo1 z=>nomatch z) v u c (zY6 hv) (zY6 hu) (r.drop hv) (q.drop hu)
theorem VRs.inj {h:Heap} {ι:List Addr} {v u:List V} {c:List Value} (hv:gR v=true) (hu:gR u=true) (r:VRs h ι v c) (q:VRs h ι u c):v=u:=by
 induction r using VRs.ind generalizing u with
 | nil=>cases q using VRs.ind;rfl
 | cons h1 _ ih=>cases q using VRs.ind with
  | cons h3 h4=>rw [VR.inj (zJ.mp hv).1 (zJ.mp hu).1 h1 h3,ih (zJ.mp hv).2 (zJ.mp hu).2 h4]
theorem VR.pureE {h:Heap} {ι:List Addr} {motive:V->Value->Prop} {v:V} {c:Value} (hv:zC3 v=true) (r:VR h ι v c) (int:∀ i t,motive (.int i) (.int i t)) (str:∀ x t,motive (.str x) (.str x t))
  (tup:∀ {a vs k l},IsT h a vs k->VRs h ι l vs.toList->gR l=true->motive (.tup l) (.ref a)):motive v c:=by
 cases r with
 | int i t=>exact int i t
 | str x t=>exact str x t
 | tup h1 h4=>exact tup h1 h4 hv
 | _=>exact nomatch hv
theorem zC9 (n:Nat):∀ (A:Around) (s:Shared) (ι:List Addr) (v u:V) (c e:Value),v.dep<=n->zC3 v=true->zC3 u=true->A.units+n+1 < cLine->VR s.heap ι v c->VR s.heap ι u e->EqAt A s c e (v.eqb u):=by
 induction n using yZ with
 | ind n ih=>
 intro A s ι v u c e hd hv hu hA rv ru
 have hA1:A.units < cLine:=by omega
 refine ru.pureE hu (motive:=fun u e=>EqAt A s c e (v.eqb u)) (fun j t'=>?_) (fun y t'=>?_) fun {b us k' m} h2 h5 pm=>?_
 ·exact rv.pureE hv (motive:=fun v c=>EqAt A s c (.int j t') (v.eqb (.int j))) (fun i t=>EqAt.int_int i t j t') (fun x t=>EqAt.str_int x t j t') fun h1 oo1 oo2=>EqAt.tuple_int j t' ⟨_,h1,rfl,_,rfl⟩ hA1
 ·exact rv.pureE hv (motive:=fun v c=>EqAt A s c (.str y t') (v.eqb (.str y))) (fun i t=>EqAt.int_str i t y t') (fun x t=>EqAt.str_str x t y t') fun h1 oo1 oo2=>EqAt.tuple_str y t' ⟨_,h1,rfl,_,rfl⟩ hA1
 refine rv.pureE hv (motive:=fun v c=>v.dep<=n->EqAt A s c (.ref b) (v.eqb (.tup m))) (fun i t oo1=>EqAt.int_tuple i t ⟨_,h2,rfl,_,rfl⟩ hA1) (fun x t oo1=>EqAt.str_tuple x t ⟨_,h2,rfl,_,rfl⟩ hA1) (fun {a vs k l} h1 h4 pl hd=>?_) hd
 by_cases hab:a=b
 ·subst hab
  cases h1.symm.trans h2
  obtain rfl:l=m:=VRs.inj pl pm h4 h5
  rw [show (V.tup l).eqb (V.tup l)=true from (V.eqb_iff (v:=.tup l) (u:=.tup l) pl pl).mpr rfl]
  exact EqAt.same _
 ·have el:l.length=vs.size:=h4.length
  have em:m.length=us.size:=h5.length
  have:=RcAt.tuples (A:=A) (s:=s) (e:=eqJ l m) ⟨_,h1,rfl,k,rfl⟩ ⟨_,h2,rfl,k',rfl⟩ hA1 fun j hj1 hj2=>by
   obtain ⟨v',hv',rv'⟩:=h4.getc (i:=j) (c:=vs[j]) (by rw [zW];exact jT hj1)
   obtain ⟨u',hu',ru'⟩:=h5.getc (i:=j) (c:=us[j]) (by rw [zW];exact jT hj2)
   rw [jE7 hv' hu']
   exact ih (n - 1) (by have:deps l+1<=n:=hd;omega) A.in1 s ι v' u' _ _ (zB (zG2 (zI hv')) (qU hd)) (zB6 pl (zI hv')) (zB6 pm (zI hu')) (by have:deps l+1<=n:=hd;show A.units+1+(n - 1)+1 < cLine;omega) rv' ru'
  rw [<-el,<-em,zN8] at this
  exact EqAt.of_refs hab this
noncomputable def V.draws:V->Nat:=V.fold 1 (fun oo1=>1) (fun oo1=>1) fun l=>l.foldr (·+·) 0+1
noncomputable def drawss (l:List V):Nat:=(V.folds 1 (fun oo1=>1) (fun oo1=>1) (fun l=>l.foldr (·+·) 0+1) l).foldr (·+·) 0
theorem jH9 (l:List V) (u:V):drawss (l++[u])=drawss l+u.draws:=by
 induction l with
 | nil=>exact qH _ _
 | cons v l ih=>exact (congrArg (v.draws+·) ih).trans (qJ ..).symm
theorem jI3 (w:World) (l:List V) (u:V):zK0 w (l++[u])=zK0 w l++[zD5 w u]:=by
 induction l with
 | nil=>rfl
 | cons v l ih=>exact congrArg (zD5 w v::·) ih
inductive HashI (l:List V) (s:Shared) (ι:List Addr) (rest:List Value) (b:Array Int) (s':Shared):Prop
 | mk (done left:List V):l=done++left->VRs s.heap ι left rest->b.toList=zK0 w done->s'={ s with toks:=s.toks+drawss done }->HashI l s ι rest b s'
theorem jA7 (n:Nat):∀ (A:Around) (s:Shared) (ι:List Addr) (v:V) (c:Value) (Q:Int->Shared->Prop) (E:Value->Shared->Prop),v.dep<=n->zC3 v=true->A.units+n+1 < cLine->VR s.heap ι v c->
  Q (zD5 w v) { s with toks:=s.toks+v.draws }->wpAny (model PG w) A (pyHash c) Q E s:=by
 induction n using yZ with
 | ind n ih=>
  intro A s ι v c Q E hd hv hA rv
  refine rv.pureE hv (motive:=fun v c=>v.dep<=n->Q (zD5 w v) { s with toks:=s.toks+v.draws }->wpAny (model PG w) A (pyHash c) Q E s) (fun i t oo1 h=>wpAny_pyHash_int h) (fun x t oo1 h=>wpAny_pyHash_str h) (fun {a vs k l} h1 h4 hpl hd h=>?_) hd
  ·have hT:s.TypeIs (.ref a) "tuple":=⟨_,h1,rfl⟩
   have hd:deps l+1<=n:=hd
   show wpAny _ _ (pyHashByItsType (.ref a)) Q E s
   refine wpAny_bind (wpAny_cRoomFor_or (.inr (by omega)) ?_)
   refine wpAny_bind (wpAny_specialOf hT F.slot_tuple_hash.lookup ?_)
   show wpAny _ _ (if (some (Value.builtin "tuple.__hash__") == some Value.none)=true then _ else _) Q E s
   rw [if_neg (by rw [beq_builtin_none];exact qW)]
   refine wpAny_bind (wpAny_specialOf hT F.slot_tuple_hash.lookup ?_)
   show wpAny _ _ (callSpecialIfBoundUnlessNone? (.ref a) "__hash__" _ >>= _) Q E s
   refine wpAny_bind (wpAny_callSpecialIfBoundUnlessNone?_slot hT F.slot_tuple_hash (wpAny_call_entry F.slot_tuple_hash hT F.entry_tuple_hash ?_ (F.args_tuple_hash_1 _)))
   show wpAny _ _ (wN (.ref a) >>= _) _ _ s
   refine wpAny_bind (wpAny_tupleItemsOf h1 rfl ?_)
   refine wpAny_bind ?_
   rw [<-vK]
   refine wpAny_forIn_list _
    (HashI l s ι)
    _ ?_ ?_ _ _ ⟨[],l,rfl,h4,rfl,rfl⟩
   ·rintro x rest b s' ⟨done,left,hl,hr,hb,rfl⟩
    cases hr using VRs.ind with
    | @cons u _ left' _ r1 r2 _=>
     have hm:u∈l:=by rw [hl];simp
     refine wpAny_bind (ih (n - 1) (by omega) A.in1 { s with toks:=s.toks+drawss done } ι u x _ _ (zB (zG2 hm) (qU hd)) (zB6 hpl hm) (by show A.units+1+(n - 1)+1 < cLine;omega) r1 ?_)
     have fin:HashI l s ι rest (b.push (zD5 w u)) { s with toks:=s.toks+drawss done+u.draws }:=
      ⟨done++[u],left',by simp [hl],r2,by rw [yS,hb,jI3],by rw [jH9,qJ]⟩
     first
      | exact wpAny_pure fin
      | exact wpAny_bind (wpAny_pure (wpAny_pure fin))
   ·rintro b s' ⟨done,left,hl,hr,hb,rfl⟩
    cases hr using VRs.ind
    rw [jI] at hl
    subst hl
    show wpAny _ _ (retInt (qO b.toList)) _ _ _
    rw [hb]
    refine wpAny_ret_mkInt ?_
    show wpAny _ _ (if (decide (-(2:Int) ^ 63<=qO (zK0 w l)) && decide (qO (zK0 w l) < 2 ^ 63))=true then _ else _) Q E _
    have h:Q (if (decide (-(2:Int) ^ 63<=qO (zK0 w l)) && decide (qO (zK0 w l) < 2 ^ 63))=true then _ else _) { s with toks:=s.toks+drawss l+1 }:=h
    by_cases hr:(decide (-(2:Int) ^ 63<=qO (zK0 w l)) && decide (qO (zK0 w l) < 2 ^ 63))=true
    ·rw [if_pos hr]
     rw [if_pos hr] at h
     exact wpAny_pure h
    ·rw [if_neg hr]
     rw [if_neg hr] at h
     exact wpAny_bind (wpAny_rule (wpAny_pure h))
theorem zN6 (n:Nat):∀ (A:Around) (s:Shared) (ι:List Addr) (v:V) (c:Value) (Q:Bool->Shared->Prop) (E:Value->Shared->Prop),v.dep<=n->zC3 v=true->VR s.heap ι v c->Q true s->wpAny (model PG w) A (eqIsQuiet n c) Q E s:=by
 induction n with
 | zero=>
  intro A s ι v c Q E hd hv rv h
  exact rv.pureE hv (motive:=fun v c=>v.dep<=0->wpAny (model PG w) A (eqIsQuiet 0 c) Q E s) (fun i t oo1=>by rw [eqIsQuiet_byValue _ rfl];exact wpAny_pure h) (fun x t oo1=>by rw [eqIsQuiet_byValue _ rfl];exact wpAny_pure h) (fun oo1 oo2 oo3 hd=>absurd hd (vU _)) hd
 | succ n ih=>
  intro A s ι v c Q E hd hv rv h
  refine rv.pureE hv (motive:=fun v c=>v.dep<=n+1->wpAny (model PG w) A (eqIsQuiet (n+1) c) Q E s) (fun i t oo1=>by rw [eqIsQuiet_byValue _ rfl];exact wpAny_pure h) (fun x t oo1=>by rw [eqIsQuiet_byValue _ rfl];exact wpAny_pure h) (fun {a vs k l} h1 h4 hpl hd=>?_) hd
  ·have hT:s.TypeIs (.ref a) "tuple":=⟨_,h1,rfl⟩
   have hdl:deps l<=n:=qV hd
   rw [eqIsQuiet.eq_def]
   refine wpAny_bind (wpAny_specialOf hT F.slot_tuple_eq.lookup ?_)
   show wpAny _ _ (isInstance (.ref a) (.type "tuple") >>= _) _ _ s
   refine wpAny_bind (wpAny_isInstance hT isSubtype_tuple_tuple ?_)
   refine wpAny_ite_false rfl ?_
   refine wpAny_bind (wpAny_seqItems h1 rfl ?_)
   refine wpAny_bind ?_
   show wpAny _ _ (forIn vs _ _) _ _ s
   rw [<-vK]
   refine wpAny_forIn_list _ (fun rest r s'=>r.1=none/\s'=s/\∃ left,VRs s.heap ι left rest/\∀ u∈left,u∈l) _ ?_ ?_ _ _ ⟨rfl,rfl,l,h4,fun oo1 hu=>hu⟩
   ·rintro x rest r s' ⟨hr,rfl,left,hl,hm⟩
    cases hl using VRs.ind with
    | @cons u _ left' _ r1 r2 _=>
     have hu:=hm u jA
     refine wpAny_bind (ih A s' ι u x _ _ (zB (zG2 hu) hdl) (zB6 hpl hu) r1 ?_)
     refine wpAny_ite_false rfl ?_
     exact wpAny_pure ⟨rfl,rfl,left',r2,fun z hz=>hm z (zY _ hz)⟩
   ·rintro ⟨r1,r2⟩ s' ⟨hr,rfl,_⟩
    simp only at hr
    subst hr
    exact wpAny_pure h
open Classical
noncomputable def jI4 (h:Heap) (v:V) (a:Addr):Prop:=zC3 v=true/\v.dep<=7/\VR h [] v (.ref a)
noncomputable def zI0 (_:World):HeapKind PG w V where
 is:=jI4
 hash:=zD5 w
 draws:=V.draws
 room:=fun A=>A.units+20 < cLine
 inj:=fun x y=>VR.inj x.1 y.1 x.2.2 y.2.2
 keeps:=fun x ho hd hs=>⟨x.1,x.2.1,x.2.2.mono (fun b vs n e=>by
  refine (hs.2 b fun q=>?_).trans e
  subst q
  have e':=ho.symm.trans e
  cases e';cases hd) fun oo1 oo2 e=>e⟩
 pyHash:=fun hu x h=>jA7 7 _ _ [] _ _ _ _ x.2.1 x.1 (by lia) x.2.2 h
 eqBool:=fun {A E s x y a b Q} hu hx hy h=>zC9 7 A s [] x y _ _ hx.2.1 hx.1 hy.1 (by lia) hx.2.2 hy.2.2 PG w E Q (by
  by_cases e:x=y
  ·rw [(V.eqb_iff hx.1 hy.1).mpr e];rwa [decide_eq_true e] at h
  ·rw [V.eqb_false hx.1 hy.1 e];rwa [decide_eq_false e] at h)
 quiet:=fun x h=>zN6 8 _ _ [] _ _ _ _ (yK x.2.1) x.1 x.2.2 h
noncomputable def dget (l:List (V×V)) (k:V):Option V:=(l.find? fun p=>p.1.eqb k).map (·.2)
noncomputable def dput (l:List (V×V)) (k v:V):List (V×V):=if (dget l k).isSome then l.map (fun p=>if p.1.eqb k then (p.1,v) else p) else l++[(k,v)]
noncomputable def zD1:V->Bool:=asT fun l=>gR l && decide (deps l<=6)
theorem zT5 {k:V} (h:zD1 k=true):zC3 k=true/\k.dep<=7:=by
 cases k with
 | tup l=>exact ⟨(zJ.mp h).1,yQ (of_decide_eq_true (zJ.mp h).2)⟩
 | _=>exact nomatch h
section
variable {d:Nat} {sc:Scope} {ρ:Lc} {σ:Sto} {ι:List Addr}
theorem zH3 {h:Heap} {k:V} {c:Value} (hk:zD1 k=true) (r:VR h ι k c):∃ a,c=.ref a/\jI4 h k a:=by
 cases r with
 | tup h1 h4=>exact ⟨_,rfl,(zT5 hk).1,(zT5 hk).2,.tup h1 (VRs.dropp (zJ.mp hk).1 h4)⟩
 | _=>exact nomatch hk
inductive KX (h:Heap) (ι:List Addr):List (V×V)->List (V×Addr×Value)->Prop
 | nil:KX h ι [] []
 | cons {k v a c l xs}:jI4 h k a->VR h ι v c->KX h ι l xs->KX h ι ((k,v)::l) ((k,a,c)::xs)
theorem ER.toKX {h:Heap} {l:List (V×V)} {es:List DictEntry} (r:ER w h ι l es) (hk:(l.all fun p=>zD1 p.1)=true):∃ xs,es=xs.map (entryOfKey (zI0 w))/\KX h ι l xs:=by
 induction r with
 | nil=>exact ⟨[],rfl,.nil⟩
 | @cons k v e l es h1 h2 h3 h4 h5 ih=>
  rw [List.all_cons,jL] at hk
  obtain ⟨xs,hx,kx⟩:=ih hk.2
  obtain ⟨a,ha,ka⟩:=zH3 hk.1 h1
  refine ⟨(k,a,e.val)::xs,?_,.cons ka h4 kx⟩
  rw [zU,<-hx]
  refine congrArg (·::es) ?_
  show e=⟨zD5 w k,.ref a,e.val⟩
  rw [<-h3,<-ha]
theorem KX.toER {h:Heap} {l:List (V×V)} {xs:List (V×Addr×Value)} (r:KX h ι l xs):ER w h ι l (xs.map (entryOfKey (zI0 w))):=by
 induction r with
 | nil=>exact .nil
 | cons h1 h2 _ ih=>exact .cons (VR.drop h1.1 h1.2.2) h1.1 rfl h2 ih
theorem KX.keys {h:Heap} {l:List (V×V)} {xs:List (V×Addr×Value)} (r:KX h ι l xs):xs.map (·.1)=l.map (·.1):=by
 induction r with
 | nil=>rfl
 | @cons k _ _ _ _ _ _ _ _ ih=>exact congrArg (k::·) ih
theorem KX.is {h:Heap} {l:List (V×V)} {xs:List (V×Addr×Value)} (r:KX h ι l xs):∀ x∈xs,(zI0 w).is h x.1 x.2.1:=by
 induction r with
 | nil=>exact fun oo1 hx=>nomatch hx
 | cons h1 _ _ ih=>exact vF.mpr ⟨h1,ih⟩
theorem KX.get {h:Heap} {k:V} (hk:zC3 k=true) {l:List (V×V)} {xs:List (V×Addr×Value)} (r:KX h ι l xs):(dget l k=none/\atKey xs k=none)∨(∃ v a c,dget l k=some v/\atKey xs k=some (a,c)/\VR h ι v c):=by
 induction r with
 | nil=>exact .inl ⟨rfl,rfl⟩
 | @cons k' v a c _ _ h1 h2 _ ih=>
  unfold dget atKey at *
  rw [vO,vO]
  by_cases e:k'=k
  ·rw [(V.eqb_iff h1.1 hk).mpr e,decide_eq_true e]
   exact .inr ⟨v,a,c,rfl,rfl,h2⟩
  ·rw [V.eqb_false h1.1 hk e,decide_eq_false e]
   exact ih
theorem KX.append {h:Heap} {l l':List (V×V)} {xs xs':List (V×Addr×Value)} (r:KX h ι l xs) (q:KX h ι l' xs'):KX h ι (l++l') (xs++xs'):=by
 induction r with
 | nil=>exact q
 | cons h1 h2 _ ih=>exact .cons h1 h2 ih
theorem KX.put {h:Heap} {k v:V} {c:Value} (hk:zC3 k=true) (r:VR h ι v c) {l:List (V×V)} {xs:List (V×Addr×Value)} (q:KX h ι l xs):KX h ι (l.map fun p=>if p.1.eqb k then (p.1,v) else p) (xs.map (putAt k c)):=by
 induction q with
 | nil=>exact .nil
 | @cons k' v' a c' _ _ h1 h2 _ ih=>
  rw [zU,zU]
  by_cases e:k'=k
  ·have e1:putAt k c (k',a,c')=(k',a,c):=by unfold putAt;rw [if_pos e]
   rw [e1,if_pos ((V.eqb_iff h1.1 hk).mpr e)]
   exact .cons h1 r ih
  ·have e1:putAt k c (k',a,c')=(k',a,c'):=by unfold putAt;rw [if_neg e]
   rw [e1,if_neg (by rw [V.eqb_false h1.1 hk e];exact qW)]
   exact .cons h1 h2 ih
theorem KX.length {h:Heap} {l:List (V×V)} {xs:List (V×Addr×Value)} (r:KX h ι l xs):l.length=xs.length:=by
 induction r with
 | nil=>rfl
 | cons _ _ _ ih=>exact congrArg (·+1) ih
theorem KX.mono {h h':Heap} (tk:gQ h h') {l:List (V×V)} {xs:List (V×Addr×Value)} (r:KX h ι l xs):KX h' ι l xs:=by
 induction r with
 | nil=>exact .nil
 | cons h1 h2 _ ih=>exact .cons ⟨h1.1,h1.2.1,h1.2.2.mono tk fun oo1 oo2 e=>e⟩ (h2.mono tk fun oo1 oo2 e=>e) ih
theorem zU0 {s:Shared} {n:Nat} {a:Addr} {l:List (V×V)} (S:Sim w h₀ s.heap ι σ) (hn:σ[n]?=some (.dct l)) (ha:ι[n]?=some a) (hk:(l.all fun p=>zD1 p.1)=true) :
  ∃ xs,s.heap.DictOfH (zI0 w) a xs/\KX s.heap ι l xs:=by
 obtain ⟨es,k,he,hr,hnd⟩:=S.objs _ _ _ ha hn
 obtain ⟨xs,hx,kx⟩:=hr.toKX hk
 exact ⟨xs,⟨_,es,k,he,⟨rfl,rfl,rfl⟩,rfl,hx,kx.is,by rw [kx.keys];exact hnd⟩,kx⟩
theorem jA8 {h:Heap} {a:Addr} {l:List (V×V)} {xs:List (V×Addr×Value)} (D:h.DictOfH (zI0 w) a xs) (kx:KX h ι l xs):OR w h ι a (.dct l):=by
 obtain ⟨o,es,k,he,hex,hd,hes,_,hnd⟩:=D
 obtain ⟨c,dd,dt,sl⟩:=o
 obtain ⟨h1,h2,h3⟩:=hex
 simp only at h1 h2 h3 hd
 subst h1 h2 h3 hd
 exact ⟨es,k,he,by rw [hes];exact kx.toER,by rw [<-kx.keys];exact hnd⟩
theorem notSys {a:Addr} {n:Nat} {h:Heap} (B:Bs w h₀) (S:Sim w h₀ h ι σ) (ha:ι[n]?=some a):(a == sysModules)=false:=by
 have h1:=S.fresh a (zI ha)
 have h2:∃ o,(KK w).lookup 521=some o:=⟨_,rfl⟩
 obtain ⟨o,ho⟩:=h2
 have h3:=Mine.ltA (B.K _ _ ho)
 have h4:(1:Nat) < a:=zO (by lia) h1
 rw [beq_eq_false_iff_ne]
 intro q
 have q':a=(1:Nat):=q
 rw [q'] at h4
 exact absurd h4 (yM _)
theorem zK9 {A:Around} (hA:Room A d):(zI0 w).room A.in1:=by
 have:=hA.units
 show A.units+1+20 < cLine
 lia
theorem jN2 {n:Nat} {l:List (V×V)} {k v:V} {P:V->Sto->Prop} (hn:σ[n]?=some (.dct l)) (hl:(l.all fun p=>zD1 p.1)=true) (hk:zD1 k=true) (hv:dget l k=some v) (h:P v σ):Gt w h₀ d (.ref n) k σ P:=fun A s ι ca cb hA S ra rb=>by
 cases ra using VR.refE with
 | ref ha=>
  obtain ⟨xs,D,kx⟩:=zU0 S hn ha hl
  obtain ⟨b,rfl,kb⟩:=zH3 hk rb
  rcases kx.get kb.1 with ⟨q,_⟩ | ⟨v',b',c',q1,q2,q3⟩
  ·rw [hv] at q;cases q
  ·rw [hv] at q1;cases q1
   exact ⟨_,_,D.typeIs,F.slot_dict_getitem.lookup,fun E=>wpAny_getItem_heap (zK9 hA) kb D q2 (Do.tok S q3 h)⟩
theorem zP6 {A:Around} {s:Shared} {n:Nat} {a:Addr} {l:List (V×V)} {k:V} {cb:Value} {Q:Bool->Shared->Prop} {E:Value->Shared->Prop} (B:Bs w h₀) (hA:Room A d) (S:Sim w h₀ s.heap ι σ) (hn:σ[n]?=some (.dct l)) (ha:ι[n]?=some a) (hl:(l.all fun p=>zD1 p.1)=true) (hk:zD1 k=true) (rb:VR s.heap ι k cb)
  (h:∀ t,Q (dget l k).isSome { s with toks:=t }):wpAny (model PG w) A (contains (.ref a) cb) Q E s:=by
 obtain ⟨xs,hm,kx⟩:=zU0 S hn ha hl
 obtain ⟨b,rfl,kb⟩:=zH3 hk rb
 have hd:=notSys B S ha
 unfold contains
 refine wpAny_holding ?_
 refine wpAny_bind (wpAny_specialOf hm.typeIs slot_dict_contains.lookup ?_)
 show wpAny _ _ (if (some (Value.builtin "dict.__contains__") == some Value.none)=true then _ else _) _ E s
 rw [if_neg (by rw [beq_builtin_none];exact qW)]
 refine wpAny_bind (wpAny_callSpecialUnlessNone?_slot (name:=zA "__contains__") hm.typeIs slot_dict_contains
  (wpAny_call_entry slot_dict_contains hm.typeIs entry_dict_contains ?_ (args_dict_contains _ _)))
 show wpAny _ _ (dictGet a (.ref b) >>= _) _ _ s
 refine wpAny_bind (wpAny_dictGet_heap (zK9 hA) kb hm ?_)
 rcases kx.get kb.1 with ⟨q1,q2⟩ | ⟨v',b',c',q1,q2,q3⟩
 ·rw [q2]
  rw [q1] at h
  show wpAny _ _ (Builtin.Dict.pendingKey? a (.ref b) >>= _) _ _ _
  exact wpAny_bind (wpAny_pendingKey_other hd (wpAny_pure ⟨_,rfl,wpAny_truthy_bool (h _)⟩))
 ·rw [q2]
  rw [q1] at h
  show wpAny _ _ (ret (.bool true)) _ _ _
  exact wpAny_pure ⟨_,rfl,wpAny_truthy_bool (h _)⟩
theorem jC2 {n:Nat} {l:List (V×V)} {k:V} {P:V->Sto->Prop} (B:Bs w h₀) (hn:σ[n]?=some (.dct l)) (hl:(l.all fun p=>zD1 p.1)=true) (hk:zD1 k=true) (h:P (.bool (dget l k).isSome) σ):Cm w h₀ d .In k (.ref n) σ P:=fun A s ι ca cb hA S ra rb E=>by
 cases rb using VR.refE with
 | ref ha=>
  show wpAny _ _ (do return Value.bool (<-contains (.ref _) ca)) _ E s
  exact wpAny_bind (zP6 B hA S hn ha hl hk ra fun t=>wpAny_pure (Do.tok S (.bool _) h))
theorem jG1 {n:Nat} {l:List (V×V)} {k:V} {P:V->Sto->Prop} (B:Bs w h₀) (hn:σ[n]?=some (.dct l)) (hl:(l.all fun p=>zD1 p.1)=true) (hk:zD1 k=true) (h:P (.bool (!(dget l k).isSome)) σ):Cm w h₀ d .NotIn k (.ref n) σ P:=fun A s ι ca cb hA S ra rb E=>by
 cases rb using VR.refE with
 | ref ha=>
  show wpAny _ _ (do return Value.bool (!(<-contains (.ref _) ca))) _ E s
  exact wpAny_bind (zP6 B hA S hn ha hl hk ra fun t=>wpAny_pure (Do.tok S (.bool _) h))
theorem storedKX {h' h:Heap} {l:List (V×V)} {xs:List (V×Addr×Value)} {k v:V} {b:Addr} {c:Value} (kx:KX h ι l xs) (tk:gQ h h') (kb:jI4 h k b) (rv:VR h ι v c) :
  ∃ xs',(@storedH V (fun a b=>Classical.propDecidable (a=b)) xs k b c=xs')/\KX h' ι (dput l k v) xs':=by
 have kx':=kx.mono tk
 have rv':=rv.mono tk fun oo1 oo2 e=>e
 have kb':jI4 h' k b:=⟨kb.1,kb.2.1,kb.2.2.mono tk fun oo1 oo2 e=>e⟩
 refine ⟨_,rfl,?_⟩
 unfold dput storedH
 rcases kx.get kb.1 with ⟨q1,q2⟩ | ⟨v',b',c',q1,q2,q3⟩
 ·rw [q1,q2]
  exact kx'.append (.cons kb' rv' .nil)
 ·rw [q1,q2]
  exact kx'.put kb.1 rv'
theorem si_dct {n:Nat} {l:List (V×V)} {k v:V} {P:Sto->Prop} (hn:σ[n]?=some (.dct l)) (hl:(l.all fun p=>zD1 p.1)=true) (hk:zD1 k=true) (hz:l.length<=1000000) (h:P (σ.set n (.dct (dput l k v)))):Si w h₀ d (.ref n) k v σ P:=fun A s ι ca cb cv hA S ra rb rv E=>by
 cases ra using VR.refE with
 | ref ha=>
  obtain ⟨xs,D,kx⟩:=zU0 S hn ha hl
  obtain ⟨b,rfl,kb⟩:=zH3 hk rb
  refine wpAny_setItem_heap (zK9 hA) kb D (fun h' D' hs'=>?_) (by rw [<-kx.length,sizeLine_eq];lia)
  have tk:gQ s.heap h':=fun t vs n e=>(hs'.2 t fun q=>by subst q;exact S.notTup e (zI ha)).trans e
  obtain ⟨xs',e,kx'⟩:=storedKX kx tk kb rv
  rw [e] at D'
  exact Do.turn (o':=.dct (dput l k v)) (v:=()) S ha hs' (fun oo1=>jA8 D' kx') (fun oo1=>trivial) h
end
namespace kC0
def S (d:Nat) (σ:Sto) (n:Nat) (l:List (V×V)) (k:V) (v:V) (P:V->Sto->Prop):Prop:=∀ (B:Bs w h₀) (hn:σ[n]?=some (.dct l)) (hl:(l.all fun p=>zD1 p.1)=true) (hk:zD1 k=true) (hz:l.length<=1000000) (h:match dget l k with | some u=>P u σ | none=>P v (σ.set n (.dct (l++[(k,v)])))),Cl w h₀ d (.builtin "dict.setdefault") [.ref n,k,v] σ P
noncomputable def d:Nat:=pick fun z=>∀ σ n l k v P,S z σ n l k v P
noncomputable def σ:Sto:=pick fun z=>∀ n l k v P,S d z n l k v P
noncomputable def n:Nat:=pick fun z=>∀ l k v P,S d σ z l k v P
noncomputable def l:List (V×V):=pick fun z=>∀ k v P,S d σ n z k v P
noncomputable def k:V:=pick fun z=>∀ v P,S d σ n l z v P
noncomputable def v:V:=pick fun z=>∀ P,S d σ n l k z P
noncomputable def P:V->Sto->Prop:=pick fun z=>S d σ n l k v z
theorem core:S d σ n l k v P:=fun B hn hl hk hz h=>fun A s ι cs hA S r E=>by
 cases r using VRs.consE with
 | cons r1 r=>cases r using VRs.consE with
  | cons r2 r=>cases r using VRs.consE with
   | cons r3 r=>cases r using VRs.nilE;cases r1 using VR.refE with
    | ref ha=>
     rename_i c a
     obtain ⟨xs,D,kx⟩:=zU0 S hn ha hl
     obtain ⟨b,rfl,kb⟩:=zH3 hk r2
     obtain ⟨o,es,ep,ho,hc,hd,he,his,hnd⟩:=id D
     refine wpAny_call_entry F.slot_dict_setdefault D.typeIs F.entry_dict_setdefault ?_ (F.args_dict_setdefault_3 _ _ _)
     refine wpAny_bind ?_
     refine wpAny_bind (wpAny_notOrdered_dict D.typeIs ?_)
     show wpAny _ _ (pure (a,Value.ref b,some c)) _ _ s
     refine wpAny_pure ?_
     show wpAny _ _ (if (a == sysModules)=true then _ else (dictSetDefault a (.ref b) c >>= _)) _ _ s
     rw [if_neg (by rw [notSys B S ha];exact qW)]
     refine wpAny_bind ?_
     unfold dictSetDefault
     refine wpAny_holding ?_
     refine wpAny_bind ((zI0 w).pyHash (zK9 hA) kb ?_)
     refine wpAny_bind (wpAny_dictFind_heap (knd:=zI0 w) (s:={ s with toks:=s.toks+(zI0 w).draws k }) (zK9 hA) kb ho hd he his hnd ?_ ?_)
     ·intro hno
      have hnone:=not_mem_keys_of_get hno
      rw [kx.keys] at hnone
      have hg:dget l k=none:=by
       rcases kx.get kb.1 with ⟨q1,_⟩ | ⟨v',b',c',q1,q2,q3⟩
       ·exact q1
       ·rw [atKey_none_of_get hno] at q2;cases q2
      rw [hg] at h
      refine wpAny_bind (wpAny_rule (wpAny_bind (wpAny_updateDictKeys (hz:=by have e:=size_of_entries he;rw [e,<-kx.length,sizeLine_eq];lia) (s:={ s with toks:=s.toks+(zI0 w).draws k }) ho hd (wpAny_pure (wpAny_pure ⟨_,rfl,?_⟩)))))
      have hs':Heap.SameBut a s.heap (s.heap.update a (Obj.mapDictKeys (·.push ⟨(zI0 w).hash k,.ref b,c⟩))):=Heap.SameBut.update ..
      have hu:(s.heap.update a (Obj.mapDictKeys (·.push ⟨(zI0 w).hash k,.ref b,c⟩))).get? a=some (Obj.mapDictKeys (·.push ⟨(zI0 w).hash k,.ref b,c⟩) o):=wK _ ho (Obj.isFreed_of_dict (Obj.data_mapDictKeys hd _))
      refine Do.turn (o':=.dct (l++[(k,v)])) (v:=v) S ha hs' (fun tk=>?_) (fun tk=>r3.mono tk fun oo1 oo2 e=>e) h
      have kx':=(kx.mono tk).append (.cons ⟨kb.1,kb.2.1,kb.2.2.mono tk fun oo1 oo2 e=>e⟩ (r3.mono tk fun oo1 oo2 e=>e) .nil)
      refine jA8 ⟨_,_,ep+1,hu,hc.mapDictKeys _,Obj.data_mapDictKeys hd _,?_,kx'.is,?_⟩ kx'
      ·rw [yS,he];simp [entryOfKey]
      ·rw [kx'.keys,qD,vR]
       refine ⟨by rw [<-kx.keys];exact hnd,by simp,fun x hx y hy e=>?_⟩
       simp only [zU,List.map_nil,zM] at hy
       subst hy;subst e
       exact hnone hx
     ·intro j p hj
      rcases kx.get kb.1 with ⟨_,q2⟩ | ⟨v',b',c',q1,q2,q3⟩
      ·rw [atKey_of_get hnd hj] at q2;cases q2
      ·rw [atKey_of_get hnd hj] at q2
       cases q2
       rw [q1] at h
       refine wpAny_bind (wpAny_dictEntries (s:={ s with toks:=s.toks+(zI0 w).draws k }) ho hd ?_)
       rw [entry_at he j,hj]
       exact wpAny_bind (wpAny_rule (wpAny_pure (wpAny_pure ⟨_,rfl,Do.tok S q3 h⟩)))
theorem all:∀ d σ n l k v P,S d σ n l k v P:=cst (p:=fun z=>∀ σ n l k v P,S z σ n l k v P) (cst (p:=fun z=>∀ n l k v P,S d z n l k v P) (cst (p:=fun z=>∀ l k v P,S d σ z l k v P) (cst (p:=fun z=>∀ k v P,S d σ n z k v P) (cst (p:=fun z=>∀ v P,S d σ n l z v P) (cst (p:=fun z=>∀ P,S d σ n l k z P) (cst (p:=fun z=>S d σ n l k v z) core))))))
end kC0
section
variable {d:Nat} {sc:Scope} {ρ:Lc} {σ:Sto} {ι:List Addr}
theorem jA3 {d σ n l k v P}:kC0.S d σ n l k v P:=kC0.all d σ n l k v P
end
structure KV (w:World) (K:Type) [DecidableEq K] (knd:KeyKind PG w K) (inj:K->V):Prop where
 to:∀ h ι k c,VR h ι (inj k) c->knd.is k c=true
 of:∀ h ι k c,knd.is k c=true->VR h ι (inj k) c
 hash:∀ k,knd.hash k=zD5 w (inj k)
 pure:∀ k,zC3 (inj k)=true
 one:∀ a b,inj a=inj b->a=b
theorem zK2 (w:World):KV w Int (intKind PG w) .int where
 to:=fun h ι k c r=>by cases r using VR.intE;simp [intKind,Value.isInt]
 of:=fun h ι k c e=>by obtain ⟨t,rfl⟩:=Value.isInt_shape e;exact .int _ _
 hash:=fun k=>by rw [zD5];rfl
 pure:=fun k=>rfl
 one:=fun a b e=>by injection e
theorem zR0 (w:World):KV w Str (PySem.strKind PG w) .str where
 to:=fun h ι k c r=>by cases r using VR.strE;simp [PySem.strKind,Value.isStrOf]
 of:=fun h ι k c e=>by obtain ⟨t,rfl⟩:=Value.isStrOf_shape e;exact .str _ _
 hash:=fun k=>by rw [zD5];rfl
 pure:=fun k=>rfl
 one:=fun a b e=>by injection e
section
variable {K:Type} [DecidableEq K]
noncomputable def vget (kvs:List (K×V)) (k:K):Option V:=(kvs.find? fun p=>decide (p.1=k)).map (·.2)
noncomputable def vput (kvs:List (K×V)) (k:K) (v:V):List (K×V):=if kvs.any (fun p=>decide (p.1=k)) then kvs.map (fun p=>if p.1=k then (p.1,v) else p) else kvs++[(k,v)]
noncomputable def vdel (kvs:List (K×V)) (k:K):List (K×V):=kvs.filter fun p=>decide (p.1≠k)
noncomputable def vmap (inj:K->V) (kvs:List (K×V)):List (V×V):=kvs.map fun p=>(inj p.1,p.2)
inductive VV (h:Heap) (ι:List Addr):List (K×V)->List (K×Value)->Prop
 | nil:VV h ι [] []
 | cons {k v c l cs}:VR h ι v c->VV h ι l cs->VV h ι ((k,v)::l) ((k,c)::cs)
theorem VV.mono {h h':Heap} {ι ι':List Addr} (tk:gQ h h') (hi:∀ (n:Nat) (a:Addr),ι[n]?=some a->ι'[n]?=some a) {l:List (K×V)} {cs:List (K×Value)} (r:VV h ι l cs):VV h' ι' l cs:=by
 induction r with
 | nil=>exact .nil
 | cons h1 _ ih=>exact .cons (h1.mono tk hi) ih
theorem VV.keys {h:Heap} {ι:List Addr} {l:List (K×V)} {cs:List (K×Value)} (r:VV h ι l cs):cs.map (·.1)=l.map (·.1):=by
 induction r with
 | nil=>rfl
 | @cons k _ _ _ _ _ _ ih=>exact congrArg (k::·) ih
theorem VV.get {h:Heap} {ι:List Addr} {k:K} {l:List (K×V)} {cs:List (K×Value)} {v:V} (r:VV h ι l cs) (e:vget l k=some v):∃ c,valueAt cs k=some c/\VR h ι v c:=by
 induction r with
 | nil=>cases e
 | @cons k' v' c _ _ h1 _ ih=>
  unfold vget at e ih
  unfold valueAt at ih ⊢
  rw [vO] at e ⊢
  by_cases q:k'=k
  ·rw [decide_eq_true q] at e ⊢
   exact ⟨c,rfl,Option.some.inj e ▸ h1⟩
  ·rw [decide_eq_false q] at e ⊢
   exact ih e
theorem VV.append {h:Heap} {ι:List Addr} {l l':List (K×V)} {cs cs':List (K×Value)} (r:VV h ι l cs) (q:VV h ι l' cs'):VV h ι (l++l') (cs++cs'):=by
 induction r with
 | nil=>exact q
 | cons h1 _ ih=>exact .cons h1 ih
theorem VV.any {h:Heap} {ι:List Addr} {k:K} {l:List (K×V)} {cs:List (K×Value)} (r:VV h ι l cs):(cs.any fun p=>decide (p.1=k))=l.any fun p=>decide (p.1=k):=by
 induction r with
 | nil=>rfl
 | cons _ _ ih=>rw [wJ,wJ,ih]
theorem VV.map {h:Heap} {ι:List Addr} {k:K} {v:V} {c:Value} (r:VR h ι v c) {l:List (K×V)} {cs:List (K×Value)} (q:VV h ι l cs):VV h ι (l.map fun p=>if p.1=k then (p.1,v) else p) (cs.map fun p=>if p.1=k then (p.1,c) else p):=by
 induction q with
 | nil=>exact .nil
 | @cons k' _ _ _ _ h1 _ ih=>
  rw [zU,zU]
  by_cases q:k'=k
  ·rw [if_pos q,if_pos q];exact .cons r ih
  ·rw [if_neg q,if_neg q];exact .cons h1 ih
theorem VV.put {h:Heap} {ι:List Addr} {k:K} {v:V} {c:Value} (r:VR h ι v c) {l:List (K×V)} {cs:List (K×Value)} (x:VV h ι l cs):VV h ι (vput l k v) (stored cs k c):=by
 unfold vput stored
 rw [x.any]
 split
 ·exact x.map r
 ·exact x.append (.cons r .nil)
theorem VV.del {h:Heap} {ι:List Addr} {k:K} {l:List (K×V)} {cs:List (K×Value)} (r:VV h ι l cs):VV h ι (vdel l k) (without cs k):=by
 induction r with
 | nil=>exact .nil
 | @cons k' _ _ _ _ h1 _ ih=>
  unfold vdel without
  rw [xU,xU]
  by_cases q:k'=k
  ·rw [if_neg (by simp [q]),if_neg (by simp [q])];exact ih
  ·rw [if_pos (decide_eq_true q),if_pos (decide_eq_true q)];exact .cons h1 ih
theorem VV.length {h:Heap} {ι:List Addr} {l:List (K×V)} {cs:List (K×Value)} (r:VV h ι l cs):cs.length=l.length:=by
 induction r with
 | nil=>rfl
 | cons _ _ ih=>exact congrArg (·+1) ih
variable {d:Nat} {sc:Scope} {ρ:Lc} {σ:Sto} {ι:List Addr} {knd:KeyKind PG w K} {inj:K->V}
theorem ER.toPairs {h:Heap} (kv:KV w K knd inj) {kvs:List (K×V)}:∀ {es:List DictEntry},ER w h ι (vmap inj kvs) es->∃ cs,Pairs knd es cs/\(∀ e∈es,∃ k,knd.is k e.key=true/\e.hash=knd.hash k)/\VV h ι kvs cs:=by
 induction kvs with
 | nil=>intro es r;cases r with | nil=>exact ⟨[],.nil,(fun oo1 h=>nomatch h),.nil⟩
 | cons p kvs ih=>
  intro es r
  cases r with
  | @cons _ _ e _ _ h1 h2 h3 h4 h5=>
   obtain ⟨cs,q,hk,vv⟩:=ih h5
   have:=kv.to _ _ _ _ h1
   exact ⟨(p.1,e.val)::cs,.cons this rfl q,vF.mpr ⟨⟨p.1,this,by rw [h3,kv.hash]⟩,hk⟩,.cons h4 vv⟩
theorem VV.toER {h:Heap} (kv:KV w K knd inj) {kvs:List (K×V)} {cs:List (K×Value)} (r:VV h ι kvs cs):∀ {es:List DictEntry},Pairs knd es cs->(∀ e∈es,∃ k,knd.is k e.key=true/\e.hash=knd.hash k)->ER w h ι (vmap inj kvs) es:=by
 induction r with
 | nil=>intro es p _;cases p;exact .nil
 | @cons k v c _ _ h1 _ ih=>
  intro es p hk
  cases p with
  | @cons e _ _ _ p1 p2 p3=>
   have p1:knd.is k e.key=true:=p1
   obtain ⟨k',h3,h4⟩:=hk e jA
   obtain rfl:k'=k:=knd.inj _ _ _ h3 p1
   exact .cons (kv.of _ _ _ _ p1) (kv.pure _) (by rw [h4,kv.hash]) (by rw [p2];exact h1) (ih p3 fun x hx=>hk x (zY _ hx))
theorem zZ2 {s:Shared} {n:Nat} {a:Addr} {kvs:List (K×V)} (kv:KV w K knd inj) (S:Sim w h₀ s.heap ι σ) (hn:σ[n]?=some (.dct (vmap inj kvs))) (ha:ι[n]?=some a) :
  ∃ cs,s.heap.DictOf knd a cs/\VV s.heap ι kvs cs:=by
 obtain ⟨es,k,he,hr,hnd⟩:=S.objs _ _ _ ha hn
 obtain ⟨cs,p,hk,vv⟩:=hr.toPairs kv
 refine ⟨cs,⟨_,es,k,he,⟨rfl,rfl,rfl⟩,rfl,fun e hm=>hk e (wP.mpr hm),p,?_⟩,vv⟩
 rw [vv.keys]
 have e:(vmap inj kvs).map (·.1)=(kvs.map (·.1)).map inj:=by unfold vmap;rw [jE,jE];rfl
 rw [e] at hnd
 exact (List.nodup_map_iff_inj_on' hnd)
where
 List.nodup_map_iff_inj_on' {α β:Type} {f:α->β} {l:List α} (h:(l.map f).Nodup):l.Nodup:=by
  induction l with
  | nil=>exact wO
  | cons x l ih=>
   rw [zU,vN] at h
   rw [vN]
   exact ⟨fun m=>h.1 (List.mem_map_of_mem m),ih h.2⟩
theorem zN7 {h:Heap} {a:Addr} {kvs:List (K×V)} {cs:List (K×Value)} (kv:KV w K knd inj) (D:h.DictOf knd a cs) (vv:VV h ι kvs cs):OR w h ι a (.dct (vmap inj kvs)):=by
 obtain ⟨o,es,k,he,hex,hd,hk,p,hnd⟩:=D
 obtain ⟨c,dd,dt,sl⟩:=o
 obtain ⟨h1,h2,h3⟩:=hex
 simp only at h1 h2 h3 hd
 subst h1 h2 h3 hd
 refine ⟨es,k,he,vv.toER kv p fun e hm=>hk e (wP.mp hm),?_⟩
 have e:(vmap inj kvs).map (·.1)=(kvs.map (·.1)).map inj:=by unfold vmap;rw [jE,jE];rfl
 rw [e,<-vv.keys]
 generalize cs.map (·.1)=l at hnd
 induction l with
 | nil=>exact wO
 | cons x l ih=>
  rw [vN] at hnd
  rw [zU,vN]
  refine ⟨fun m=>?_,ih hnd.2⟩
  obtain ⟨y,hy,e⟩:=jS.mp m
  exact hnd.1 (kv.one _ _ e ▸ hy)
theorem zJ8 {n:Nat} {kvs:List (K×V)} {k:K} {v:V} {P:V->Sto->Prop} (kv:KV w K knd inj) (hn:σ[n]?=some (.dct (vmap inj kvs))) (hv:vget kvs k=some v) (h:P v σ):Gt w h₀ d (.ref n) (inj k) σ P:=fun A s ι ca cb hA S ra rb=>by
 cases ra using VR.refE with
 | ref ha=>
  obtain ⟨cs,D,vv⟩:=zZ2 kv S hn ha
  obtain ⟨c,hc,rc⟩:=vv.get hv
  exact ⟨_,_,D.typeIs,F.slot_dict_getitem.lookup,fun E=>wpAny_getItem_of (kv.to _ _ _ _ rb) D.mapOf hc (Do.tok S rc h)⟩
theorem jF5 {n:Nat} {kvs:List (K×V)} {k:K} {v:V} {P:Sto->Prop} (kv:KV w K knd inj) (hn:σ[n]?=some (.dct (vmap inj kvs))) (hz:kvs.length<=1000000) (h:P (σ.set n (.dct (vmap inj (vput kvs k v))))):Si w h₀ d (.ref n) (inj k) v σ P:=fun A s ι ca cb cv hA S ra rb rv E=>by
 cases ra using VR.refE with
 | ref ha=>
  obtain ⟨cs,D,vv⟩:=zZ2 kv S hn ha
  refine wpAny_setItem_pairs (kv.to _ _ _ _ rb) D (fun h' D' hs'=>?_) (by rw [vv.length,sizeLine_eq];lia)
  exact Do.turn (o':=.dct (vmap inj (vput kvs k v))) (v:=()) S ha hs' (fun tk=>zN7 kv D' ((vv.put rv).mono tk fun oo1 oo2 e=>e)) (fun oo1=>trivial) h
theorem cl_popB {n:Nat} {kvs:List (K×V)} {k:K} {v:V} {P:V->Sto->Prop} (kv:KV w K knd inj) (hn:σ[n]?=some (.dct (vmap inj kvs))) (hz:kvs.length<=1000000) (hv:vget kvs k=some v) (hpart:∀ h ι c,VR h ι (inj k) c->(keyPart c).isSome=true)
  (h:P v (σ.set n (.dct (vmap inj (vdel kvs k))))):Cl w h₀ d (.builtin "dict.pop") [.ref n,inj k] σ P:=fun A s ι cs hA S r E=>by
 cases r using VRs.consE with
 | cons r1 r=>cases r using VRs.consE with
  | cons r2 r=>cases r using VRs.nilE;cases r1 using VR.refE with
   | ref ha=>
    obtain ⟨cs,D,vv⟩:=zZ2 kv S hn ha
    obtain ⟨c,hc,rc⟩:=vv.get hv
    refine call_meetsIn F.slot_dict_pop D.typeIs F.entry_dict_pop (F.args_dict_pop_2 _ _) (meets_dict_pop_there knd _ (kv.to _ _ _ _ r2) [] (.inl rfl) (hpart _ _ _ r2)) ⟨cs,c,D,by rw [vv.length,sizeLine_eq];lia,hc,fun h' D' hs'=>?_⟩
    exact Do.turn (o':=.dct (vmap inj (vdel kvs k))) (v:=v) S ha hs' (fun tk=>zN7 kv D' (vv.del.mono tk fun oo1 oo2 e=>e)) (fun tk=>rc.mono tk fun oo1 oo2 e=>e) h
end
section
variable {d:Nat} {sc:Scope} {ρ:Lc} {σ:Sto} {ι:List Addr}
theorem zZ4 {A:Around} {s:Shared} {l:Addr} {items:Array Value} {n:Nat} {k:Int} {t:Tok} {v:Value} {Q:Unit->Shared->Prop} {E:Value->Shared->Prop} (ho:s.heap.get? l=some { cls:=.type "list",data:=.seq items n }) (h0:0<=k) (hfit:k < 2 ^ 63) (hj:k.toNat < items.size) (hz:items.size<=sizeLine)
  (hQ:Q () { s with heap:=s.heap.update l (Obj.mapSeq (·.setIfInBounds k.toNat v)) }):wpAny (model PG w) A (setItem (.ref l) (.int k t) v) Q E s:=by
 have hT:s.TypeIs (.ref l) "list":=⟨_,ho,rfl⟩
 unfold setItem
 refine wpAny_holding ?_
 refine wpAny_bind (wpAny_sequenceKey hT (by decide) ?_)
 refine wpAny_bind (wpAny_callSpecial?_slot (name:=zA "__setitem__") hT slot_list_setitem
  (wpAny_call_entry slot_list_setitem hT entry_list_setitem ?_ (args_list_setitem _ _ _)))
 show wpAny _ _ (Builtin.List.listSubscript? (.int k t) >>= _) _ _ s
 refine wpAny_bind (wpAny_listSubscript_int (fitsIndex_of h0 hfit) ?_)
 clear hfit
 obtain ⟨j,rfl⟩:=Int.eq_ofNat_of_zero_le h0
 have hj:j < items.size:=hj
 show wpAny _ _ ((seqItemAt l j >>= fun r=>pure (r.map (j,·))) >>= _) _ _ s
 refine wpAny_bind (wpAny_bind (wpAny_seqItemAt ho rfl (wpAny_pure ?_)))
 rw [jT hj]
 show wpAny _ _ (setSeqItemAt l j v >>= _) _ _ s
 refine wpAny_bind (wpAny_setSeqItemAt ho rfl ?_)
 first
  | exact wpAny_bind (wpAny_pure (wpAny_pure ⟨.none,rfl,wpAny_pure hQ⟩))
  | exact wpAny_pure ⟨.none,rfl,wpAny_pure hQ⟩
theorem si_lst {n:Nat} {l:List V} {i:Nat} {v:V} {P:Sto->Prop} (hn:σ[n]?=some (.lst l)) (hi:i < l.length) (hz:l.length<=1000000) (h:P (σ.set n (.lst (l.set i v)))):Si w h₀ d (.ref n) (.int (i:Int)) v σ P:=fun A s ι ca cb cv hA S ra rb rv E=>by
 cases rb using VR.intE
 cases ra using VR.refE with
 | ref ha=>
  obtain ⟨vs,k,hl,hv⟩:=S.objs _ _ _ ha hn
  have e:l.length=vs.size:=by rw [<-zG];exact hv.length
  refine zZ4 hl (by lia) (by lia) (by lia) (by rw [sizeLine_eq];lia) ?_
  rw [show ((i:Int)).toNat=i by lia]
  have hl':=get?_update_seq hl (·.setIfInBounds i cv)
  exact Do.turn (t:=s.toks) (o':=.lst (l.set i v)) (v:=()) S ha (Heap.SameBut.update ..) (fun tk=>⟨_,_,hl',by rw [Array.toList_setIfInBounds];exact (hv.set i rv).mono tk fun oo1 oo2 e=>e⟩) (fun oo1=>trivial) h
theorem zR4 {o i:Expr} {pos:Pos} {v:V} {P:Lc->Sto->Prop} (h:Ev w h₀ d sc o ρ σ fun a σ₁=>Ev w h₀ d sc i ρ σ₁ fun b σ₂=>Si w h₀ d a b v σ₂ fun σ₃=>P ρ σ₃):As w h₀ d sc (.Subscript o i pos) v ρ σ P:=fun A env s ι c hA hs F S r E=>by
 rw [assign_Subscript]
 refine wpAny_bind (wpAny_holding ((h A env s ι hA hs F S).seq fun ca s₁ ι₁ a σ₁ st₁ S₁ ra p₁=>wpAny_bind (wpAny_holding ((p₁ A env s₁ ι₁ hA hs (F.stp st₁ S) S₁).seq fun cb s₂ ι₂ b σ₂ st₂ S₂ rb p₂=>wpAny_bind (wpAny_standAt (wpAny_bind (wpAny_holding ?_)))))))
 refine (p₂ A s₂ ι₂ ca cb c hA S₂ (ra.stp st₂ S₁) rb ((r.stp st₁ S).stp st₂ S₁)).seq fun oo1 s₃ ι₃ oo2 σ₃ st₃ S₃ oo3 p₃=>?_
 have st:=(st₁.trans st₂).trans st₃
 refine fun Γ q hΓ=>?_
 rw [Sem.wp_release]
 exact ⟨ι₃,(),ρ,σ₃,st.of_no,F.stp st S,S₃,trivial,p₃⟩
theorem zL6 {pos:Pos} {P:V->Sto->Prop} (h:P (.ref σ.length) (σ++[.dct []])):Ev w h₀ d sc (.Dict [] [] pos) ρ σ P:=fun A env s ι hA hs F S E=>
 wpAny_Dict_empty ⟨_,.ref σ.length,_,.alloc ..,S.alloc (o:=.dct []) ⟨#[],0,zT _ rfl,.nil,by simp⟩,.ref (by rw [<-S.len];simp),h⟩
end
open Classical
section
variable {d:Nat} {sc:Scope} {ρ:Lc} {σ:Sto} {ι:List Addr}
theorem rcNe {A:Around} {s:Shared} {a b:Value} {x:Bool} {Q:Value->Shared->Prop} {E:Value->Shared->Prop} (h:RcNeAt A s a b x) (q:Q (.bool x) s):wpAny (model PG w) A (compareOp .NotEq a b) Q E s:=h PG w E Q q
theorem rcEq {A:Around} {s:Shared} {a b:Value} {x:Bool} {Q:Value->Shared->Prop} {E:Value->Shared->Prop} (h:RcAt A s a b x) (q:Q (.bool x) s):wpAny (model PG w) A (compareOp .Eq a b) Q E s:=h PG w E Q q
theorem units0 {A:Around} (hA:Room A d):A.units+600 < cLine:=by have:=hA.units;lia
theorem jU3 {x y:Str} {P:V->Sto->Prop} (h:P (.bool (!(x == y))) σ):Cm w h₀ d .NotEq (.str x) (.str y) σ P:=fun oo1 oo2 oo3 oo4 oo5 oo6 S ra rb oo7=>by cases ra using VR.strE;cases rb using VR.strE;exact rcNe (.str_str _ _ _ _) (Do.same S (.bool _) h)
theorem jS6 {x y:Str} {P:V->Sto->Prop} (h:P (.bool (x == y)) σ):Cm w h₀ d .Eq (.str x) (.str y) σ P:=fun oo1 oo2 oo3 oo4 oo5 oo6 S ra rb oo7=>by cases ra using VR.strE;cases rb using VR.strE;exact rcEq (.str_str _ _ _ _) (Do.same S (.bool _) h)
theorem zV8 {l:List V} {P:V->Sto->Prop} (h:P (.bool true) σ):Cm w h₀ d .NotEq (.tup l) .none σ P:=fun A s ι ca cb hA S ra rb oo1=>by
 have:=units0 hA
 cases rb using VR.noneE
 cases ra using VR.tupE with
 | @tup a vs k ht hv=>exact rcNe (.tuple_none ⟨_,ht,rfl,k,rfl⟩ (by lia)) (Do.same S (.bool _) h)
theorem jK1 {s:Shared} {A:Around} {l m:List V} {vs us:Array Value} (hv:VRs s.heap ι l vs.toList) (hu:VRs s.heap ι m us.toList) (pl:gR l=true) (pm:gR m=true) (hd:deps l<=500) (hA:A.units+510 < cLine) :
  ∀ j (h1:j < vs.size) (h2:j < us.size),EqAt A.in1 s vs[j] us[j] (eqJ l m j):=fun j h1 h2=>by
 obtain ⟨v',hv',rv'⟩:=hv.getc (i:=j) (c:=vs[j]) (by rw [zW];simp [h1])
 obtain ⟨u',hu',ru'⟩:=hu.getc (i:=j) (c:=us[j]) (by rw [zW];simp [h2])
 rw [jE7 hv' hu']
 exact zC9 500 A.in1 s ι v' u' _ _ (zB (zG2 (zI hv')) hd) (zB6 pl (zI hv')) (zB6 pm (zI hu')) (by show A.units+1+500+1 < cLine;lia) rv' ru'
theorem jQ5 {l m:List V} {P:V->Sto->Prop} (pl:gR l=true) (pm:gR m=true) (hd:deps l<=500) (h:P (.bool (!eqbs l m)) σ):Cm w h₀ d .NotEq (.tup l) (.tup m) σ P:=fun A s ι ca cb hA S ra rb oo1=>by
 have hu0:=units0 hA
 cases ra using VR.tupE with
 | @tup a vs k ht hv=>cases rb with
  | @tup b us k' _ ht' hu=>
   have e1:l.length=vs.size:=by rw [<-zG];exact hv.length
   have e2:m.length=us.size:=by rw [<-zG];exact hu.length
   have:=RcNeAt.tuples (A:=A) (s:=s) ⟨_,ht,rfl,k,rfl⟩ ⟨_,ht',rfl,k',rfl⟩ (by lia) (jK1 hv hu pl pm hd (by lia))
   rw [<-e1,<-e2,zN8] at this
   exact rcNe this (Do.same S (.bool _) h)
theorem jB9 {l m:List V} (h:l.length=m.length):(List.range l.length).all (eqJ l m)=eqbs l m:=by
 rw [<-zN8 (l:=l) m,h,Nat.min_self];simp
theorem jD3 {n k:Nat} {l m:List V} {P:V->Sto->Prop} (hn:σ[n]?=some (.lst l)) (hk:σ[k]?=some (.lst m)) (pl:gR l=true) (pm:gR m=true) (hd:deps l<=500) (h:P (.bool (!eqbs l m)) σ):Cm w h₀ d .NotEq (.ref n) (.ref k) σ P:=fun A s ι ca cb hA S ra rb oo1=>by
 have hu0:=units0 hA
 cases ra using VR.refE with
 | ref ha=>cases rb using VR.refE with
  | ref hb=>
   obtain ⟨vs,j,hl,hv⟩:=S.objs _ _ _ ha hn
   obtain ⟨us,j',hl',hu⟩:=S.objs _ _ _ hb hk
   have e1:l.length=vs.size:=by rw [<-zG];exact hv.length
   have e2:m.length=us.size:=by rw [<-zG];exact hu.length
   by_cases hlen:l.length=m.length
   ·have:=RcNeAt.lists (A:=A) (s:=s) ⟨_,hl,rfl,j,rfl⟩ ⟨_,hl',rfl,j',rfl⟩ (by lia) (by lia) (jK1 hv hu pl pm hd (by lia))
    rw [<-e1,jB9 hlen] at this
    exact rcNe this (Do.same S (.bool _) h)
   ·have hf:eqbs l m=false:=by
     cases q:eqbs l m
     ·rfl
     ·exact absurd (jG8 q) hlen
    rw [hf] at h
    exact rcNe (.lists_lengths ⟨_,hl,rfl,j,rfl⟩ ⟨_,hl',rfl,j',rfl⟩ (by simp;lia) (by lia)) (Do.same S (.bool _) h)
theorem jB6 {n k:Nat} {l:List V} {P:V->Sto->Prop} (hn:σ[n]?=some (.lst l)) (hk:σ[k]?=some (.lst [])) (h:P (.bool (!l.isEmpty)) σ):Cm w h₀ d .NotEq (.ref n) (.ref k) σ P:=fun A s ι ca cb hA S ra rb oo1=>by
 have hu0:=units0 hA
 cases ra using VR.refE with
 | ref ha=>cases rb using VR.refE with
  | ref hb=>
   obtain ⟨vs,j,hl,hv⟩:=S.objs _ _ _ ha hn
   obtain ⟨us,j',hl',hu⟩:=S.objs _ _ _ hb hk
   have e1:l.length=vs.size:=by rw [<-zG];exact hv.length
   have e2:0=us.size:=by rw [<-zG];exact hu.length
   cases l with
   | nil=>
    have:=RcNeAt.lists (A:=A) (s:=s) (e:=fun oo1=>true) ⟨_,hl,rfl,j,rfl⟩ ⟨_,hl',rfl,j',rfl⟩ (by rw [<-e1,<-e2];rfl) (by lia) (fun i h1 oo1=>by rw [<-e1] at h1;simp at h1)
    rw [<-e1] at this
    exact rcNe this (Do.same S (.bool _) h)
   | cons x l=>
    exact rcNe (.lists_lengths ⟨_,hl,rfl,j,rfl⟩ ⟨_,hl',rfl,j',rfl⟩ (by rw [<-e1,<-e2];simp) (by lia)) (Do.same S (.bool _) h)
theorem jS8 {n k:Nat} {l:List V} {P:V->Sto->Prop} (hn:σ[n]?=some (.lst l)) (hk:σ[k]?=some (.lst [])) (h:P (.bool l.isEmpty) σ):Cm w h₀ d .Eq (.ref n) (.ref k) σ P:=fun A s ι ca cb hA S ra rb oo1=>by
 have hu0:=units0 hA
 cases ra using VR.refE with
 | ref ha=>cases rb using VR.refE with
  | ref hb=>
   obtain ⟨vs,j,hl,hv⟩:=S.objs _ _ _ ha hn
   obtain ⟨us,j',hl',hu⟩:=S.objs _ _ _ hb hk
   have e1:l.length=vs.size:=by rw [<-zG];exact hv.length
   have e2:0=us.size:=by rw [<-zG];exact hu.length
   cases l with
   | nil=>
    have:=RcAt.lists (A:=A) (s:=s) (e:=fun oo1=>true) ⟨_,hl,rfl,j,rfl⟩ ⟨_,hl',rfl,j',rfl⟩ (by rw [<-e1,<-e2];rfl) (by lia) (fun i h1 oo1=>by rw [<-e1] at h1;simp at h1)
    rw [<-e1] at this
    exact rcEq this (Do.same S (.bool _) h)
   | cons x l=>
    exact rcEq (.lists_lengths ⟨_,hl,rfl,j,rfl⟩ ⟨_,hl',rfl,j',rfl⟩ (by rw [<-e1,<-e2];simp) (by lia)) (Do.same S (.bool _) h)
theorem zM1 {v:V} {l:List V} {P:V->Sto->Prop} (pv:zC3 v=true) (pl:gR l=true) (hd:deps l<=500) (h:P (.bool (l.any fun u=>u.eqb v)) σ):Cm w h₀ d .In v (.tup l) σ P:=fun A s ι ca cb hA S ra rb oo1=>by
 have hu0:=units0 hA
 cases rb using VR.tupE with
 | @tup b us k ht hu=>
  have:∃ e:Value->Bool,(∀ y,y∈us->EqAt A.in1 s y ca (e y))/\us.any e=l.any fun u=>u.eqb v:=by
   let e:Value->Bool:=fun y=>decide (∃ u∈l,VR s.heap ι u y/\u.eqb v=true)
   have he:∀ u∈l,∀ y,VR s.heap ι u y->e y=u.eqb v:=fun u hu' y r=>by
    show decide _=_
    cases q:u.eqb v
    ·rw [decide_eq_false]
     rintro ⟨u',h1,h2,h3⟩
     have:=VR.inj (zB6 pl h1) (zB6 pl hu') h2 r
     rw [this,q] at h3;cases h3
    ·rw [decide_eq_true];exact ⟨u,hu',r,q⟩
   refine ⟨e,fun y hy=>?_,?_⟩
   ·obtain ⟨i,hi,hy'⟩:=Array.mem_iff_getElem.mp hy
    obtain ⟨u',hu',ru'⟩:=hu.getc (i:=i) (c:=y) (by rw [zW,<-hy'];simp [hi])
    have hm:=zI hu'
    rw [he u' hm y ru']
    exact zC9 500 A.in1 s ι u' v _ _ (zB (zG2 hm) hd) (zB6 pl hm) pv (by show A.units+1+500+1 < cLine;lia) ru' ra
   ·rw [<-Array.any_toList]
    generalize us.toList=cs at hu
    have key:∀ {l':List V} {cs:List Value},VRs s.heap ι l' cs->(∀ u∈l',u∈l)->cs.any e=l'.any fun u=>u.eqb v:=by
     intro l' cs r
     induction l' generalizing cs with
     | nil=>cases r using VRs.nilE;intro _;rfl
     | cons x l' ih=>
      cases r using VRs.consE with
      | cons r1 r2=>
       intro hm
       rw [wJ,wJ,he x (hm x jA) _ r1,ih r2 fun u hu'=>hm u (zY _ hu')]
    exact key hu fun oo1 h=>h
  obtain ⟨e,he,hq⟩:=this
  refine in_tupleAt e ⟨_,ht,rfl,k,rfl⟩ he ?_
  rw [hq]
  exact Do.same S (.bool _) h
theorem cm_is_none {P:V->Sto->Prop} (h:P (.bool true) σ):Cm w h₀ d .Is .none .none σ P:=fun oo1 oo2 oo3 oo4 oo5 oo6 S ra rb oo7=>by cases ra using VR.noneE;cases rb using VR.noneE;exact wpAny_bind (wpAny_of_eq (a:=true) rfl (wpAny_pure (Do.same S (.bool _) h)))
theorem zX0 {l:List V} {P:V->Sto->Prop} (h:P (.bool false) σ):Cm w h₀ d .Is (.tup l) .none σ P:=fun oo1 oo2 oo3 oo4 oo5 oo6 S ra rb oo7=>by
 cases rb using VR.noneE
 cases ra with
 | tup=>exact wpAny_bind (wpAny_of_eq (a:=false) rfl (wpAny_pure (Do.same S (.bool _) h)))
theorem ev_or2 {x y:Expr} {pos:Pos} {P:V->Sto->Prop} (h:Ev w h₀ d sc x ρ σ fun a σ₁=>Tr w h₀ d a σ₁ fun b σ₂=>if b then P a σ₂ else Ev w h₀ d sc y ρ σ₂ P):Ev w h₀ d sc (.BoolOp .Or [x,y] pos) ρ σ P:=
 fun A env s ι hA hs F S E=>wpAny_Or2 (wpAny_mono (h A env s ι hA hs F S E) (fun c s₁ ⟨ι₁,a,σ₁,st₁,S₁,ra,pa⟩=>wpAny_mono (pa A s₁ ι₁ c hA S₁ ra E) (fun b s₂ ⟨ι₂,b',σ₂,st₂,S₂,rb,pb⟩=>by
  cases rb;cases b
  ·exact wpAny_mono (pb A env s₂ ι₂ hA hs (F.stp (st₁.trans st₂) S) S₂ E) (fun _ _ ⟨ι₃,v,σ₃,st₃,S₃,r,p⟩=>⟨ι₃,v,σ₃,(st₁.trans st₂).trans st₃,S₃,r,p⟩) fun oo1 oo2 x=>x
  ·exact ⟨ι₂,a,σ₂,st₁.trans st₂,S₂,ra.stp st₂ S₁,pb⟩) fun oo1 oo2 x=>x) fun oo1 oo2 x=>x)
theorem jS2 {l r₁ r₂:Expr} {o₁ o₂:CmpOp} {pos:Pos} {P:Bool->Sto->Prop}
  (h:Ev w h₀ d sc l ρ σ fun a σ₁=>Ev w h₀ d sc r₁ ρ σ₁ fun b σ₂=>Cm w h₀ d o₁ a b σ₂ fun c σ₃=>∃ t,c=.bool t/\if t then Ev w h₀ d sc r₂ ρ σ₃ fun e σ₄=>Cm w h₀ d o₂ b e σ₄ fun f σ₅=>Tr w h₀ d f σ₅ P else P false σ₃)
  (he:∀ env x,isTrue (.Compare l [o₁,o₂] [r₁,r₂] pos) env x=(do testChain pos (<-eval l env) [o₁,o₂] [eval r₁ env,eval r₂ env]):=by intros; rfl):Ts w h₀ d sc (.Compare l [o₁,o₂] [r₁,r₂] pos) ρ σ P:=fun A env s ι hA hs F S E=>by
 rw [he]
 refine wpAny_bind ((h A env s ι hA hs F S).seq fun ca s₁ ι₁ a σ₁ st₁ S₁ ra p₁=>?_)
 show wpAny _ A (do
  let rv <-holding [ca] (eval r₁ env)
  standAt pos
  let c <-holding [ca,rv] (compareOp o₁ ca rv)
  release [ca,rv] [c]
  if <-holding [c,rv] (truthy c) then testChain pos rv [o₂] [eval r₂ env] else pure false) _ E s₁
 have F₁:=F.stp st₁ S
 refine wpAny_bind (wpAny_holding ((p₁ A env s₁ ι₁ hA hs F₁ S₁).seq fun cb s₂ ι₂ b σ₂ st₂ S₂ rb p₂=>wpAny_bind (wpAny_standAt (wpAny_bind (wpAny_holding ((p₂ A s₂ ι₂ ca cb hA S₂ (ra.stp st₂ S₁) rb).seq fun cc s₃ ι₃ c σ₃ st₃ S₃ rc ⟨t,hc,p₃⟩=>?_))))))
 subst hc
 cases rc using VR.boolE
 have F₃:=(F₁.stp st₂ S₁).stp st₃ S₂
 have st:=(st₁.trans st₂).trans st₃
 have go:wpAny (model PG w) A (do if <-holding [Value.bool t,cb] (truthy (.bool t)) then testChain pos cb [o₂] [eval r₂ env] else pure false) (DoO w h₀ EqR s ι P) E s₃:=by
  refine wpAny_bind (wpAny_holding (wpAny_truthy_bool ?_))
  cases t
  ·exact wpAny_pure ⟨ι₃,false,σ₃,st,S₃,rfl,p₃⟩
  ·show wpAny _ A (do
    let rv <-holding [cb] (eval r₂ env)
    standAt pos
    let c <-operate [cb,rv] (compareOp o₂ cb rv)
    holding [c] (truthy c)) _ E s₃
   refine wpAny_bind (wpAny_holding ((p₃ A env s₃ ι₃ hA hs F₃ S₃).seq fun ce s₄ ι₄ e σ₄ st₄ S₄ re p₄=>wpAny_bind (wpAny_standAt (wpAny_bind (wpAny_operating ((p₄ A s₄ ι₄ cb ce hA S₄ ((rb.stp st₃ S₂).stp st₄ S₃) re).seq fun cf s₅ ι₅ f σ₅ st₅ S₅ rf p₅=>wpAny_holding ?_))))))
   exact (p₅ A s₅ ι₅ cf hA S₅ rf).up ((st.trans st₄).trans st₅)
 refine fun Γ q hΓ=>?_
 simp only [Sem.wp_bind',Sem.wp_release]
 have:=go Γ q hΓ
 simp only [Sem.wp_bind'] at this
 exact this
end
section
variable {d:Nat} {sc:Scope} {ρ:Lc} {σ:Sto} {ι:List Addr}
theorem zQ3 {A:Around} {s:Shared} {it t:Addr} {i:Nat} {items:Array Value} {x:Value} {Q:Value->Shared->Prop} {E:Value->Shared->Prop} (hit:s.heap.IsTupleIter it t i) (ht:s.heap.IsTuple t items) (hx:items[i]?=some x)
  (hQ:∀ h',h'.IsTupleIter it t (i+1)->Heap.SameBut it s.heap h'->Q x { s with heap:=h' }):wpAny (model PG w) A (Builtin.SmallTypes.nextOf (.ref it)) Q E s:=by
 obtain ⟨o,ho,hc,hd⟩:=id hit
 obtain ⟨ol,hol,_,nl,hdl⟩:=ht
 refine wpAny_bind (wpAny_callSpecial?_slot (name:=zA "__next__") hit.typeIs F.slot_tuple_iterator_next
  (wpAny_call_entry F.slot_tuple_iterator_next hit.typeIs F.entry_tuple_iterator_next ?_ (F.args_tuple_iterator_next_1 _)))
 show wpAny _ _ (field (.ref it) 0 >>= _) _ _ s
 refine wpAny_bind (wpAny_field ho hd (x:=.ref t) rfl ?_)
 show wpAny _ _ (if (Value.ref t == Value.none)=true then _ else _) _ _ s
 rw [if_neg (show ¬ ((Value.ref t == Value.none)=true) from qW)]
 show wpAny _ _ (field (.ref it) 1 >>= _) _ _ s
 refine wpAny_bind (wpAny_field ho hd (x:=.int i 0) rfl ?_)
 show wpAny _ _ (seqItems? (.ref t) >>= _) _ _ s
 refine wpAny_bind (wpAny_seqItems hol hdl ?_)
 dsimp only
 rw [show items[(i:Int).toNat]?=some x from hx]
 refine wpAny_bind (wpAny_setField ho hd (by simp) (wpAny_pure ⟨x,rfl,wpAny_pure (hQ _ ?_ (Heap.SameBut.update ..))⟩))
 exact ⟨_,wK _ ho (Obj.isFreed_of_fields (Obj.data_mapFields hd _)),(Obj.cls_mapFields ..).trans hc,by
  rw [Obj.data_mapFields hd];simp [rawInt]⟩
theorem zQ9 {A:Around} {s:Shared} {it t:Addr} {i:Nat} {items:Array Value} {Q:Value->Shared->Prop} {E:Value->Shared->Prop} (hh:A.handled=none) (hit:s.heap.IsTupleIter it t i) (ht:s.heap.IsTuple t items) (hx:items[i]?=none)
  (hE:∀ h' e,Heap.ExtBut it s.heap h'->(∃ o,h'.get? e=some o/\o.cls=.type "StopIteration")->E (.ref e) { s with heap:=h' }):wpAny (model PG w) A (Builtin.SmallTypes.nextOf (.ref it)) Q E s:=by
 obtain ⟨o,ho,hc,hd⟩:=id hit
 obtain ⟨ol,hol,_,nl,hdl⟩:=ht
 refine wpAny_bind (wpAny_callSpecial?_slot (name:=zA "__next__") hit.typeIs F.slot_tuple_iterator_next
  (wpAny_call_entry F.slot_tuple_iterator_next hit.typeIs F.entry_tuple_iterator_next ?_ (F.args_tuple_iterator_next_1 _)))
 show wpAny _ _ (field (.ref it) 0 >>= _) _ _ s
 refine wpAny_bind (wpAny_field ho hd (x:=.ref t) rfl ?_)
 show wpAny _ _ (if (Value.ref t == Value.none)=true then _ else _) _ _ s
 rw [if_neg (show ¬ ((Value.ref t == Value.none)=true) from qW)]
 show wpAny _ _ (field (.ref it) 1 >>= _) _ _ s
 refine wpAny_bind (wpAny_field ho hd (x:=.int i 0) rfl ?_)
 show wpAny _ _ (seqItems? (.ref t) >>= _) _ _ s
 refine wpAny_bind (wpAny_seqItems hol hdl ?_)
 dsimp only
 rw [show items[(i:Int).toNat]?=none from hx]
 refine wpAny_bind (wpAny_rule (wpAny_bind (wpAny_setField ho hd (by simp) ?_)))
 show wpAny _ _ (newExc (.type "StopIteration") [] >>= _) _ _ _
 refine wpAny_bind ?_
 refine wpAny_bind (wpAny_newObj_type ?_ (by size_fits))
 refine wpAny_bind (m:=firstArgMember _ _) (wpAny_of_eq (a:=Value.none) (by first | rfl | (simp only [firstArgMember];rfl)) ?_)
 refine wpAny_newObj_type ?_ (by size_fits)
 refine wpAny_bind (wpAny_handled ?_)
 first | rw [show A.in1.handled=none from hh] | rw [hh]
 refine wpAny_bind (wpAny_pure (wpAny_throw ?_))
 exact hE _ _ (((Heap.SameBut.update ..).extBut.push _).push _) ⟨_,zT _ rfl,rfl⟩
theorem zT6 {A:Around} (hh:A.handled=none) {it t:Addr} (hne:t≠it) (vs:Array Value) (n:Nat):Draws PG w A it [it,t] vs.size (fun i v=>vs[i]?=some v) (fun i h=>h.IsTupleIter it t i/\IsT h t vs n) where
 live:=fun i h st=>by obtain ⟨⟨o,ho,_⟩,_⟩:=st;exact ⟨o,ho⟩
 frame:=fun i h h' st hk=>by
  obtain ⟨⟨o,ho,r⟩,ht⟩:=st
  exact ⟨⟨o,hk _ (by simp) _ ho,r⟩,hk _ (by simp) _ ht⟩
 item:=fun i s Q E hi st hQ=>zQ3 st.1 ⟨_,st.2,rfl,n,rfl⟩ (x:=vs[i]) (by simp [hi]) fun h' hit' hs'=>hQ _ h' s.toks (by simp [hi]) ⟨hit',(hs'.2 t hne).trans st.2⟩ hs'
 done:=fun s Q E st hE=>zQ9 hh st.1 ⟨_,st.2,rfl,n,rfl⟩ (by simp) hE
open AutoSeq1 (wpAny_loadPart') in
set_option maxHeartbeats 2000000 in
theorem zY4 (l:Addr) (items:Array Value) (n:Nat) :
  Meets (Builtin.«enumerate.__new__» ⟨[.type "enumerate",.ref l],[]⟩) (fun oo1 R s=>s.heap.get? l=some { cls:=.type "tuple",dict:=none,data:=.seq items n,slots:=#[] }/\
   R (.ok (.ret (.ref (s.heap.push { cls:=.type "tuple_iterator",data:=.fields #[.ref l,.int 0 0] }).objs.size)))
    { s with heap:=(s.heap.push { cls:=.type "tuple_iterator",data:=.fields #[.ref l,.int 0 0] }).push { cls:=.type "enumerate",data:=.fields #[.none,.bool false,.ref s.heap.objs.size,rawInt 0,.none,.none] } }):=
 .of_wp fun prog w A R s h=>by
  obtain ⟨hp,g,d,tk,os⟩:=s;obtain ⟨hl,h⟩:=h
  have hsub:=sub_enumerate
  have hL:Heap.IsTuple (Shared.heap ⟨hp,g,d,tk,os⟩) l items:=⟨_,hl,rfl,n,rfl⟩
  wp_walk using wpAny_loadPart' hl
  refine wpAny_stack_any fun st=>wpAny_pure ?_
  generalize PySem.Builtin.SmallTypes.calledThroughType.match_1 _ (List.drop 1 st) _ _=b
  cases b
  ·wp_walk using wpAny_loadPart' hl,wpAny_pyIter_tuple hL
   exact ⟨_,rfl,h⟩
  ·wp_walk using wpAny_loadPart' hl,wpAny_pyIter_tuple hL
   exact ⟨_,rfl,h⟩
noncomputable def counted (l:List V):List V:=l.mapIdx fun i v=>V.tup [.int i,v]
theorem zT0 {l:List V} {i:Nat} {v:V} (h:(counted l)[i]?=some v):∃ u,l[i]?=some u/\v=.tup [.int i,u]:=by
 unfold counted at h
 rw [List.getElem?_mapIdx] at h
 cases hl:l[i]? with
 | none=>rw [hl] at h;cases h
 | some u=>rw [hl] at h;exact ⟨u,rfl,(Option.some.inj h).symm⟩
theorem itc_enum {elts:List Expr} {k:Nat} {tpos:Pos} {l:List V} {P:List V->(Sto->Prop)->Sto->Prop} (p:P (counted l) (fun oo1=>True) σ):ItC w h₀ d (.Tuple elts k tpos) (.type "enumerate") [.tup l] σ P:=by
 intro A s ι cs Q E hA S r hQ
 cases r using VRs.consE with
 | cons r1 r=>cases r using VRs.nilE;cases r1 using VR.tupE with
  | @tup t vs n ht hv=>
   have hlen:l.length=vs.size:=by rw [<-zG];exact hv.length
   refine callType_new F.called_enumerate (by decide) (F.typeCall_enumerate_1 _) (F.newCall_enumerate_1 _) (fun obj=>F.args_object_init_2 obj _) F.entry_enumerate_new
    (zY4 t vs n) ⟨ht,?_⟩
   have hz:(s.heap.push { cls:=.type "tuple_iterator",data:=.fields #[.ref t,.int 0 0] }).objs.size=s.heap.objs.size+1:=qA ..
   show _/\_
   rw [hz]
   have he:IsEnum ((s.heap.push { cls:=.type "tuple_iterator",data:=.fields #[.ref t,.int 0 0] }).push
     { cls:=.type "enumerate",data:=.fields #[.none,.bool false,.ref s.heap.objs.size,rawInt 0,.none,.none] }) (s.heap.objs.size+1) s.heap.objs.size 0 .none:=by
    have:=zT (s.heap.push { cls:=.type "tuple_iterator",data:=.fields #[.ref t,.int 0 0] })
     (o:={ cls:=.type "enumerate",data:=.fields #[.none,.bool false,.ref s.heap.objs.size,rawInt 0,.none,.none] }) rfl
    rw [hz] at this;exact this
   have hI0:((s.heap.push { cls:=.type "tuple_iterator",data:=.fields #[.ref t,.int 0 0] }).push
     { cls:=.type "enumerate",data:=.fields #[.none,.bool false,.ref s.heap.objs.size,rawInt 0,.none,.none] }).IsTupleIter s.heap.objs.size t 0:=⟨_,zF _ (zT _ rfl),rfl,rfl⟩
   refine ⟨⟨_,he,rfl⟩,?_⟩
   refine wpAny_pyIter_enum he ?_
   obtain ⟨I,hI⟩:∃ I,s.heap.objs.size=I:=⟨_,rfl⟩
   have hkp:∀ b o,s.heap.get? b=some o->((s.heap.push { cls:=.type "tuple_iterator",data:=.fields #[.ref t,.int 0 0] }).push { cls:=.type "enumerate",data:=.fields #[.none,.bool false,.ref s.heap.objs.size,rawInt 0,.none,.none] }).get? b=some o:=fun b o x=>zF _ (zF _ x)
   have hbg:s.heap.objs.size<=((s.heap.push { cls:=.type "tuple_iterator",data:=.fields #[.ref t,.int 0 0] }).push { cls:=.type "enumerate",data:=.fields #[.none,.bool false,.ref s.heap.objs.size,rawInt 0,.none,.none] }).objs.size:=by rw [qA,hz];lia
   have htl:t < s.heap.objs.size:=jC ht
   rw [hI] at he hI0 hkp hbg htl hQ ⊢
   have hne:t≠I:=jP htl
   have hteI:t≠I+1:=jP (qY htl)
   have hEI:(I+1:Nat)≠I:=by lia
   refine hQ (I+1) [I+1,I] (fun i h ι'=>(∃ old,IsEnum h (I+1) I i old)/\h.IsTupleIter I t i/\IsT h t vs n/\VRs h ι' l vs.toList) _ ι (counted l) (fun oo1=>True) σ (.more hkp (hI ▸ hbg) rfl rfl) (S.mono hkp (hI ▸ hbg)) (fun b hb=>?_) ⟨⟨_,he⟩,hI0,hkp _ _ ht,hv.mono (fun a vs n e=>hkp _ _ e) fun oo1 oo2 e=>e⟩ (fun A' hA'=>⟨?_,?_,?_,?_⟩) p
   ·rcases jN.mp hb with rfl | hb
    ·exact ⟨yY _,fun m=>absurd (S.lt m) (by rw [hI];exact jK (yY _)),_,he,fun oo1 oo2 q=>by cases q⟩
    ·rw [zM.mp hb]
     obtain ⟨o,ho,_,hd⟩:=hI0
     exact ⟨zK _,fun m=>absurd (S.lt m) (by rw [hI];exact yM _),o,ho,fun oo1 oo2 q=>by rw [hd] at q;cases q⟩
   ·rintro i h h' ι₁ ι₂ ⟨⟨old,h1⟩,⟨o,h2,h3⟩,h4,h5⟩ hk tk hi
    exact ⟨⟨old,hk _ (by simp) _ h1⟩,⟨o,hk _ (by simp) _ h2,h3⟩,tk _ _ _ h4,h5.mono tk hi⟩
   ·rintro i v s' ι₁ σ' Q' E1 E2 hv' ⟨⟨old,h1⟩,h2,h4,h5⟩ S' _ hQ'
    obtain ⟨u,hu,rfl⟩:=zT0 hv'
    have hilt:i < vs.size:=by rw [<-hlen];exact (zC.mp hu).1
    have D:=zT6 (A:=A'.in1) (show A'.in1.handled=none from hA') hne vs n
    refine wpAny_pyNext_enum_itemD (fp:=[I,t]) D h1 ⟨h2,h4⟩ hilt hEI (by intro m;rcases jN.mp m with q | q;exact hEI q;exact hteI (zM.mp q).symm) fun x h' tk hP ho hs' hT hsz hk=>?_
    refine wpAny_letOwnedTupleGo_enum (s:={ s' with heap:=h',toks:=tk+1 }) ho fun h'' he'' hs''=>?_
    obtain ⟨c,hc,rc⟩:=h5.get hu
    have hcx:c=x:=by
     have hP:vs[i]?=some x:=hP
     rw [<-zW,hc] at hP
     exact Option.some.inj hP
    subst hcx
    have hTlt:s'.heap.objs.size≠(I+1:Nat):=fun q=>absurd (jC h1) (by rw [q];exact yM _)
    have hk2:∀ b o,b ∉ [I+1,I]->s'.heap.get? b=some o->h''.get? b=some o:=fun b o hb e=>by
     simp only [jN,yP,or_false,not_or] at hb
     exact (hs''.2 b hb.1).trans (hk b o hb.1 hb.2 e)
    have hT'':h''.get? s'.heap.objs.size=some { cls:=.type "tuple",data:=.seq #[.int i tk,c] }:=(hs''.2 _ hTlt).trans hT
    have hit'':h''.IsTupleIter I t (i+1):=by
     obtain ⟨⟨o,y1,y2⟩,_⟩:=hs'
     exact ⟨o,(hs''.2 I (fun q=>hEI q.symm)).trans y1,y2⟩
    refine hQ' (.ref s'.heap.objs.size) h'' (tk+1) (fun tkp=>.tup (n:=0) hT'' (.cons (.int _ _) (.cons (rc.mono tkp fun oo1 oo2 e=>e) .nil))) (fun tkp=>⟨⟨_,by have:=he'';simpa using this⟩,hit'',tkp _ _ _ h4,h5.mono tkp fun oo1 oo2 e=>e⟩) hk2 (by rw [hs''.1,hsz];exact yY _) fun b hb=>?_
    rcases jN.mp hb with rfl | hb
    ·exact ⟨_,he'',fun oo1 oo2 q=>by cases q⟩
    ·rw [zM.mp hb]
     obtain ⟨o,y1,_,y3⟩:=hit''
     exact ⟨o,y1,fun oo1 oo2 q=>by rw [y3] at q;cases q⟩
   ·rintro s' ι₁ σ' Q' E1 ⟨⟨old,h1⟩,h2,h4,h5⟩ S' _ hQ'
    have D:=zT6 (A:=A'.in1) (show A'.in1.handled=none from hA') hne vs n
    have hcl:(counted l).length=vs.size:=by rw [<-hlen];simp [counted]
    rw [hcl] at h1 h2
    exact zB7 (wpAny_pyNext_enum_endD (fp:=[I,t]) D h1 ⟨h2,h4⟩ fun h' he' hz'=>hQ' h' s'.toks (fun b o hb e=>he' b o (fun q=>hb (by simp [q])) e) hz')
   ·rintro i s' ι₁ Q' E1 ⟨⟨old,h1⟩,_⟩ hq
    exact wpAny_pyIter_enum h1 hq
end
end
section
open PySem PySem.W PySem.Calls PyProof.Rows
section
variable {d:Nat} {sc:Scope} {ρ:Lc} {σ:Sto} {ι:List Addr}
theorem jN1 {elt tg iter c₁:Expr} {scope:Scope} {pos:Pos} {P:V->Sto->Prop}
  (hsc:sc.kind=.function) (hkind:scope.kind=.function) (hcell:∀ x∈scope.names,x.2≠.cell)
  (hnames:∀ x∈scope.names,x.2=.local->scope.names.lookup x.1=some .local)
  (hfree:(scope.names.all fun p=>p.2 != .free || sc.names.lookup p.1 == some .cell)=true)
  (h:Its w h₀ d sc tg iter ρ σ fun l Ok σ₁=>∃ (I:Nat->Sto->Prop),I 0 σ₁/\(∀ i σ',I i σ'->Ok σ')/\
   (∀ i v σ',l[i]?=some v->I i σ'->AsC w h₀ d (relab scope sc) tg v (seen scope sc ρ) σ' fun ρ₂ σ₂=>Ts w h₀ d (relab scope sc) c₁ ρ₂ σ₂ fun b σ₃=>b=false/\I (i+1) σ₃)/\
   (∀ σ',I l.length σ'->P (.ref σ'.length) (σ'++[.lst []])))
  (hs0:∀ env x,foldedSetIterable iter env x=pure x:=by intros; rfl):Ev w h₀ d sc (.ListComp elt [⟨tg,iter,[c₁],0⟩] scope pos) ρ σ P:=by
 intro A env s ι hA hs F S E
 have hfc:∀ p∈scope.names,p.2=.free->env.kindOf p.1=some .cell:=fun p hp hpf=>by
  have:=jQ.mp hfree p hp
  rw [hpf] at this
  show env.scope.names.lookup p.1=_
  rw [hs];simpa using this
 obtain ⟨cl,hcl,hcl1,hcl2⟩:=zO7 (env:=env) (scope:=scope) fun p hp hpf=>F.hasc _ (hfc p hp hpf)
 rw [eval_ListComp]
 refine wpAny_comprehension_free (e:=.ListComp elt [⟨tg,iter,[c₁],0⟩] scope pos) (g:=⟨tg,iter,[c₁],0⟩) (gs:=[]) rfl (hs0 env) hcl hkind hnames ?_
 refine h A env s ι _ E hA hs F S ?_
 intro it fp St s₂ ι₁ l Ok σ₁ st₂ S₂ hfp hSt hSrc hh
 obtain ⟨I,hI0,hOk,turn,fin⟩:=hh
 refine zR6 (I:=fun i acc σ'=>acc=[]/\I i σ') (Bd:=fun i oo1 ρ₂ σ₂=>Ts w h₀ d (relab scope sc) c₁ ρ₂ σ₂ fun b σ₃=>b=false/\I (i+1) σ₃) hA hs F S hkind hcell hcl1 hcl2 st₂ S₂ hfp hSt (hSrc A hA.handled) (fun oo1 oo2=>compTurn_list ..) ⟨rfl,hI0⟩
  (fun i acc σ' q=>hOk i σ' q.2) (fun i v acc σ' hv q=>turn i v σ' hv q.2) (fun i acc ρ₂ σ₂ σ' hi q hb D ce hsc hD0 s ι vs k Q E F S hDi hD hvs hQ=>?_) fun C D s' hsC hsD hDC c=>?_
 ·refine wpAny_bind (wpAny_tests_one ((hb A ce s ι hA hsc F S).seq fun u s₇ ι₇ v₇ σ₇ st₇ S₇ r₇ p₇=>?_))
  have r₇:v₇=u:=r₇
  obtain ⟨hb7,p₇⟩:=p₇
  subst r₇ hb7
  exact wpAny_pure (hQ _ ⟨ι₇,σ₇,acc,vs,k,st₇.of_no,S₇,st₇.tup0 S,st₇.notin hDi (jC hD),st₇.keep D _ hD hDi id,hvs.mono (st₇.tup0 S) st₇.idx,q.1,p₇⟩)
 ·obtain ⟨ι',σ',acc,m,st,S',r,hCi,hm,hJ⟩:=c.adopt hsD (zB S.big hsD) hDC
  refine ⟨m,hm,fun h' hs'=>?_⟩
  obtain ⟨S'',tk,_,stC⟩:=jG0 S' hCi (zB S.big hsC) hm hs'
  obtain ⟨rfl,hJ⟩:=hJ
  exact ⟨ι',_,_,(st.of_no.trans stC).fresh fun x hx=>hx ▸ hsC,S'',r.mono tk fun oo1 oo2 e=>e,fin σ' hJ⟩
end
section
variable {d:Nat} {sc:Scope} {ρ:Lc} {σ:Sto} {ι:List Addr}
theorem zW7 {elt tg iter:Expr} {scope:Scope} {pos xpos apos:Pos} {x:Str} {P:Fl->Lc->Sto->Prop}
  (hsc:sc.kind=.function) (hkind:scope.kind=.function) (hcell:∀ x∈scope.names,x.2≠.cell)
  (hnames:∀ x∈scope.names,x.2=.local->scope.names.lookup x.1=some .local)
  (hfree:(scope.names.all fun p=>p.2 != .free || sc.names.lookup p.1 == some .cell)=true)
  (h:Its w h₀ d sc tg iter ρ σ fun l Ok σ₁=>∃ (I:Nat->List V->Sto->Prop),I 0 [] σ₁/\l.length<=1000000/\(∀ i acc σ',I i acc σ'->Ok σ')/\
   (∀ i v acc σ',l[i]?=some v->acc.length=i->I i acc σ'->AsC w h₀ d (relab scope sc) tg v (seen scope sc ρ) σ' fun ρ₂ σ₂=>Ev w h₀ d (relab scope sc) elt ρ₂ σ₂ fun u σ₃=>I (i+1) (acc++[u]) σ₃)/\
   (∀ acc σ',acc.length=l.length->I l.length acc σ'->P .next ((x,.ref σ'.length)::ρ) (σ'++[.lst acc])))
  (hx:sc.names.lookup x=some .local)
  (he:∀ env,env.scope=sc->exec (.Assign [.Name x xpos] (.ListComp elt [⟨tg,iter,[],0⟩] scope pos) apos) env=(do
   standAt apos
   evalThenUse (.ListComp elt [⟨tg,iter,[],0⟩] scope pos) env (assign (.Name x xpos) env)
   return .next))
  (hs0:∀ env x,foldedSetIterable iter env x=pure x:=by intros; rfl):Ex w h₀ d sc (.Assign [.Name x xpos] (.ListComp elt [⟨tg,iter,[],0⟩] scope pos) apos) ρ σ P:=by
 intro A env s ι hA hs F S E
 have hfc:∀ p∈scope.names,p.2=.free->env.kindOf p.1=some .cell:=fun p hp hpf=>by
  have:=jQ.mp hfree p hp
  rw [hpf] at this
  show env.scope.names.lookup p.1=_
  rw [hs];simpa using this
 obtain ⟨cl,hcl,hcl1,hcl2⟩:=zO7 (env:=env) (scope:=scope) fun p hp hpf=>F.hasc _ (hfc p hp hpf)
 rw [he env hs]
 refine wpAny_bind (wpAny_standAt (wpAny_bind ?_))
 rw [arm_evalThenUse_ListComp]
 refine wpAny_bind ?_
 refine wpAny_comprehension_free (use:=some (assign (.Name x xpos) env)) (e:=.ListComp elt [⟨tg,iter,[],0⟩] scope pos) (g:=⟨tg,iter,[],0⟩) (gs:=[]) rfl (hs0 env) hcl hkind hnames ?_
 refine h A env s ι _ E hA hs F S ?_
 intro it fp St s₂ ι₁ l Ok σ₁ st₂ S₂ hfp hSt hSrc hh
 obtain ⟨I,hI0,hlen,hOk,turn,fin⟩:=hh
 refine zR6 (I:=fun i acc σ'=>acc.length=i/\I i acc σ') (Bd:=fun i acc ρ₂ σ₂=>Ev w h₀ d (relab scope sc) elt ρ₂ σ₂ fun u σ₃=>I (i+1) (acc++[u]) σ₃) hA hs F S hkind hcell hcl1 hcl2 st₂ S₂ hfp hSt (hSrc A hA.handled) (fun oo1 oo2=>compTurn_list1 ..) ⟨rfl,hI0⟩
  (fun i acc σ' q=>hOk i acc σ' q.2) (fun i v acc σ' hv q=>turn i v acc σ' hv q.1 q.2) (fun i acc ρ₂ σ₂ σ' hi q hb D ce hsc hD0 s ι vs k Q E F S hDi hD hvs hQ=>?_) fun C D s' hsC hsD hDC c=>?_
 ·exact wpAny_bind (wpAny_bind ((hb A ce s ι hA hsc F S).seq fun u s₇ ι₇ v₇ σ₇ st₇ S₇ r₇ p₇=>wpAny_bind (wpAny_mono (jJ5 (J:=fun acc σ'=>acc.length=i+1/\I (i+1) acc σ') S hD0 hDi hD hvs st₇ S₇ r₇ (by have:=q.1;lia) ⟨by rw [zE,q.1];rfl,p₇⟩ hQ) (fun oo1 oo2 hq=>wpAny_pure (wpAny_pure hq)) fun oo1 oo2 x=>x)))
 ·obtain ⟨ι',σ',acc,m,st,S',r,hCi,hm,hJ⟩:=c.adopt hsD (zB S.big hsD) hDC
  have hCo:¬ Own env C:=fun ho=>absurd (F.ltA ho) (jK hsC)
  have hCl:C < s'.heap.objs.size:=by obtain ⟨o,_,_,e,_⟩:=hm;exact jC e
  refine wpAny_mono (gN (P:=fun ρ₂ σ₂=>(x,V.ref σ'.length)::ρ=ρ₂/\σ'++[.lst acc]=σ₂) (d:=d) (sc:=sc) (by rw [hx];rfl) ⟨rfl,rfl⟩ A env s' ι' (.ref D) hA hs (F.stp st S) S' r E) (fun oo1 s₆ hh=>?_) fun oo1 oo2 x=>x
  obtain ⟨ι₆,_,ρ₆,σ₆,st₆,F₆,S₆,_,hρ,hσ⟩:=hh
  subst hρ hσ
  have hm₆:s₆.heap.Ns C m:=by
   obtain ⟨o,es,ep,e,r⟩:=hm
   exact ⟨o,es,ep,st₆.keep _ _ e hCi hCo,r⟩
  refine ⟨m,hm₆,fun h₇ hs₇=>wpAny_pure (wpAny_pure ?_)⟩
  obtain ⟨S₇,tk,hk,stC⟩:=jG0 S₆ (st₆.notin hCi hCl) (zB S.big hsC) hm₆ hs₇
  exact ⟨ι₆,.next,_,_,Stp.or_fresh (Z:=fun a=>a=C) ((st.of_no.trans (st₆.weak fun x hx=>.inl hx)).trans (stC.weak fun x hx=>.inr hx)) fun x hx=>hx ▸ hsC,F₆.off (fp:=[C]) (fun b hb=>zM.mp hb ▸ hCo) tk hk,S₇,.next,fin acc σ' hJ.1 hJ.2⟩
end
end
section
open PySem PySem.W PySem.Calls PyProof.Rows PySem.SeqAt
section
variable {d:Nat} {sc:Scope} {ρ:Lc} {σ:Sto} {ι:List Addr}
theorem zZ6 {A:Around} {C:Addr} {cs:List Value} (hA:Room A (d+1)):Room (A.under (.builtin "type.__call__" ⟨.ref C::cs,[]⟩)) d:=by
 have h1:=hA.depth
 have h2:=hA.units
 have hw:(Code.builtin "type.__call__" ⟨.ref C::cs,[]⟩).weight<=3:=zL (by rfl)
 have hu:(Code.builtin "type.__call__" ⟨.ref C::cs,[]⟩).cUnits<=4:=zL (by rfl)
 refine ⟨?_,?_,hA.handled⟩
 ·show A.depth+(Code.builtin "type.__call__" ⟨.ref C::cs,[]⟩).weight+3 * d < 900
  exact zP4 hw h1
 ·show A.units+(Code.builtin "type.__call__" ⟨.ref C::cs,[]⟩).cUnits+60 * d+600 < cLine
  exact zQ6 (zB hu (by decide)) h2
theorem jG2 {C fI:Addr} {args:List V} {P:V->Sto->Prop} (B:Bs w h₀) (hm:makesIn (KK w) C=true) (hi:findIn (KK w) (.ref C) "__init__"=some (some (.ref fI))) (hf:typeIn (KK w) (.ref fI)=some (.type "function"))
  (h:Cd w h₀ d (.ref fI) (.ref (σ.length+1)::args) (σ++[.dct [],.inst C σ.length]) fun v σ'=>v=.none/\P (.ref (σ.length+1)) σ'):Cl w h₀ (d+1) (.ref C) args σ P:=by
 intro A s ι cs hA S r E
 obtain ⟨hh,g,dr,t,os⟩:=s
 have X:(KK w).In hh:=B.KIn S
 refine wpAny_call (make_core (makes_of X hm) (looks_findIn X hi) (fun self=>bind_fn X self hf) (.inl rfl) ?_)
 have S1:=Sim.alloc (h:=hh) (ob:={ cls:=.type "dict",data:=.dict #[] }) (o:=.dct []) S ⟨#[],0,zT _ rfl,.nil,by simp⟩
 have hz:(hh.push { cls:=.type "dict",data:=.dict #[] }).objs.size=hh.objs.size+1:=qA ..
 have hlen:(ι++[hh.objs.size])[σ.length]?=some hh.objs.size:=by rw [<-S.len];simp
 have S2:=Sim.alloc (ob:=instObj C hh.objs.size) (o:=.inst C σ.length) S1 ⟨hh.objs.size,by rw [zH (by simp [S.len])];exact hlen,zT _ rfl⟩
 rw [hz] at S2
 have eσ:σ++[O.dct []]++[O.inst C σ.length]=σ++[.dct [],.inst C σ.length]:=by simp
 rw [eσ] at S2
 have hk:∀ b o,hh.get? b=some o->((hh.push emptyDict).push (instObj C hh.objs.size)).get? b=some o:=fun b o e=>zF _ (zF _ e)
 have hb:hh.objs.size<=((hh.push emptyDict).push (instObj C hh.objs.size)).objs.size:=by rw [qA,qA];lia
 have st:Stp NoX ⟨hh,g,dr,t,os⟩ ⟨(hh.push emptyDict).push (instObj C hh.objs.size),g,dr,t,os⟩ ι (ι++[hh.objs.size]++[hh.objs.size+1]):=
  ⟨⟨[hh.objs.size,hh.objs.size+1],by simp,fun a ha=>by
   rcases jN.mp ha with rfl | ha
   ·exact zK _
   ·rw [zM.mp ha];exact yY _⟩,fun a o e oo1 oo2=>hk a o e,hb,rfl,rfl⟩
 have hx:(ι++[hh.objs.size]++[hh.objs.size+1])[σ.length+1]?=some (hh.objs.size+1):=by rw [<-S.len];simp
 refine codeAny_mono (h (A.under (.builtin "type.__call__" ⟨.ref C::cs,[]⟩)) ⟨(hh.push emptyDict).push (instObj C hh.objs.size),g,dr,t,os⟩ _ (.ref (hh.objs.size+1)::cs) E (zZ6 hA) S2 (.cons (.ref hx) (r.mono (fun a vs n e=>hk _ _ e) st.idx))) fun r s' q=>?_
 cases r with
 | error e=>exact q
 | ok f=>
  cases f with
  | ret c=>
   obtain ⟨ι',v,σ',st',S',rv,rfl,p⟩:=q
   cases rv using VR.noneE
   exact ⟨rfl,ι',_,σ',st.trans st',S',.ref (st'.idx _ _ hx),p⟩
  | _=>exact q.elim
end
theorem zS1:fillsNumberSlot (.type "tuple") "mul"=pure false:=
 PySem.fillsNumberSlot_seq (id:="tuple.__mul__") (r:=some (.builtin "tuple.__rmul__")) F.slot_tuple_mul.lookup (by decide +kernel) F.slot_tuple_rmul.lookup (by decide +kernel)
theorem jD7:seqRepeat? (.type "tuple")=pure (some (.builtin "tuple.__mul__")):=by
 unfold seqRepeat?
 rw [PySem.seqSlot_of (T:="tuple") (name:="__mul__") (id:="tuple.__mul__") F.slot_tuple_mul.lookup (by decide +kernel),PySem.seqSlot_of (T:="tuple") (name:="__rmul__") (id:="tuple.__rmul__") F.slot_tuple_rmul.lookup (by decide +kernel)]
 rfl
theorem zX9 (a:Int) (t:Tok) (l:Addr) (items:Array Value) (n:Nat) :
  Meets (Builtin.«int.__rmul__» ⟨[.int a t,.ref l],[]⟩) (fun oo1 R s=>s.heap.get? l=some { cls:=.type "tuple",dict:=none,data:=.seq items n,slots:=#[] }/\R (.ok (.ret Value.notImplemented)) s):=
 .of_wp fun prog w A R s h=>by obtain ⟨hp,g,d,tk,os⟩:=s;obtain ⟨hl,h⟩:=h;wp_walk;exact ⟨_,rfl,h⟩
theorem zV9 (c:Value):∀ (n:Nat) (acc:Array Value),((List.replicate n #[c]).foldl (·++·) acc).toList=acc.toList++List.replicate n c
 | 0,acc=>by simp
 | n+1,acc=>by
  rw [vI,vQ,zV9 c n,vI]
  simp
section
variable {d:Nat} {sc:Scope} {ρ:Lc} {σ:Sto} {ι:List Addr}
theorem bn_rep {v:V} {n:Nat} {P:V->Sto->Prop} (h2:2<=n) (hn:n<=1000) (h:P (.tup (List.replicate n v)) σ):Bn w h₀ d .Mult (.tup [v]) (.int (n:Int)) σ P:=fun A s ι ca cb hA S ra rb E=>by
 cases rb using VR.intE
 rename_i u
 cases ra using VR.tupE with
 | @tup t vs k ht hv=>
  obtain ⟨c,hvs,rc⟩:∃ c,vs=#[c]/\VR s.heap ι v c:=by
   obtain ⟨l⟩:=vs
   have hv':VRs s.heap ι [v] l:=hv
   clear hv ht
   cases hv' using VRs.consE with
   | cons r hv=>cases hv using VRs.nilE;exact ⟨_,rfl,r⟩
  subst hvs
  have hT:s.TypeIs (.ref t) "tuple":=⟨_,ht,rfl⟩
  refine wpAny_binaryOp_repeat_ref (T:="tuple") (U:="int") (by decide) hT (fun s'=>typeIs_int s' n u) zS1 fills_int_mul F.slot_int_rmul jD7 int_index ?_
  refine call_meets F.slot_int_rmul (typeIs_int s n u) F.entry_int_rmul (F.args_int_rmul_2 _ _) (zX9 n u t #[c] k) ⟨ht,rfl,hT,?_⟩
  refine wpAny_call_entry F.slot_tuple_mul hT F.entry_tuple_mul ?_ (F.args_tuple_mul_2 _ _)
  show wpAny _ _ (asIndex (.int n u) >>= _) _ _ s
  refine wpAny_bind (wpAny_of_eq (a:=(n:Int)) rfl ?_)
  show wpAny _ _ (if (decide ((n:Int) < -(2 ^ 63)) || decide ((n:Int) ≥ 2 ^ 63))=true then _ else _) _ _ s
  rw [if_neg (by
   simp only [Bool.or_eq_true,decide_eq_true_eq,not_or]
   constructor <;> lia)]
  show wpAny _ _ (wN (.ref t) >>= _) _ _ s
  refine wpAny_bind (wpAny_tupleItemsOf ht rfl ?_)
  show wpAny _ _ (if (false || (n:Int) == 1)=true then _ else _) _ _ s
  rw [if_neg (by simp;lia)]
  show wpAny _ _ (if (decide ((n:Int)<=0) || false)=true then _ else _) _ _ s
  rw [if_neg (by simp;lia)]
  show wpAny _ _ (if (1:Int) * (n:Int) > (2 ^ 63 - 1) / 8 then _ else _) _ _ s
  rw [if_neg (by lia)]
  show wpAny _ _ (if Builtin.Tuple.tupleTooMany ((1:Int) * (n:Int))=true then _ else _) _ _ s
  rw [if_neg (by unfold Builtin.Tuple.tupleTooMany;rw [sizeLine_eq];simp;lia)]
  have e:((List.replicate ((n:Int)).toNat #[c]).foldl (·++·) #[])=(List.replicate n c).toArray:=by
   apply Array.toList_inj.mp
   rw [zV9];simp
  rw [e]
  refine wpAny_bind (m:=xC _) (wpAny_newObj_type (wpAny_pure ⟨_,rfl,Do.tup S (VRs.replicate rc n) h⟩) (by
   show (List.replicate n c).toArray.size<=sizeLine
   rw [qT,vA,sizeLine_eq];lia))
theorem gt_str {x:Str} {c:Nat} {P:V->Sto->Prop} (hx:x.cps[0]?=some c) (h:P (.str ⟨#[c]⟩) σ):Gt w h₀ d (.str x) (.int 0) σ P:=fun A s ι ca cb hA S ra rb=>by
 cases ra using VR.strE;cases rb using VR.intE
 refine ⟨_,_,typeIs_str _ _ _,F.slot_str_getitem.lookup,fun E=>PySem.P.getItem_str (c:=c) (by decide) ?_ (Do.tok S (.str _ _) h)⟩
 have hl:0 < x.cps.size:=by
  rcases xK x.cps.size with q | q
  ·rw [yT (by lia)] at hx;cases hx
  ·exact q
 have:seqIndex? 0 x.length=some 0:=by
  unfold seqIndex?
  have:(0:Int) < (x.length:Int):=by show (0:Int) < (x.cps.size:Int);lia
  simp;lia
 rw [this]
 exact hx
theorem jS5 {x y:Str} {P:V->Sto->Prop} (h:P (.bool (!(Builtin.Str.occurrences x y 0 x.length 1).isEmpty)) σ):Cm w h₀ d .In (.str y) (.str x) σ P:=fun oo1 oo2 oo3 oo4 oo5 oo6 S ra rb oo7=>by
 cases ra using VR.strE;cases rb using VR.strE;exact PySem.P.in_str (Do.same S (.bool _) h)
theorem iter_str {tg:Expr} {x:Str} (ha:x.cps.all (· < 128)=true):Iter w h₀ d tg (.str x) (x.cps.toList.map fun c=>.str ⟨#[c]⟩) (fun oo1=>True) σ:=by
 intro A s ι c Q E hA S r hQ
 cases r using VR.strE with
 | str t=>
  refine wpAny_pyIter_ascii ha ?_
  refine hQ s.heap.objs.size [s.heap.objs.size] (fun i h oo1=>h.IsStrIter s.heap.objs.size "str_ascii_iterator" x t i) _ s.toks (fun oo1 oo2 e=>zF _ e) (by rw [qA];lia)
   (fun b hb=>?_) ⟨_,zT _ rfl,rfl,rfl⟩ fun A' hA'=>⟨?_,?_,?_,?_⟩
  ·rw [zM.mp hb]
   exact ⟨zK _,_,zT _ rfl,fun oo1 oo2 q=>by cases q⟩
  ·rintro i h h' ι ι' ⟨o,e,h1⟩ hk tk hi
   exact ⟨o,hk _ (by simp) o e,h1⟩
  ·rintro i v s' ι' σ' Q' E1 E2 hv' hit S' - hQ'
   rw [zS] at hv'
   cases hc:x.cps.toList[i]? with
   | none=>rw [hc] at hv';cases hv'
   | some c=>
    rw [hc] at hv'
    have hv':V.str ⟨#[c]⟩=v:=Option.some.inj hv'
    subst hv'
    refine wpAny_pyNext_ascii_item hit (c:=c) (by rw [<-zW];exact hc) fun h' hit' hs'=>?_
    obtain ⟨o,e,h1,h2⟩:=id hit'
    refine zP9 (s:={ s' with heap:=h',toks:=s'.toks+1 }) e h1 (by decide) (hQ' _ h' (s'.toks+1) (fun oo1=>.str _ _) (fun oo1=>hit') (fun b o hb e=>(hs'.2 b fun q=>hb (by simp [q])).trans e) (jU hs'.1.symm) fun b hb=>?_)
    rw [zM.mp hb]
    exact ⟨o,e,fun oo1 oo2 q=>by rw [h2] at q;cases q⟩
  ·rintro s' ι' σ' Q' E1 hit S' - hQ'
   rw [zD,zG] at hit
   exact zB7 (wpAny_pyNext_ascii_end hA' hit (by simp) fun h' he' hz=>hQ' h' s'.toks (fun b o hb e=>he' b o (fun q=>hb (by simp [q])) e) hz)
  ·rintro i s' ι' Q' E1 hit hq
   exact wpAny_pyIter_striter_ascii hit hq
theorem ev_dict2 {e1 e2:Expr} {k1 k2:Str} {p1 p2 pos:Pos} {n1 n2:Nat} {P:V->Sto->Prop} (hne:k1≠k2)
  (h:Ev w h₀ d sc e1 ρ σ fun v1 σ₁=>Ev w h₀ d sc e2 ρ σ₁ fun v2 σ₂=>P (.ref σ₂.length) (σ₂++[.dct (vmap .str [(k1,v1),(k2,v2)])])) :
  Ev w h₀ d sc (.Dict [some (.Constant (.str k1) n1 p1),some (.Constant (.str k2) n2 p2)] [e1,e2] pos) ρ σ P:=fun A env s ι hA hs F S E=>by
 refine wpAny_Dict_pairs (knd:=PySem.strKind PG w) (pairs:=[(eval (.Constant (.str k1) n1 p1) env,do let x <-eval e1 env;standAt pos;pure x),(eval (.Constant (.str k2) n2 p2) env,do let x <-eval e2 env;standAt pos;pure x)]) rfl (by simp) (by simp) ?_
 have st0:Stp NoX s { s with heap:=s.heap.push { cls:=.type "dict",data:=.dict #[] } } ι ι:=.push ..
 have S0:=S.push { cls:=.type "dict",data:=.dict #[] }
 refine evalPairs_cons (wpAny_Constant_str ?_)
 have st1:Stp NoX s { s with heap:=s.heap.push { cls:=.type "dict",data:=.dict #[] },toks:=s.toks+1 } ι ι:=Stp.pushT ..
 refine wpAny_bind ((h A env { s with heap:=s.heap.push { cls:=.type "dict",data:=.dict #[] },toks:=s.toks+1 } ι hA hs (F.stp st1 S) S0).seq fun c1 s₁ ι₁ v1 σ₁ st₁ S₁ r1 p1'=>wpAny_bind (wpAny_standAt (wpAny_pure ?_)))
 refine evalPairs_cons (wpAny_Constant_str ?_)
 have st2:Stp NoX s₁ { s₁ with toks:=s₁.toks+1 } ι₁ ι₁:=.more (fun oo1 oo2 e=>e) (zK _) rfl rfl
 have F₁:=(F.stp st1 S).stp st₁ S0
 refine wpAny_bind ((p1' A env { s₁ with toks:=s₁.toks+1 } ι₁ hA hs F₁ S₁).seq fun c2 s₂ ι₂ v2 σ₂ st₂ S₂ r2 p2'=>wpAny_bind (wpAny_standAt (wpAny_pure ?_)))
 refine evalPairs_nil ?_
 have hD0:(s.heap.push { cls:=.type "dict",data:=.dict #[] }).get? s.heap.objs.size=some { cls:=.type "dict",data:=.dict #[] }:=zT _ rfl
 have hni:s.heap.objs.size ∉ ι:=fun m=>absurd (S.lt m) (yM _)
 have notin:∀ {s s':Shared} {ι ι':List Addr} {b:Addr},Stp NoX s s' ι ι'->b ∉ ι->b < s.heap.objs.size->b ∉ ι':=fun {s s' ι ι' b} st h1 h2 m=>by
  obtain ⟨t,rfl,ht⟩:=st.ext
  exact (jF.mp m).elim h1 fun m=>absurd h2 (jK (ht b m))
 have hl0:s.heap.objs.size < (s.heap.push { cls:=.type "dict",data:=.dict #[] }).objs.size:=jC hD0
 have hn1:=notin st₁ hni hl0
 have hD1:=st₁.keep _ _ hD0 hni id
 have hn2:=notin st₂ hn1 (jC hD1)
 have hD2:=st₂.keep _ _ hD1 hn1 id
 refine ⟨[(k1,c1),(k2,c2)],⟨by simp [PySem.strKind,Value.isStrOf],rfl,by simp [PySem.strKind,Value.isStrOf],rfl,trivial⟩,⟨_,#[],0,hD2,⟨rfl,rfl,rfl⟩,rfl,fun oo1 he=>by simp at he,Pairs.nil,wO⟩,fun h' D' hs'=>?_⟩
 have S':=S₂.off (fp:=[s.heap.objs.size]) (h':=h') (fun b hb=>by
  rw [zM.mp hb]
  exact ⟨hn2,S.big,fun vs n e=>by have z:=congrArg (Option.map Obj.cls) (hD2.symm.trans e);simp at z⟩) (fun b o hb e=>(hs'.2 b fun q=>hb (by simp [q])).trans e) (jU hs'.1.symm)
 have hm:merged [] [(k1,c1),(k2,c2)]=[(k1,c1),(k2,c2)]:=by
  unfold merged stored
  simp [hne]
 rw [hm] at D'
 have vv:VV h' (ι₂++[s.heap.objs.size]) [(k1,v1),(k2,v2)] [(k1,c1),(k2,c2)]:=.cons (((r1.stp st2 S₁).stp st₂ S₁).mono S'.2 zE3) (.cons (r2.mono S'.2 zE3) .nil)
 have stA:Stp NoX s s₂ ι ι₂:=(st1.trans st₁).trans (st2.trans st₂)
 refine ⟨ι₂++[s.heap.objs.size],.ref σ₂.length,_,?_,S'.1.adopt (o:=.dct (vmap .str [(k1,v1),(k2,v2)])) hn2 S.big (zN7 (zR0 w) D' vv),.ref (by rw [<-S₂.len];simp),p2'⟩
 obtain ⟨t,ht,ht'⟩:=stA.ext
 refine ⟨⟨t++[s.heap.objs.size],by rw [ht];simp,fun a ha=>?_⟩,fun a o e hi hx=>(hs'.2 a fun q=>?_).trans (stA.keep a o e hi hx),by rw [show h'.objs.size=s₂.heap.objs.size from hs'.1];exact stA.grow,stA.gens,stA.os⟩
 ·rcases jF.mp ha with q | q
  ·exact ht' a q
  ·rw [zM.mp q];exact zK _
 ·subst q;exact absurd (jC e) (yM _)
end
noncomputable def plc (m:Nat):Array Nat:=((List.range 8).filter fun j=>m.testBit j).toArray
noncomputable def cnt (m:Nat):Nat:=(plc m).size
noncomputable def setB (m j:Nat):Nat:=m ||| (1 <<< j)
theorem jF6:∀ m:Fin 256,∀ j:Fin 8,m.1.testBit j.1=false->qQ (plc m.1) (SetTable.below (plc m.1) j.1) j.1=plc (setB m.1 j.1)/\SetTable.below (plc m.1) j.1<=cnt m.1/\cnt (setB m.1 j.1)=cnt m.1+1/\setB m.1 j.1 < 256:=by decide +kernel
theorem jI2:∀ m:Fin 256,∀ j:Fin 8,((plc m.1)[SetTable.below (plc m.1) j.1]? == some j.1)=m.1.testBit j.1:=by decide +kernel
theorem jC6:∀ m:Fin 256,SetTable.below (plc m.1) 0=0:=by decide +kernel
theorem jI0:∀ m:Fin 256,∀ i:Fin 8,i.1 < cnt m.1->SetTable.below (plc m.1) ((plc m.1).getD i.1 0+1)=i.1+1:=by decide +kernel
noncomputable def it5:Nat->Nat->Nat
 | 0,i=>i
 | k+1,i=>it5 k ((i * 5+1) % 8)
theorem plc_free:∀ m:Fin 256,cnt m.1<=7->∀ i:Fin 8,∃ k:Fin 8,m.1.testBit (it5 k.1 i.1)=false:=by decide +kernel
structure TOk (t:SetTable) (m:Nat):Prop where
 mask:t.mask=7
 place:t.place=plc m
 dum:t.dummies=#[]
 lt:m < 256
 few:cnt m<=4
theorem jN3 (j:Nat):SetTable.has #[] j=false:=by unfold SetTable.has;simp
theorem TOk.slot {t:SetTable} {m j:Nat} (T:TOk t m) (hj:j < 8):t.slot j=if m.testBit j then .live (SetTable.below (plc m) j) else .empty:=by
 unfold SetTable.slot
 have:=jI2 ⟨m,T.lt⟩ ⟨j,hj⟩
 dsimp only at this
 rw [T.place,T.dum,jN3]
 dsimp only
 rw [this]
 rfl
structure Good (p:SetTable.Probe):Prop where
 more:p.more=0
 j:p.j=p.i
 dum:p.dummy=none
 lt:p.i < 8
theorem jO7 (i:Nat):SetTable.runEnd 7 i=i:=by unfold SetTable.runEnd;rw [if_neg (by lia)]
theorem TOk.adv {t:SetTable} {m:Nat} {p:SetTable.Probe} (T:TOk t m) (g:Good p):t.advance p={ p with j:=(p.i * 5+1+p.perturb / 32) % 8,more:=0,i:=(p.i * 5+1+p.perturb / 32) % 8,perturb:=p.perturb / 32 }:=by
 unfold SetTable.advance SetTable.leap
 rw [if_neg (by rw [g.more];lia),T.mask]
 simp only [jO7,yD]
theorem TOk.advGood {t:SetTable} {m:Nat} {p:SetTable.Probe} (T:TOk t m) (g:Good p):Good (t.advance p):=by
 rw [T.adv g]
 exact ⟨rfl,rfl,g.dum,Nat.mod_lt _ (by lia)⟩
noncomputable def advN (t:SetTable):Nat->SetTable.Probe->SetTable.Probe
 | 0,p=>p
 | n+1,p=>advN t n (t.advance p)
theorem TOk.zero {t:SetTable} {m:Nat} (T:TOk t m):∀ (n:Nat) {p:SetTable.Probe},Good p->p.perturb=0->(advN t n p).j=it5 n p.i
 | 0,p,g,_=>g.j
 | n+1,p,g,h=>by
  rw [advN,it5,T.zero n (T.advGood g) (by rw [T.adv g];simp [h]),T.adv g,h]
theorem TOk.free {t:SetTable} {m:Nat} (T:TOk t m):∀ (k:Nat) {p:SetTable.Probe},Good p->p.perturb < 32 ^ k->∃ n,n<=k+7/\m.testBit (advN t n p).j=false
 | 0,p,g,h=>by
  obtain ⟨k,hk⟩:=plc_free ⟨m,T.lt⟩ (by have:=T.few;show cnt m<=7;lia) ⟨p.i,g.lt⟩
  refine ⟨k.1,by lia,?_⟩
  rw [T.zero k.1 g (by simpa using h)]
  exact hk
 | k+1,p,g,h=>by
  obtain ⟨n,hn,hb⟩:=T.free k (T.advGood g) (by
   rw [T.adv g]
   show p.perturb / 32 < 32 ^ k
   rw [Nat.pow_succ] at h
   lia)
  exact ⟨n+1,by lia,hb⟩
theorem TOk.go {t:SetTable} {m:Nat} (T:TOk t m) (hashAt:Nat->Int) (h:Int):∀ (n fuel:Nat) {p:SetTable.Probe},n < fuel->Good p->m.testBit (advN t n p).j=false->
  (∃ j,j < 8/\m.testBit j=false/\SetTable.probe.go t hashAt h fuel p=some (.empty j none))∨
  (∃ j q n',j < 8/\m.testBit j=true/\n' < n/\Good q/\m.testBit (advN t n' q).j=false/\SetTable.probe.go t hashAt h fuel p=some (.candidate j (SetTable.below (plc m) j) q)/\hashAt (SetTable.below (plc m) j)=h):=by
 intro n fuel
 induction fuel generalizing n with
 | zero=>intro p hf;exact absurd hf (wI _)
 | succ fuel ih=>
  intro p hf g hb
  have hj:p.j < 8:=by rw [g.j];exact g.lt
  unfold SetTable.probe.go
  rw [T.slot hj]
  cases hq:m.testBit p.j with
  | false=>
   rw [if_neg (by simp)]
   exact .inl ⟨p.j,hj,hq,by rw [g.dum]⟩
  | true=>
   rw [if_pos rfl]
   dsimp only
   cases n with
   | zero=>rw [show advN t 0 p=p from rfl,hq] at hb;cases hb
   | succ n=>
    by_cases he:(hashAt (SetTable.below (plc m) p.j) == h)=true
    ·rw [if_pos he]
     exact .inr ⟨p.j,_,n,hj,hq,yH _,T.advGood g,hb,rfl,eq_of_beq he⟩
    ·rw [if_neg he]
     rcases ih n (p:=t.advance p) (by lia) (T.advGood g) hb with ⟨j,a,b,c⟩ | ⟨j,q,n',a,b,c,r⟩
     ·exact .inl ⟨j,a,b,c⟩
     ·exact .inr ⟨j,q,n',a,b,by lia,r⟩
theorem TOk.start {t:SetTable} {m:Nat} (T:TOk t m) (h:Int):Good (t.probeStart h)/\∃ n,n<=20/\m.testBit (advN t n (t.probeStart h)).j=false:=by
 have g:Good (t.probeStart h):=by
  unfold SetTable.probeStart
  rw [T.mask]
  exact ⟨by show SetTable.runEnd 7 _ - _=0;rw [jO7];lia,rfl,rfl,Nat.mod_lt _ (by lia)⟩
 refine ⟨g,?_⟩
 have hp:(t.probeStart h).perturb < 32 ^ 13:=by
  show SetTable.bits h < _
  unfold SetTable.bits
  have:(h % (2 ^ 64:Int)) < 2 ^ 64:=Int.emod_lt_of_pos _ (by decide)
  have h0:0<=(h % (2 ^ 64:Int)):=Int.emod_nonneg _ (by decide)
  lia
 obtain ⟨n,hn,hb⟩:=T.free 13 g hp
 exact ⟨n,by lia,hb⟩
theorem TOk.freeSlot {t:SetTable} {m:Nat} (T:TOk t m) (h:Int):∃ j,j < 8/\m.testBit j=false/\t.freeSlot h=some (j,false):=by
 obtain ⟨g,n,hn,hb⟩:=T.start h
 have hf:10 * SetTable.turns t.mask=220:=by rw [T.mask];rfl
 rcases T.go (fun oo1=>h+1) h n 220 (by lia) g hb with ⟨j,a,b,c⟩ | ⟨j,q,n',_,_,_,_,_,_,e⟩
 ·refine ⟨j,a,b,?_⟩
  unfold SetTable.freeSlot SetTable.probe
  rw [hf,c]
  rfl
 ·exfalso
  have:h+1=h:=e
  lia
theorem TOk.put {t:SetTable} {m j:Nat} (T:TOk t m) (hj:j < 8) (hb:m.testBit j=false) (hc:cnt m<=3):TOk (t.put j).1 (setB m j)/\(t.put j).2=SetTable.below (plc m) j/\(t.put j).2<=cnt m/\(t.put j).1.led=t.led/\(t.put j).1.plain=t.plain/\(t.put j).1.moves=t.moves:=by
 obtain ⟨h1,h2,h3,h4⟩:=jF6 ⟨m,T.lt⟩ ⟨j,hj⟩ hb
 dsimp only at h1 h2 h3 h4
 unfold SetTable.put
 rw [T.place,T.dum]
 rw [jN3]
 exact ⟨⟨T.mask,h1,rfl,h4,by lia⟩,rfl,h2,rfl,rfl,rfl⟩
theorem TOk.fits {t:SetTable} {m:Nat} (T:TOk t m):t.fits (cnt m)=true:=by
 unfold SetTable.fits SetTable.fill
 rw [T.place,T.dum,T.mask]
 have:=T.few
 unfold cnt at *
 simp;lia
theorem TOk.full {t:SetTable} {m:Nat} (T:TOk t m):t.tooFull=false:=by
 unfold SetTable.tooFull SetTable.fill
 rw [T.place,T.dum,T.mask]
 have:=T.few
 unfold cnt at *
 simp;lia
inductive SE (w:World) (h:Heap) (ι:List Addr):List V->List (Int×Value)->Prop
 | nil:SE w h ι [] []
 | cons {v c l cs}:VR h ι v c->SE w h ι l cs->SE w h ι (v::l) ((zD5 w v,c)::cs)
section
variable {h:Heap} {ι:List Addr}
theorem SE.mono {h':Heap} {ι':List Addr} (tk:gQ h h') (hi:∀ (n:Nat) (a:Addr),ι[n]?=some a->ι'[n]?=some a) {l:List V} {cs:List (Int×Value)} (r:SE w h ι l cs):SE w h' ι' l cs:=by
 induction r with
 | nil=>exact .nil
 | cons a _ ih=>exact .cons (a.mono tk hi) ih
theorem SE.vals {l:List V} {cs:List (Int×Value)} (r:SE w h ι l cs):VRs h ι l (cs.map (·.2)):=by
 induction r with
 | nil=>exact .nil
 | cons a _ ih=>exact .cons a ih
theorem SE.length {l:List V} {cs:List (Int×Value)} (r:SE w h ι l cs):l.length=cs.length:=by
 induction r with
 | nil=>rfl
 | cons _ _ ih=>exact congrArg (·+1) ih
theorem SE.append {l l':List V} {cs cs':List (Int×Value)} (r:SE w h ι l cs) (q:SE w h ι l' cs'):SE w h ι (l++l') (cs++cs'):=by
 induction r with
 | nil=>exact q
 | cons a _ ih=>exact .cons a ih
theorem SE.take {l:List V} {cs:List (Int×Value)} (n:Nat) (r:SE w h ι l cs):SE w h ι (l.take n) (cs.take n):=by
 induction r generalizing n with
 | nil=>rw [List.take_nil,List.take_nil];exact .nil
 | cons a _ ih=>
  cases n with
  | zero=>exact .nil
  | succ n=>exact .cons a (ih n)
theorem SE.drop {l:List V} {cs:List (Int×Value)} (n:Nat) (r:SE w h ι l cs):SE w h ι (l.drop n) (cs.drop n):=by
 induction r generalizing n with
 | nil=>rw [List.drop_nil,List.drop_nil];exact .nil
 | cons a b ih=>
  cases n with
  | zero=>exact .cons a b
  | succ n=>exact ih n
theorem SE.get {l:List V} {cs:List (Int×Value)} (r:SE w h ι l cs):∀ {i:Nat} {e:Int×Value},cs[i]?=some e->∃ v,l[i]?=some v/\VR h ι v e.2/\e.1=zD5 w v:=by
 induction r with
 | nil=>intro i e q;cases q
 | @cons v _ _ _ a _ ih=>
  intro i e q
  cases i with
  | zero=>exact Option.some.inj q ▸ ⟨v,rfl,a,rfl⟩
  | succ i=>exact ih q
end
noncomputable def zS7 {α:Type} (l:List α) (p:Nat) (x:α):List α:=l.take p++x::l.drop p
theorem zO4 {α:Type} (l:List α) (p:Nat) (x:α):(zS7 l p x).Perm (x::l):=by
 unfold zS7
 have:=List.perm_middle (a:=x) (l₁:=l.take p) (l₂:=l.drop p)
 rwa [List.take_append_drop] at this
theorem zN3 {α:Type} (xs:Array α) (p:Nat) (x:α):(qQ xs p x).toList=zS7 xs.toList p x:=by
 unfold qQ zS7
 rw [kO,yS,Array.toList_extract,Array.toList_extract]
 rw [List.extract_eq_drop_take,List.extract_eq_drop_take,List.drop_zero,Nat.sub_zero]
 have:(xs.toList.drop p).length=xs.size - p:=by rw [List.length_drop,zG]
 rw [zR (l:=xs.toList.drop p) (by lia)]
 simp
theorem zN5 {α:Type} (xs:Array α) (p:Nat) (x:α):(qQ xs p x).size=xs.size+1:=by
 rw [<-zG,zN3,(zO4 _ _ _).length_eq];simp
noncomputable def zD4 (w:World) (h:Heap) (ι:List Addr) (a:Addr) (l:List V):Prop:=
 ∃ es ep t m,h.get? a=some { cls:=.type "set",data:=.set es ep t }/\TOk t m/\es.size=cnt m/\t.led=!w.params.followText "set-order"/\SE w h ι l es.toList
section
variable {d:Nat} {sc:Scope} {ρ:Lc} {σ:Sto} {ι:List Addr}
theorem zD4.len {h:Heap} {a:Addr} {l:List V} (S:zD4 w h ι a l):l.length<=4:=by
 obtain ⟨es,ep,t,m,_,T,hz,_,se⟩:=S
 rw [se.length,zG,hz];exact T.few
theorem setTup {h h':Heap} {a:Addr} {l:List V} (S:zD4 w h ι a l) (hs:Heap.SameBut a h h'):gQ h h':=fun b vs n e=>(hs.2 b fun q=>by
 obtain ⟨es,ep,t,m,e',_⟩:=S
 subst q
 have z:=congrArg (Option.map Obj.cls) (e'.symm.trans e)
 simp at z).trans e
theorem jD4 {A:Around} {s:Shared} {a:Addr} {l:List V} {v:V} {c:Value} {es:Array (Int×Value)} {ep m j:Nat} {t t':SetTable} {Q:Unit->Shared->Prop} {E:Value->Shared->Prop} (he:s.heap.get? a=some { cls:=.type "set",data:=.set es ep t }) (T:TOk t m) (hz:es.size=cnt m) (hled:t.led=!w.params.followText "set-order") (se:SE w s.heap ι l es.toList)
  (rv:VR s.heap ι v c) (hj:j < 8) (hb:m.testBit j=false) (hc:l.length<=3) (ht':t'=(t.put j).1∨t'={ (t.put j).1 with plain:=false })
  (h:∀ h',Heap.SameBut a s.heap h'->zD4 w h' ι a (zS7 l (t.put j).2 v)->Q () { s with heap:=h' }):wpAny (model PG w) A (storeSet a (qQ es (t.put j).2 (zD5 w v,c)) t') Q E s:=by
 have hcm:cnt m<=3:=by rw [<-hz,<-zG,<-se.length];exact hc
 obtain ⟨T',_,_,l1,l2,l3⟩:=T.put hj hb hcm
 have hsz:(qQ es (t.put j).2 (zD5 w v,c)).size=cnt (setB m j):=by
  rw [zN5,hz]
  exact (jF6 ⟨m,T.lt⟩ ⟨j,hj⟩ hb).2.2.1.symm
 refine wpAny_storeSet_of he rfl ?_ (by rw [hsz,sizeLine_eq];have:=T'.few;lia)
 have hs:Heap.SameBut a s.heap (s.heap.update a (Obj.putSet (qQ es (t.put j).2 (zD5 w v,c)) t')):=Heap.SameBut.update ..
 have tk:gQ s.heap (s.heap.update a (Obj.putSet (qQ es (t.put j).2 (zD5 w v,c)) t')):=setTup (l:=l) ⟨es,ep,t,m,he,T,hz,hled,se⟩ hs
 refine h _ hs ⟨_,ep+1,t',setB m j,?_,?_,hsz,?_,?_⟩
 ·rw [wK _ he (by rfl)];rfl
 ·rcases ht' with rfl | rfl
  ·exact T'
  ·exact ⟨T'.mask,T'.place,T'.dum,T'.lt,T'.few⟩
 ·rcases ht' with rfl | rfl
  ·rw [l1];exact hled
  ·show (t.put j).1.led=_;rw [l1];exact hled
 ·rw [zN3]
  exact ((se.take _).append (.cons rv (se.drop _))).mono tk fun oo1 oo2 e=>e
theorem zM4 {es:Array (Int×Value)} {t:SetTable} {m:Nat} (T:TOk t m) (hz:es.size=cnt m):t.fits es.size=true:=by rw [hz];exact T.fits
end
namespace kB0
def S (ι:List Addr) (A:Around) (s:Shared) (a:Addr) (l:List Int) (i:Int) (Q:Bool->Shared->Prop) (E:Value->Shared->Prop):Prop:=∀ {c:Value} (S:zD4 w s.heap ι a (l.map .int)) (hn:l.length<=3∨i∈l) (r:VR s.heap ι (.int i) c) (h:∀ b h' tk (l':List Int),Heap.SameBut a s.heap h'->zD4 w h' ι a (l'.map .int)->l'.Perm (if i∈l then l else i::l)->Q b { s with heap:=h',toks:=tk }),wpAny (model PG w) A (setAdd a c) Q E s
noncomputable def ι:List Addr:=pick fun z=>∀ A s a l i Q E,S z A s a l i Q E
noncomputable def A:Around:=@pick Around nAr fun z=>∀ s a l i Q E,S ι z s a l i Q E
noncomputable def s:Shared:=@pick Shared nSh fun z=>∀ a l i Q E,S ι A z a l i Q E
noncomputable def a:Addr:=pick fun z=>∀ l i Q E,S ι A s z l i Q E
noncomputable def l:List Int:=pick fun z=>∀ i Q E,S ι A s a z i Q E
noncomputable def i:Int:=pick fun z=>∀ Q E,S ι A s a l z Q E
noncomputable def Q:Bool->Shared->Prop:=pick fun z=>∀ E,S ι A s a l i z E
noncomputable def E:Value->Shared->Prop:=pick fun z=>S ι A s a l i Q z
theorem core:S ι A s a l i Q E:=by
 intro c S hn r h
 cases r using VR.intE
 rename_i tk
 have S0:=S
 obtain ⟨es,ep,t,m,he,T,hz,hled,se⟩:=S
 unfold setAdd
 refine wpAny_holding (wpAny_bind (wpAny_pyHash_int ?_))
 unfold setAddHashed setAddHashedIn
 refine wpAny_holding (wpAny_bind (wpAny_setState_of (s:={ s with toks:=s.toks+1 }) he rfl (zM4 T hz) ?_))
 dsimp only
 have hel:ElemsOf (intKind PG w) es.toList:=fun e hm=>by
  obtain ⟨k,hk⟩:=yC.mp hm
  obtain ⟨v,hv,rv,hh⟩:=se.get hk
  rw [zS] at hv
  cases hl:l[k]? with
  | none=>rw [hl] at hv;cases hv
  | some x=>
   rw [hl] at hv
   have hv:V.int x=v:=Option.some.inj hv
   subst hv
   refine ⟨⟨x,(zK2 w).to _ _ _ _ rv,by rw [hh,zD5];rfl⟩,?_⟩
   have:∀ c',VR s.heap ι (.int x) c'->c'.scannable=true:=fun c' r=>by cases r using VR.intE;rfl
   exact this _ rv
 rw [byScan_of (knd:=intKind PG w) rfl (by rw [hz];have:=T.few;show cnt m < 4096;lia) hel]
 refine wpAny_ite_true rfl ?_
 refine wpAny_bind ?_
 refine wpAny_bind (wpAny_rule ?_)
 refine wpAny_bind (wpAny_setScan_of (knd:=intKind PG w) (k:=i) (s:={ s with toks:=s.toks+1 }) (by simp [intKind,Value.isInt]) he rfl (zM4 T hz) hel ?_)
 have hmem:(∃ j,es.toList.findIdx? (fun e=>(intKind PG w).is i e.2)=some j) ↔ i∈l:=by
  constructor
  ·rintro ⟨j,hj⟩
   obtain ⟨h1,h2,_⟩:=List.findIdx?_eq_some_iff_getElem.mp hj
   obtain ⟨v,hv,rv,_⟩:=se.get (zQ h1)
   rw [zS] at hv
   cases hl:l[j]? with
   | none=>rw [hl] at hv;cases hv
   | some x=>
    rw [hl] at hv
    have hv:V.int x=v:=Option.some.inj hv
    subst hv
    have h3:=(zK2 w).to _ _ _ _ rv
    have:x=i:=(intKind PG w).inj _ _ _ h3 h2
    subst this
    exact zI hl
  ·intro hi
   cases hq:es.toList.findIdx? (fun e=>(intKind PG w).is i e.2) with
   | some j=>exact ⟨j,rfl⟩
   | none=>
    exfalso
    obtain ⟨k,hk⟩:=yC.mp hi
    have hlk:k < es.toList.length:=by rw [<-se.length,zD];exact (zC.mp hk).1
    obtain ⟨v,hv,rv,_⟩:=se.get (zQ hlk)
    rw [zS,hk] at hv
    have hv:V.int i=v:=Option.some.inj hv
    subst hv
    have:=List.findIdx?_eq_none_iff.mp hq _ (List.getElem_mem hlk)
    rw [(zK2 w).to _ _ _ _ rv] at this
    cases this
 cases hq:es.toList.findIdx? (fun e=>(intKind PG w).is i e.2) with
 | some j=>
  have hi:=hmem.mp ⟨j,hq⟩
  refine wpAny_pure (wpAny_pure ?_)
  exact h _ s.heap (s.toks+1) l (Heap.SameBut.refl ..) S0 (by rw [if_pos hi])
 | none=>
  have hi:i ∉ l:=fun q=>by obtain ⟨j,hj⟩:=hmem.mpr q;rw [hq] at hj;cases hj
  have hl3:l.length<=3:=hn.resolve_right hi
  have hcm:cnt m<=3:=by rw [<-hz,<-zG,<-se.length,zD];exact hl3
  obtain ⟨j,hj,hb,hfree⟩:=T.freeSlot (hashInt i)
  obtain ⟨T',_,_,e1,e2,e3⟩:=T.put hj hb hcm
  have hlay:layNew t es (hashInt i) (.int i tk)=(qQ es (t.put j).2 (hashInt i,.int i tk),(t.put j).1,false,false):=by
   have hfit:(t.put j).1.fits (qQ es (t.put j).2 (hashInt i,Value.int i tk)).size=true:=by
    rw [zN5,hz,<-(jF6 ⟨m,T.lt⟩ ⟨j,hj⟩ hb).2.2.1]
    exact T'.fits
   unfold layNew
   rw [hfree]
   dsimp only
   unfold SetTable.orStandIn
   rw [hfit]
   rfl
  have hlay':layNew t es ((intKind PG w).hash i) (.int i tk)=(qQ es (t.put j).2 (hashInt i,.int i tk),(t.put j).1,false,false):=hlay
  rw [hlay]
  dsimp only
  have hv:hashInt i=zD5 w (.int i):=rfl
  rw [hv]
  have go:∀ {Q':Unit->Shared->Prop} {t':SetTable},(t'=(t.put j).1∨t'={ (t.put j).1 with plain:=false })->
    (∀ h' (l':List Int),Heap.SameBut a s.heap h'->zD4 w h' ι a (l'.map .int)->l'.Perm (i::l)->Q' () { s with heap:=h',toks:=s.toks+1 })->
    wpAny (model PG w) A (storeSet a (qQ es (t.put j).2 (zD5 w (.int i),.int i tk)) t') Q' E { s with toks:=s.toks+1 }:=fun ht' hQ'=>
   jD4 (s:={ s with toks:=s.toks+1 }) he T hz hled se (.int i tk) hj hb (by rw [zD];exact hl3) ht' fun h' hs' S'=>by
    have e:zS7 (l.map V.int) (t.put j).2 (.int i)=(zS7 l (t.put j).2 i).map .int:=by unfold zS7;simp
    rw [e] at S'
    exact hQ' h' _ hs' S' (zO4 _ _ _)
  have f1:(t.put j).1.tooFull=false:=T'.full
  have f2:({ (t.put j).1 with plain:=false }:SetTable).tooFull=false:=TOk.full (m:=setB m j) ⟨T'.mask,T'.place,T'.dum,T'.lt,T'.few⟩
  refine wpAny_bind (wpAny_pure ?_)
  split
  ·refine wpAny_bind ?_
   rw [hashByValue_scannable 8 rfl]
   refine wpAny_pure ?_
   cases plainKind (Value.int i tk)
   ·rw [if_neg qW]
    refine wpAny_bind (go (.inr rfl) fun h' l' hs' S' hp=>?_)
    rw [f2]
    refine wpAny_ite_false rfl ?_
    exact wpAny_pure (wpAny_pure (h _ h' _ l' hs' S' (by rw [if_neg hi];exact hp)))
   ·rw [if_pos rfl]
    refine wpAny_bind (go (.inl rfl) fun h' l' hs' S' hp=>?_)
    rw [f1]
    refine wpAny_ite_false rfl ?_
    exact wpAny_pure (wpAny_pure (h _ h' _ l' hs' S' (by rw [if_neg hi];exact hp)))
  ·refine wpAny_bind (wpAny_pure ?_)
   rw [if_pos rfl]
   refine wpAny_bind (go (.inl rfl) fun h' l' hs' S' hp=>?_)
   rw [f1]
   refine wpAny_ite_false rfl ?_
   exact wpAny_pure (wpAny_pure (h _ h' _ l' hs' S' (by rw [if_neg hi];exact hp)))
theorem all:∀ ι A s a l i Q E,S ι A s a l i Q E:=cst (p:=fun z=>∀ A s a l i Q E,S z A s a l i Q E) (@cst Around nAr (fun z=>∀ s a l i Q E,S ι z s a l i Q E) (@cst Shared nSh (fun z=>∀ a l i Q E,S ι A z a l i Q E) (cst (p:=fun z=>∀ l i Q E,S ι A s z l i Q E) (cst (p:=fun z=>∀ i Q E,S ι A s a z i Q E) (cst (p:=fun z=>∀ Q E,S ι A s a l z Q E) (cst (p:=fun z=>∀ E,S ι A s a l i z E) (cst (p:=fun z=>S ι A s a l i Q z) core)))))))
end kB0
section
variable {d:Nat} {sc:Scope} {ρ:Lc} {σ:Sto} {ι:List Addr}
theorem jL5 {ι A s a l i Q E}:kB0.S ι A s a l i Q E:=kB0.all ι A s a l i Q E
end
noncomputable def flat:V->Bool:=asT fun l=>l.all jP0
theorem zC7 {v:V} (h:flat v=true):zC3 v=true/\v.dep<=1:=by
 cases v with
 | tup l=>
  have:gR l=true/\deps l=0:=by
   induction l with
   | nil=>exact ⟨rfl,rfl⟩
   | cons x l ih=>
    have h:=zJ.mp h
    obtain ⟨a,b⟩:=ih h.2
    rw [zI1,zH1,a,b]
    cases x with
    | int | str=>exact ⟨rfl,rfl⟩
    | _=>exact nomatch h.1
  exact ⟨this.1,jU (congrArg kX this.2)⟩
 | _=>exact nomatch h
section
variable {d:Nat} {sc:Scope} {ρ:Lc} {σ:Sto} {ι:List Addr}
theorem zJ0 {h:Heap} {v:V} {c:Value} (hf:flat v=true) (r:VR h ι v c):∃ a vs n l,c=.ref a/\v=.tup l/\IsT h a vs n/\VRs h ι l vs.toList/\l.all jP0=true:=by
 cases r with
 | @tup a vs n l h1 h4=>exact ⟨a,vs,n,l,rfl,rfl,h1,h4,hf⟩
 | _=>exact nomatch hf
theorem atom {h:Heap} {v:V} {c:Value} (hf:jP0 v=true) (r:VR h ι v c):(∃ i t,c=.int i t)∨∃ x t,c=.str x t:=by
 cases r with
 | int i t=>exact .inl ⟨i,t,rfl⟩
 | str x t=>exact .inr ⟨x,t,rfl⟩
 | _=>exact nomatch hf
theorem zT8 {A:Around} {s:Shared} {v:V} {c:Value} {Q:Bool->Shared->Prop} {E:Value->Shared->Prop} (hf:flat v=true) (r:VR s.heap ι v c) (h:∀ b,Q b s):wpAny (model PG w) A (hashByValue 8 c) Q E s:=by
 obtain ⟨a,vs,n,l,rfl,rfl,h1,h4,hl⟩:=zJ0 hf r
 have hT:s.TypeIs (.ref a) "tuple":=⟨_,h1,rfl⟩
 refine wpAny_bind (wpAny_specialOf hT F.slot_tuple_hash.lookup ?_)
 refine wpAny_bind (wpAny_seqItems h1 rfl ?_)
 refine wpAny_bind ?_
 show wpAny _ _ (forIn vs _ _) _ _ s
 rw [<-vK]
 refine wpAny_forIn_list _ (fun rest r s'=>r.1=none/\s'=s/\∀ c∈rest,(∃ i t,c=.int i t)∨∃ x t,c=.str x t) _ ?_ ?_ _ _ ⟨rfl,rfl,fun c hc=>?_⟩
 ·rintro x rest r s' ⟨hr,rfl,hm⟩
  rcases hm x jA with ⟨i,t,rfl⟩ | ⟨y,t,rfl⟩
  ·refine wpAny_bind (wpAny_of_eq (a:=true) rfl ?_)
   refine wpAny_ite_false rfl ?_
   exact wpAny_pure ⟨rfl,rfl,fun c hc=>hm c (zY _ hc)⟩
  ·refine wpAny_bind (wpAny_of_eq (a:=false) rfl ?_)
   refine wpAny_ite_true rfl ?_
   exact wpAny_pure (wpAny_pure (h false))
 ·rintro ⟨r1,r2⟩ s' ⟨hr,rfl,_⟩
  simp only at hr
  subst hr
  exact wpAny_pure (h true)
 ·obtain ⟨i,hi⟩:=yC.mp hc
  obtain ⟨v,hv,rv⟩:=h4.getc hi
  exact atom (jQ.mp hl v (zI hv)) rv
theorem zP5 {A:Around} {s:Shared} {v:V} {c:Value} {Q:Bool->Shared->Prop} {E:Value->Shared->Prop} (hf:flat v=true) (r:VR s.heap ι v c) (h:Q false s):wpAny (model PG w) A (ofAClassStatement 8 c) Q E s:=by
 obtain ⟨a,vs,n,l,rfl,rfl,h1,h4,hl⟩:=zJ0 hf r
 have hT:s.TypeIs (.ref a) "tuple":=⟨_,h1,rfl⟩
 have e:ofAClassStatement 8 (.ref a)=(do
  let .type t <-typeOf (.ref a) | return true
  let u <-if t == "tuple" then pure true else isSubtype (.type t) (.type "tuple")
  if !u then return false
  let some l <-seqItems? (.ref a) | return true
  for y in l do
   if <-ofAClassStatement 7 y then return true
  return false):=by kernel_rfl
 rw [e]
 refine wpAny_bind (wpAny_typeOf hT ?_)
 refine wpAny_bind ?_
 refine wpAny_pure ?_
 refine wpAny_ite_false rfl ?_
 refine wpAny_bind (wpAny_seqItems h1 rfl ?_)
 refine wpAny_bind ?_
 show wpAny _ _ (forIn vs _ _) _ _ s
 rw [<-vK]
 refine wpAny_forIn_list _ (fun rest r s'=>r.1=none/\s'=s/\∀ c∈rest,(∃ i t,c=.int i t)∨∃ x t,c=.str x t) _ ?_ ?_ _ _ ⟨rfl,rfl,fun c hc=>?_⟩
 ·rintro x rest r s' ⟨hr,rfl,hm⟩
  have hx:ofAClassStatement 7 x=pure false:=by
   rcases hm x jA with ⟨i,t,rfl⟩ | ⟨y,t,rfl⟩ <;> rfl
  refine wpAny_bind (wpAny_of_eq hx ?_)
  refine wpAny_ite_false rfl ?_
  exact wpAny_pure ⟨rfl,rfl,fun c hc=>hm c (zY _ hc)⟩
 ·rintro ⟨r1,r2⟩ s' ⟨hr,rfl,_⟩
  simp only at hr
  subst hr
  exact wpAny_pure h
 ·obtain ⟨i,hi⟩:=yC.mp hc
  obtain ⟨v,hv,rv⟩:=h4.getc hi
  exact atom (jQ.mp hl v (zI hv)) rv
theorem notSeen {A:Around} {s:Shared} {v:V} {c:Value} {ys:List Value} {Q:Bool->Shared->Prop} {E:Value->Shared->Prop} (hf:flat v=true) (r:VR s.heap ι v c) (hy:∀ y∈ys,∃ u,flat u=true/\VR s.heap ι u y) (h:Q false s):wpAny (model PG w) A (searchCouldBeSeen c ys) Q E s:=by
 refine wpAny_bind ?_
 refine wpAny_forIn_list _ (fun rest r s'=>r.1=none/\s'=s/\∀ y∈rest,∃ u,flat u=true/\VR s.heap ι u y) _ ?_ ?_ _ _ ⟨rfl,rfl,hy⟩
 ·rintro y rest r' s' ⟨hr,rfl,hm⟩
  have nx:∀ z∈rest,∃ u,flat u=true/\VR s'.heap ι u z:=fun z hz=>hm z (zY _ hz)
  obtain ⟨u,hu,ru⟩:=hm y jA
  obtain ⟨ca,_,_,_,rfl,_⟩:=zJ0 hf r
  obtain ⟨cb,_,_,_,rfl,_⟩:=zJ0 hu ru
  dsimp only
  split
  ·exact wpAny_pure ⟨rfl,rfl,nx⟩
  ·refine wpAny_bind (zN6 8 _ _ ι v _ _ _ (by have:=(zC7 hf).2;lia) (zC7 hf).1 r ?_)
   refine wpAny_ite_false rfl ?_
   refine wpAny_bind (zN6 8 _ _ ι u _ _ _ (by have:=(zC7 hu).2;lia) (zC7 hu).1 ru ?_)
   refine wpAny_ite_false rfl ?_
   refine wpAny_bind (zP5 hf r ?_)
   refine wpAny_ite_false rfl ?_
   refine wpAny_bind (zP5 hu ru ?_)
   refine wpAny_ite_false rfl ?_
   exact wpAny_pure ⟨rfl,rfl,nx⟩
 ·rintro ⟨r1,r2⟩ s' ⟨hr,rfl,_⟩
  simp only at hr
  subst hr
  exact wpAny_pure h
end
namespace kA8
def S (ι:List Addr) (A:Around) (s:Shared) (a:Addr) (l:List V) (v:V) (c:Value) (es:Array (Int×Value)) (ep:Nat) (m:Nat) (t:SetTable) (Q:SetFound->Shared->Prop) (E:Value->Shared->Prop) (hash:Int):Prop:=∀ (hu:A.units+20 < cLine) (he:s.heap.get? a=some { cls:=.type "set",data:=.set es ep t }) (T:TOk t m) (hz:es.size=cnt m) (se:SE w s.heap ι l es.toList) (hf:flat v=true) (hl:∀ u∈l,flat u=true/\u≠v) (r:VR s.heap ι v c) (h:∀ j,j < 8->m.testBit j=false->Q (.free j false) s),∀ (n fuel:Nat) (stand:Option SetTable.Probe),n < fuel->Good (stand.getD (t.probeStart hash))->m.testBit (advN t n (stand.getD (t.probeStart hash))).j=false->n<=20->wpAny (model PG w) A (setSearchFrom a c hash true fuel stand) Q E s
noncomputable def ι:List Addr:=pick fun z=>∀ A s a l v c es ep m t Q E hash,S z A s a l v c es ep m t Q E hash
noncomputable def A:Around:=@pick Around nAr fun z=>∀ s a l v c es ep m t Q E hash,S ι z s a l v c es ep m t Q E hash
noncomputable def s:Shared:=@pick Shared nSh fun z=>∀ a l v c es ep m t Q E hash,S ι A z a l v c es ep m t Q E hash
noncomputable def a:Addr:=pick fun z=>∀ l v c es ep m t Q E hash,S ι A s z l v c es ep m t Q E hash
noncomputable def l:List V:=pick fun z=>∀ v c es ep m t Q E hash,S ι A s a z v c es ep m t Q E hash
noncomputable def v:V:=pick fun z=>∀ c es ep m t Q E hash,S ι A s a l z c es ep m t Q E hash
noncomputable def c:Value:=pick fun z=>∀ es ep m t Q E hash,S ι A s a l v z es ep m t Q E hash
noncomputable def es:Array (Int×Value):=pick fun z=>∀ ep m t Q E hash,S ι A s a l v c z ep m t Q E hash
noncomputable def ep:Nat:=pick fun z=>∀ m t Q E hash,S ι A s a l v c es z m t Q E hash
noncomputable def m:Nat:=pick fun z=>∀ t Q E hash,S ι A s a l v c es ep z t Q E hash
noncomputable def t:SetTable:=pick fun z=>∀ Q E hash,S ι A s a l v c es ep m z Q E hash
noncomputable def Q:SetFound->Shared->Prop:=pick fun z=>∀ E hash,S ι A s a l v c es ep m t z E hash
noncomputable def E:Value->Shared->Prop:=pick fun z=>∀ hash,S ι A s a l v c es ep m t Q z hash
noncomputable def hash:Int:=pick fun z=>S ι A s a l v c es ep m t Q E z
theorem core:S ι A s a l v c es ep m t Q E hash:=by
 intro hu he T hz se hf hl r h
 intro n fuel
 induction fuel generalizing n with
 | zero=>intro stand hf;exact absurd hf (wI _)
 | succ fuel ih=>
  intro stand hfu g hb hn
  have hfit:=zM4 T hz
  refine wpAny_bind (wpAny_setState_of he rfl hfit ?_)
  dsimp only
  have hg:t.gaveWay=false:=by unfold SetTable.gaveWay;rw [T.mask];rfl
  rw [hg]
  refine wpAny_ite_false rfl ?_
  have h220:10 * SetTable.turns t.mask=220:=by rw [T.mask];rfl
  unfold SetTable.probe
  rw [h220]
  rcases T.go _ hash n 220 (by lia) g hb with ⟨j,hj,hbj,e⟩ | ⟨j,q,n',hj,hbj,hn',gq,hbq,e,hh⟩
  ·rw [e]
   exact wpAny_pure (h j hj hbj)
  ·rw [e]
   dsimp only
   have hslot:=jI2 ⟨m,T.lt⟩ ⟨j,hj⟩
   dsimp only at hslot
   rw [hbj] at hslot
   have hlt:SetTable.below (plc m) j < es.size:=by
    rw [hz]
    rcases Nat.lt_or_ge (SetTable.below (plc m) j) (cnt m) with q | q
    ·exact q
    ·rw [yT q] at hslot;cases hslot
   obtain ⟨u,hu',ru,_⟩:=se.get (i:=SetTable.below (plc m) j) (e:=es[SetTable.below (plc m) j]) (by rw [zW];simp [hlt])
   have hum:=zI hu'
   obtain ⟨huf,hne⟩:=hl u hum
   have rest:wpAny (model PG w) A (do
     let some (_,y):=es[SetTable.below (plc m) j]? | unsupported "internal:set-entry"
     let equal <-holding [y] (eqBool y c)
     let (es',_,t') <-setState a
     if true && equal then return .there none
     let some same:=t'.sameMemory t.moves t.mask | unsupported "set.changed-during-lookup:is-the-new-block-at-the-old-address"
     let still <-match (if same then t'.slot j else .empty) with
      | .live i'=>match es'[i']? with
       | some (_,y')=>do pure (if <-isSame y' y then some i' else none)
       | none=>pure none
      | _=>pure none
     match still with
     | none=>rule "set.search.anew";setSearchFrom a c hash true fuel none
     | some i'=>if equal then return .there (some i') else setSearchFrom a c hash true fuel (some q)) Q E s:=by
    rw [jT hlt]
    dsimp only
    refine wpAny_bind (wpAny_holding (zC9 1 A s ι u v _ c (zC7 huf).2 (zC7 huf).1 (zC7 hf).1 (by lia) ru r PG w E _ ?_))
    rw [V.eqb_false (zC7 huf).1 (zC7 hf).1 hne]
    refine wpAny_bind (wpAny_setState_of he rfl hfit ?_)
    dsimp only
    refine wpAny_ite_false rfl ?_
    have hsm:t.sameMemory t.moves t.mask=some true:=by unfold SetTable.sameMemory;simp
    rw [hsm]
    dsimp only
    rw [if_pos rfl,T.slot hj,if_pos hbj]
    dsimp only
    rw [jT hlt]
    dsimp only
    obtain ⟨b,vs,k,l',hb',_,_,_,_⟩:=zJ0 huf ru
    rw [hb']
    have hsame:isSame (.ref b) (.ref b)=pure true:=by unfold isSame;simp
    refine wpAny_bind (wpAny_of_eq hsame ?_)
    rw [if_pos rfl]
    refine wpAny_bind (wpAny_pure ?_)
    exact ih n' (some q) (by lia) gq hbq (by lia)
   cases hled:t.led
   ·refine wpAny_ite_true rfl ?_
    refine wpAny_bind (notSeen hf r (fun y hy=>?_) ?_)
    ·obtain ⟨p,hp,rfl⟩:=jS.mp hy
     have hp':p∈es.toList:=by
      have:=(wP.mp hp)
      exact wP.mpr (Array.mem_filter.mp this).1
     obtain ⟨k,hk⟩:=yC.mp hp'
     obtain ⟨u',hu'',ru',_⟩:=se.get hk
     exact ⟨u',(hl u' (zI hu'')).1,ru'⟩
    ·refine wpAny_ite_false rfl ?_
     exact rest
   ·refine wpAny_ite_false rfl ?_
    exact rest
theorem all:∀ ι A s a l v c es ep m t Q E hash,S ι A s a l v c es ep m t Q E hash:=cst (p:=fun z=>∀ A s a l v c es ep m t Q E hash,S z A s a l v c es ep m t Q E hash) (@cst Around nAr (fun z=>∀ s a l v c es ep m t Q E hash,S ι z s a l v c es ep m t Q E hash) (@cst Shared nSh (fun z=>∀ a l v c es ep m t Q E hash,S ι A z a l v c es ep m t Q E hash) (cst (p:=fun z=>∀ l v c es ep m t Q E hash,S ι A s z l v c es ep m t Q E hash) (cst (p:=fun z=>∀ v c es ep m t Q E hash,S ι A s a z v c es ep m t Q E hash) (cst (p:=fun z=>∀ c es ep m t Q E hash,S ι A s a l z c es ep m t Q E hash) (cst (p:=fun z=>∀ es ep m t Q E hash,S ι A s a l v z es ep m t Q E hash) (cst (p:=fun z=>∀ ep m t Q E hash,S ι A s a l v c z ep m t Q E hash) (cst (p:=fun z=>∀ m t Q E hash,S ι A s a l v c es z m t Q E hash) (cst (p:=fun z=>∀ t Q E hash,S ι A s a l v c es ep z t Q E hash) (cst (p:=fun z=>∀ Q E hash,S ι A s a l v c es ep m z Q E hash) (cst (p:=fun z=>∀ E hash,S ι A s a l v c es ep m t z E hash) (cst (p:=fun z=>∀ hash,S ι A s a l v c es ep m t Q z hash) (cst (p:=fun z=>S ι A s a l v c es ep m t Q E z) core)))))))))))))
end kA8
section
variable {d:Nat} {sc:Scope} {ρ:Lc} {σ:Sto} {ι:List Addr}
theorem jM7 {A:Around} {s:Shared} {a:Addr} {l:List V} {v:V} {c:Value} {es:Array (Int×Value)} {ep m:Nat} {t:SetTable} {Q:SetFound->Shared->Prop} {E:Value->Shared->Prop} (hu:A.units+20 < cLine) (he:s.heap.get? a=some { cls:=.type "set",data:=.set es ep t }) (T:TOk t m) (hz:es.size=cnt m) (se:SE w s.heap ι l es.toList)
  (hf:flat v=true) (hl:∀ u∈l,flat u=true/\u≠v) (r:VR s.heap ι v c) (hash:Int) (h:∀ j,j < 8->m.testBit j=false->Q (.free j false) s):∀ (n fuel:Nat) (stand:Option SetTable.Probe),n < fuel->Good (stand.getD (t.probeStart hash))->m.testBit (advN t n (stand.getD (t.probeStart hash))).j=false->n<=20->wpAny (model PG w) A (setSearchFrom a c hash true fuel stand) Q E s:=kA8.all ι A s a l v c es ep m t Q E hash hu he T hz se hf hl r h
end
namespace kA9
def S (ι:List Addr) (A:Around) (s:Shared) (a:Addr) (l:List V) (v:V) (c:Value) (Q:Bool->Shared->Prop) (E:Value->Shared->Prop):Prop:=∀ (hu:A.units+20 < cLine) (S:zD4 w s.heap ι a l) (hn:l.length<=3) (hf:flat v=true) (hl:∀ u∈l,flat u=true/\u≠v) (r:VR s.heap ι v c) (h:∀ b h' tk (l':List V),Heap.SameBut a s.heap h'->zD4 w h' ι a l'->l'.Perm (v::l)->Q b { s with heap:=h',toks:=tk }),wpAny (model PG w) A (setAdd a c) Q E s
noncomputable def ι:List Addr:=pick fun z=>∀ A s a l v c Q E,S z A s a l v c Q E
noncomputable def A:Around:=@pick Around nAr fun z=>∀ s a l v c Q E,S ι z s a l v c Q E
noncomputable def s:Shared:=@pick Shared nSh fun z=>∀ a l v c Q E,S ι A z a l v c Q E
noncomputable def a:Addr:=pick fun z=>∀ l v c Q E,S ι A s z l v c Q E
noncomputable def l:List V:=pick fun z=>∀ v c Q E,S ι A s a z v c Q E
noncomputable def v:V:=pick fun z=>∀ c Q E,S ι A s a l z c Q E
noncomputable def c:Value:=pick fun z=>∀ Q E,S ι A s a l v z Q E
noncomputable def Q:Bool->Shared->Prop:=pick fun z=>∀ E,S ι A s a l v c z E
noncomputable def E:Value->Shared->Prop:=pick fun z=>S ι A s a l v c Q z
theorem core:S ι A s a l v c Q E:=by
 intro hu S hn hf hl r h
 obtain ⟨es,ep,t,m,he,T,hz,hled,se⟩:=S
 have hcm:cnt m<=3:=by rw [<-hz,<-zG,<-se.length];exact hn
 unfold setAdd
 refine wpAny_holding (wpAny_bind (jA7 1 A s ι v c _ _ (zC7 hf).2 (zC7 hf).1 (by lia) r ?_))
 unfold setAddHashed setAddHashedIn
 refine wpAny_holding (wpAny_bind (wpAny_setState_of (s:={ s with toks:=s.toks+v.draws }) he rfl (zM4 T hz) ?_))
 dsimp only
 have hbs:byScan c es=false:=by
  obtain ⟨b,vs,k,l',hb',_⟩:=zJ0 hf r
  rw [hb'];rfl
 rw [hbs]
 refine wpAny_ite_false rfl ?_
 obtain ⟨g,n,hn20,hb⟩:=T.start (zD5 w v)
 refine wpAny_bind (jM7 (s:={ s with toks:=s.toks+v.draws }) hu he T hz se hf hl r (zD5 w v) (fun j hj hbj=>?_) n 100000 none (by lia) g hb hn20)
 refine wpAny_bind (wpAny_setState_of (s:={ s with toks:=s.toks+v.draws }) he rfl (zM4 T hz) ?_)
 dsimp only
 obtain ⟨T',_,_,e1,e2,e3⟩:=T.put hj hbj hcm
 have f1:(t.put j).1.tooFull=false:=T'.full
 have f2:({ (t.put j).1 with plain:=false }:SetTable).tooFull=false:=TOk.full (m:=setB m j) ⟨T'.mask,T'.place,T'.dum,T'.lt,T'.few⟩
 have go:∀ {Q':Unit->Shared->Prop} {t':SetTable},(t'=(t.put j).1∨t'={ (t.put j).1 with plain:=false })->
   (∀ h' (l':List V),Heap.SameBut a s.heap h'->zD4 w h' ι a l'->l'.Perm (v::l)->Q' () { s with heap:=h',toks:=s.toks+v.draws })->
   wpAny (model PG w) A (storeSet a (qQ es (t.put j).2 (zD5 w v,c)) t') Q' E { s with toks:=s.toks+v.draws }:=fun ht' hQ'=>
  jD4 (s:={ s with toks:=s.toks+v.draws }) he T hz hled se r hj hbj hn ht' fun h' hs' S'=>hQ' h' _ hs' S' (zO4 _ _ _)
 split
 ·refine wpAny_bind (zT8 (s:={ s with toks:=s.toks+v.draws }) hf r fun b=>?_)
  cases b
  ·rw [if_neg qW]
   refine wpAny_bind (go (.inr rfl) fun h' l' hs' S' hp=>?_)
   rw [f2]
   refine wpAny_ite_false rfl ?_
   exact wpAny_pure (h _ h' _ l' hs' S' hp)
  ·rw [if_pos rfl]
   refine wpAny_bind (go (.inl rfl) fun h' l' hs' S' hp=>?_)
   rw [f1]
   refine wpAny_ite_false rfl ?_
   exact wpAny_pure (h _ h' _ l' hs' S' hp)
 ·refine wpAny_bind (wpAny_pure ?_)
  rw [if_pos rfl]
  refine wpAny_bind (go (.inl rfl) fun h' l' hs' S' hp=>?_)
  rw [f1]
  refine wpAny_ite_false rfl ?_
  exact wpAny_pure (h _ h' _ l' hs' S' hp)
theorem all:∀ ι A s a l v c Q E,S ι A s a l v c Q E:=cst (p:=fun z=>∀ A s a l v c Q E,S z A s a l v c Q E) (@cst Around nAr (fun z=>∀ s a l v c Q E,S ι z s a l v c Q E) (@cst Shared nSh (fun z=>∀ a l v c Q E,S ι A z a l v c Q E) (cst (p:=fun z=>∀ l v c Q E,S ι A s z l v c Q E) (cst (p:=fun z=>∀ v c Q E,S ι A s a z v c Q E) (cst (p:=fun z=>∀ c Q E,S ι A s a l z c Q E) (cst (p:=fun z=>∀ Q E,S ι A s a l v z Q E) (cst (p:=fun z=>∀ E,S ι A s a l v c z E) (cst (p:=fun z=>S ι A s a l v c Q z) core))))))))
end kA9
section
variable {d:Nat} {sc:Scope} {ρ:Lc} {σ:Sto} {ι:List Addr}
theorem jN0 {A:Around} {s:Shared} {a:Addr} {l:List V} {v:V} {c:Value} {Q:Bool->Shared->Prop} {E:Value->Shared->Prop} (hu:A.units+20 < cLine) (S:zD4 w s.heap ι a l) (hn:l.length<=3) (hf:flat v=true) (hl:∀ u∈l,flat u=true/\u≠v) (r:VR s.heap ι v c)
  (h:∀ b h' tk (l':List V),Heap.SameBut a s.heap h'->zD4 w h' ι a l'->l'.Perm (v::l)->Q b { s with heap:=h',toks:=tk }):wpAny (model PG w) A (setAdd a c) Q E s:=kA9.all ι A s a l v c Q E hu S hn hf hl r h
end
noncomputable def zV4 (w:World) (ι:List Addr) (l:List V) (J:Nat->List V->Prop):Prop:=
 ∀ (A:Around) (s:Shared) (a:Addr) (i:Nat) (v:V) (c:Value) (els:List V) (Q:Bool->Shared->Prop) (E:Value->Shared->Prop),A.units+20 < cLine->l[i]?=some v->J i els->zD4 w s.heap ι a els->VR s.heap ι v c->
  (∀ b h' tk els',Heap.SameBut a s.heap h'->zD4 w h' ι a els'->J (i+1) els'->Q b { s with heap:=h',toks:=tk })->wpAny (model PG w) A (setAdd a c) Q E s
section
variable {d:Nat} {sc:Scope} {ρ:Lc} {σ:Sto} {ι:List Addr}
theorem zD4.keep {h h':Heap} {a:Addr} {l:List V} (S:zD4 w h ι a l) (hk:∀ o,h.get? a=some o->h'.get? a=some o) (tk:gQ h h'):zD4 w h' ι a l:=by
 obtain ⟨es,ep,t,m,he,T,hz,hled,se⟩:=S
 exact ⟨es,ep,t,m,hk _ he,T,hz,hled,se.mono tk fun oo1 oo2 e=>e⟩
theorem set_loop {l:List V} {J:Nat->List V->Prop} (hJ:zV4 w ι l J) {S I lx:Addr} {vs:Array Value} {k:Nat} (hSI:S≠I) (hSl:S≠lx) (hIl:I≠lx):∀ (n i:Nat) (A:Around) (R:Result->Shared->Prop) (s:Shared) (els:List V),l.length - i=n->i<=l.length->A.units+40 < cLine->A.handled=none->
  s.heap.IsListIter I lx i->s.heap.get? lx=some { cls:=.type "list",data:=.seq vs k }->VRs s.heap ι l vs.toList->zD4 w s.heap ι S els->J i els->
  (∀ h' tk els',(∀ b o,b≠S->b≠I->s.heap.get? b=some o->h'.get? b=some o)->s.heap.objs.size<=h'.objs.size->zD4 w h' ι S els'->J l.length els'->R (.ok (.ret .none)) { s with heap:=h',toks:=tk })->
  codeAny (model PG w) A (.builtin "set.update.loop" ⟨[.ref S,.ref I],[]⟩) R s:=by
 intro n
 induction n with
 | zero=>
  intro i A R s els hn hi hu hh hit hl hv hS hj hR
  have hin:=at_end hi hn
  subst hin
  refine codeAny_builtin PyProof.Rows.F.entry_set_update_loop ?_
  rw [yA PyProof.Rows.F.plain_set_update_loop _]
  show wpAny _ A.in1 (pyNext (.ref I) >>= _) _ _ s
  refine wpAny_bind (zB7 (wpAny_pyNext_list_end (A:=A.in1) hh hit ⟨_,hl,rfl,k,rfl⟩ (by rw [<-zW,hv.length];simp) fun h' he hz=>?_))
  show wpAny _ A.in1 (ret Value.none) _ _ _
  have hk:∀ b o,b≠I->s.heap.get? b=some o->h'.get? b=some o:=fun b o hb e=>he b o hb e
  have tk:gQ s.heap h':=fun a us m e=>hk a _ (fun q=>by
   subst q
   obtain ⟨o,e',hc,_⟩:=hit
   have z:=congrArg (Option.map Obj.cls) (e'.symm.trans e)
   simp [hc] at z) e
  exact wpAny_pure (hR h' s.toks els (fun b o oo1 hb e=>hk b o hb e) hz (hS.keep (fun o e=>hk S o hSI e) tk) hj)
 | succ n ih=>
  intro i A R s els hn hi hu hh hit hl hv hS hj hR
  have hlt:=jO5 hn
  obtain ⟨c,hc,rc⟩:=hv.get (zQ hlt)
  refine codeAny_builtin PyProof.Rows.F.entry_set_update_loop ?_
  rw [yA PyProof.Rows.F.plain_set_update_loop _]
  show wpAny _ A.in1 (pyNext (.ref I) >>= _) _ _ s
  refine wpAny_bind (wpAny_pyNext_list_item hit ⟨_,hl,rfl,k,rfl⟩ (x:=c) (by rw [<-zW];exact hc) fun h₁ hit₁ hs₁=>?_)
  have tk₁:gQ s.heap h₁:=fun a us m e=>(hs₁.2 a fun q=>by
   subst q
   obtain ⟨o,e',hc,_⟩:=hit
   have z:=congrArg (Option.map Obj.cls) (e'.symm.trans e)
   simp [hc] at z).trans e
  have hS₁:=hS.keep (fun o e=>(hs₁.2 S hSI).trans e) tk₁
  have hl₁:h₁.get? lx=some { cls:=.type "list",data:=.seq vs k }:=(hs₁.2 lx (fun q=>hIl q.symm)).trans hl
  show wpAny _ A.in1 (holding [c] (setAdd S c) >>= _) _ _ _
  refine wpAny_bind (wpAny_holding (hJ A.in1 { s with heap:=h₁ } S i _ c els _ _ (by show A.units+1+20 < cLine;lia) (zQ hlt) hj hS₁ (rc.mono tk₁ fun oo1 oo2 e=>e) fun b h₂ t₂ els' hs₂ hS₂ hj'=>?_))
  have tk₂:gQ h₁ h₂:=setTup hS₁ hs₂
  refine wpAny_pure ⟨plainId_quiet PyProof.Rows.F.plain_set_update_loop _,ih (i+1) A R { s with heap:=h₂,toks:=t₂ } els' (left1 hn) hlt hu hh ?_ ((hs₂.2 lx (fun q=>hSl q.symm)).trans hl₁) ((hv.mono tk₁ fun oo1 oo2 e=>e).mono tk₂ fun oo1 oo2 e=>e) hS₂ hj' fun h' tk els'' hk hz hS' hj''=>?_⟩
  ·obtain ⟨o,e,r⟩:=hit₁
   exact ⟨o,(hs₂.2 I (fun q=>hSI q.symm)).trans e,r⟩
  ·refine hR h' tk els'' (fun b o h1 h2 e=>hk b o h1 h2 ((hs₂.2 b h1).trans ((hs₁.2 b h2).trans e))) ?_ hS' hj''
   have e1:h₂.objs.size=s.heap.objs.size:=hs₂.1.trans hs₁.1
   rw [<-e1];exact hz
theorem jE1 {A:Around} {E:Value->Shared->Prop} {s:Shared} (a:Value) {Q₁:Value->Shared->Prop}
  (h:Q₁ (.ref s.heap.objs.size) { s with heap:=s.heap.push { cls:=.type "set",dict:=none,data:=.set #[] 0 (.fresh 0 0 (!w.params.followText "set-order")) } }) :
  codeAny (model PG w) A (.call (.builtin "set.__new__") ⟨[.type "set",a],[]⟩) (wants Q₁ E) s:=by
 refine codeAny_of_tree ?_
 show wpAny _ A.in1 (do checkBuiltinCall "set.__new__" ⟨[.type "set",a],[]⟩;again (.builtin "set.__new__" ⟨[.type "set",a],[]⟩)) _ _ s
 refine wpAny_bind (wpAny_of_eq (PySem.F.newCall_set_1 a) (wpAny_pure ⟨plainId_quiet PySem.F.plain_set_new _,codeAny_builtin PySem.F.entry_set_new ?_⟩))
 rw [yA PySem.F.plain_set_new _]
 unfold Builtin.«set.__new__» Builtin.Frozenset.newClass
 have hsub:=sub_set_self
 obtain ⟨hp,g,d,tk,os⟩:=s
 wp_walk
 refine wpAny_askSetting (wpAny_pure ?_)
 refine wpAny_bind (wpAny_alloc (wpAny_pure ?_))
 exact wpAny_pure h
theorem zD4.new {h:Heap} {a:Addr} (e:h.get? a=some { cls:=.type "set",dict:=none,data:=.set #[] 0 (.fresh 0 0 (!w.params.followText "set-order")) }):zD4 w h ι a []:=
 ⟨#[],0,_,0,e,⟨rfl,rfl,rfl,by lia,by decide⟩,rfl,rfl,.nil⟩
set_option maxHeartbeats 3200000 in
theorem jH7 {A:Around} {s:Shared} {l:List V} {J:Nat->List V->Prop} {lx:Addr} {vs:Array Value} {k:Nat} {Q:Value->Shared->Prop} {E:Value->Shared->Prop} (hJ:zV4 w ι l J) (hj:J 0 []) (hu:A.units+60 < cLine) (hh:A.handled=none)
  (hl:s.heap.get? lx=some { cls:=.type "list",data:=.seq vs k }) (hv:VRs s.heap ι l vs.toList)
  (h:∀ h' tk els,(∀ b o,s.heap.get? b=some o->h'.get? b=some o)->s.heap.objs.size < h'.objs.size->zD4 w h' ι s.heap.objs.size els->J l.length els->Q (.ref s.heap.objs.size) { s with heap:=h',toks:=tk }) :
  wpAny (model PG w) A (call (.type "set") [.ref lx]) Q E s:=by
 obtain ⟨c,tl,hmro⟩:=PySem.F.called_set.mro
 have hmade:=PySem.F.called_set.made
 have hsub:=PySem.F.called_set.sub
 refine wpAny_call (codeAny_of_tree ?_)
 show wpAny _ _ (callAny (.type "set") _) _ _ _
 refine wpAny_pure ⟨Code.quiet_builtin _ (by decide +kernel),codeAny_builtin PySem.F.entry_type_call ?_⟩
 rw [Around.under_plain (weight_type_call_type "set" [.ref lx] []) rfl]
 have h1:=PySem.F.called_set.notType
 have h2:=PySem.F.called_set.canCreate
 have hct:=PySem.F.typeCall_set_1 (.ref lx)
 repeat (any_goals (first | assumption | wp_step))
 refine codeAny_mono (jE1 (.ref lx) (E:=E) (Q₁:=fun obj s₁=>obj=.ref s.heap.objs.size/\s₁={ s with heap:=s.heap.push { cls:=.type "set",dict:=none,data:=.set #[] 0 (.fresh 0 0 (!w.params.followText "set-order")) } }) ⟨rfl,rfl⟩) fun r s₁ hr=>?_
 cases r with
 | error e=>exact hr
 | ok fl=>
  cases fl with
  | ret obj=>
   obtain ⟨rfl,rfl⟩:=hr
   have hS:(s.heap.push { cls:=.type "set",dict:=none,data:=.set #[] 0 (.fresh 0 0 (!w.params.followText "set-order")) }).get? s.heap.objs.size=some { cls:=.type "set",dict:=none,data:=.set #[] 0 (.fresh 0 0 (!w.params.followText "set-order")) }:=zT _ rfl
   have hT:Shared.TypeIs { s with heap:=s.heap.push { cls:=.type "set",dict:=none,data:=.set #[] 0 (.fresh 0 0 (!w.params.followText "set-order")) } } (.ref s.heap.objs.size) "set":=⟨_,hS,rfl⟩
   have hli:=PySem.F.called_set.init.lookup
   have hbi:=PySem.F.called_set.init.bind (.ref s.heap.objs.size)
   repeat (any_goals (first | assumption | wp_step))
   refine codeAny_mono (codeAny_call_builtin (R:=wants (fun r s₂=>r=.none/\∃ h' tk els,s₂={ s with heap:=h',toks:=tk }/\(∀ b o,s.heap.get? b=some o->h'.get? b=some o)/\s.heap.objs.size < h'.objs.size/\zD4 w h' ι s.heap.objs.size els/\J l.length els) E) PySem.F.called_set.init.plain PySem.F.entry_set_init (check_set_init_1 hT ?_)) fun r₂ s₂ hr₂=>?_
   ·have hl':=zF { cls:=.type "set",dict:=none,data:=.set #[] 0 (.fresh 0 0 (!w.params.followText "set-order")) } hl
    have hsls:=PySem.F.sub_list_set
    have hslf:=PySem.F.sub_list_frozenset
    have hne:(Value.type "list" == Value.type "dict")=false:=by decide
    have hl1:(s.heap.push { cls:=.type "set",dict:=none,data:=.set #[] 0 (.fresh 0 0 (!w.params.followText "set-order")) }).IsList lx vs:=⟨_,hl',rfl,k,rfl⟩
    unfold Builtin.«set.__init__» noKeywords Builtin.Frozenset.updateFrom
    generalize hPI:pyIter=PI
    wp_walk
    subst hPI
    refine wpAny_pyIter_list hl1 ?_
    refine wpAny_bind (wpAny_runValue ?_)
    have hlS:lx < s.heap.objs.size:=jC hl
    have hp1:(s.heap.push { cls:=.type "set",dict:=none,data:=.set #[] 0 (.fresh 0 0 (!w.params.followText "set-order")) }).objs.size=s.heap.objs.size+1:=qA ..
    have hS2:=zF { cls:=.type "list_iterator",data:=.fields #[.ref lx,.int 0 0] } hS
    have hk2:∀ b o,s.heap.get? b=some o->((s.heap.push { cls:=.type "set",dict:=none,data:=.set #[] 0 (.fresh 0 0 (!w.params.followText "set-order")) }).push { cls:=.type "list_iterator",data:=.fields #[.ref lx,.int 0 0] }).get? b=some o:=fun b o e=>zF _ (zF _ e)
    rw [hp1]
    refine set_loop (ι:=ι) hJ (S:=s.heap.objs.size) (I:=s.heap.objs.size+1) (lx:=lx) (jP (yH _)) (qF hlS) (qF (qY hlS)) l.length 0 _ _ _ [] (by lia) (jO _) (by simp only [Around.in1_units];lia) (by simp [hh]) ⟨_,by rw [<-hp1];exact zT _ rfl,rfl,rfl⟩ (zF _ hl') (hv.mono (fun a us m e=>hk2 _ _ e) fun oo1 oo2 e=>e) (zD4.new hS2) hj fun h' tk els hk hz hS' hj'=>?_
    show wpAny _ _ _ _ _ _
    refine wpAny_pure ?_
    show wpAny _ _ (ret Value.none) _ _ _
    refine wpAny_pure ⟨rfl,h',tk,els,rfl,fun b o e=>?_,?_,hS',hj'⟩
    ·have hb:=Mine.ltA e
     refine hk b o (neA (by lia)) (neA (by lia)) (hk2 b o e)
    ·have:((s.heap.push { cls:=.type "set",dict:=none,data:=.set #[] 0 (.fresh 0 0 (!w.params.followText "set-order")) }).push { cls:=.type "list_iterator",data:=.fields #[.ref lx,.int 0 0] }).objs.size<=h'.objs.size:=hz
     rw [qA,hp1] at this
     lia
   ·cases r₂ with
    | error e=>exact hr₂
    | ok fl₂=>
     cases fl₂ with
     | ret r=>
      obtain ⟨rfl,h',tk,els,rfl,hk,hz,hS',hj'⟩:=hr₂
      repeat (any_goals (first | assumption | wp_step))
      exact h _ _ _ hk hz hS' hj'
     | _=>exact hr₂.elim
  | _=>exact hr.elim
end
theorem zD3:Slot "set_iterator" "__next__" "set_iterator.__next__":=
 .of (owner:="set_iterator") (n:="__next__") (by rw [typeLookup_type,builtinLookup_eq_fast];kernel_rfl) (by decide +kernel) (by decide +kernel) (by decide +kernel)
  (by first | exact .inl (by decide +kernel) | exact .inr (by decide +kernel)) (by rw [isSubtype_type];kernel_rfl)
theorem zJ2:entryFor table "set_iterator.__next__"=some Builtin.«set_iterator.__next__»:=entryFor_of_tree (by kernel_rfl)
theorem zK8 (a:Value):argsOk "set_iterator.__next__" ⟨[a],[]⟩:=by unfold argsOk;kernel_rfl
theorem zW6:entryFor table "set.__iter__"=some Builtin.«frozenset.__iter__»:=
 entryFor_alias (id':="frozenset.__iter__") (by kernel_rfl) rfl (by decide +kernel) (by kernel_rfl)
theorem setit_nolen:typeLookup (.type "set_iterator") "__len__"=pure none:=by rw [typeLookup_type,builtinLookup_eq_fast];kernel_rfl
theorem setit_hint:typeLookup (.type "set_iterator") "__length_hint__"=pure (some (.builtin "set_iterator.__length_hint__")):=by rw [typeLookup_type,builtinLookup_eq_fast];kernel_rfl
theorem setit_sub:isSubtype (.type "set_iterator") (.type "set_iterator")=pure true:=by rw [isSubtype_type];kernel_rfl
theorem setit_split:splitId "set_iterator.__length_hint__"=some ("set_iterator","__length_hint__"):=by decide +kernel
theorem zO5 {α:Type}:∀ {l:List α} {i:Nat} (h:i < l.length),(l[i]::l.eraseIdx i).Perm l
 | x::l,0,_=>by simp
 | x::l,i+1,h=>by
  rw [List.getElem_cons_succ,List.eraseIdx_cons_succ]
  have hi:i < l.length:=by simpa using h
  exact (List.Perm.swap x _ _).trans (List.Perm.cons x (zO5 hi))
theorem pick_go {α:Type} (next:Nat->Nat) (fuel:Nat):∀ (k:Nat) (left:List α) (out:Array α),left.length<=fuel->(pickOrder.go next fuel k left out).toList.Perm (out.toList++left):=by
 induction fuel with
 | zero=>
  intro k left out h
  rw [qX.mp (vV.mp h),jI]
  exact .refl _
 | succ fuel ih=>
  intro k left out h
  cases left with
  | nil=>rw [jI];exact .refl _
  | cons x xs=>
   have hlt:next k % (x::xs).length < (x::xs).length:=Nat.mod_lt _ (Nat.succ_pos _)
   show (match (x::xs)[next k % (x::xs).length]? with
    | some y=>pickOrder.go next fuel (k+1) ((x::xs).eraseIdx (next k % (x::xs).length)) (out.push y)
    | none=>out).toList.Perm _
   rw [zQ hlt]
   refine (ih (k+1) _ _ (by rw [List.length_eraseIdx_of_lt hlt];exact qV h)).trans ?_
   rw [yS,zP]
   exact List.Perm.append_left _ (zO5 hlt)
theorem jC9 {α:Type} (next:Nat->Nat) (xs:Array α):(pickOrder next xs).toList.Perm xs.toList:=by
 unfold pickOrder
 simpa using pick_go next xs.size 0 xs.toList #[] (by simp)
theorem jR2 {M:Model} {A:Around} {α:Type} (n:Nat):∀ (xs:List α) (s:Shared) (Q:List α->Shared->Prop) (E:Value->Shared->Prop),xs.length=n->(∀ ys dr,ys.Perm xs->Q ys { s with drawn:=dr })->wpAny M A (drawOrder n xs) Q E s:=by
 induction n with
 | zero=>
  intro xs s Q E h hQ
  rw [qX.mp h] at hQ ⊢
  exact wpAny_pure (hQ [] s.drawn (.refl _))
 | succ n ih=>
  intro xs s Q E h hQ
  cases xs with
  | nil=>cases h
  | cons x xs=>
  refine wpAny_bind ?_
  intro Γ p hΓ
  have hne:(x::xs).length≠0:=by simp
  refine ⟨hne,?_⟩
  have hlt:M.w.draws .order (s.drawn.get .order) % (x::xs).length < (x::xs).length:=Nat.mod_lt _ (by simp)
  generalize M.w.draws .order (s.drawn.get .order) % (x::xs).length=i at hlt ⊢
  refine (show wpAny M A (match (x::xs)[i]? with
   | some x'=>(do return x'::(<-drawOrder n ((x::xs).eraseIdx i)):Sem (List α))
   | none=>unsupported "internal:drawOrder") Q E { s with drawn:=s.drawn.bump .order } from ?_)
  rw [zQ hlt]
  refine wpAny_bind (ih _ _ _ _ (by rw [List.length_eraseIdx_of_lt hlt];exact kX.inj h) fun ys dr hp=>wpAny_pure (hQ _ dr ?_))
  exact (List.Perm.cons _ hp).trans (zO5 hlt)
structure zG5 (w:World) (h:Heap) (a:Addr) (es:Array (Int×Value)) (ep:Nat) (t:SetTable) (m:Nat):Prop where
 at_:h.get? a=some { cls:=.type "set",data:=.set es ep t }
 tab:TOk t m
 size:es.size=cnt m
 led:t.led=!w.params.followText "set-order"
noncomputable abbrev zH7 (first:Value) (i:Nat) (a:Addr) (n ep:Nat):Obj:={ cls:=.type "set_iterator",dict:=none,data:=.fields #[first,rawInt i,.ref a,rawInt n,rawInt ep],slots:=#[] }
noncomputable def Turn (w:World) (h:Heap) (a:Addr) (es:Array (Int×Value)) (ep m:Nat) (t:SetTable) (cs:List Value) (i:Nat) (first:Value):Prop:=
 (w.params.followText "set-order"=true/\first=rawInt 0/\cs=(pickOrder (w.params.setOrder a ep) es).toList.map (·.2))∨
 (w.params.followText "set-order"=false/\(!t.plain && decide (es.size > 1))=false/\first=rawInt ((if i=0 then 0 else (plc m).getD (i - 1) 0+1:Nat):Int)/\cs=es.toList.map (·.2))∨
 (∃ (ord:List Nat) (T:Addr) (n:Nat),first=.ref T/\IsT h T ((ord.map fun (k:Nat)=>rawInt (k:Int)).toArray) n/\ord.Perm (List.range es.size)/\cs=ord.map fun (k:Nat)=>(es[k]?.map (·.2)).getD .none)
section
theorem Turn.perm {h:Heap} {a:Addr} {es:Array (Int×Value)} {ep m i:Nat} {t:SetTable} {cs:List Value} {first:Value} (x:Turn w h a es ep m t cs i first):cs.Perm (es.toList.map (·.2)):=by
 rcases x with ⟨_,_,rfl⟩ | ⟨_,_,_,rfl⟩ | ⟨ord,T,n,_,_,hp,rfl⟩
 ·exact (jC9 _ _).map _
 ·exact .refl _
 ·refine (hp.map _).trans (.of_eq ?_)
  apply List.ext_getElem?
  intro i
  rw [zS,zS]
  by_cases hi:i < es.size
  ·rw [yU hi,zW,jT hi]
   simp [jT hi]
  ·rw [vL (by simp;lia),vL (by simp;lia)]
   rfl
theorem zG5.state {A:Around} {s:Shared} {a:Addr} {es:Array (Int×Value)} {ep m:Nat} {t:SetTable} {Q:(Array (Int×Value)×Nat×SetTable)->Shared->Prop} {E:Value->Shared->Prop} (S:zG5 w s.heap a es ep t m) (h:Q (es,ep,t) s):wpAny (model PG w) A (setState a) Q E s:=
 wpAny_setState_of S.at_ rfl (zM4 S.tab S.size) h
theorem zG5.walkT {A:Around} {s:Shared} {a:Addr} {es:Array (Int×Value)} {ep m:Nat} {t:SetTable} {Q:Array (Int×Value)->Shared->Prop} {E:Value->Shared->Prop} (S:zG5 w s.heap a es ep t m) (hb:w.params.followText "set-order"=true) (h:Q (pickOrder (w.params.setOrder a ep) es) s):wpAny (model PG w) A (setWalk a) Q E s:=by
 refine wpAny_bind (S.state ?_)
 refine wpAny_bind (wpAny_bind (wpAny_askSetting (wpAny_pure ?_)))
 show wpAny _ _ (if w.params.followText "set-order"=true then _ else _) _ _ _
 rw [if_pos hb]
 exact wpAny_bind (wpAny_askSetting (wpAny_pure h))
theorem iter_set {A:Around} {s:Shared} {a:Addr} {es:Array (Int×Value)} {ep m:Nat} {t:SetTable} {Q:Value->Shared->Prop} {E:Value->Shared->Prop} (S:zG5 w s.heap a es ep t m)
  (h:∀ h' dr first cs,(∀ b o,s.heap.get? b=some o->h'.get? b=some o)->Turn w h' a es ep m t cs 0 first->
   Q (.ref h'.objs.size) { s with heap:=h'.push (zH7 first 0 a es.size ep),drawn:=dr }):wpAny (model PG w) A (pyIter (.ref a)) Q E s:=by
 have hT:s.TypeIs (.ref a) "set":=⟨_,S.at_,rfl⟩
 refine wpAny_pyIter_slot hT PySem.F.slot_set_iter (wpAny_call_entry PySem.F.slot_set_iter hT zW6 ?_ (PySem.F.args_set_iter_1 _))
 show wpAny _ _ (Builtin.Frozenset.sizeOf a >>= _) _ _ s
 refine wpAny_bind (wpAny_bind (wpAny_bind (S.state (wpAny_pure (wpAny_pure ?_)))))
 refine wpAny_bind ?_
 refine wpAny_bind (S.state ?_)
 refine wpAny_bind (wpAny_bind (wpAny_askSetting (wpAny_pure (wpAny_pure ?_))))
 have fin:∀ (h':Heap) (dr:Drawn) (first:Value) (cs:List Value),(∀ b o,s.heap.get? b=some o->h'.get? b=some o)->Turn w h' a es ep m t cs 0 first->
   wpAny (model PG w) A.in1 (do let __x <-setEpoch a;let __y <-newFields "set_iterator" [first,rawInt 0,.ref a,rawInt es.size,rawInt __x];ret __y)
    (fun fin s'=>∃ v,fin=.done (.ret v)/\(fun it s'=>∃ T' r,s'.TypeIs it T'/\typeLookup (.type T') "__next__"=pure (some r)/\Q it s') v s') E { s with heap:=h',drawn:=dr }:=by
  intro h' dr first cs hk ht
  have S':zG5 w h' a es ep t m:=⟨hk _ _ S.at_,S.tab,S.size,S.led⟩
  refine wpAny_bind (wpAny_bind (zG5.state (s:={ s with heap:=h',drawn:=dr }) S' (wpAny_pure ?_)))
  refine wpAny_bind (wpAny_newObj_type ?_)
  refine wpAny_pure ⟨_,rfl,"set_iterator",_,⟨_,zT _ rfl,rfl⟩,zD3.lookup,h h' dr first cs hk ht⟩
 show wpAny _ _ (if (!w.params.followText "set-order" && (!t.plain && decide (es.size > 1)))=true then _ else _) _ _ _
 by_cases hd:(!w.params.followText "set-order" && (!t.plain && decide (es.size > 1)))=true
 ·rw [if_pos hd]
  refine wpAny_bind (jR2 es.size (List.range es.size) s _ _ (by simp) fun ord dr hp=>?_)
  refine wpAny_bind (wpAny_newTuple ?_ (by rw [zD,hp.length_eq,qR,S.size,sizeLine_eq];have:=S.tab.few;lia))
  exact fin _ dr _ _ (fun b o e=>zF _ e) (.inr (.inr ⟨ord,s.heap.objs.size,0,rfl,zT _ rfl,hp,rfl⟩))
 ·rw [if_neg hd]
  refine wpAny_bind (wpAny_pure ?_)
  cases hb:w.params.followText "set-order"
  ·rw [hb] at hd
   exact fin s.heap s.drawn _ _ (fun oo1 oo2 e=>e) (.inr (.inl ⟨hb,by simpa using hd,rfl,rfl⟩))
  ·exact fin s.heap s.drawn _ _ (fun oo1 oo2 e=>e) (.inl ⟨hb,rfl,rfl⟩)
end
namespace kA0
def S (A:Around) (s:Shared) (a:Addr) (I:Addr) (es:Array (Int×Value)) (ep:Nat) (m:Nat) (t:SetTable) (E:Value->Shared->Prop):Prop:=∀ {i:Nat} {first:Value} {cs:List Value} {c:Value} {Q:Option Value->Shared->Prop} (S:zG5 w s.heap a es ep t m) (hI:s.heap.get? I=some (zH7 first i a es.size ep)) (ht:Turn w s.heap a es ep m t cs i first) (hc:cs[i]?=some c) (hne:a≠I) (h:∀ h' first',Heap.SameBut I s.heap h'->h'.get? I=some (zH7 first' (i+1) a es.size ep)->Turn w h' a es ep m t cs (i+1) first'->Q (some c) { s with heap:=h' }),wpAny (model PG w) A (pyNext (.ref I)) Q E s
noncomputable def A:Around:=@pick Around nAr fun z=>∀ s a I es ep m t E,S z s a I es ep m t E
noncomputable def s:Shared:=@pick Shared nSh fun z=>∀ a I es ep m t E,S A z a I es ep m t E
noncomputable def a:Addr:=pick fun z=>∀ I es ep m t E,S A s z I es ep m t E
noncomputable def I:Addr:=pick fun z=>∀ es ep m t E,S A s a z es ep m t E
noncomputable def es:Array (Int×Value):=pick fun z=>∀ ep m t E,S A s a I z ep m t E
noncomputable def ep:Nat:=pick fun z=>∀ m t E,S A s a I es z m t E
noncomputable def m:Nat:=pick fun z=>∀ t E,S A s a I es ep z t E
noncomputable def t:SetTable:=pick fun z=>∀ E,S A s a I es ep m z E
noncomputable def E:Value->Shared->Prop:=pick fun z=>S A s a I es ep m t z
theorem core:S A s a I es ep m t E:=by
 intro i first cs c Q S hI ht hc hne h
 have hT:s.TypeIs (.ref I) "set_iterator":=⟨_,hI,rfl⟩
 have hlen:cs.length=es.size:=by rw [ht.perm.length_eq,zD,zG]
 have hi:i < es.size:=by rw [<-hlen];exact (zC.mp hc).1
 refine wpAny_bind (wpAny_attempt (wpAny_callSpecial?_slot (name:=zA "__next__") hT zD3 (wpAny_call_entry zD3 hT zJ2 ?_ (zK8 _))))
 refine wpAny_mono (Q:=fun fin s'=>∃ v,fin=.done (.ret v)/\Q (some v) s') ?_ (fun fin s' ⟨v,hv,hq⟩=>⟨v,hv,wpAny_pure hq⟩) fun oo1 oo2 x=>x
 show wpAny _ _ (fieldsOf (.ref I) >>= _) _ _ s
 refine wpAny_bind (wpAny_fieldsOf hI rfl ?_)
 show wpAny _ _ (setEntries a >>= _) _ _ s
 refine wpAny_bind (wpAny_bind (S.state (wpAny_pure ?_)))
 show wpAny _ _ (if ((es.size:Int) != (es.size:Int))=true then _ else _) _ _ s
 rw [if_neg (by simp)]
 have rest:∀ {s':Shared} {E':Value->Shared->Prop} (first':Value),(∀ h',Heap.SameBut I s.heap h'->Turn w h' a es ep m t cs (i+1) first')->Heap.SameBut I s.heap s'.heap->s'.heap.get? I=some (zH7 first' i a es.size ep)->s'.gens=s.gens->s'.drawn=s.drawn->s'.toks=s.toks->s'.os=s.os->
   wpAny (model PG w) A.in1 (do setField (.ref I) 1 (rawInt ((i:Int)+1));ret c) (fun fin s'=>∃ v,fin=.done (.ret v)/\Q (some v) s') E' s':=by
  intro s' E' first' hturn hs' hI' g1 g2 g3 g4
  obtain ⟨hh,g,dr,tk,os⟩:=s'
  simp only at g1 g2 g3 g4 hs' hI'
  subst g1 g2 g3 g4
  refine wpAny_bind (wpAny_setField_rec hI' (by simp) fun h' hh' hs''=>?_)
  have hI2:h'.get? I=some (zH7 first' (i+1) a es.size ep):=by rw [hh'];simp [rawInt]
  exact wpAny_pure ⟨_,rfl,h h' first' (hs'.trans hs'') hI2 (hturn _ (hs'.trans hs''))⟩
 have keepT:∀ {h':Heap},Heap.SameBut I s.heap h'->gQ s.heap h':=fun hs b vs n e=>(hs.2 b fun q=>by
  subst q
  have z:=congrArg (Option.map Obj.cls) (hI.symm.trans e)
  simp at z).trans e
 rcases ht with ⟨hb,rfl,rfl⟩ | ⟨hb,hd,rfl,rfl⟩ | ⟨ord,T,n,rfl,hT',hp,rfl⟩
 ·show wpAny _ _ (setNext a 0 i ep >>= _) _ _ s
  refine wpAny_bind (wpAny_bind (S.state ?_))
  refine wpAny_bind (wpAny_bind (wpAny_askSetting (wpAny_pure ?_)))
  show wpAny _ _ (if w.params.followText "set-order"=true then _ else _) _ _ _
  rw [if_pos hb]
  rw [if_neg (by simp)]
  refine wpAny_bind (S.walkT hb (wpAny_pure ?_))
  rw [zS] at hc
  rw [<-zW]
  cases hq:(pickOrder (w.params.setOrder a ep) es).toList[i]? with
  | none=>rw [hq] at hc;cases hc
  | some e=>
   rw [hq] at hc
   have hc:e.2=c:=Option.some.inj hc
   subst hc
   dsimp only [Option.map]
   show wpAny _ _ (setField (.ref I) 0 (rawInt 0) >>= _) _ _ s
   refine wpAny_bind (wpAny_setField_rec hI (by simp) fun h' hh' hs'=>?_)
   exact rest (s':={ s with heap:=h' }) (rawInt 0) (fun h'' oo1=>.inl ⟨hb,rfl,rfl⟩) hs' (by rw [hh'];simp [rawInt]) rfl rfl rfl rfl
 ·rw [zS,zW,jT hi] at hc
  have hc:es[i].2=c:=Option.some.inj hc
  subst hc
  obtain ⟨cur,hcur,hbelow⟩:∃ cur:Nat,(if i=0 then 0 else (plc m).getD (i - 1) 0+1)=cur/\SetTable.below (plc m) cur=i:=by
   refine ⟨_,rfl,?_⟩
   by_cases h0:i=0
   ·subst h0;exact jC6 ⟨m,S.tab.lt⟩
   ·rw [if_neg h0]
    have:=jI0 ⟨m,S.tab.lt⟩ ⟨i - 1,jY (qG i 1) (zO (Nat.lt_of_lt_of_eq hi S.size) (zB S.tab.few (by decide)))⟩ (by show i - 1 < cnt m;rw [<-S.size];exact jY (qG i 1) hi)
    dsimp only at this
    rw [this];exact xI (Nat.pos_of_ne_zero h0)
  rw [hcur]
  show wpAny _ _ (setNext a cur i ep >>= _) _ _ s
  refine wpAny_bind (wpAny_bind (S.state ?_))
  refine wpAny_bind (wpAny_bind (wpAny_askSetting (wpAny_pure ?_)))
  show wpAny _ _ (if w.params.followText "set-order"=true then _ else _) _ _ _
  rw [if_neg (by rw [hb];simp)]
  show wpAny _ _ (if (!t.plain && decide (es.size > 1))=true then _ else _) _ _ _
  rw [if_neg (by rw [hd];simp)]
  show wpAny _ _ ((if (!t.led && !es.isEmpty)=true then unsupported "set:maker-not-led" else pure ()) >>= _) _ _ _
  rw [S.led,hb]
  refine wpAny_bind (wpAny_ite_false rfl (wpAny_pure (wpAny_pure ?_)))
  rw [S.tab.place,hbelow,jT hi,jT (show i < (plc m).size from Nat.lt_of_lt_of_eq hi S.size)]
  have hg:(plc m)[i]'(show i < (plc m).size from Nat.lt_of_lt_of_eq hi S.size)=(plc m).getD i 0:=by
   rw [Array.getD_eq_getD_getElem?,jT];rfl
  rw [hg]
  refine wpAny_bind (wpAny_setField_rec hI (by simp) fun h' hh' hs'=>?_)
  exact rest (s':={ s with heap:=h' }) (rawInt (((plc m).getD i 0+1:Nat):Int)) (fun h'' oo1=>.inr (.inl ⟨hb,hd,by rw [if_neg (wC _),Nat.add_sub_cancel],rfl⟩)) hs' (by rw [hh'];simp [rawInt]) rfl rfl rfl rfl
 ·rw [zS] at hc
  cases hq:ord[i]? with
  | none=>rw [hq] at hc;cases hc
  | some k=>
   rw [hq] at hc
   have hk:k < es.size:=by
    have:=hp.mem_iff.mp (zI hq)
    simpa using this
   have hc:(es[k]?.map (·.2)).getD .none=c:=Option.some.inj hc
   rw [jT hk] at hc
   have hc:es[k].2=c:=hc
   subst hc
   show wpAny _ _ (seqItems? (.ref T) >>= _) _ _ s
   refine wpAny_bind (wpAny_seqItems hT' rfl ?_)
   show wpAny _ _ (match ((ord.map fun (k:Nat)=>rawInt (k:Int)).toArray)[i]? with | some (.int place _)=>_ | some _=>_ | none=>_) _ _ s
   rw [xS,zS,hq]
   show wpAny _ _ (setNextDrawn a k ep >>= _) _ _ s
   refine wpAny_bind (wpAny_bind (S.state ?_))
   dsimp only
   rw [if_neg (by simp),jT hk]
   refine wpAny_pure ?_
   exact rest (s':=s) (.ref T) (fun h' hs'=>.inr (.inr ⟨ord,T,n,rfl,keepT hs' _ _ _ hT',hp,rfl⟩)) (.refl ..) hI rfl rfl rfl rfl
theorem all:∀ A s a I es ep m t E,S A s a I es ep m t E:=@cst Around nAr (fun z=>∀ s a I es ep m t E,S z s a I es ep m t E) (@cst Shared nSh (fun z=>∀ a I es ep m t E,S A z a I es ep m t E) (cst (p:=fun z=>∀ I es ep m t E,S A s z I es ep m t E) (cst (p:=fun z=>∀ es ep m t E,S A s a z es ep m t E) (cst (p:=fun z=>∀ ep m t E,S A s a I z ep m t E) (cst (p:=fun z=>∀ m t E,S A s a I es z m t E) (cst (p:=fun z=>∀ t E,S A s a I es ep z t E) (cst (p:=fun z=>∀ E,S A s a I es ep m z E) (cst (p:=fun z=>S A s a I es ep m t z) core))))))))
end kA0
section
theorem next_set {A s a I es ep m t E}:kA0.S A s a I es ep m t E:=kA0.all A s a I es ep m t E
end
section
theorem jJ2 {A:Around} {s:Shared} {Q:Fin->Shared->Prop} {E:Value->Shared->Prop} (hh:A.handled=none)
  (h:∀ h' e,(∀ b o,s.heap.get? b=some o->h'.get? b=some o)->(∃ o,h'.get? e=some o/\o.cls=.type "StopIteration")->E (.ref e) { s with heap:=h' }) :
  wpAny (model PG w) A (do let __x <-newExc (.type "StopIteration") [];raiseNew __x) Q E s:=by
 refine wpAny_bind ?_
 refine wpAny_bind (wpAny_newObj_type ?_ (by size_fits))
 refine wpAny_bind (m:=firstArgMember _ _) (wpAny_of_eq (a:=Value.none) (by first | rfl | (simp only [firstArgMember];rfl)) ?_)
 refine wpAny_newObj_type ?_ (by size_fits)
 refine wpAny_bind (wpAny_handled ?_)
 rw [hh]
 refine wpAny_bind (wpAny_pure (wpAny_throw ?_))
 exact h _ _ (fun b o e=>zF _ (zF _ e)) ⟨_,zT _ rfl,rfl⟩
end
namespace kA1
def S (A:Around) (s:Shared) (a:Addr) (I:Addr) (es:Array (Int×Value)) (ep:Nat) (m:Nat) (t:SetTable) (E:Value->Shared->Prop):Prop:=∀ {i:Nat} {first:Value} {cs:List Value} {Q:Option Value->Shared->Prop} (hh:A.handled=none) (S:zG5 w s.heap a es ep t m) (hI:s.heap.get? I=some (zH7 first i a es.size ep)) (ht:Turn w s.heap a es ep m t cs i first) (hi:i=es.size) (hne:a≠I) (h:∀ h',Heap.ExtBut I s.heap h'->Q none { s with heap:=h' }),wpAny (model PG w) A (pyNext (.ref I)) Q E s
noncomputable def A:Around:=@pick Around nAr fun z=>∀ s a I es ep m t E,S z s a I es ep m t E
noncomputable def s:Shared:=@pick Shared nSh fun z=>∀ a I es ep m t E,S A z a I es ep m t E
noncomputable def a:Addr:=pick fun z=>∀ I es ep m t E,S A s z I es ep m t E
noncomputable def I:Addr:=pick fun z=>∀ es ep m t E,S A s a z es ep m t E
noncomputable def es:Array (Int×Value):=pick fun z=>∀ ep m t E,S A s a I z ep m t E
noncomputable def ep:Nat:=pick fun z=>∀ m t E,S A s a I es z m t E
noncomputable def m:Nat:=pick fun z=>∀ t E,S A s a I es ep z t E
noncomputable def t:SetTable:=pick fun z=>∀ E,S A s a I es ep m z E
noncomputable def E:Value->Shared->Prop:=pick fun z=>S A s a I es ep m t z
theorem core:S A s a I es ep m t E:=by
 intro i first cs Q hh S hI ht hi hne h
 have hT:s.TypeIs (.ref I) "set_iterator":=⟨_,hI,rfl⟩
 have hlen:cs.length=es.size:=by rw [ht.perm.length_eq,zD,zG]
 refine wpAny_bind (wpAny_attempt (wpAny_callSpecial?_slot (name:=zA "__next__") hT zD3 (wpAny_call_entry zD3 hT zJ2 ?_ (zK8 _))))
 show wpAny _ _ (fieldsOf (.ref I) >>= _) _ _ s
 refine wpAny_bind (wpAny_fieldsOf hI rfl ?_)
 show wpAny _ _ (setEntries a >>= _) _ _ s
 refine wpAny_bind (wpAny_bind (S.state (wpAny_pure ?_)))
 show wpAny _ _ (if ((es.size:Int) != (es.size:Int))=true then _ else _) _ _ s
 rw [if_neg (by simp)]
 have last:∀ {s':Shared} {Q':Fin->Shared->Prop},Heap.SameBut I s.heap s'.heap->s'.gens=s.gens->s'.drawn=s.drawn->s'.toks=s.toks->s'.os=s.os->
   wpAny (model PG w) A.in1 (do let __x <-newExc (.type "StopIteration") [];raiseNew __x) Q' (fun x=>wpAny (model PG w) A (do let __do_lift <-isInstance x (Value.type "StopIteration");if __do_lift=true then pure none else throw x) Q E) s':=by
  intro s' Q' hs' g1 g2 g3 g4
  obtain ⟨hp,g,dr,tk,os⟩:=s'
  simp only at g1 g2 g3 g4 hs'
  subst g1 g2 g3 g4
  refine jJ2 hh fun h' e hk ⟨o,ho,hc⟩=>?_
  refine wpAny_bind (wpAny_isInstance (T:="StopIteration") (b:=true) ⟨o,ho,hc⟩ isSubtype_stop ?_)
  exact wpAny_pure (h h' fun b o hb e=>hk b o ((hs'.2 b hb).trans e))
 rcases ht with ⟨hb,rfl,rfl⟩ | ⟨hb,hd,rfl,rfl⟩ | ⟨ord,T,n,rfl,hT',hp,rfl⟩
 ·show wpAny _ _ (setNext a 0 i ep >>= _) _ _ s
  refine wpAny_bind (wpAny_bind (S.state ?_))
  refine wpAny_bind (wpAny_bind (wpAny_askSetting (wpAny_pure ?_)))
  show wpAny _ _ (if w.params.followText "set-order"=true then _ else _) _ _ _
  rw [if_pos hb]
  rw [if_neg (by simp)]
  refine wpAny_bind (S.walkT hb (wpAny_pure ?_))
  rw [yT (by rw [<-zG,(jC9 _ _).length_eq,zG];lia)]
  dsimp only [Option.map]
  show wpAny _ _ (setField (.ref I) 2 .none >>= _) _ _ s
  refine wpAny_bind (wpAny_setField_rec hI (by simp) fun h' hh' hs'=>?_)
  exact last (s':={ s with heap:=h' }) hs' rfl rfl rfl rfl
 ·obtain ⟨cur,hcur,hbelow⟩:∃ cur:Nat,(if i=0 then 0 else (plc m).getD (i - 1) 0+1)=cur/\SetTable.below (plc m) cur=i:=by
   refine ⟨_,rfl,?_⟩
   by_cases h0:i=0
   ·subst h0;exact jC6 ⟨m,S.tab.lt⟩
   ·rw [if_neg h0]
    have:=jI0 ⟨m,S.tab.lt⟩ ⟨i - 1,by have:=S.tab.few;have:=S.size;lia⟩ (by show i - 1 < cnt m;rw [<-S.size];lia)
    rw [this];lia
  rw [hcur]
  show wpAny _ _ (setNext a cur i ep >>= _) _ _ s
  refine wpAny_bind (wpAny_bind (S.state ?_))
  refine wpAny_bind (wpAny_bind (wpAny_askSetting (wpAny_pure ?_)))
  show wpAny _ _ (if w.params.followText "set-order"=true then _ else _) _ _ _
  rw [if_neg (by rw [hb];simp)]
  show wpAny _ _ (if (!t.plain && decide (es.size > 1))=true then _ else _) _ _ _
  rw [if_neg (by rw [hd];simp)]
  show wpAny _ _ ((if (!t.led && !es.isEmpty)=true then unsupported "set:maker-not-led" else pure ()) >>= _) _ _ _
  rw [S.led,hb]
  refine wpAny_bind (wpAny_ite_false rfl (wpAny_pure (wpAny_pure ?_)))
  rw [S.tab.place,hbelow,yT (show es.size<=i by lia)]
  refine wpAny_bind (wpAny_setField_rec hI (by simp) fun h' hh' hs'=>?_)
  exact last (s':={ s with heap:=h' }) hs' rfl rfl rfl rfl
 ·show wpAny _ _ (seqItems? (.ref T) >>= _) _ _ s
  refine wpAny_bind (wpAny_seqItems hT' rfl ?_)
  show wpAny _ _ (match ((ord.map fun (k:Nat)=>rawInt (k:Int)).toArray)[i]? with | some (.int place _)=>_ | some _=>_ | none=>_) _ _ s
  rw [xS,zS,vL (by rw [hp.length_eq,qR];lia)]
  dsimp only [Option.map]
  refine wpAny_bind (wpAny_setField_rec hI (by simp) fun h' hh' hs'=>?_)
  refine wpAny_bind (wpAny_setField_rec (s:={ s with heap:=h' }) (cls:=.type "set_iterator") hh' (by simp) fun h'' hh'' hs''=>?_)
  exact last (s':={ s with heap:=h'' }) (hs'.trans hs'') rfl rfl rfl rfl
theorem all:∀ A s a I es ep m t E,S A s a I es ep m t E:=@cst Around nAr (fun z=>∀ s a I es ep m t E,S z s a I es ep m t E) (@cst Shared nSh (fun z=>∀ a I es ep m t E,S A z a I es ep m t E) (cst (p:=fun z=>∀ I es ep m t E,S A s z I es ep m t E) (cst (p:=fun z=>∀ es ep m t E,S A s a z es ep m t E) (cst (p:=fun z=>∀ ep m t E,S A s a I z ep m t E) (cst (p:=fun z=>∀ m t E,S A s a I es z m t E) (cst (p:=fun z=>∀ t E,S A s a I es ep z t E) (cst (p:=fun z=>∀ E,S A s a I es ep m z E) (cst (p:=fun z=>S A s a I es ep m t z) core))))))))
end kA1
section
theorem jF8 {A s a I es ep m t E}:kA1.S A s a I es ep m t E:=kA1.all A s a I es ep m t E
end
theorem zL5:entryFor table "list.extend.loop"=some Builtin.«list.extend.loop»:=entryFor_of_tree (by kernel_rfl)
theorem zE8:plainId "list.extend.loop"=true:=by decide +kernel
section
theorem zG5.keep {h h':Heap} {a:Addr} {es:Array (Int×Value)} {ep m:Nat} {t:SetTable} (S:zG5 w h a es ep t m) (hk:∀ o,h.get? a=some o->h'.get? a=some o):zG5 w h' a es ep t m:=⟨hk _ S.at_,S.tab,S.size,S.led⟩
theorem Turn.keep {h h':Heap} {a:Addr} {es:Array (Int×Value)} {ep m i:Nat} {t:SetTable} {cs:List Value} {first:Value} (x:Turn w h a es ep m t cs i first) (tk:gQ h h'):Turn w h' a es ep m t cs i first:=by
 rcases x with x | x | ⟨ord,T,n,h1,h2,r⟩
 ·exact .inl x
 ·exact .inr (.inl x)
 ·exact .inr (.inr ⟨ord,T,n,h1,tk _ _ _ h2,r⟩)
end
namespace kB3
def S (a:Addr) (I:Addr) (L:Addr) (es:Array (Int×Value)) (ep:Nat) (m:Nat) (t:SetTable) (cs:List Value):Prop:=∀ (hne:a≠I) (haL:a≠L) (hIL:I≠L) (hlen:cs.length=es.size),∀ (n i:Nat) (A:Around) (R:Result->Shared->Prop) (s:Shared) (first:Value) (k:Nat),cs.length - i=n->i<=cs.length->A.handled=none->
  zG5 w s.heap a es ep t m->s.heap.get? I=some (zH7 first i a es.size ep)->Turn w s.heap a es ep m t cs i first->s.heap.get? L=some (seqObj "list" (cs.take i).toArray k)->
  (∀ h' k',(∀ b o,b≠I->b≠L->s.heap.get? b=some o->h'.get? b=some o)->s.heap.objs.size<=h'.objs.size->h'.get? L=some (seqObj "list" cs.toArray k')->R (.ok (.ret (.ref L))) { s with heap:=h' })->
  codeAny (model PG w) A (.builtin "list.extend.loop" ⟨[.ref L,.ref I,.ref L],[]⟩) R s
noncomputable def a:Addr:=pick fun z=>∀ I L es ep m t cs,S z I L es ep m t cs
noncomputable def I:Addr:=pick fun z=>∀ L es ep m t cs,S a z L es ep m t cs
noncomputable def L:Addr:=pick fun z=>∀ es ep m t cs,S a I z es ep m t cs
noncomputable def es:Array (Int×Value):=pick fun z=>∀ ep m t cs,S a I L z ep m t cs
noncomputable def ep:Nat:=pick fun z=>∀ m t cs,S a I L es z m t cs
noncomputable def m:Nat:=pick fun z=>∀ t cs,S a I L es ep z t cs
noncomputable def t:SetTable:=pick fun z=>∀ cs,S a I L es ep m z cs
noncomputable def cs:List Value:=pick fun z=>S a I L es ep m t z
theorem core:S a I L es ep m t cs:=by
 intro hne haL hIL hlen
 intro n
 induction n with
 | zero=>
  intro i A R s first k hn hi hh S hI ht hL hR
  have hin:=at_end hi hn
  subst hin
  refine codeAny_builtin zL5 ?_
  rw [yA zE8 _]
  show wpAny _ A.in1 (pyNext (.ref I) >>= _) _ _ s
  refine wpAny_bind (zB7 (jF8 (A:=A.in1) hh S hI ht hlen hne fun h' he hz=>?_))
  show wpAny _ A.in1 (ret (.ref L)) _ _ _
  refine wpAny_pure (hR h' k (fun b o h1 oo1 e=>he b o h1 e) hz ?_)
  rw [List.take_length] at hL
  exact he L _ (fun q=>hIL q.symm) hL
 | succ n ih=>
  intro i A R s first k hn hi hh S hI ht hL hR
  have hlt:=jO5 hn
  refine codeAny_builtin zL5 ?_
  rw [yA zE8 _]
  show wpAny _ A.in1 (pyNext (.ref I) >>= _) _ _ s
  refine wpAny_bind (next_set S hI ht (zQ hlt) hne fun h' first' hs' hI' ht'=>?_)
  have hL':h'.get? L=some (seqObj "list" (cs.take i).toArray k):=(hs'.2 L (fun q=>hIL q.symm)).trans hL
  have hfew:=S.tab.few
  have hsz:=S.size
  refine wpAny_bind (listUpdate_at hL' rfl ?_ (by rw [qT,wW,sizeLine_eq];lia) (by simp only [Array.size_push,qT,wW];rw [sizeLine_eq];lia))
  have hL'':=get?_update_seq hL' (·.push cs[i])
  have hsb:Heap.SameBut L h' (h'.update L (Obj.mapSeq (·.push cs[i]))):=Heap.SameBut.update ..
  have e:((cs.take i).toArray.push cs[i])=(cs.take (i+1)).toArray:=by
   apply Array.toList_inj.mp
   rw [yS,jJ,zQ hlt];rfl
  rw [e] at hL''
  have tk:gQ h' (h'.update L (Obj.mapSeq (·.push cs[i]))):=fun b vs q e=>(hsb.2 b fun z=>by
   subst z
   have z:=congrArg (Option.map Obj.cls) (hL'.symm.trans e)
   simp at z).trans e
  refine wpAny_pure ⟨plainId_quiet zE8 _,ih (i+1) A R { s with heap:=h'.update L (Obj.mapSeq (·.push cs[i])) } first' _ (left1 hn) hlt hh ((S.keep fun o e=>(hs'.2 a hne).trans e).keep fun o e=>(hsb.2 a haL).trans e) ((hsb.2 I hIL).trans hI') (ht'.keep tk) hL'' fun h'' k' hk hz hLf=>?_⟩
  refine hR h'' k' (fun b o h1 h2 e=>hk b o h1 h2 ((hsb.2 b h2).trans ((hs'.2 b h1).trans e))) ?_ hLf
  have e1:(h'.update L (Obj.mapSeq (·.push cs[i]))).objs.size=s.heap.objs.size:=hsb.1.trans hs'.1
  rw [<-e1];exact hz
theorem all:∀ a I L es ep m t cs,S a I L es ep m t cs:=cst (p:=fun z=>∀ I L es ep m t cs,S z I L es ep m t cs) (cst (p:=fun z=>∀ L es ep m t cs,S a z L es ep m t cs) (cst (p:=fun z=>∀ es ep m t cs,S a I z es ep m t cs) (cst (p:=fun z=>∀ ep m t cs,S a I L z ep m t cs) (cst (p:=fun z=>∀ m t cs,S a I L es z m t cs) (cst (p:=fun z=>∀ t cs,S a I L es ep z t cs) (cst (p:=fun z=>∀ cs,S a I L es ep m z cs) (cst (p:=fun z=>S a I L es ep m t z) core)))))))
end kB3
section
theorem ext_loop {a I L es ep m t cs}:kB3.S a I L es ep m t cs:=kB3.all a I L es ep m t cs
theorem jE9:typeLookup (.type "set") "__len__"=pure (some (.builtin "set.__len__")):=by rw [typeLookup_type,builtinLookup_eq_fast];kernel_rfl
theorem zZ7:splitId "set.__len__"=some ("set","__len__"):=by decide +kernel
end
namespace kB2
def S (A:Around) (s:Shared) (a:Addr) (Q:Bool->Shared->Prop) (E:Value->Shared->Prop):Prop:=∀ (hT:s.TypeIs (.ref a) "set") (h:Q false s),wpAny (model PG w) A (Builtin.List.listLengthHint (.ref a)) Q E s
noncomputable def A:Around:=@pick Around nAr fun z=>∀ s a Q E,S z s a Q E
noncomputable def s:Shared:=@pick Shared nSh fun z=>∀ a Q E,S A z a Q E
noncomputable def a:Addr:=pick fun z=>∀ Q E,S A s z Q E
noncomputable def Q:Bool->Shared->Prop:=pick fun z=>∀ E,S A s a z E
noncomputable def E:Value->Shared->Prop:=pick fun z=>S A s a Q z
theorem core:S A s a Q E:=by
 intro hT h
 refine wpAny_bind (wpAny_specialOf hT jE9 ?_)
 dsimp only
 rw [zZ7]
 refine wpAny_bind (wpAny_isInstance hT sub_set_self ?_)
 refine wpAny_ite_false rfl ?_
 rw [if_pos (by decide +kernel)]
 refine wpAny_bind (wpAny_typeOf hT ?_)
 exact wpAny_pure h
theorem all:∀ A s a Q E,S A s a Q E:=@cst Around nAr (fun z=>∀ s a Q E,S z s a Q E) (@cst Shared nSh (fun z=>∀ a Q E,S A z a Q E) (cst (p:=fun z=>∀ Q E,S A s z Q E) (cst (p:=fun z=>∀ E,S A s a z E) (cst (p:=fun z=>S A s a Q z) core))))
end kB2
section
theorem hint_set {A s a Q E}:kB2.S A s a Q E:=kB2.all A s a Q E
end
namespace kB1
def S (A:Around) (s:Shared) (a:Addr) (es:Array (Int×Value)) (ep:Nat) (m:Nat) (t:SetTable) (Q:List Value->Shared->Prop) (E:Value->Shared->Prop):Prop:=∀ (hh:A.handled=none) (S:zG5 w s.heap a es ep t m) (h:∀ h' dr cs,(∀ b o,s.heap.get? b=some o->h'.get? b=some o)->s.heap.objs.size<=h'.objs.size->cs.Perm (es.toList.map (·.2))->Q cs { s with heap:=h',drawn:=dr }),wpAny (model PG w) A (collect (.ref a)) Q E s
noncomputable def A:Around:=@pick Around nAr fun z=>∀ s a es ep m t Q E,S z s a es ep m t Q E
noncomputable def s:Shared:=@pick Shared nSh fun z=>∀ a es ep m t Q E,S A z a es ep m t Q E
noncomputable def a:Addr:=pick fun z=>∀ es ep m t Q E,S A s z es ep m t Q E
noncomputable def es:Array (Int×Value):=pick fun z=>∀ ep m t Q E,S A s a z ep m t Q E
noncomputable def ep:Nat:=pick fun z=>∀ m t Q E,S A s a es z m t Q E
noncomputable def m:Nat:=pick fun z=>∀ t Q E,S A s a es ep z t Q E
noncomputable def t:SetTable:=pick fun z=>∀ Q E,S A s a es ep m z Q E
noncomputable def Q:List Value->Shared->Prop:=pick fun z=>∀ E,S A s a es ep m t z E
noncomputable def E:Value->Shared->Prop:=pick fun z=>S A s a es ep m t Q z
theorem core:S A s a es ep m t Q E:=by
 intro hh S h
 have hal:a < s.heap.objs.size:=jC S.at_
 refine wpAny_bind (wpAny_runValue (codeAny_builtin PySem.F.entry_proto_collect ?_))
 rw [yA PySem.F.plain_proto_collect _]
 show wpAny _ A.in1 (newList [] >>= fun l=>again (.builtin "list.__iadd__" ⟨[l,.ref a],[]⟩)) _ _ s
 refine wpAny_bind (wpAny_newList (wpAny_pure ⟨plainId_quiet PySem.F.plain_list_iadd _,codeAny_builtin PySem.F.entry_list_iadd ?_⟩))
 rw [yA PySem.F.plain_list_iadd _]
 have hL0:(s.heap.push (seqObj "list" #[] 0)).get? s.heap.objs.size=some (seqObj "list" #[] 0):=zT _ rfl
 have S1:zG5 w (s.heap.push (seqObj "list" #[] 0)) a es ep t m:=S.keep fun o e=>zF _ e
 have hT1:Shared.TypeIs { s with heap:=s.heap.push (seqObj "list" #[] 0) } (.ref a) "set":=⟨_,S1.at_,rfl⟩
 show wpAny _ A.in1 (Builtin.List.listExtendWith (.ref s.heap.objs.size) (.ref a) (.ref s.heap.objs.size)) _ _ { s with heap:=s.heap.push (seqObj "list" #[] 0) }
 refine wpAny_bind (wpAny_typeOf hT1 ?_)
 have hsr:Builtin.List.listSameRef (.ref s.heap.objs.size) (.ref a)=false:=by
  unfold Builtin.List.listSameRef
  rw [beq_eq_false_iff_ne]
  exact qF hal
 rw [hsr]
 rw [if_neg (by decide)]
 refine wpAny_bind (iter_set (s:={ s with heap:=s.heap.push (seqObj "list" #[] 0) }) S1 fun h₂ dr first cs hk₂ ht₂=>?_)
 obtain ⟨I,hI⟩:∃ I,h₂.objs.size=I:=⟨_,rfl⟩
 have hI0:(h₂.push (zH7 first 0 a es.size ep)).get? I=some (zH7 first 0 a es.size ep):=by rw [<-hI];exact zT _ rfl
 have hL2:h₂.get? s.heap.objs.size=some (seqObj "list" #[] 0):=hk₂ _ _ hL0
 have hLI:s.heap.objs.size < I:=by rw [<-hI];exact jC hL2
 rw [hI]
 refine wpAny_bind (wpAny_holding (hint_set (s:={ s with heap:=h₂.push (zH7 first 0 a es.size ep),drawn:=dr }) ⟨_,zF _ (hk₂ _ _ S1.at_),rfl⟩ ?_))
 rw [if_pos (by decide +kernel)]
 refine wpAny_bind (wpAny_rule ?_)
 unfold Builtin.List.listTouch
 have hL3:(h₂.push (zH7 first 0 a es.size ep)).get? s.heap.objs.size=some (seqObj "list" #[] 0):=zF _ hL2
 refine wpAny_bind (wpAny_bind (listUpdate_at hL3 rfl ?_ (jO _) (by simp [sizeLine_eq])))
 have hL4:=get?_update_seq hL3 (·.push Value.none)
 refine listUpdate_at hL4 rfl ?_ (by simp [sizeLine_eq]) (by simp)
 have hL5:=get?_update_seq hL4 (·.pop)
 generalize hH:((h₂.push (zH7 first 0 a es.size ep)).update s.heap.objs.size (Obj.mapSeq (·.push Value.none))).update s.heap.objs.size (Obj.mapSeq (·.pop))=H at hL5 ⊢
 have hsb:Heap.SameBut s.heap.objs.size (h₂.push (zH7 first 0 a es.size ep)) H:=by rw [<-hH];exact (Heap.SameBut.update ..).trans (Heap.SameBut.update ..)
 have hS5:zG5 w H a es ep t m:=((S1.keep fun o e=>hk₂ _ _ e).keep fun o e=>zF _ e).keep fun o e=>(hsb.2 a (jP hal)).trans e
 have hI5:H.get? I=some (zH7 first 0 a es.size ep):=(hsb.2 I (qF hLI)).trans hI0
 have tk:gQ h₂ H:=fun b vs q e=>(hsb.2 b fun z=>by
  subst z
  have z:=congrArg (Option.map Obj.cls) (hL2.symm.trans e)
  simp at z).trans (zF _ e)
 have ht5:=ht₂.keep tk
 have hlen:cs.length=es.size:=by rw [ht₂.perm.length_eq,zD,zG]
 obtain ⟨k6,hL6⟩:∃ k6,H.get? s.heap.objs.size=some (seqObj "list" (cs.take 0).toArray k6):=⟨_,by rw [hL5];rfl⟩
 show wpAny _ _ (again (.builtin "list.extend.loop" ⟨[.ref s.heap.objs.size,.ref I,.ref s.heap.objs.size],[]⟩)) _ _ _
 refine wpAny_pure ⟨plainId_quiet zE8 _,ext_loop (a:=a) (I:=I) (L:=s.heap.objs.size) (cs:=cs) (jP (wY hal hLI)) (jP hal) (qF hLI) hlen cs.length 0 A _ { s with heap:=H,drawn:=dr } first _ (by lia) (jO _) hh hS5 hI5 ht5 hL6 fun h' k' hk hz hLf=>?_⟩
 show wpAny (model PG w) A (do
   let o <-load s.heap.objs.size
   match o.data with
   | .seq xs _=>pure xs.toList
   | _=>unsupported "internal:collect") Q E { s with heap:=h',drawn:=dr }
 refine wpAny_bind (wpAny_load hLf ?_)
 refine wpAny_pure (h h' dr cs (fun b o e=>?_) ?_ ht₂.perm)
 ·have hb:=Mine.ltA e
  exact hk b o (neA (by lia)) (neA (by lia)) ((hsb.2 b (neA (by lia))).trans (zF _ (hk₂ b o (zF _ e))))
 ·have h1:H.objs.size=(h₂.push (zH7 first 0 a es.size ep)).objs.size:=hsb.1
  have h2:H.objs.size<=h'.objs.size:=hz
  rw [h1,qA,hI] at h2
  lia
theorem all:∀ A s a es ep m t Q E,S A s a es ep m t Q E:=@cst Around nAr (fun z=>∀ s a es ep m t Q E,S z s a es ep m t Q E) (@cst Shared nSh (fun z=>∀ a es ep m t Q E,S A z a es ep m t Q E) (cst (p:=fun z=>∀ es ep m t Q E,S A s z es ep m t Q E) (cst (p:=fun z=>∀ ep m t Q E,S A s a z ep m t Q E) (cst (p:=fun z=>∀ m t Q E,S A s a es z m t Q E) (cst (p:=fun z=>∀ t Q E,S A s a es ep z t Q E) (cst (p:=fun z=>∀ Q E,S A s a es ep m z Q E) (cst (p:=fun z=>∀ E,S A s a es ep m t z E) (cst (p:=fun z=>S A s a es ep m t Q z) core))))))))
end kB1
section
theorem zS8 {A s a es ep m t Q E}:kB1.S A s a es ep m t Q E:=kB1.all A s a es ep m t Q E
end
structure Cmps (M:Model) (A:Around) (s:Shared) (kd:SortKind) (κ:PyProof.Rows.KeyKind) (a₀:Array Keyed):Prop where
 key:∀ p∈a₀.toList,∃ k,κ.keyOf p.1=some k
 lt:∀ (p q:Keyed) (a b:κ.α) (E:Value->Shared->Prop) (Q:Bool->Shared->Prop),p∈a₀.toList->q∈a₀.toList->κ.keyOf p.1=some a->κ.keyOf q.1=some b->Q (κ.blt a b) s->wpAny M A (keyLt' kd p.1 q.1) Q E s
structure SB (kd:SortKind) (a₀:Array Keyed) (st:SortSt):Prop where
 perm:(arrOf st).Perm a₀
 kind:kindOf st=kd
 failed:failedOf st=none
 pend:pendingOf st=#[]
section
variable {A:Around} {E:Value->Shared->Prop} {s:Shared} {kd:SortKind} {κ:PyProof.Rows.KeyKind} {a₀:Array Keyed}
theorem SB.size {st:SortSt} (B:SB kd a₀ st):(arrOf st).size=a₀.size:=B.perm.size_eq
theorem SB.turn {st:SortSt} (B:SB kd a₀ st) {xs:Array Keyed} (hp:xs.Perm (arrOf st)):SB kd a₀ (setArr st xs):=⟨hp.trans B.perm,B.kind,B.failed,B.pend⟩
theorem zW5 (C:Cmps (model PG w) A s kd κ a₀) {st:SortSt} {i j:Nat} {Q:Option Bool->SortSt->Prop} (B:SB kd a₀ st) (hi:i < a₀.size) (hj:j < a₀.size) (h:Q (some (κ.blt (PyProof.Rows.KK κ (arrOf st) i) (PyProof.Rows.KK κ (arrOf st) j))) st) :
  wpS (model PG w) A E s (ltAt' i j) Q st:=by
 have get:∀ {i:Nat},i < a₀.size->∃ p k,(arrOf st)[i]?=some p/\p∈a₀.toList/\κ.keyOf p.1=some k/\PyProof.Rows.KK κ (arrOf st) i=k:=fun {i} hi=>by
  have hi':i < (arrOf st).size:=by rw [B.size];exact hi
  have hm:(arrOf st)[i]∈a₀.toList:=(wQ.mp B.perm).mem_iff.mp (by simp)
  obtain ⟨k,hk⟩:=C.key _ hm
  exact ⟨(arrOf st)[i],k,getElem?_pos _ i hi',hm,hk,by unfold PyProof.Rows.KK;rw [getElem?_pos _ i hi'];simp [hk]⟩
 obtain ⟨p,a,e1,m1,k1,q1⟩:=get hi
 obtain ⟨q,b,e2,m2,k2,q2⟩:=get hj
 rw [q1,q2] at h
 rw [ltAt'_eq]
 refine wpS_bind (wpS_get ?_)
 show wpS _ _ _ _ (do let x <-elem' (arrOf st) i;let y <-elem' (arrOf st) j;lt' x y) Q st
 rw [elem'_eq,elem'_eq,e1,e2]
 refine wpS_bind (wpS_pure (wpS_bind (wpS_pure ?_)))
 rw [lt'_eq]
 refine wpS_bind (wpS_get ?_)
 rw [B.kind]
 exact wpS_bind (wpS_lift (wpAny_attempt (C.lt p q a b _ _ m1 m2 k1 k2 ⟨rfl,wpS_pure h⟩)))
theorem sT {σ α:Type} {M:Model} {c:Prop} [Decidable c] {a b:StateT σ Sem α} {Q:α->σ->Prop} {st:σ} (hc:decide c=true) (h:wpS M A E s a Q st):wpS M A E s (if c then a else b) Q st:=by rw [if_pos (of_decide_eq_true hc)];exact h
theorem sF {σ α:Type} {M:Model} {c:Prop} [Decidable c] {a b:StateT σ Sem α} {Q:α->σ->Prop} {st:σ} (hc:decide c=false) (h:wpS M A E s b Q st):wpS M A E s (if c then a else b) Q st:=by rw [if_neg (of_decide_eq_false hc)];exact h
noncomputable abbrev UpTo (κ:PyProof.Rows.KeyKind) (st:SortSt) (n:Nat):Prop:=SortedToK κ (arrOf st) n
noncomputable abbrev Down (κ:PyProof.Rows.KeyKind) (st:SortSt) (n:Nat):Prop:=NonIncK κ (arrOf st) n
theorem asc (C:Cmps (model PG w) A s kd κ a₀) {st:SortSt} {a n:Nat} {Q:AscSt->SortSt->Prop} (hn:n<=a₀.size) (ha:1<=a) (han:a<=n) (B:SB kd a₀ st) (hs:UpTo κ st a)
  (h:∀ k,a<=k->k<=n->UpTo κ st k->(k=n∨κ.klt (PyProof.Rows.KK κ (arrOf st) k) (PyProof.Rows.KK κ (arrOf st) (k - 1)))->Q (none,k) st):wpS (model PG w) A E s (ascLoop a n) Q st:=by
 refine wpS_forRange (I:=fun x c st'=>st'=st/\c=(none,x)/\UpTo κ st x) (fun x c st' hax hxn ⟨e1,e2,hx⟩=>?_) (fun c st' ⟨e1,e2,hx⟩=>?_) ⟨rfl,rfl,hs⟩
 ·subst e1 e2
  have hxs:=zO hxn hn
  refine wpS_bind (zW5 C B hxs (jY (qG _ _) hxs) ?_)
  cases hl:κ.blt (PyProof.Rows.KK κ (arrOf st') x) (PyProof.Rows.KK κ (arrOf st') (x - 1)) with
  | true=>
   refine sT rfl ?_
   exact wpS_pure (h x hax (qI hxn) hx (.inr hl))
  | false=>
   refine sF rfl ?_
   refine wpS_pure ⟨rfl,rfl,fun i j hij hj=>?_⟩
   rcases Nat.lt_or_ge j x with q | q
   ·exact hx i j hij q
   ·obtain rfl:j=x:=yO (jR hj) q
    rcases xL hij with q' | q'
    ·subst q';exact vH _
    ·exact xV (hx i (j - 1) (qU q') (wB (qF (zO ha hax)))) hl
 ·subst e1 e2
  rw [Nat.max_eq_right han] at hx ⊢
  exact h n han (zK _) hx (.inl rfl)
theorem one_up (xs:Array Keyed):SortedToK κ xs 1:=fun i j hij hj=>by
 obtain rfl:i=j:=(kZ.mp (jY hij hj)).trans (kZ.mp hj).symm
 exact vH _
theorem half_le {l r:Nat} (h:¬ l ≥ r):l<=(l+r) / 2/\(l+r) / 2 < r:=
 have h:=Nat.lt_of_not_ge h
 ⟨(Nat.le_div_iff_mul_le (by decide)).mpr (by rw [Nat.mul_two];exact jZ (qI h) l),(Nat.div_lt_iff_lt_mul (by decide)).mpr (by rw [Nat.mul_two];exact Nat.add_lt_add_right h r)⟩
theorem ins_le {K:Nat->κ.α} {l k i j:Nat} (hlk:l<=k) (hlo:∀ i,i < l->κ.kle (K i) (K k)) (hhi:∀ i,l<=i->i < k->κ.klt (K k) (K i)) (hk:∀ i j,i<=j->j < k->κ.kle (K i) (K j)) (hij:i<=j) (hj:j<=k) :
  κ.kle (if i=l then K k else if l < i/\i<=k then K (i - 1) else K i) (if j=l then K k else if l < j/\j<=k then K (j - 1) else K j):=by
 rcases Nat.lt_trichotomy i l with hi | rfl | hi
 ·rw [if_neg (jP hi),if_neg fun q=>Nat.lt_asymm hi q.1]
  rcases Nat.lt_trichotomy j l with h | rfl | h
  ·rw [if_neg (jP h),if_neg fun q=>Nat.lt_asymm h q.1];exact hk i j hij (zO h hlk)
  ·rw [if_pos rfl];exact hlo i hi
  ·rw [if_neg (qF h),if_pos ⟨h,hj⟩];exact hk i (j - 1) (qU (wY hi h)) (zO (xX h) hj)
 ·rw [if_pos rfl]
  rcases xL hij with rfl | h
  ·rw [if_pos rfl];exact vH _
  ·rw [if_neg (qF h),if_pos ⟨h,hj⟩];exact xP (hhi (j - 1) (qU h) (zO (xX h) hj))
 ·have h:=zO hi hij
  rw [if_neg (qF hi),if_pos ⟨hi,zB hij hj⟩,if_neg (qF h),if_pos ⟨h,hj⟩]
  exact hk (i - 1) (j - 1) (Nat.sub_le_sub_right hij 1) (zO (xX h) hj)
inductive BI (κ:PyProof.Rows.KeyKind) (st':SortSt) (k:Nat) (x:Nat) (c:Option Bool×Nat×Nat) (st'':SortSt):Prop
 | mk (l r:Nat):st''=st'->c=(none,l,r)->l<=r->r<=k->r+x<=k+l->(∀ i,i < l->κ.kle (PyProof.Rows.KK κ (arrOf st') i) (PyProof.Rows.KK κ (arrOf st') k))->(∀ i,r<=i->i < k->κ.klt (PyProof.Rows.KK κ (arrOf st') k) (PyProof.Rows.KK κ (arrOf st') i))->BI κ st' k x c st''
inductive BE (κ:PyProof.Rows.KeyKind) (st':SortSt) (k:Nat) (c:Option Bool×Nat×Nat) (st'':SortSt):Prop
 | mk (l r:Nat):st''=st'->c=(none,l,r)->l<=k->(∀ i,i < l->κ.kle (PyProof.Rows.KK κ (arrOf st') i) (PyProof.Rows.KK κ (arrOf st') k))->(∀ i,l<=i->i < k->κ.klt (PyProof.Rows.KK κ (arrOf st') k) (PyProof.Rows.KK κ (arrOf st') i))->BE κ st' k c st''
theorem insertion (C:Cmps (model PG w) A s kd κ a₀) {st:SortSt} {n ok:Nat} {Q:Bool->SortSt->Prop} (hn:n<=a₀.size) (hok:1<=ok) (hokn:ok<=n) (B:SB kd a₀ st) (hs:UpTo κ st ok) (h:∀ st',SB kd a₀ st'->UpTo κ st' n->Q true st') :
  wpS (model PG w) A E s (binarySort' 0 n ok) Q st:=by
 rw [binarySort'_eq]
 refine wpS_bind (wpS_mono (Q:=fun c st'=>c=(none,())/\SB kd a₀ st'/\UpTo κ st' n) (wpS_forRange (I:=fun k c st'=>c=(none,())/\SB kd a₀ st'/\UpTo κ st' k) (fun k c st' hak hkn ⟨hc,B',hk⟩=>?_) (fun c st' ⟨hc,B',hk⟩=>⟨hc,B',by rwa [Nat.max_eq_left hok,Nat.max_eq_right hokn] at hk⟩) ⟨rfl,B,by rwa [Nat.max_eq_left hok]⟩) fun c st' ⟨hc,B',hk⟩=>?_)
 ·subst hc
  exact wpS_pure (h st' B' hk)
 ·subst hc
  have hkz:k < a₀.size:=zO hkn hn
  refine wpS_bind (wpS_mono (Q:=BE κ st' k)
   (wpS_forRange (I:=BI κ st' k) (fun x c st'' _ hxk ⟨l,r,e1,e2,hlr,hrk,hm,hlo,hhi⟩=>?_) (fun c st'' ⟨l,r,e1,e2,hlr,hrk,hm,hlo,hhi⟩=>⟨l,r,e1,e2,zB hlr hrk,hlo,fun i h1 h2=>hhi i (zB (Nat.le_of_add_le_add_right (qH k l ▸ wZ k ▸ hm)) h1) h2⟩)
    ⟨0,k,rfl,rfl,jO _,zK _,zK _,fun i hi=>absurd hi (wI _),fun i h1 h2=>absurd h2 (xM.mpr h1)⟩) fun c st'' ⟨l,r,e1,e2,hlk,hlo,hhi⟩=>?_)
  ·subst e1 e2
   dsimp only
   by_cases hge:l ≥ r
   ·rw [if_pos hge]
    exact wpS_pure ⟨l,r,rfl,rfl,zB hlr hrk,hlo,fun i h1 h2=>hhi i (zB hge h1) h2⟩
   ·rw [if_neg hge]
    obtain ⟨m1,m2⟩:=half_le hge
    have hmk:=zO m2 hrk
    rw [qK,qK]
    refine wpS_bind (zW5 C B' hkz (wY hmk hkz) ?_)
    cases hl:κ.blt (PyProof.Rows.KK κ (arrOf st'') k) (PyProof.Rows.KK κ (arrOf st'') ((l+r) / 2)) with
    | true=>
     refine sT rfl ?_
     exact wpS_pure ⟨l,_,rfl,rfl,m1,qI hmk,zB (Nat.add_lt_add_right m2 x) hm,hlo,fun i h1 h2=>KeyOrd.klt_of_klt_of_kle hl (hk _ _ h1 h2)⟩
    | false=>
     refine sF rfl ?_
     exact wpS_pure ⟨_,r,rfl,rfl,m2,hrk,yQ (zB hm (jZ m1 k)),fun i h1=>xV (hk i ((l+r) / 2) (jR h1) hmk) hl,hhi⟩
  ·subst e1 e2
   show wpS _ _ _ _ (do moveDown' (0+k) (0+l);pure (ForInStep.yield (none,()))) _ _
   rw [qK,qK,moveDown'_eq]
   have hks:k < (arrOf st'').size:=by rw [B'.size];exact hkz
   have e:=KK_bubble (κ:=κ) hks (qG k l)
   rw [Nat.sub_sub_self hlk] at e
   refine wpS_bind (wpS_modify (wpS_pure ⟨rfl,B'.turn (bubble_perm _ _ _),fun i j hij hj=>?_⟩))
   show κ.kle (PyProof.Rows.KK κ (bubble (arrOf st'') k (k - l)) i) (PyProof.Rows.KK κ (bubble (arrOf st'') k (k - l)) j)
   rw [e,e]
   exact ins_le hlk hlo hhi hk hij (jR hj)
end
section
variable {A:Around} {E:Value->Shared->Prop} {s:Shared} {kd:SortKind} {κ:PyProof.Rows.KeyKind} {a₀:Array Keyed}
theorem turned (C:Cmps (model PG w) A s kd κ a₀) {st:SortSt} {n nrem:Nat} {Q:Option Nat->SortSt->Prop} (hn:nrem<=a₀.size) (h1:1<=n) (hnn:n<=nrem) (B:SB kd a₀ st) (hs:Down κ st n)
  (h:∀ k st',SB kd a₀ st'->1<=k->k<=nrem->UpTo κ st' k->Q (some k) st'):wpS (model PG w) A E s (tail3 n nrem) Q st:=by
 unfold tail3
 have hz:n<=(arrOf st).size:=by rw [B.size];exact zB hnn hn
 have B':=B.turn (mirror_perm (arrOf st) 0 n ((n - 0) / 2))
 refine wpS_bind (wpS_reverse (wpS_bind (asc C hn h1 hnn B' (fun i j hij hj=>?_) fun k hk1 hk2 hk oo1=>wpS_pure (h k _ B' (zB h1 hk1) hk2 hk))))
 show κ.kle (PyProof.Rows.KK κ (mirror (arrOf st) 0 n ((n - 0) / 2)) i) (PyProof.Rows.KK κ (mirror (arrOf st) 0 n ((n - 0) / 2)) j)
 rw [KK_mirror hz,KK_mirror hz,if_pos ⟨jO _,jY hij hj⟩,if_pos ⟨jO _,hj⟩]
 exact hs _ _ (Nat.sub_le_sub_left hij _) (jY (qG _ _) (by rw [qK];exact wB (qF h1)))
theorem zM2 {xs:Array Keyed} {x:Nat} (hx:NonIncK κ xs x) (hk:κ.kle (PyProof.Rows.KK κ xs x) (PyProof.Rows.KK κ xs (x - 1))) (h1:1<=x):NonIncK κ xs (x+1):=fun i j hij hj=>by
 rcases Nat.lt_or_ge j x with q | q
 ·exact hx i j hij q
 ·obtain rfl:j=x:=yO (jR hj) q
  rcases xL hij with q' | q'
  ·subst q';exact vH _
  ·exact xV hk (hx i (j - 1) (qU q') (wB (qF h1)))
theorem falling (C:Cmps (model PG w) A s kd κ a₀) {st:SortSt} {n nrem:Nat} {Q:DescSt->SortSt->Prop} (hn:nrem<=a₀.size) (h1:1<=n) (hnn:n<=nrem) (B:SB kd a₀ st) (hs:Down κ st n)
  (h:∀ m e st',SB kd a₀ st'->n<=m->m<=nrem->Down κ st' m->e+1<=m->(∀ i,m - (e+1)<=i->i < m->PyProof.Rows.KK κ (arrOf st') i=PyProof.Rows.KK κ (arrOf st') (m - 1))->Q (none,m,e) st') :
  wpS (model PG w) A E s (descLoop n nrem) Q st:=by
 unfold descLoop
 refine wpS_forRange (I:=fun x c st'=>∃ e,c=(none,x,e)/\SB kd a₀ st'/\Down κ st' x/\e+1<=x/\∀ i,x - (e+1)<=i->i < x->PyProof.Rows.KK κ (arrOf st') i=PyProof.Rows.KK κ (arrOf st') (x - 1)) ?_ ?_ ⟨0,rfl,B,hs,h1,fun i q1 q2=>congrArg _ (yO (qU q2) q1)⟩
 ·rintro x c st' hax hxn ⟨e,rfl,B',hx,he,hq⟩
  have hxs:=zO hxn hn
  have hx1:=jY (qG x 1) hxs
  have h1x:=zB h1 hax
  have hz:x<=(arrOf st').size:=by rw [B'.size];exact qI hxs
  refine wpS_bind (zW5 C B' hxs hx1 ?_)
  cases hl:κ.blt (PyProof.Rows.KK κ (arrOf st') x) (PyProof.Rows.KK κ (arrOf st') (x - 1)) with
  | true=>
   refine sT rfl ?_
   have hd:=zM2 hx (xP hl) h1x
   by_cases h0:e > 0
   ·rw [if_pos h0]
    have hm:=KK_mirror_equal (i:=x - (e+1)) hz hq
    refine wpS_bind (wpS_reverse (wpS_pure ⟨0,rfl,B'.turn (mirror_perm _ _ _ _),fun i j hij hj=>?_,qN 1 x,fun i q1 q2=>congrArg _ (yO (jR q2) q1)⟩))
    show κ.kle (PyProof.Rows.KK κ (mirror (arrOf st') _ _ _) j) (PyProof.Rows.KK κ (mirror (arrOf st') _ _ _) i)
    rw [hm,hm]
    exact hd i j hij hj
   ·rw [if_neg h0]
    exact wpS_pure ⟨0,rfl,B',hd,qN 1 x,fun i q1 q2=>congrArg _ (yO (jR q2) q1)⟩
  | false=>
   refine sF rfl ?_
   refine wpS_bind (zW5 C B' hx1 hxs ?_)
   cases hg:κ.blt (PyProof.Rows.KK κ (arrOf st') (x - 1)) (PyProof.Rows.KK κ (arrOf st') x) with
   | true=>
    refine sT rfl ?_
    exact wpS_pure (h x e st' B' hax (qI hxn) hx he hq)
   | false=>
    refine sF rfl ?_
    have heq:PyProof.Rows.KK κ (arrOf st') x=PyProof.Rows.KK κ (arrOf st') (x - 1):=KeyOrd.kle_antisymm hg hl
    refine wpS_pure ⟨e+1,rfl,B',zM2 hx (by rw [heq];exact vH _) h1x,yQ he,fun i hi1 hi2=>?_⟩
    rw [Nat.add_sub_cancel]
    rcases xL (jR hi2) with q | q
    ·subst q;rfl
    ·rw [heq];exact hq i (zB (jU (Nat.succ_sub_succ ..).symm) hi1) q
 ·rintro c st' ⟨e,rfl,B',hx,he,hq⟩
  rw [Nat.max_eq_right hnn] at hx he hq ⊢
  exact h nrem e st' B' hnn (zK _) hx he hq
theorem fallen (C:Cmps (model PG w) A s kd κ a₀) {st:SortSt} {n nrem:Nat} {Q:Option Nat->SortSt->Prop} (hn:nrem<=a₀.size) (hnn:n+1<=nrem) (B:SB kd a₀ st) (hs:Down κ st (n+1))
  (h:∀ k st',SB kd a₀ st'->1<=k->k<=nrem->UpTo κ st' k->Q (some k) st'):wpS (model PG w) A E s (descPart n nrem) Q st:=by
 unfold descPart
 refine wpS_bind (wpS_lift (wpAny_rule ⟨rfl,?_⟩))
 refine wpS_bind (falling C hn (qN 1 n) hnn B hs fun m e st' B' hm1 hm2 hd he hq=>?_)
 dsimp only
 have hz:m<=(arrOf st').size:=by rw [B'.size];exact zB hm2 hn
 have h1m:=zB (qN 1 n) hm1
 by_cases h0:e > 0
 ·rw [if_pos h0]
  have hm:=KK_mirror_equal (i:=m - (e+1)) hz hq
  refine wpS_bind (wpS_reverse (turned C hn h1m hm2 (B'.turn (mirror_perm _ _ _ _)) (fun i j hij hj=>?_) h))
  show κ.kle (PyProof.Rows.KK κ (mirror (arrOf st') _ _ _) j) (PyProof.Rows.KK κ (mirror (arrOf st') _ _ _) i)
  rw [hm,hm]
  exact hd i j hij hj
 ·rw [if_neg h0]
  exact turned C hn h1m hm2 B' hd h
theorem firstRun (C:Cmps (model PG w) A s kd κ a₀) {st:SortSt} {nrem:Nat} {Q:Option Nat->SortSt->Prop} (hn:nrem<=a₀.size) (h1:1<=nrem) (B:SB kd a₀ st)
  (h:∀ k st',SB kd a₀ st'->1<=k->k<=nrem->UpTo κ st' k->Q (some k) st'):wpS (model PG w) A E s (countRun' 0 nrem) Q st:=by
 rw [countRun0_eq]
 refine wpS_bind (asc C hn (zK 1) h1 B (one_up _) fun n hn1 hn2 hup hor=>?_)
 dsimp only
 by_cases hnn:n=nrem
 ·rw [if_pos (by simpa using hnn)]
  exact wpS_pure (h n st B hn1 hn2 hup)
 ·rw [if_neg (by simpa using hnn)]
  have hlt:=hor.resolve_left hnn
  have hz:n<=(arrOf st).size:=by rw [B.size];exact zB hn2 hn
  have hlr:=vB hn2 hnn
  have hp:=wB (qF hn1)
  by_cases hg:n > 1
  ·rw [if_pos hg]
   refine wpS_bind (zW5 C B (zO h1 hn) (zO hp (zB hn2 hn)) ?_)
   cases hr:κ.blt (PyProof.Rows.KK κ (arrOf st) 0) (PyProof.Rows.KK κ (arrOf st) (n - 1)) with
   | true=>
    refine sT rfl ?_
    exact wpS_pure (h n st B hn1 hn2 hup)
   | false=>
    refine sF rfl ?_
    have all:∀ k,0<=k->k < n->PyProof.Rows.KK κ (arrOf st) k=PyProof.Rows.KK κ (arrOf st) (n - 1):=fun k oo1 hk=>
     KeyOrd.kle_antisymm (hup k (n - 1) (qU hk) hp) (xV hr (hup 0 k (jO _) hk))
    have hm:=KK_mirror_equal (i:=0) hz all
    refine wpS_bind (wpS_reverse (fallen C hn hlr (B.turn (mirror_perm _ _ _ _)) (fun i j hij hj=>?_) h))
    show κ.kle (PyProof.Rows.KK κ (mirror (arrOf st) _ _ _) j) (PyProof.Rows.KK κ (mirror (arrOf st) _ _ _) i)
    rw [hm,hm]
    have d0:NonIncK κ (arrOf st) n:=fun i j hij hj=>by rw [all i (jO _) (jY hij hj),all j (jO _) hj];exact vH _
    exact zM2 d0 (xP hlt) hn1 i j hij hj
  ·rw [if_neg hg]
   obtain rfl:n=1:=yO (xM.mp hg) hn1
   refine fallen C hn hlr B (zM2 (fun i j hij hj=>?_) (xP hlt) (zK _)) h
   obtain rfl:i=j:=yO hij (zB (jR hj) (jO _))
   exact vH _
end
namespace kA3
def S (A:Around) (E:Value->Shared->Prop) (s:Shared) (a₀:Array Keyed) (Q:Unit->SortSt->Prop):Prop:=∀ (kd:SortKind) (κ:PyProof.Rows.KeyKind) (C:Cmps (model PG w) A s kd κ a₀) {st:SortSt} (B:SB kd a₀ st) (h2:2<=a₀.size) (h64:a₀.size < 64) (h:∀ st',(arrOf st').Perm a₀->failedOf st'=none->UpTo κ st' a₀.size->Q () st'),wpS (model PG w) A E s sortRuns' Q st
noncomputable def A:Around:=@pick Around nAr fun z=>∀ E s a₀ Q,S z E s a₀ Q
noncomputable def E:Value->Shared->Prop:=pick fun z=>∀ s a₀ Q,S A z s a₀ Q
noncomputable def s:Shared:=@pick Shared nSh fun z=>∀ a₀ Q,S A E z a₀ Q
noncomputable def a₀:Array Keyed:=pick fun z=>∀ Q,S A E s z Q
noncomputable def Q:Unit->SortSt->Prop:=pick fun z=>S A E s a₀ z
theorem core:S A E s a₀ Q:=by
 intro kd κ C st B h2 h64 h
 rw [sortRuns'_eq]
 refine wpS_bind (wpS_get ?_)
 dsimp only
 have hmr:minRun' a₀.size a₀.size 0=a₀.size:=by
  obtain ⟨f,hf⟩:∃ f,a₀.size=f+1:=⟨a₀.size - 1,(xI (vS h2)).symm⟩
  have:minRun' (f+1) a₀.size 0=a₀.size:=by rw [minRun'_succ,if_pos h64];rfl
  rwa [<-hf] at this
 rw [B.size,hmr]
 let Dn:SortSt->Prop:=fun st=>(arrOf st).Perm a₀/\failedOf st=none/\pendingOf st=#[(0,a₀.size,0)]/\UpTo κ st a₀.size
 have fin:∀ {st:SortSt},SB kd a₀ st->UpTo κ st a₀.size->Dn (setPending st ((pendingOf st).push (0,a₀.size,0))):=fun {st} B hs=>⟨B.perm,B.failed,by show (pendingOf st).push _=_;rw [B.pend];rfl,hs⟩
 refine wpS_bind (wpS_mono (Q:=fun c st'=>c=(none,a₀.size)/\Dn st') (wpS_forRange (I:=fun x c st'=>(x=0/\c=(none,0)/\SB kd a₀ st')∨(1<=x/\c=(none,a₀.size)/\Dn st')) ?_ ?_ (.inl ⟨rfl,rfl,B⟩)) ?_)
 ·rintro x c st' _ hx (⟨rfl,rfl,B'⟩ | ⟨hx1,rfl,hD⟩)
  ·rw [if_neg fun q=>absurd (zB h2 q) (by decide)]
   simp only [Nat.sub_zero,Nat.min_self,qK]
   refine wpS_bind (firstRun C (zK _) (vS h2) B' fun m st2 B2 hm1 hm2 hs2=>?_)
   dsimp only
   by_cases hlt:m < a₀.size
   ·rw [if_pos hlt]
    refine wpS_bind (wpS_lift (wpAny_rule ⟨rfl,?_⟩))
    refine wpS_bind (insertion C (zK _) hm1 hm2 B2 hs2 fun st3 B3 hs3=>?_)
    refine sF rfl ?_
    refine wpS_bind (wpS_get ?_)
    rw [show (pendingOf st3).back?=none by rw [B3.pend];rfl]
    exact wpS_bind (wpS_modify (wpS_pure (.inr ⟨zK 1,rfl,fin B3 hs3⟩)))
   ·rw [if_neg hlt]
    obtain rfl:m=a₀.size:=yO hm2 (xM.mp hlt)
    refine wpS_bind (wpS_get ?_)
    rw [show (pendingOf st2).back?=none by rw [B2.pend];rfl]
    exact wpS_bind (wpS_modify (wpS_pure (.inr ⟨zK 1,rfl,fin B2 hs2⟩)))
  ·rw [if_pos (zK _)]
   exact wpS_pure ⟨rfl,hD⟩
 ·rintro c st' (⟨hx,_,_⟩ | ⟨_,hc,hD⟩)
  ·lia
  ·exact ⟨hc,hD⟩
 ·rintro c st' ⟨rfl,hD⟩
  refine wpS_bind (wpS_mono (Q:=fun c st''=>st''=st'/\c=(none,())) (wpS_forRange (I:=fun oo1 c st''=>st''=st'/\c=(none,())) ?_ (fun oo1 oo2 hh=>hh) ⟨rfl,rfl⟩) ?_)
  ·rintro x c st'' _ _ ⟨rfl,rfl⟩
   refine wpS_bind (wpS_get ?_)
   rw [if_pos (by rw [hD.2.2.1];exact zK 1)]
   exact wpS_pure ⟨rfl,rfl⟩
  ·rintro c st'' ⟨rfl,rfl⟩
   exact wpS_pure (h _ hD.1 hD.2.1 hD.2.2.2)
theorem all:∀ A E s a₀ Q,S A E s a₀ Q:=@cst Around nAr (fun z=>∀ E s a₀ Q,S z E s a₀ Q) (cst (p:=fun z=>∀ s a₀ Q,S A z s a₀ Q) (@cst Shared nSh (fun z=>∀ a₀ Q,S A E z a₀ Q) (cst (p:=fun z=>∀ Q,S A E s z Q) (cst (p:=fun z=>S A E s a₀ z) core))))
end kA3
section
variable {A:Around} {E:Value->Shared->Prop} {s:Shared} {kd:SortKind} {κ:PyProof.Rows.KeyKind} {a₀:Array Keyed}
theorem runs {A E s a₀ Q}:kA3.S A E s a₀ Q:=kA3.all A E s a₀ Q
end
noncomputable def ltL:List Int->List Int->Bool:=List.rec (fun m=>!m.isEmpty) fun a oo1 ih m=>List.casesOn m false fun b m=>if a=b then ih m else decide (a < b)
theorem jE8 (a:List Int):ltL a a=false:=by
 induction a with
 | nil=>rfl
 | cons x l ih=>exact (if_pos rfl).trans ih
theorem zC2 (x y:Int) (l m:List Int):ltL (x::l) (y::m)=if x=y then ltL l m else decide (x < y):=rfl
theorem jU8 (a b c:List Int) (h1:ltL a b=true) (h2:ltL b c=true):ltL a c=true:=by
 induction a generalizing b c with
 | nil=>
  cases b with
  | nil=>cases h1
  | cons=>cases c with
   | nil=>cases h2
   | cons=>rfl
 | cons x l ih=>
  cases b with
  | nil=>cases h1
  | cons y m=>cases c with
   | nil=>cases h2
   | cons z n=>
    rw [zC2] at h1 h2 ⊢
    by_cases e1:x=y
    ·by_cases e2:y=z
     ·rw [if_pos e1] at h1;rw [if_pos e2] at h2;rw [if_pos (e1.trans e2)];exact ih m n h1 h2
     ·rw [if_neg e2] at h2;rw [e1,if_neg e2];exact h2
    ·rw [if_neg e1] at h1
     have h1:=of_decide_eq_true h1
     by_cases e2:y=z
     ·rw [<-e2,if_neg e1];exact decide_eq_true h1
     ·rw [if_neg e2] at h2
      have h3:=Int.lt_trans h1 (of_decide_eq_true h2)
      rw [if_neg (Int.ne_of_lt h3)];exact decide_eq_true h3
theorem ltL_neg (a b c:List Int) (h:ltL a c=true):ltL a b=true∨ltL b c=true:=by
 induction a generalizing b c with
 | nil=>
  cases b with
  | nil=>exact .inr h
  | cons=>exact .inl rfl
 | cons x l ih=>
  cases c with
  | nil=>cases h
  | cons z n=>cases b with
   | nil=>exact .inr rfl
   | cons y m=>
    rw [zC2] at h ⊢
    rw [zC2]
    by_cases e1:x=y
    ·rw [if_pos e1]
     by_cases e2:y=z
     ·rw [if_pos e2]
      rw [if_pos (e1.trans e2)] at h
      exact ih m n h
     ·rw [if_neg e2]
      rw [e1,if_neg e2] at h
      exact .inr h
    ·rw [if_neg e1]
     by_cases e2:y=z
     ·rw [if_pos e2]
      rw [<-e2,if_neg e1] at h
      exact .inl h
     ·rw [if_neg e2]
      have h:x<=z:=by
       by_cases e3:x=z
       ·exact Int.le_of_eq e3
       ·rw [if_neg e3] at h;exact Int.le_of_lt (of_decide_eq_true h)
      by_cases q:x < y
      ·exact .inl (decide_eq_true q)
      ·exact .inr (decide_eq_true (Int.lt_of_lt_of_le (Int.lt_iff_le_and_ne.mpr ⟨kU.mp q,Ne.symm e1⟩) h))
theorem ltL_tot (a b:List Int) (h1:ltL a b=false) (h2:ltL b a=false):a=b:=by
 induction a generalizing b with
 | nil=>
  cases b with
  | nil=>rfl
  | cons=>cases h1
 | cons x l ih=>
  cases b with
  | nil=>cases h2
  | cons y m=>
   rw [zC2] at h1 h2
   by_cases e:x=y
   ·rw [if_pos e] at h1;rw [if_pos e.symm] at h2
    rw [e,ih m h1 h2]
   ·rw [if_neg e] at h1
    rw [if_neg (Ne.symm e)] at h2
    exact absurd (Int.le_antisymm (kU.mp (of_decide_eq_false h2)) (kU.mp (of_decide_eq_false h1))) e
noncomputable def ordL:KeyOrd:=⟨List Int,ltL,jE8,jU8,ltL_neg,ltL_tot⟩
noncomputable def encA (v:V):Int:=V.casesOn v 0 (fun oo1=>0) (fun i=>i) (fun x=>(x.cps.getD 0 0:Nat)) (fun oo1=>0) (fun oo1=>0) fun oo1=>0
noncomputable def kin (v u:V):Bool:=V.casesOn v false (fun oo1=>false) (fun oo1=>V.casesOn u false (fun oo1=>false) (fun oo1=>true) (fun oo1=>false) (fun oo1=>false) (fun oo1=>false) fun oo1=>false)
 (fun x=>V.casesOn u false (fun oo1=>false) (fun oo1=>false) (fun y=>x.cps.size == 1 && y.cps.size == 1) (fun oo1=>false) (fun oo1=>false) fun oo1=>false) (fun oo1=>false) (fun oo1=>false) fun oo1=>false
noncomputable def kins:List V->List V->Bool:=List.rec (fun oo1=>true) fun v oo1 ih m=>List.casesOn m true fun u m=>kin v u && ih m
theorem kins_cons (v u:V) (l m:List V):kins (v::l) (u::m)=(kin v u && kins l m):=rfl
theorem zP3 {x:Str} (h:x.cps.size=1):x=⟨#[x.cps.getD 0 0]⟩:=by
 obtain ⟨⟨l⟩⟩:=x
 exact len1 (Q:=fun l=>(⟨⟨l⟩⟩:Str)=⟨#[(⟨l⟩:Array Nat).getD 0 0]⟩) (fun oo1=>rfl) l h
theorem kinE {motive:V->V->Prop} {v u:V} (h:kin v u=true) (int:∀ a b,motive (.int a) (.int b)) (str:∀ x y:Str,x.cps.size=1->y.cps.size=1->motive (.str x) (.str y)):motive v u:=by
 cases v with
 | int a=>cases u with
  | int b=>exact int a b
  | _=>exact nomatch h
 | str x=>cases u with
  | str y=>exact str x y (eq_of_beq (zJ.mp h).1) (eq_of_beq (zJ.mp h).2)
  | _=>exact nomatch h
 | _=>exact nomatch h
theorem zM6 {v u:V} (h:kin v u=true):v.eqb u=decide (encA v=encA u):=
 kinE h (motive:=fun v u=>v.eqb u=decide (encA v=encA u)) (fun a b=>xZ.mpr (beq_iff_eq.trans decide_eq_true_iff.symm)) fun x y hx hy=>xZ.mpr (beq_iff_eq.trans (.trans ⟨fun e=>congrArg encA (congrArg V.str e),fun e=>by
  have e:x.cps.getD 0 0=y.cps.getD 0 0:=Int.ofNat.inj e
  rw [zP3 hx,zP3 hy,e]⟩ decide_eq_true_iff.symm))
theorem str_lt {x y:Str} (hx:x.cps.size=1) (hy:y.cps.size=1):decide (x.cps.toList < y.cps.toList)=decide (encA (.str x) < encA (.str y)):=by
 show _=decide (((x.cps.getD 0 0:Nat):Int) < (y.cps.getD 0 0:Nat))
 have l1:x.cps.toList=[x.cps.getD 0 0]:=by conv=>lhs;rw [zP3 hx]
 have l2:y.cps.toList=[y.cps.getD 0 0]:=by conv=>lhs;rw [zP3 hy]
 rw [l1,l2]
 generalize x.cps.getD 0 0=p1
 generalize y.cps.getD 0 0=p2
 refine decide_eq_decide.mpr ⟨fun z=>?_,fun z=>List.Lex.rel (vT.mp z)⟩
 cases z with
 | rel z=>exact vT.mpr z
 | cons z=>cases z
section
variable {A:Around} {s:Shared} {ι:List Addr}
noncomputable def LtAt (w:World) (A:Around) (s:Shared) (c e:Value) (b:Bool):Prop:=∀ (E:Value->Shared->Prop) (Q:Value->Shared->Prop),Q (.bool b) s->wpAny (model PG w) A (richCompare .Lt c e) Q E s
theorem zV3 {v u:V} {c e:Value} (h:kin v u=true) (rv:VR s.heap ι v c) (ru:VR s.heap ι u e):LtAt w A s c e (decide (encA v < encA u)):=fun E Q q=>by
 refine kinE h (motive:=fun v u=>VR s.heap ι v c->VR s.heap ι u e->Q (.bool (decide (encA v < encA u))) s->wpAny (model PG w) A (richCompare .Lt c e) Q E s) (fun a b rv ru q=>?_) (fun x y hx hy rv ru q=>?_) rv ru q
 ·cases rv using VR.intE;cases ru using VR.intE;exact lt_int q
 ·cases rv using VR.strE;cases ru using VR.strE
  refine PySem.P.lt_str (x:=x) (y:=y) ?_
  rw [str_lt hx hy]
  exact q
end
namespace kA5
def S (A:Around) (s:Shared) (ι:List Addr) (l:List V) (m:List V) (a:Addr) (b:Addr) (vs:Array Value) (us:Array Value) (n:Nat) (k:Nat):Prop:=∀ (hu:A.units+10 < cLine) (ha:IsT s.heap a vs n) (hb:IsT s.heap b us k) (rl:VRs s.heap ι l vs.toList) (rm:VRs s.heap ι m us.toList) (hk:kins l m=true) (pl:gR l=true) (pm:gR m=true) (hd:deps l=0),LtAt w A s (.ref a) (.ref b) (ltL (l.map encA) (m.map encA))
noncomputable def A:Around:=@pick Around nAr fun z=>∀ s ι l m a b vs us n k,S z s ι l m a b vs us n k
noncomputable def s:Shared:=@pick Shared nSh fun z=>∀ ι l m a b vs us n k,S A z ι l m a b vs us n k
noncomputable def ι:List Addr:=pick fun z=>∀ l m a b vs us n k,S A s z l m a b vs us n k
noncomputable def l:List V:=pick fun z=>∀ m a b vs us n k,S A s ι z m a b vs us n k
noncomputable def m:List V:=pick fun z=>∀ a b vs us n k,S A s ι l z a b vs us n k
noncomputable def a:Addr:=pick fun z=>∀ b vs us n k,S A s ι l m z b vs us n k
noncomputable def b:Addr:=pick fun z=>∀ vs us n k,S A s ι l m a z vs us n k
noncomputable def vs:Array Value:=pick fun z=>∀ us n k,S A s ι l m a b z us n k
noncomputable def us:Array Value:=pick fun z=>∀ n k,S A s ι l m a b vs z n k
noncomputable def n:Nat:=pick fun z=>∀ k,S A s ι l m a b vs us z k
noncomputable def k:Nat:=pick fun z=>S A s ι l m a b vs us n z
theorem core:S A s ι l m a b vs us n k:=fun hu ha hb rl rm hk pl pm hd=>fun E Q q=>by
 have hTa:s.TypeIs (.ref a) "tuple":=⟨_,ha,rfl⟩
 have hTb:s.TypeIs (.ref b) "tuple":=⟨_,hb,rfl⟩
 refine wpAny_richCompare_same_room (op:=.Lt) hTa hTb F.slot_tuple_lt (wpAny_call_entry F.slot_tuple_lt hTa F.entry_tuple_lt ?_ (F.args_tuple_lt_2 _ _)) (by lia)
 show wpAny _ _ (isInstance (.ref b) (.type "tuple") >>= _) _ _ s
 refine wpAny_bind (wpAny_isInstance hTb isSubtype_tuple_tuple ?_)
 refine wpAny_ite_false rfl ?_
 refine wpAny_bind (wpAny_tupleItemsOf ha rfl ?_)
 refine wpAny_bind (wpAny_tupleItemsOf hb rfl ?_)
 refine wpAny_bind ?_
 refine wpAny_forIn_list _
  (fun rest r s'=>r.1=none/\s'=s/\∃ l' m' xs' ys',rest=List.zip xs' ys'/\VRs s.heap ι l' xs'/\VRs s.heap ι m' ys'/\kins l' m'=true/\gR l'=true/\gR m'=true/\deps l'=0/\ltL (l'.map encA) (m'.map encA)=ltL (l.map encA) (m.map encA)/\decide (xs'.length < ys'.length)=decide (vs.size < us.size))
  _ ?_ ?_ _ _ ⟨rfl,rfl,l,m,vs.toList,us.toList,rfl,rl,rm,hk,pl,pm,hd,rfl,by simp⟩
 ·rintro ⟨c,e⟩ rest r s' ⟨hr,rfl,l',m',xs',ys',hz,h1,h2,hk',p1,p2,hd',hlt,hlen⟩
  cases h1 with
  | nil=>simp at hz
  | @cons v c' l'' xs'' r1 h1'=>
   cases h2 with
   | nil=>simp at hz
   | @cons u e' m'' ys'' r2 h2'=>
    simp only [xH,List.cons.injEq,Prod.mk.injEq] at hz
    obtain ⟨⟨rfl,rfl⟩,rfl⟩:=hz
    have hk':=zJ.mp hk'
    have p1:=zJ.mp p1
    have p2:=zJ.mp p2
    have hd':max v.dep (deps l'')=0:=hd'
    refine wpAny_bind (zC9 0 A.in1 _ ι v u c e (zB (xD _ _) (jU hd')) p1.1 p2.1 (by show A.units+1+0+1 < cLine;lia) r1 r2 PG w _ _ ?_)
    rw [zM6 hk'.1]
    rw [zU,zU,zC2] at hlt
    by_cases he:encA v=encA u
    ·rw [decide_eq_true he]
     refine wpAny_ite_false rfl ?_
     rw [if_pos he] at hlt
     exact wpAny_pure ⟨rfl,rfl,l'',m'',xs'',ys'',rfl,h1',h2',hk'.2,p1.2,p2.2,vV.mp (zB (wX _ _) (jU hd')),hlt,by simpa using hlen⟩
    ·rw [decide_eq_false he]
     refine wpAny_ite_true rfl ?_
     rw [if_neg he] at hlt
     refine wpAny_bind (wpAny_rule (wpAny_bind (zV3 hk'.1 r1 r2 _ _ ?_)))
     rw [hlt]
     exact wpAny_bind (wpAny_pure (wpAny_pure (wpAny_pure ⟨_,rfl,(fun z=>nomatch z),q⟩)))
 ·rintro ⟨r1,r2⟩ s' ⟨hr,rfl,l',m',xs',ys',hz,h1,h2,_,_,_,_,hlt,hlen⟩
  simp only at hr
  subst hr
  refine wpAny_pure ?_
  have e:Builtin.Tuple.tupleCompareSizes .Lt vs.size us.size=.bool (ltL (l.map encA) (m.map encA)):=by
   show Value.bool (decide (vs.size < us.size))=_
   rw [<-hlen,<-hlt]
   cases h1 with
   | nil=>cases h2 <;> simp [ltL]
   | cons _ _=>cases h2 with
    | nil=>simp [ltL]
    | cons _ _=>simp at hz
  show ∃ v,_=_/\_
  rw [e]
  exact ⟨_,rfl,(fun z=>nomatch z),q⟩
theorem all:∀ A s ι l m a b vs us n k,S A s ι l m a b vs us n k:=@cst Around nAr (fun z=>∀ s ι l m a b vs us n k,S z s ι l m a b vs us n k) (@cst Shared nSh (fun z=>∀ ι l m a b vs us n k,S A z ι l m a b vs us n k) (cst (p:=fun z=>∀ l m a b vs us n k,S A s z l m a b vs us n k) (cst (p:=fun z=>∀ m a b vs us n k,S A s ι z m a b vs us n k) (cst (p:=fun z=>∀ a b vs us n k,S A s ι l z a b vs us n k) (cst (p:=fun z=>∀ b vs us n k,S A s ι l m z b vs us n k) (cst (p:=fun z=>∀ vs us n k,S A s ι l m a z vs us n k) (cst (p:=fun z=>∀ us n k,S A s ι l m a b z us n k) (cst (p:=fun z=>∀ n k,S A s ι l m a b vs z n k) (cst (p:=fun z=>∀ k,S A s ι l m a b vs us z k) (cst (p:=fun z=>S A s ι l m a b vs us n z) core))))))))))
end kA5
section
variable {A:Around} {s:Shared} {ι:List Addr}
theorem jK3 {A s ι l m a b vs us n k}:kA5.S A s ι l m a b vs us n k:=kA5.all A s ι l m a b vs us n k
end
section
variable {A:Around} {s:Shared} {ι:List Addr}
theorem zM0 {c e:Value} {b:Bool} {Q:Bool->Shared->Prop} {E:Value->Shared->Prop} (h:LtAt w A s c e b) (q:Q b s):wpAny (model PG w) A (oneLt' false c e) Q E s:=by
 rw [oneLt'_eq]
 refine wpAny_ite_false rfl ?_
 exact wpAny_bind (h _ _ (wpAny_truthy_bool q))
theorem jI5 {v u:V} {c e:Value} {Q:Bool->Shared->Prop} {E:Value->Shared->Prop} (b:Bool) (h:kin v u=true) (rv:VR s.heap ι v c) (ru:VR s.heap ι u e) (q:Q (decide (encA v < encA u)) s):wpAny (model PG w) A (oneLt' b c e) Q E s:=by
 cases b
 ·exact zM0 (zV3 h rv ru) q
 ·have hl:=zV3 (A:=A) h rv ru
  rw [oneLt'_eq]
  refine wpAny_ite_true rfl ?_
  refine kinE h (motive:=fun v u=>VR s.heap ι v c->VR s.heap ι u e->Q (decide (encA v < encA u)) s->_) (fun oo1 oo2 rv ru q=>?_) (fun x y hx hy rv ru q=>?_) rv ru q
  ·cases rv using VR.intE;cases ru using VR.intE
   refine wpAny_bind (wpAny_cRoomFor_byValue rfl ?_)
   refine wpAny_bind (wpAny_callSpecialIfBound?_slot (typeIs_int _ _ _) slot_int_lt (call_int_lt ?_))
   exact wpAny_truthy_bool q
  ·cases rv using VR.strE;cases ru using VR.strE
   refine wpAny_bind (wpAny_cRoomFor_byValue rfl ?_)
   refine wpAny_bind (wpAny_callSpecialIfBound?_slot (typeIs_str _ _ _) PySem.F.slot_str_lt (call_str_lt (a:=x) (b:=y) ?_))
   rw [str_lt hx hy]
   exact wpAny_truthy_bool q
theorem jV1 {Q:Bool->Shared->Prop} (l m:List V) (cs es:List Value) (i:Nat) (fin:Bool) (hu:A.units+10 < cLine) (rl:VRs s.heap ι l cs) (rm:VRs s.heap ι m es) (hk:kins l m=true) (p1:gR l=true) (p2:gR m=true) (hd:deps l=0) (hf:fin=decide (cs.length < es.length)) (q:Q (ltL (l.map encA) (m.map encA)) s):KatLex PG w A true fin Q (cs.zip es) i s:=by
 induction rl using VRs.ind generalizing m es i with
 | nil=>
  cases rm using VRs.ind with
  | nil=>subst hf;exact kat_nil q
  | cons=>subst hf;exact kat_nil q
 | @cons v c l cs r1 r2 ih=>
  cases rm using VRs.ind with
  | nil=>subst hf;exact kat_nil q
  | @cons u e m es r3 r4 _=>
   have hk:=zJ.mp hk
   have p1:=zJ.mp p1
   have p2:=zJ.mp p2
   have hd:max v.dep (deps l)=0:=hd
   have hd1:v.dep<=0:=hd ▸ xD _ _
   have hd2:deps l=0:=vV.mp (hd ▸ wX _ _)
   rw [zU,zU,zC2] at q
   rw [xH]
   refine kat_cons (zC9 0 A s ι v u c e hd1 p1.1 p2.1 (by lia) r1 r3 PG w _ _ ?_)
   rw [zM6 hk.1]
   by_cases he:encA v=encA u
   ·rw [decide_eq_true he]
    rw [if_pos he] at q
    exact kat_yes (ih m es (i+1) r4 hk.2 p1.2 p2.2 hd2 (by subst hf;simp) q)
   ·rw [decide_eq_false he]
    rw [if_neg he] at q
    exact kat_no (jI5 _ hk.1 r1 r3 q)
theorem key_flat {l m:List V} {c e:Value} {Q:Bool->Shared->Prop} {E:Value->Shared->Prop} (hu:A.units+10 < cLine) (rl:VR s.heap ι (.tup l) c) (rm:VR s.heap ι (.tup m) e) (hk:kins l m=true) (pl:gR l=true) (pm:gR m=true) (hd:deps l=0) (q:Q (ltL (l.map encA) (m.map encA)) s) :
  wpAny (model PG w) A (keyLt' (tuples' true) c e) Q E s:=by
 cases rl using VR.tupE with
 | @tup a vs n ha r1=>cases rm using VR.tupE with
  | @tup b us k hb r2=>exact kat_lt ha rfl hb rfl (jV1 l m _ _ 0 _ hu r1 r2 hk pl pm hd (by simp) q)
theorem jN5 {a a' b b':List Int} (h:a.length=a'.length):ltL (a++b) (a'++b')=if a=a' then ltL b b' else ltL a a':=by
 induction a generalizing a' with
 | nil=>cases a' with
  | nil=>exact (if_pos rfl).symm
  | cons=>cases h
 | cons x a ih=>cases a' with
  | nil=>cases h
  | cons y a'=>
   rw [jM,jM,zC2,zC2,ih (kX.inj h)]
   by_cases e:x=y
   ·subst e
    rw [if_pos rfl,if_pos rfl]
    by_cases e:a=a'
    ·rw [if_pos e,if_pos (congrArg (x::·) e)]
    ·rw [if_neg e,if_neg fun z=>e (List.cons.inj z).2]
   ·rw [if_neg e,if_neg e,if_neg fun z=>e (List.cons.inj z).1]
theorem zS3 {l m:List V} (h:kins l m=true) (hl:l.length=m.length):eqbs l m=true ↔ l.map encA=m.map encA:=by
 induction l generalizing m with
 | nil=>cases m with
  | nil=>exact ⟨fun oo1=>rfl,fun oo1=>rfl⟩
  | cons=>cases hl
 | cons v l ih=>cases m with
  | nil=>cases hl
  | cons u m=>
   have h:=zJ.mp h
   rw [jB1,jL,zM6 h.1,ih h.2 (kX.inj hl),decide_eq_true_eq,zU,zU,List.cons.injEq]
theorem jU9 {n n':Int} {o o' x x':List V} {c e:Value} {Q:Bool->Shared->Prop} {E:Value->Shared->Prop} (hu:A.units+20 < cLine) (rl:VR s.heap ι (.tup [.int n,.tup o,.tup x]) c) (rm:VR s.heap ι (.tup [.int n',.tup o',.tup x']) e)
  (hko:kins o o'=true) (hkx:kins x x'=true) (po:gR o=true) (po':gR o'=true) (px:gR x=true) (px':gR x'=true) (ho:deps o=0) (hx:deps x=0) (lo:(o.length:Int)=n) (lo':(o'.length:Int)=n') (lx:(x.length:Int)=n) (lx':(x'.length:Int)=n')
  (q:Q (ltL (n::(o.map encA++x.map encA)) (n'::(o'.map encA++x'.map encA))) s):wpAny (model PG w) A (keyLt' (tuples' true) c e) Q E s:=by
 cases rl using VR.tupE with
 | @tup a vs k ha r1=>cases rm with
  | @tup b us k' _ hb r2=>
   have hsz:vs.size=us.size:=by rw [<-zG,<-zG,<-r1.length,<-r2.length];rfl
   refine kat_lt ha rfl hb rfl ?_
   rw [show decide (vs.size < us.size)=false by rw [hsz];simp]
   generalize vs.toList=cs at r1
   generalize us.toList=es at r2
   cases r1 using VRs.consE with
   | cons a1 r1=>cases r1 using VRs.consE with
    | cons a2 r1=>cases r1 using VRs.consE with
     | cons a3 r1=>
      cases r1 using VRs.nilE
      cases r2 using VRs.consE with
      | cons b1 r2=>cases r2 using VRs.consE with
       | cons b2 r2=>cases r2 using VRs.consE with
        | cons b3 r2=>
         cases r2 using VRs.nilE
         rw [zC2] at q
         refine kat_cons (zC9 0 A s ι _ _ _ _ (zK _) rfl rfl (by lia) a1 b1 PG w _ _ ?_)
         rw [zM6 (v:=.int n) (u:=.int n') rfl]
         by_cases he:n=n'
         ·rw [if_pos he] at q
          rw [show decide (encA (.int n)=encA (.int n'))=true from decide_eq_true he]
          have e1:o.length=o'.length:=by lia
          have e2:x.length=x'.length:=by lia
          rw [jN5 (by simpa using e1)] at q
          refine kat_yes (kat_cons (zC9 1 A s ι (.tup o) (.tup o') _ _ (by rw [jN6,ho];exact zK 1) po po' (by lia) a2 b2 PG w _ _ ?_))
          show KatGo _ _ _ _ _ _ _ _ _ _ (eqbs o o') _
          cases he2:eqbs o o'
          ·rw [if_neg (fun z=>by rw [(zS3 hko e1).mpr z] at he2;cases he2)] at q
           refine kat_no ?_
           cases a2 using VR.tupE with
           | tup i1 i2=>cases b2 using VR.tupE with
            | tup j1 j2=>exact zM0 (jK3 (by lia) i1 j1 i2 j2 hko po po' ho) q
          ·rw [if_pos ((zS3 hko e1).mp he2)] at q
           refine kat_yes (kat_cons (zC9 1 A s ι (.tup x) (.tup x') _ _ (by rw [jN6,hx];exact zK 1) px px' (by lia) a3 b3 PG w _ _ ?_))
           show KatGo _ _ _ _ _ _ _ _ _ _ (eqbs x x') _
           cases he3:eqbs x x'
           ·refine kat_no ?_
            cases a3 using VR.tupE with
            | tup i1 i2=>cases b3 using VR.tupE with
             | tup j1 j2=>exact zM0 (jK3 (by lia) i1 j1 i2 j2 hkx px px' hx) q
           ·rw [(zS3 hkx e2).mp he3,jE8] at q
            exact kat_yes (kat_nil q)
         ·rw [if_neg he] at q
          rw [show decide (encA (.int n)=encA (.int n'))=false from decide_eq_false he]
          exact kat_no (jI5 _ (v:=.int n) (u:=.int n') rfl a1 b1 q)
end
section
variable {A:Around} {s:Shared} {ι:List Addr}
noncomputable abbrev IsLs (h:Heap) (a:Addr) (vs:Array Value) (n:Nat):Prop:=h.get? a=some { cls:=.type "list",dict:=none,data:=.seq vs n,slots:=#[] }
theorem jB4 {l m:List V} {a b:Addr} {vs us:Array Value} {n k:Nat} (hu:A.units+20 < cLine) (ha:IsLs s.heap a vs n) (hb:IsLs s.heap b us k) (rl:VRs s.heap ι l vs.toList) (rm:VRs s.heap ι m us.toList) (pl:gR l=true) (pm:gR m=true) (hd:deps l=0):EqAt A s (.ref a) (.ref b) (eqbs l m):=by
 have el:l.length=vs.size:=by rw [<-zG];exact rl.length
 have em:m.length=us.size:=by rw [<-zG];exact rm.length
 by_cases hab:a=b
 ·subst hab
  have:l=m:=VRs.inj pl pm rl (by have e:=ha.symm.trans hb;cases e;exact rm)
  subst this
  rw [(zP2 pl pm).mpr rfl]
  exact EqAt.same _
 ·refine EqAt.of_refs hab ?_
  by_cases hlen:l.length=m.length
  ·have:=RcAt.lists (A:=A) (s:=s) (e:=eqJ l m) ⟨_,ha,rfl,n,rfl⟩ ⟨_,hb,rfl,k,rfl⟩ (by lia) (by lia) (eq_items0 rl rm)
   rw [<-el,jB9 hlen] at this
   exact this
  ·have hf:eqbs l m=false:=by
    cases q:eqbs l m
    ·rfl
    ·exact absurd (jG8 q) hlen
   rw [hf]
   exact .lists_lengths ⟨_,ha,rfl,n,rfl⟩ ⟨_,hb,rfl,k,rfl⟩ (by simp;lia) (by lia)
where
 eq_items0 (hv:VRs s.heap ι l vs.toList) (hu':VRs s.heap ι m us.toList):∀ j (h1:j < vs.size) (h2:j < us.size),EqAt A.in1 s vs[j] us[j] (eqJ l m j):=fun j h1 h2=>by
  obtain ⟨v',hv',rv'⟩:=hv.getc (i:=j) (c:=vs[j]) (by rw [zW];simp [h1])
  obtain ⟨u',hu',ru'⟩:=hu'.getc (i:=j) (c:=us[j]) (by rw [zW];simp [h2])
  rw [jE7 hv' hu']
  exact zC9 0 A.in1 s ι v' u' _ _ (by have:=zG2 (zI hv');lia) (zB6 pl (zI hv')) (zB6 pm (zI hu')) (by show A.units+1+0+1 < cLine;lia) rv' ru'
theorem jU6 (i:Nat) {l m:List V} (h:kins l m=true):kins (l.drop i) (m.drop i)=true:=by
 induction i generalizing l m with
 | zero=>exact h
 | succ i ih=>
  cases l with
  | nil=>rfl
  | cons v l=>cases m with
   | nil=>show kins (l.drop i) []=true;cases l.drop i <;> rfl
   | cons u m=>exact ih (zJ.mp h).2
theorem zS4 {α:Type} {l r:List α} {i:Nat} {v:α} (h:l.drop i=v::r):l[i]?=some v/\l.drop (i+1)=r/\i < l.length:=by
 have e:l[i]?=some v:=by
  have:=List.getElem?_drop (xs:=l) (i:=i) (j:=0)
  rw [h,xQ] at this
  exact this.symm
 exact ⟨e,by rw [<-List.tail_drop,h];rfl,(zC.mp e).1⟩
theorem lt_loop {l m:List V} {a b:Addr} {vs us:Array Value} {n k:Nat} (ha:IsLs s.heap a vs n) (hb:IsLs s.heap b us k) (rl:VRs s.heap ι l vs.toList) (rm:VRs s.heap ι m us.toList) (hk:kins l m=true) (pl:gR l=true) (pm:gR m=true) (hd:deps l=0) (l':List V):∀ (m':List V) (i:Nat) (B:Around) (R:Result->Shared->Prop),l.drop i=l'->m.drop i=m'->B.units+20 < cLine->i<=l.length->i<=m.length->
  R (.ok (.ret (.bool (ltL (l'.map encA) (m'.map encA))))) s->codeAny (model PG w) B (.builtin "list.__eq__.loop" ⟨[.ref a,.ref b,rawInt i,rawInt 0],[]⟩) R s:=by
 have el:l.length=vs.size:=by rw [<-zG];exact rl.length
 have em:m.length=us.size:=by rw [<-zG];exact rm.length
 have end_:∀ (i:Nat) (B:Around) (R:Result->Shared->Prop) (x:Bool),(vs[i]?=none∨us[i]?=none)->decide (vs.size < us.size)=x->R (.ok (.ret (.bool x))) s->codeAny (model PG w) B (.builtin "list.__eq__.loop" ⟨[.ref a,.ref b,rawInt i,rawInt 0],[]⟩) R s:=fun i B R x hno hx hR=>by
  refine codeAny_builtin MeetsSeq3.entry_eq_loop ?_
  rw [yA MeetsSeq3.plain_eq_loop _]
  show wpAny _ B.in1 (wH (.ref a) >>= _) _ _ s
  refine wpAny_bind (listItems_at ha rfl ?_)
  refine wpAny_bind (listItems_at hb rfl ?_)
  have hno:vs[(i:Int).toNat]?=none∨us[(i:Int).toNat]?=none:=hno
  have fin:wpAny (model PG w) B.in1 (do ret (Value.bool (decide ((<-wH (.ref a)).size < (<-wH (.ref b)).size)))) (fun fin s'=>match fin with | .done f=>R (.ok f) s' | .again c'=>c'.quiet=true/\codeAny (model PG w) B c' R s') (fun e s'=>R (.error e) s') s:=by
   refine wpAny_bind (listItems_at ha rfl (wpAny_bind (listItems_at hb rfl ?_)))
   rw [hx]
   exact wpAny_pure hR
  rcases hno with q | q
  ·rw [q];exact fin
  ·cases hx:vs[(i:Int).toNat]? with
   | none=>exact fin
   | some x=>rw [q];exact fin
 induction l' with
 | nil=>
  intro m' i B R hl hm hu hi hj hR
  have e1:vs.size=i:=el ▸ yO (xY.mp hl) hi
  refine end_ i B R _ (.inl (yT (jU e1))) ?_ hR
  rw [e1,<-em]
  cases m' with
  | nil=>exact decide_eq_false (xM.mpr (xY.mp hm))
  | cons u m'=>exact decide_eq_true (zS4 hm).2.2
 | cons v l' ih=>
  intro m' i B R hl hm hu hi hj hR
  obtain ⟨gl,dl,hil⟩:=zS4 hl
  cases m' with
  | nil=>
   have e1:=em ▸ xY.mp hm
   exact end_ i B R _ (.inr (yT e1)) (decide_eq_false (xM.mpr (zB e1 (el ▸ hi)))) hR
  | cons u m'=>
   obtain ⟨gm,dm,him⟩:=zS4 hm
   obtain ⟨c,hc,rc⟩:=rl.get gl
   obtain ⟨e,he,re⟩:=rm.get gm
   have hc':vs[(i:Int).toNat]?=some c:=zW.symm.trans hc
   have he':us[(i:Int).toNat]?=some e:=zW.symm.trans he
   refine codeAny_builtin MeetsSeq3.entry_eq_loop ?_
   rw [yA MeetsSeq3.plain_eq_loop _]
   show wpAny _ B.in1 (wH (.ref a) >>= _) _ _ s
   refine wpAny_bind (listItems_at ha rfl ?_)
   refine wpAny_bind (listItems_at hb rfl ?_)
   rw [hc',he']
   dsimp only
   have hkd:=jU6 i hk
   rw [hl,hm] at hkd
   have hkd:=zJ.mp hkd
   refine wpAny_bind (zC9 0 B.in1 s ι _ _ c e (hd ▸ zG2 (zI gl)) (zB6 pl (zI gl)) (zB6 pm (zI gm)) (jY (jZ (by decide:1+0+1<=20) B.units) hu) rc re PG w _ _ ?_)
   rw [zM6 hkd.1]
   rw [zU,zU,zC2] at hR
   by_cases hq:encA v=encA u
   ·rw [decide_eq_true hq]
    rw [if_pos hq] at hR
    refine wpAny_ite_true rfl ?_
    refine wpAny_pure ⟨plainId_quiet MeetsSeq3.plain_eq_loop _,?_⟩
    exact ih m' (i+1) B R dl dm hu hil him hR
   ·rw [decide_eq_false hq]
    rw [if_neg hq] at hR
    refine wpAny_ite_false rfl ?_
    refine wpAny_bind (listItems_at ha rfl ?_)
    refine wpAny_bind (listItems_at hb rfl ?_)
    rw [hc',he']
    refine wpAny_bind (zV3 hkd.1 rc re _ _ ?_)
    exact wpAny_pure hR
end
section
variable {A:Around} {s:Shared} {ι:List Addr}
theorem zP1 {l m:List V} {a b:Addr} {vs us:Array Value} {n k:Nat} {Q:Value->Shared->Prop} {E:Value->Shared->Prop} (hu:A.units+30 < cLine) (ha:IsLs s.heap a vs n) (hb:IsLs s.heap b us k) (rl:VRs s.heap ι l vs.toList) (rm:VRs s.heap ι m us.toList) (hk:kins l m=true) (pl:gR l=true) (pm:gR m=true) (hd:deps l=0) (q:Q (.bool (ltL (l.map encA) (m.map encA))) s) :
  wpAny (model PG w) A (call (.builtin "list.__lt__") [.ref a,.ref b]) Q E s:=by
 have hTa:s.TypeIs (.ref a) "list":=⟨_,ha,rfl⟩
 have hTb:s.TypeIs (.ref b) "list":=⟨_,hb,rfl⟩
 have h:=F.slot_list_lt
 refine wpAny_call (codeAny_call_builtin h.plain F.entry_list_lt (h.check _ _ _ _ _ _ _ _ hTa (F.args_list_lt_2 _ _) ?_))
 show wpAny _ _ (isInstance (.ref b) (.type "list") >>= _) _ _ s
 refine wpAny_bind (wpAny_isInstance hTb AutoSeq1.sub_list_list ?_)
 refine wpAny_ite_false rfl ?_
 refine wpAny_pure ⟨plainId_quiet MeetsSeq3.plain_eq_loop _,?_⟩
 refine lt_loop ha hb rl rm hk pl pm hd _ _ 0 _ _ rfl rfl ?_ (jO _) (jO _) q
 first | (show A.units+1+20 < cLine;lia) | (show A.units+20 < cLine;lia)
theorem lt_list {l m:List V} {a b:Addr} {vs us:Array Value} {n k:Nat} (hu:A.units+30 < cLine) (ha:IsLs s.heap a vs n) (hb:IsLs s.heap b us k) (rl:VRs s.heap ι l vs.toList) (rm:VRs s.heap ι m us.toList) (hk:kins l m=true) (pl:gR l=true) (pm:gR m=true) (hd:deps l=0):LtAt w A s (.ref a) (.ref b) (ltL (l.map encA) (m.map encA)):=fun E Q q=>by
 have hTa:s.TypeIs (.ref a) "list":=⟨_,ha,rfl⟩
 have hTb:s.TypeIs (.ref b) "list":=⟨_,hb,rfl⟩
 exact wpAny_richCompare_same_room (op:=.Lt) hTa hTb F.slot_list_lt (zP1 hu ha hb rl rm hk pl pm hd ⟨(fun z=>nomatch z),q⟩) (by lia)
theorem jG6 {l m:List V} {a b:Addr} {vs us:Array Value} {n k:Nat} {Q:Bool->Shared->Prop} {E:Value->Shared->Prop} (t:Bool) (hu:A.units+30 < cLine) (ha:IsLs s.heap a vs n) (hb:IsLs s.heap b us k) (rl:VRs s.heap ι l vs.toList) (rm:VRs s.heap ι m us.toList) (hk:kins l m=true) (pl:gR l=true) (pm:gR m=true) (hd:deps l=0) (q:Q (ltL (l.map encA) (m.map encA)) s):wpAny (model PG w) A (oneLt' t (.ref a) (.ref b)) Q E s:=by
 cases t
 ·exact zM0 (lt_list hu ha hb rl rm hk pl pm hd) q
 ·have hTa:s.TypeIs (.ref a) "list":=⟨_,ha,rfl⟩
  rw [oneLt'_eq]
  refine wpAny_ite_true rfl ?_
  refine wpAny_bind (wpAny_cRoomFor_or (.inr (by lia)) ?_)
  refine wpAny_bind (wpAny_callSpecialIfBound?_slot hTa F.slot_list_lt (zP1 hu ha hb rl rm hk pl pm hd ?_))
  exact wpAny_truthy_bool q
theorem key_two {σ:Heap->Prop} {o o' x x':List V} {c e:Value} {ao ax ao' ax':Addr} {no nx no' nx':Nat} {vo vx vo' vx':Array Value} {p q:Addr} {u1 u2:Array Value} {k1 k2:Nat} {Q:Bool->Shared->Prop} {E:Value->Shared->Prop} (hu:A.units+40 < cLine)
  (hp:IsT s.heap p u1 k1) (hq:IsT s.heap q u2 k2) (e1:u1.toList=[.ref ao,.ref ax]) (e2:u2.toList=[.ref ao',.ref ax'])
  (ho:IsLs s.heap ao vo no) (hx:IsLs s.heap ax vx nx) (ho':IsLs s.heap ao' vo' no') (hx':IsLs s.heap ax' vx' nx')
  (ro:VRs s.heap ι o vo.toList) (rx:VRs s.heap ι x vx.toList) (ro':VRs s.heap ι o' vo'.toList) (rx':VRs s.heap ι x' vx'.toList)
  (hko:kins o o'=true) (hkx:kins x x'=true) (po:gR o=true) (po':gR o'=true) (px:gR x=true) (px':gR x'=true) (do_:deps o=0) (dx:deps x=0) (lo:o.length=o'.length) (lx:x.length=x'.length)
  (z:Q (ltL (o.map encA++x.map encA) (o'.map encA++x'.map encA)) s):wpAny (model PG w) A (keyLt' (tuples' true) (.ref p) (.ref q)) Q E s:=by
 have hsz:u1.size=u2.size:=by rw [<-zG,<-zG,e1,e2];rfl
 refine kat_lt hp rfl hq rfl ?_
 rw [show decide (u1.size < u2.size)=false by rw [hsz];simp,e1,e2]
 rw [jN5 (by simpa using lo)] at z
 refine kat_cons (jB4 (by lia) ho ho' ro ro' po po' do_ PG w _ _ ?_)
 cases he2:eqbs o o'
 ·rw [if_neg (fun z=>by rw [(zS3 hko lo).mpr z] at he2;cases he2)] at z
  exact kat_no (jG6 _ (by lia) ho ho' ro ro' hko po po' do_ z)
 ·rw [if_pos ((zS3 hko lo).mp he2)] at z
  refine kat_yes (kat_cons (jB4 (by lia) hx hx' rx rx' px px' dx PG w _ _ ?_))
  cases he3:eqbs x x'
  ·exact kat_no (jG6 _ (by lia) hx hx' rx rx' hkx px px' dx z)
  ·rw [(zS3 hkx lx).mp he3,jE8] at z
   exact kat_yes (kat_nil z)
end
noncomputable def insI (i:Int) (l:List Int):List Int:=List.rec [i] (fun j l r=>if i<=j then i::j::l else j::r) l
theorem jB2 (i j:Int) (l:List Int):insI i (j::l)=if i<=j then i::j::l else j::insI i l:=rfl
noncomputable def isort (l:List Int):List Int:=l.foldr insI []
theorem jC0 (i:Int) (l:List Int):(insI i l).Perm (i::l):=by
 induction l with
 | nil=>exact .refl _
 | cons j l ih=>
  rw [jB2]
  by_cases e:i<=j
  ·rw [if_pos e]
  ·rw [if_neg e];exact (ih.cons j).trans (.swap ..)
theorem zF4 (l:List Int):(isort l).Perm l:=by
 induction l with
 | nil=>exact .refl _
 | cons i l ih=>exact (jC0 i _).trans (ih.cons i)
theorem jV4 (i:Int) {l:List Int} (h:l.Pairwise (·<=·)):(insI i l).Pairwise (·<=·):=by
 induction l with
 | nil=>exact List.pairwise_singleton ..
 | cons j l ih=>
  have h2:=xN.mp h
  rw [jB2]
  by_cases e:i<=j
  ·rw [if_pos e]
   exact xN.mpr ⟨vF.mpr ⟨e,fun a ha=>kT e (h2.1 a ha)⟩,h⟩
  ·rw [if_neg e]
   refine xN.mpr ⟨fun a ha=>?_,ih h2.2⟩
   rcases jN.mp ((jC0 i l).mem_iff.mp ha) with rfl | ha
   ·exact Int.le_of_lt (Int.not_le.mp e)
   ·exact h2.1 a ha
theorem zV6 (l:List Int):(isort l).Pairwise (·<=·):=by
 induction l with
 | nil=>exact .nil
 | cons i l ih=>exact jV4 i ih
theorem zZ3 {l m:List Int} (p:l.Perm m) (h1:l.Pairwise (·<=·)) (h2:m.Pairwise (·<=·)):l=m:=p.eq_of_pairwise (fun oo1 oo2 oo3 oo4=>Int.le_antisymm) h1 h2
section
variable {d:Nat} {sc:Scope} {ρ:Lc} {σ:Sto} {ι:List Addr}
theorem VRs.of_ints {h:Heap} {cs:List Value} {ns:List Int} (r:IntsAre cs ns):VRs h ι (ns.map .int) cs:=by
 induction r with
 | nil=>exact .nil
 | cons _ _ _ ih=>exact .cons (.int _ _) ih
theorem zW4 {h:Heap} {vs:List Value} {out:Array Value}:(∀ b o,h.get? b=some o->(sortedAll h vs out).get? b=some o)/\h.objs.size<=(sortedAll h vs out).objs.size/\∃ k,(sortedAll h vs out).get? (h.objs.size+1)=some (seqObj "list" out k):=by
 have hsz:((h.push (seqObj "list" #[] 0)).update h.objs.size (Obj.mapSeq (·++vs.toArray))).objs.size=h.objs.size+1:=by
  rw [wD,size_push']
 unfold sortedAll sortedHeap
 generalize hH:(h.push (seqObj "list" #[] 0)).update h.objs.size (Obj.mapSeq (·++vs.toArray))=H at hsz ⊢
 have k1:∀ b o,h.get? b=some o->(H.push (seqObj "list" vs.toArray 0)).get? b=some o:=fun b o e=>by
  have hb:=jC e
  rw [xR _ _ _ (by rw [hsz];exact jP (qY hb)),<-hH,yV _ _ _ _ (jP hb),xR _ _ _ (jP hb)]
  exact e
 have hoL:(H.push (seqObj "list" vs.toArray 0)).get? (h.objs.size+1)=some (seqObj "list" vs.toArray 0):=by
  rw [<-hsz];exact zT _ rfl
 have e1:=get?_update_seq hoL fun oo1=>#[]
 have e2:=zF (seqObj "list" #[] 0) (zF (seqObj "tuple" vs.toArray 0) e1)
 refine ⟨fun b o e=>?_,?_,⟨_,get?_update_seq e2 fun oo1=>out⟩⟩
 ·have hb:=jC e
  have hne:b≠h.objs.size+1:=jP (qY hb)
  rw [yV _ _ _ _ hne]
  refine zF _ (zF _ ?_)
  rw [yV _ _ _ _ hne]
  exact k1 b o e
 ·rw [wD,size_push',size_push',wD,size_push',hsz]
  lia
theorem zL8 {n:Nat} {l:List Int} {P:V->Sto->Prop} (hn:σ[n]?=some (.lst (l.map .int))) (hz:l.length < 64) (h:P (.ref σ.length) (σ++[.lst ((isort l).map .int)])):Cl w h₀ d (.builtin "sorted") [.ref n] σ P:=fun A s ι cs hA S r E=>by
 cases r using VRs.consE with
 | cons r1 r=>cases r using VRs.nilE;cases r1 using VR.refE with
  | ref ha=>
   obtain ⟨vs,k,hl,hv⟩:=S.objs _ _ _ ha hn
   have e:l.length=vs.size:=by rw [<-zG,<-hv.length,zD]
   refine sorted_ints (vs:=vs.toList) ⟨_,hl,rfl,k,rfl⟩ hv.ints (by rw [zG];lia) fun out ns' hI hp hs=>?_
   obtain ⟨hk,hzz,k',hD⟩:=zW4 (h:=s.heap) (vs:=vs.toList) (out:=out)
   have hnew:s.heap.objs.size+1 ∉ ι:=fun m=>absurd (S.lt m) (jK (yY _))
   have st:Stp NoX s { s with heap:=sortedAll s.heap vs.toList out } ι (ι++[s.heap.objs.size+1]):=⟨⟨_,rfl,fun a m=>by rw [zM.mp m];exact yY _⟩,fun a o e oo1 oo2=>hk a o e,hzz,rfl,rfl⟩
   have he:ns'=isort l:=zZ3 (hp.trans (zF4 l).symm) hs (zV6 l)
   subst he
   exact ⟨_,.ref σ.length,_,st,(S.mono hk hzz).adopt (o:=.lst ((isort l).map .int)) hnew (yK S.big) ⟨out,k',hD,VRs.of_ints hI⟩,.ref (by rw [<-S.len];simp),h⟩
end
section
variable {d:Nat} {sc:Scope} {ρ:Lc} {σ:Sto} {ι:List Addr}
end
namespace kC6
def S (A:Around) (E:Value->Shared->Prop) (s:Shared) (a:Addr) (vs:List Value) (n:Nat) (P:PySem.Fin->Shared->Prop):Prop:=∀ {kd:SortKind} {κ:PyProof.Rows.KeyKind} (ho:s.heap.get? a=some (seqObj "list" vs.toArray n)) (h64:vs.length < 64) (hk:∀ h',(∀ b o,b≠a->s.heap.get? b=some o->h'.get? b=some o)->2<=vs.length->∀ (Q:SortKind->Shared->Prop),Q kd { s with heap:=h' }->wpAny (model PG w) A (keyKind' vs.toArray) Q E { s with heap:=h' }) (hC:∀ h',(∀ b o,b≠a->s.heap.get? b=some o->h'.get? b=some o)->2<=vs.length->Cmps (model PG w) A { s with heap:=h' } kd κ (pairsOf vs)) (h:∀ out:Array Value,out.toList.Perm vs->P (.done (.ret .none)) { s with heap:=sortedHeap s.heap a vs out }),wpAny (model PG w) A (Builtin.«list.sort» ⟨[.ref a],[]⟩) P E s
noncomputable def A:Around:=@pick Around nAr fun z=>∀ E s a vs n P,S z E s a vs n P
noncomputable def E:Value->Shared->Prop:=pick fun z=>∀ s a vs n P,S A z s a vs n P
noncomputable def s:Shared:=@pick Shared nSh fun z=>∀ a vs n P,S A E z a vs n P
noncomputable def a:Addr:=pick fun z=>∀ vs n P,S A E s z vs n P
noncomputable def vs:List Value:=pick fun z=>∀ n P,S A E s a z n P
noncomputable def n:Nat:=pick fun z=>∀ P,S A E s a vs z P
noncomputable def P:PySem.Fin->Shared->Prop:=pick fun z=>S A E s a vs n z
theorem core:S A E s a vs n P:=by
 intro kd κ ho h64 hk hC h
 rw [list_sort_plain]
 have ha:a < s.heap.objs.size:=jC ho
 refine wpAny_bind (listItems_at ho rfl ?_)
 refine wpAny_bind (listUpdate_at ho rfl ?_ (by rw [qT,sizeLine_eq];lia) (jO _))
 obtain ⟨e1,ho1⟩:∃ e1,(s.heap.update a (Obj.mapSeq fun oo1=>#[])).get? a=some (seqObj "list" #[] e1):=⟨_,get?_update_seq ho (fun oo1=>#[])⟩
 refine wpAny_bind (seqEpoch_at ho1 rfl ?_)
 refine wpAny_bind (wpAny_newTuple ?_ (by show vs.length<=_;rw [sizeLine_eq];lia))
 refine wpAny_bind (wpAny_newList ?_ (jO _))
 refine wpAny_holding ?_
 have ho6:(((s.heap.update a (Obj.mapSeq fun oo1=>#[])).push (seqObj "tuple" vs.toArray 0)).push (seqObj "list" #[] 0)).get? a=some (seqObj "list" #[] e1):=
  zF _ (zF _ ho1)
 have hkeep:∀ b o,b≠a->s.heap.get? b=some o->(((s.heap.update a (Obj.mapSeq fun oo1=>#[])).push (seqObj "tuple" vs.toArray 0)).push (seqObj "list" #[] 0)).get? b=some o:=fun b o hb e=>
  zF _ (zF _ (by rw [yV _ _ _ _ hb];exact e))
 show wpAny (model PG w) A _ P E { s with heap:=((s.heap.update a (Obj.mapSeq fun oo1=>#[])).push (seqObj "tuple" vs.toArray 0)).push (seqObj "list" #[] 0) }
 dsimp only
 have fin:∀ st':SortSt,(arrOf st').Perm (pairsOf vs)->P (.done (.ret .none)) { s with heap:=sortedHeap s.heap a vs ((arrOf st').map (·.2)) }:=fun st' hp=>by
  refine h _ ?_
  rw [Array.toList_map]
  have:=(wQ.mp hp).map (·.2)
  rw [pairsOf_toList,List.map_snd_zip (zK _)] at this
  exact this
 by_cases h2:vs.toArray.size < 2
 ·rw [if_pos h2,if_pos h2]
  refine wpAny_bind (wpAny_pure ?_)
  rw [StateT.run_pure]
  refine wpAny_bind (wpAny_pure ?_)
  dsimp only
  refine wpAny_bind (seqEpoch_at ho6 rfl ?_)
  refine wpAny_bind (listUpdate_at ho6 rfl ?_ (jO _) (by rw [Array.size_map];show (pairsOf vs).size<=_;rw [pairsOf_size,sizeLine_eq];lia))
  refine wpAny_ite_false dne ?_
  exact wpAny_pure (fin (SortSt.mk' general' (vs.toArray.zip vs.toArray) #[] 7 none) (Array.Perm.refl _))
 ·rw [if_neg h2,if_neg h2]
  have h2':2<=vs.length:=by rw [qT] at h2;lia
  refine wpAny_bind (hk _ hkeep h2' _ ?_)
  have C:=hC _ hkeep h2'
  refine wpAny_bind (wpAny_mono (runs (E:=E) _ _ C (st:=SortSt.mk' kd (vs.toArray.zip vs.toArray) #[] 7 none) (Q:=fun oo1 st'=>(arrOf st').Perm (pairsOf vs)/\failedOf st'=none) ⟨Array.Perm.refl _,rfl,rfl,rfl⟩ (by rw [pairsOf_size];exact h2') (by rw [pairsOf_size];exact h64) fun st' a1 a2 oo1=>⟨a1,a2⟩) ?_ fun oo1 oo2 e=>e)
  rintro ⟨⟨⟩,st'⟩ s' ⟨rfl,hp,hf⟩
  refine wpAny_bind (seqEpoch_at ho6 rfl ?_)
  refine wpAny_bind (listUpdate_at ho6 rfl ?_ (jO _) (by refine zB (jU ((Array.size_map ..).trans (hp.size_eq.trans (pairsOf_size _)))) ?_;rw [sizeLine_eq];lia))
  rw [hf]
  refine wpAny_ite_false dne ?_
  exact wpAny_pure (fin st' hp)
theorem all:∀ A E s a vs n P,S A E s a vs n P:=@cst Around nAr (fun z=>∀ E s a vs n P,S z E s a vs n P) (cst (p:=fun z=>∀ s a vs n P,S A z s a vs n P) (@cst Shared nSh (fun z=>∀ a vs n P,S A E z a vs n P) (cst (p:=fun z=>∀ vs n P,S A E s z vs n P) (cst (p:=fun z=>∀ n P,S A E s a z n P) (cst (p:=fun z=>∀ P,S A E s a vs z P) (cst (p:=fun z=>S A E s a vs n z) core))))))
end kC6
section
variable {d:Nat} {sc:Scope} {ρ:Lc} {σ:Sto} {ι:List Addr}
theorem jM3 {A E s a vs n P}:kC6.S A E s a vs n P:=kC6.all A E s a vs n P
theorem zK7 {h:Heap} {a:Addr} {vs:List Value} {out:Array Value} {n:Nat} (ho:h.get? a=some (seqObj "list" vs.toArray n)):(∀ b o,b≠a->h.get? b=some o->(sortedHeap h a vs out).get? b=some o)/\h.objs.size<=(sortedHeap h a vs out).objs.size/\∃ k,(sortedHeap h a vs out).get? a=some (seqObj "list" out k):=by
 unfold sortedHeap
 have e1:=get?_update_seq ho fun oo1=>#[]
 have e2:=zF (seqObj "list" #[] 0) (zF (seqObj "tuple" vs.toArray 0) e1)
 refine ⟨fun b o hne e=>?_,?_,⟨_,get?_update_seq e2 fun oo1=>out⟩⟩
 ·rw [yV _ _ _ _ hne]
  refine zF _ (zF _ ?_)
  rw [yV _ _ _ _ hne]
  exact e
 ·rw [wD,size_push',size_push',wD]
  lia
theorem jP8 {A:Around} {E:Value->Shared->Prop} {s:Shared} {x:Value} {kd:SortKind} {κ:PyProof.Rows.KeyKind} {Q:Value->Shared->Prop} {els:List Value} (h64:els.length < 64)
  (hcol:∀ (Q':List Value->Shared->Prop),(∀ h' dr cs,(∀ b o,s.heap.get? b=some o->h'.get? b=some o)->s.heap.objs.size<=h'.objs.size->cs.Perm els->Q' cs { s with heap:=h',drawn:=dr })->wpAny (model PG w) A.in1 (collect x) Q' E s)
  (hk:∀ (cs:List Value) (s':Shared),cs.Perm els->gQ s.heap s'.heap->2<=cs.length->∀ (Q:SortKind->Shared->Prop),Q kd s'->wpAny (model PG w) A.in1.in1 (keyKind' cs.toArray) Q E s')
  (hC:∀ (cs:List Value) (s':Shared),cs.Perm els->gQ s.heap s'.heap->2<=cs.length->Cmps (model PG w) A.in1.in1 s' kd κ (pairsOf cs))
  (h:∀ h' dr D (out:Array Value) k,(∀ b o,s.heap.get? b=some o->h'.get? b=some o)->s.heap.objs.size<=h'.objs.size->s.heap.objs.size<=D->h'.get? D=some (seqObj "list" out k)->out.toList.Perm els->Q (.ref D) { s with heap:=h',drawn:=dr }) :
  wpAny (model PG w) A (call (.builtin "sorted") [x]) Q E s:=by
 refine Calls.call_function_entry kind_sorted plain_sorted entry_sorted (args_sorted1 _) ?_
 refine wpAny_bind (m:=checkCount "sorted" 1 1 _) (wpAny_pure ?_)
 refine wpAny_bind (hcol _ fun h₁ dr cs hk₁ hz₁ hp=>?_)
 have hlen:cs.length=els.length:=hp.length_eq
 refine wpAny_bind (wpAny_newList ?_ (by rw [sizeLine_eq];lia))
 have hoL:(h₁.push (seqObj "list" cs.toArray 0)).get? h₁.objs.size=some (seqObj "list" cs.toArray 0):=zT _ rfl
 have kp:∀ b o,s.heap.get? b=some o->(h₁.push (seqObj "list" cs.toArray 0)).get? b=some o:=fun b o e=>zF _ (hk₁ b o e)
 have ne:∀ b o,s.heap.get? b=some o->b≠h₁.objs.size:=fun b o e=>jP (zO (jC e) hz₁)
 show wpAny _ _ _ _ _ { s with heap:=h₁.push (seqObj "list" cs.toArray 0),drawn:=dr }
 refine wpAny_bind (wpAny_holding (wpAny_call_entry slot_list_sort ⟨_,hoL,rfl⟩ entry_list_sort (jM3 (s:={ s with heap:=h₁.push (seqObj "list" cs.toArray 0),drawn:=dr }) (kd:=kd) (κ:=κ) hoL (by lia) (fun h' hh h2 Q hQ=>hk cs _ hp (fun b us m e=>hh b _ (ne b _ e) (kp b _ e)) h2 Q hQ) (fun h' hh h2=>hC cs _ hp (fun b us m e=>hh b _ (ne b _ e) (kp b _ e)) h2) fun out ho=>⟨_,rfl,?_⟩) (args_list_sort _)))
 obtain ⟨k1,k2,k,k3⟩:=zK7 (out:=out) hoL
 refine wpAny_pure ⟨_,rfl,h _ dr _ out k (fun b o e=>k1 b o (ne b o e) (kp b o e)) (zB hz₁ (zB ?_ k2)) hz₁ k3 (ho.trans hp)⟩
 rw [size_push']
 lia
end
section
variable {d:Nat} {sc:Scope} {ρ:Lc} {σ:Sto} {ι:List Addr}
theorem VRs.perm {h:Heap} {els cs:List Value} (p:cs.Perm els):∀ {l:List V},VRs h ι l els->∃ m,m.Perm l/\VRs h ι m cs:=by
 induction p with
 | nil=>intro l r;cases r;exact ⟨[],.refl _,.nil⟩
 | cons x p ih=>
  intro l r
  cases r with
  | cons r1 r2=>
   obtain ⟨m,hm,rm⟩:=ih r2
   exact ⟨_::m,hm.cons _,.cons r1 rm⟩
 | swap x y l'=>
  intro l r
  cases r with
  | cons r1 r=>cases r with
   | cons r2 r=>exact ⟨_,.swap ..,.cons r2 (.cons r1 r)⟩
 | trans p q ih1 ih2=>
  intro l r
  obtain ⟨m,hm,rm⟩:=ih2 r
  obtain ⟨m',hm',rm'⟩:=ih1 rm
  exact ⟨m',hm'.trans hm,rm'⟩
theorem SE.vrs {h:Heap} {l:List V} {es:List (Int×Value)} (r:SE w h ι l es):VRs h ι l (es.map (·.2)):=by
 induction r with
 | nil=>exact .nil
 | cons r _ ih=>exact .cons r ih
noncomputable def SS (w:World) (d:Nat) (l:List V) (R:List V->Prop):Prop:=
 ∀ (A:Around) (s:Shared) (ι:List Addr) (lx:Addr) (vs:Array Value) (k:Nat) (Q:Value->Shared->Prop) (E:Value->Shared->Prop),Room A d->s.heap.get? lx=some { cls:=.type "list",data:=.seq vs k }->VRs s.heap ι l vs.toList->
  (∀ s' D out k' m,(∀ b o,s.heap.get? b=some o->s'.heap.get? b=some o)->s.heap.objs.size<=s'.heap.objs.size->s.heap.objs.size<=D->s'.heap.get? D=some (seqObj "list" out k')->VRs s'.heap ι m out.toList->R m->s'.gens=s.gens->s'.os=s.os->Q (.ref D) s')->
  wpAny (model PG w) A (call (.type "set") [.ref lx]) (fun x s₁=>wpAny (model PG w) A (call (.builtin "sorted") [x]) Q E s₁) E s
theorem zW1 {f g e:Expr} {pos pos2:Pos} {P:V->Sto->Prop}
  (h:Ev w h₀ d sc f ρ σ fun u σ₁=>u=.con (.builtin "sorted")/\Ev w h₀ d sc g ρ σ₁ fun u' σ₂=>u'=.con (.type "set")/\Ev w h₀ d sc e ρ σ₂ fun v σ₃=>∃ n l R,v=.ref n/\σ₃[n]?=some (.lst l)/\SS w d l R/\∀ m,R m->P (.ref σ₃.length) (σ₃++[.lst m]))
  (he1:∀ env,eval (.Call f [.Call g [e] [] pos2] [] pos) env=(do callWith pos (<-eval f env) [] (backTo pos (starEach [.Call g [e] [] pos2] env)) (backToKw pos (keywordEach [] env))):=by intro; rfl)
  (he2:∀ env,eval (.Call g [e] [] pos2) env=(do callWith pos2 (<-eval g env) [] (backTo pos2 (starEach [e] env)) (backToKw pos2 (keywordEach [] env))):=by intro; rfl)
  (hs1:∀ env,starEach [.Call g [e] [] pos2] env=(false,eval (.Call g [e] [] pos2) env)::starEach [] env:=by intro; rfl) (hs2:∀ env,starEach [e] env=(false,eval e env)::starEach [] env:=by intro; rfl):Ev w h₀ d sc (.Call f [.Call g [e] [] pos2] [] pos) ρ σ P:=fun A env s ι hA hs F S E=>Call_ ((h A env s ι hA hs F S).seq fun c s₁ ι₁ u σ₁ st S₁ r ⟨hu,p⟩=>by
  subst hu
  cases r using VR.conE
  refine zH2 rfl (wpAny_items_cons ?_ (hs1 env)) (hs1 env) rfl
  refine Call_ ((p A env s₁ ι₁ hA hs (F.stp st S) S₁).seq fun c s₂ ι₂ u₂ σ₂ st₂ S₂ r₂ ⟨hu₂,p₂⟩=>?_) (he2 env)
  subst hu₂
  cases r₂ using VR.conE
  refine zH2 rfl (wpAny_items_cons ((p₂ A env s₂ ι₂ hA hs (F.stp (st.trans st₂) S) S₂).seq fun c s₃ ι₃ v σ₃ st₃ S₃ r₃ p₃=>?_) (hs2 env)) (hs2 env) rfl
  obtain ⟨n,l,R,rfl,hn,hSS,hP⟩:=p₃
  cases r₃ using VR.refE with
  | ref ha=>
   obtain ⟨vs,k,hl,hv⟩:=S₃.objs _ _ _ ha hn
   refine wpAny_items_nil ?_
   refine wpAny_mono (hSS A s₃ ι₃ _ vs k (DoO w h₀ VR s ι P) E hA hl hv fun s' D out k' m hk hz hD hg hm hR h1 h2=>?_) (fun x s' hx=>wpAny_items_nil hx) fun oo1 oo2 x=>x
   have hnew:D ∉ ι₃:=fun m=>absurd (S₃.lt m) (jK hD)
   have st':Stp NoX s₃ s' ι₃ (ι₃++[D]):=⟨⟨_,rfl,fun a m=>by rw [zM.mp m];exact hD⟩,fun a o e oo1 oo2=>hk a o e,hz,h1,h2⟩
   exact ⟨_,.ref σ₃.length,_,((st.trans st₂).trans st₃).trans st',(S₃.mono hk hz).adopt (o:=.lst m) hnew (zB S₃.big hD) ⟨out,k',hg,hm.mono (fun oo1 oo2 oo3 e=>e) zE3⟩,.ref (by rw [<-S₃.len];simp),hP m hR⟩) (he1 env)
end
structure Nds (L:List (List V)):Prop where
 len:L.length<=4
 nodup:L.Nodup
 flat:∀ l∈L,flat (.tup l)=true
 kin:∀ l∈L,∀ m∈L,kins l m=true
 str:∀ l∈L,∃ x r,l=V.str x::r
section
variable {d:Nat} {sc:Scope} {ρ:Lc} {σ:Sto} {ι:List Addr}
theorem jQ7 {L:List (List V)} (N:Nds L):zV4 w ι (L.map .tup) (fun i els=>els.Perm ((L.map V.tup).take i)):=by
 intro A s a i v c els Q E hu hv hj hS rv hQ
 have hi:i < L.length:=by have:=(zC.mp hv).1;simpa using this
 have hnd:(L.map V.tup).Nodup:=List.Pairwise.map V.tup (fun a b (hne:a≠b) (e:V.tup a=V.tup b)=>hne (by cases e;rfl)) N.nodup
 have hfl:∀ u∈L.map V.tup,flat u=true:=fun u hu=>by
  obtain ⟨l,hl,rfl⟩:=jS.mp hu
  exact N.flat l hl
 have hlen:=N.len
 have htk:(L.map V.tup).take (i+1)=(L.map V.tup).take i++[v]:=by rw [jJ,hv];rfl
 refine jN0 hu hS (by rw [hj.length_eq,wW];lia) (hfl v (zI hv)) (fun u hu=>?_) rv fun b h' tk l' hs' hS' hp=>hQ b h' tk l' hs' hS' ?_
 ·have hm:=hj.mem_iff.mp hu
  refine ⟨hfl u (List.mem_of_mem_take hm),fun q=>?_⟩
  subst q
  have:=hnd.sublist (List.take_sublist (i+1) _)
  rw [htk] at this
  exact (vR.mp this).2.2 _ hm _ (zM.mpr rfl) rfl
 ·show l'.Perm ((L.map V.tup).take (i+1))
  rw [htk]
  exact hp.trans ((hj.cons v).trans (List.perm_append_comm (l₁:=[v])))
open Classical in
noncomputable def keyT (h:Heap) (ι:List Addr) (L:List (List V)) (c:Value):Option (List Int):=
 if e:∃ l,l∈L/\VR h ι (.tup l) c then some (e.choose.map encA) else none
theorem jD9 {h:Heap} {L:List (List V)} (hp:∀ l∈L,gR l=true) {l:List V} {c:Value} (hl:l∈L) (r:VR h ι (.tup l) c):keyT h ι L c=some (l.map encA):=by
 have e:∃ l,l∈L/\VR h ι (.tup l) c:=⟨l,hl,r⟩
 unfold keyT
 rw [dif_pos e]
 obtain ⟨h1,h2⟩:=e.choose_spec
 have:V.tup e.choose=V.tup l:=VR.inj (v:=.tup e.choose) (u:=.tup l) (hp _ h1) (hp _ hl) h2 r
 cases this
 rfl
noncomputable def kindT (h:Heap) (ι:List Addr) (L:List (List V)):PyProof.Rows.KeyKind:={ ordL with keyOf:=keyT h ι L,dflt:=[] }
theorem Nds.pure {L:List (List V)} (N:Nds L):∀ l∈L,gR l=true/\deps l=0:=fun l hl=>by
 have h:=zC7 (N.flat l hl)
 exact ⟨h.1,vV.mp (qV h.2)⟩
noncomputable def untup (v:V):List V:=V.casesOn v [] (fun oo1=>[]) (fun oo1=>[]) (fun oo1=>[]) (fun l=>l) (fun oo1=>[]) fun oo1=>[]
theorem jB7:∀ (L:List (List V)),(L.map V.tup).map untup=L
 | []=>rfl
 | l::L=>by rw [zU,zU,jB7 L];rfl
theorem jB0 {m:List V} {L:List (List V)} (hp:m.Perm (L.map V.tup)):∃ M:List (List V),m=M.map V.tup/\M.Perm L:=by
 refine ⟨m.map untup,?_,by have:=hp.map untup;rwa [jB7] at this⟩
 have:∀ u∈m,V.tup (untup u)=u:=fun u hu=>by
  obtain ⟨l,_,rfl⟩:=jS.mp (hp.mem_iff.mp hu)
  rfl
 rw [jE]
 conv=>lhs;rw [<-gA m]
 exact qP fun u hu=>(this u hu).symm
theorem kat_tups {h:Heap} {M:List (List V)} {cs:List Value} (q:VRs h ι (M.map .tup) cs) (hs:∀ l∈M,∃ x r,l=V.str x::r):∃ fs,KatTups h cs fs/\fs.length=cs.length/\∀ v∈fs,∃ x t,v=Value.str x t:=by
 induction M generalizing cs with
 | nil=>cases q using VRs.nilE;exact ⟨[],.nil,rfl,fun oo1 h=>nomatch h⟩
 | cons l M ih=>
  cases q using VRs.consE with
  | cons r1 r2=>
  obtain ⟨fs,h1,h2,h3⟩:=ih r2 fun l hl=>hs l (zY _ hl)
  obtain ⟨x,r,rfl⟩:=hs l (jA ..)
  cases r1 using VR.tupE with
  | @tup a vs n ha hv=>
   generalize hvs:vs.toList=cl at hv
   cases hv using VRs.consE with
   | cons q1 q2=>
    cases q1 using VR.strE with
    | str t=>
     refine ⟨Value.str x t::fs,.cons ha rfl rfl (by rw [<-zW,hvs];rfl) h1,congrArg (·+1) h2,fun v hv=>?_⟩
     rcases jN.mp hv with rfl | hv
     ·exact ⟨x,t,rfl⟩
     ·exact h3 v hv
theorem jR6 {A:Around} {s:Shared} {h:Heap} {L:List (List V)} {cs:List Value} (N:Nds L) (hu:A.units+10 < cLine) (tk:gQ h s.heap) (hr:∀ c∈cs,∃ l,l∈L/\VR h ι (.tup l) c):Cmps (model PG w) A s (tuples' true) (kindT h ι L) (pairsOf cs):=by
 have hp:=fun l hl=>(N.pure l hl).1
 have hm:∀ p∈(pairsOf cs).toList,∃ l,l∈L/\VR h ι (.tup l) p.1:=fun p hp=>by
  rw [pairsOf_toList] at hp
  exact hr _ (mem_zip_self hp).2
 refine ⟨fun p hpm=>?_,fun p q a b E Q hpm hqm ha hb hQ=>?_⟩
 ·obtain ⟨l,hl,r⟩:=hm p hpm
  exact ⟨_,jD9 hp hl r⟩
 ·obtain ⟨l,hl,r⟩:=hm p hpm
  obtain ⟨l',hl',r'⟩:=hm q hqm
  have e1:=jD9 hp hl r
  have e2:=jD9 hp hl' r'
  cases e1.symm.trans ha
  cases e2.symm.trans hb
  exact key_flat hu (r.mono tk fun oo1 oo2 e=>e) (r'.mono tk fun oo1 oo2 e=>e) (N.kin l hl l' hl') (hp l hl) (hp l' hl') (N.pure l hl).2 hQ
theorem ss_tups {L:List (List V)} (N:Nds L):SS w d (L.map .tup) (fun m=>∃ M:List (List V),m=M.map .tup/\M.Perm L):=by
 intro A s ι lx vs k Q E hA hl hv hQ
 refine jH7 (jQ7 N) (by simp) (by have:=hA.u;lia) hA.handled hl hv fun h₁ tk els hk₁ hz₁ hS hj=>?_
 rw [zR (by simp)] at hj
 obtain ⟨es,ep,t,m,he,T,hz,hled,se⟩:=hS
 have hel:=se.vrs
 obtain ⟨M₀,hM₀,hMp⟩:=jB0 hj
 have hlen:es.size=L.length:=by rw [<-zG,<-se.length,hj.length_eq,zD]
 have hN:=N.len
 have hmem:∀ {cs:List Value},cs.Perm (es.toList.map (·.2))->∃ M:List (List V),M.Perm L/\VRs h₁ ι (M.map .tup) cs:=fun hp=>by
  obtain ⟨m',hm',rm'⟩:=hel.perm hp
  obtain ⟨M,rfl,hM⟩:=jB0 (hm'.trans hj)
  exact ⟨M,hM,rm'⟩
 have hin:∀ {h':Heap} {M:List (List V)} {cs:List Value},VRs h' ι (M.map .tup) cs->M.Perm L->∀ c∈cs,∃ l,l∈L/\VR h' ι (.tup l) c:=fun rm hM c hc=>by
  obtain ⟨i,hi⟩:=yC.mp hc
  obtain ⟨v,hv,rv⟩:=rm.getc hi
  obtain ⟨l,hl,rfl⟩:=jS.mp (zI hv)
  exact ⟨l,hM.mem_iff.mp hl,rv⟩
 refine jP8 (s:={ s with heap:=h₁,toks:=tk }) (kd:=tuples' true) (κ:=kindT h₁ ι L) (els:=es.toList.map (·.2)) (by rw [zD,zG];lia)
  (fun Q' hQ'=>zS8 (A:=A.in1) (s:={ s with heap:=h₁,toks:=tk }) (by simpa using hA.handled) ⟨he,T,hz,hled⟩ fun h' dr cs hk hz hp=>hQ' h' dr cs hk hz hp)
  (fun cs s' hp htk h2 Q' hq=>?_) (fun cs s' hp htk h2=>?_) fun h' dr D out k' hk hz hD hg ho=>?_
 ·obtain ⟨M,hM,rM⟩:=hmem hp
  obtain ⟨fs,h1,h3,h4⟩:=kat_tups (rM.mono htk fun oo1 oo2 e=>e) fun l hl=>N.str l (hM.mem_iff.mp hl)
  exact kat_kind (T:=.type "str") h1 (by lia) (fun v hv=>by obtain ⟨x,t,rfl⟩:=h4 v hv;exact Looks.of_pure rfl) (by decide) hq
 ·obtain ⟨M,hM,rM⟩:=hmem hp
  exact jR6 N (by have:=hA.u;simp only [Around.in1_units];lia) htk (hin rM hM)
 ·obtain ⟨M,hM,rM⟩:=hmem ho
  exact hQ { s with heap:=h',drawn:=dr,toks:=tk } D out k' _ (fun b o e=>hk b o (hk₁ b o e)) (zB (qI hz₁) hz) (zB (qI hz₁) hD) hg (rM.mono (fun b us m e=>hk _ _ e) fun oo1 oo2 e=>e) ⟨M,rfl,hM⟩ rfl rfl
end
noncomputable def dedS (acc:List Int) (i:Int):List Int:=if i∈acc then acc else i::acc
noncomputable def ded (l:List Int):List Int:=l.foldl dedS []
theorem jT9 {a b:List Int} (p:a.Perm b) (i:Int):(dedS a i).Perm (dedS b i):=by
 unfold dedS
 by_cases h:i∈a
 ·rw [if_pos h,if_pos (p.mem_iff.mp h)];exact p
 ·rw [if_neg h,if_neg fun q=>h (p.mem_iff.mpr q)];exact p.cons i
theorem ded_len:∀ (l acc:List Int),(l.foldl dedS acc).length<=acc.length+l.length
 | [],acc=>by simp
 | i::l,acc=>by
  rw [vQ]
  refine zB (ded_len l _) ?_
  unfold dedS
  split <;> simp <;> lia
theorem jH1:∀ (l acc:List Int),acc.length<=(l.foldl dedS acc).length
 | [],_=>zK _
 | i::l,acc=>by
  rw [vQ]
  refine zB ?_ (jH1 l _)
  unfold dedS
  split <;> simp
theorem ded_room {ns:List Int} (hn:(ded ns).length<=4) {i:Nat} (hi:i < ns.length):(ded (ns.take i)).length<=3∨ns[i]∈ded (ns.take i):=by
 by_cases h:ns[i]∈ded (ns.take i)
 ·exact .inr h
 ·refine .inl ?_
  have e:ns=ns.take i++(ns[i]::ns.drop (i+1)):=by rw [<-List.drop_eq_getElem_cons hi,List.take_append_drop]
  have e2:ded ns=(ns.drop (i+1)).foldl dedS (ns[i]::ded (ns.take i)):=by
   conv=>lhs;rw [e]
   unfold ded
   rw [List.foldl_append,vQ]
   congr 1
   unfold dedS
   exact if_neg h
  have:=jH1 (ns.drop (i+1)) (ns[i]::ded (ns.take i))
  rw [<-e2,zV] at this
  lia
section
variable {d:Nat} {sc:Scope} {ρ:Lc} {σ:Sto} {ι:List Addr}
theorem jQ0 {ns:List Int} (hn:(ded ns).length<=4):zV4 w ι (ns.map .int) (fun i els=>∃ ms:List Int,els=ms.map .int/\ms.Perm (ded (ns.take i))):=by
 intro A s a i v c els Q E hu hv hj hS rv hQ
 obtain ⟨ms,rfl,hp⟩:=hj
 have hi:i < ns.length:=by have:=(zC.mp hv).1;simpa using this
 rw [zS,zQ hi] at hv
 cases hv
 have hlen:ms.length<=3∨ns[i]∈ms:=by
  rcases ded_room hn hi with q | q
  ·exact .inl (by rw [hp.length_eq];exact q)
  ·exact .inr (hp.mem_iff.mpr q)
 refine jL5 hS hlen rv fun b h' tk l' hs' hS' hp'=>hQ b h' tk _ hs' hS' ⟨l',rfl,hp'.trans ?_⟩
 have e:ns.take (i+1)=ns.take i++[ns[i]]:=by rw [jJ,zQ hi];rfl
 rw [e]
 unfold ded
 rw [List.foldl_append]
 exact jT9 hp _
theorem jU5 {m:List V} {L:List Int} (hp:m.Perm (L.map V.int)):∃ M:List Int,m=M.map V.int/\M.Perm L:=by
 let un:V->Int:=fun v=>match v with | .int i=>i | _=>0
 have e:∀ L:List Int,(L.map V.int).map un=L:=fun L=>by rw [jE];exact gA L
 refine ⟨m.map un,?_,by have:=hp.map un;rwa [e] at this⟩
 have:∀ u∈m,V.int (un u)=u:=fun u hu=>by
  obtain ⟨l,_,rfl⟩:=jS.mp (hp.mem_iff.mp hu)
  rfl
 rw [jE]
 conv=>lhs;rw [<-gA m]
 exact qP fun u hu=>(this u hu).symm
theorem zY7 {A:Around} {E:Value->Shared->Prop} {s:Shared} {x:Value} {Q:Value->Shared->Prop} {els:List Value} {ms:List Int} (h64:els.length < 64) (hI:∀ cs:List Value,cs.Perm els->∃ ms':List Int,IntsAre cs ms'/\ms'.Perm ms)
  (hcol:∀ (Q':List Value->Shared->Prop),(∀ h' dr cs,(∀ b o,s.heap.get? b=some o->h'.get? b=some o)->s.heap.objs.size<=h'.objs.size->cs.Perm els->Q' cs { s with heap:=h',drawn:=dr })->wpAny (model PG w) A.in1 (collect x) Q' E s)
  (h:∀ h' dr D (out:Array Value) k,(∀ b o,s.heap.get? b=some o->h'.get? b=some o)->s.heap.objs.size<=h'.objs.size->s.heap.objs.size<=D->h'.get? D=some (seqObj "list" out k)->IntsAre out.toList (isort ms)->Q (.ref D) { s with heap:=h',drawn:=dr }) :
  wpAny (model PG w) A (call (.builtin "sorted") [x]) Q E s:=by
 refine Calls.call_function_entry kind_sorted plain_sorted entry_sorted (args_sorted1 _) ?_
 refine wpAny_bind (m:=checkCount "sorted" 1 1 _) (wpAny_pure ?_)
 refine wpAny_bind (hcol _ fun h₁ dr cs hk₁ hz₁ hp=>?_)
 have hlen:cs.length=els.length:=hp.length_eq
 refine wpAny_bind (wpAny_newList ?_ (by rw [sizeLine_eq];lia))
 have hoL:(h₁.push (seqObj "list" cs.toArray 0)).get? h₁.objs.size=some (seqObj "list" cs.toArray 0):=zT _ rfl
 have kp:∀ b o,s.heap.get? b=some o->(h₁.push (seqObj "list" cs.toArray 0)).get? b=some o:=fun b o e=>zF _ (hk₁ b o e)
 have ne:∀ b o,s.heap.get? b=some o->b≠h₁.objs.size:=fun b o e=>jP (zO (jC e) hz₁)
 obtain ⟨ms',hI',hpm⟩:=hI cs hp
 show wpAny _ _ _ _ _ { s with heap:=h₁.push (seqObj "list" cs.toArray 0),drawn:=dr }
 refine wpAny_bind (wpAny_holding (wpAny_call_entry slot_list_sort ⟨_,hoL,rfl⟩ entry_list_sort (list_sort_tree (s:={ s with heap:=h₁.push (seqObj "list" cs.toArray 0),drawn:=dr }) hoL hI' (by lia) fun out ns' a1 a2 a3=>⟨_,rfl,?_⟩) (args_list_sort _)))
 obtain ⟨k1,k2,k,k3⟩:=zK7 (out:=out) hoL
 have he:ns'=isort ms:=zZ3 (a2.trans (hpm.trans (zF4 ms).symm)) a3 (zV6 ms)
 subst he
 refine wpAny_pure ⟨_,rfl,h _ dr _ out k (fun b o e=>k1 b o (ne b o e) (kp b o e)) (zB hz₁ (zB ?_ k2)) hz₁ k3 a1⟩
 rw [size_push']
 lia
theorem ss_ints {ns:List Int} (hn:(ded ns).length<=4):SS w d (ns.map .int) (fun m=>m=(isort (ded ns)).map .int):=by
 intro A s ι lx vs k Q E hA hl hv hQ
 refine jH7 (jQ0 hn) ⟨[],rfl,.refl _⟩ (by have:=hA.u;lia) hA.handled hl hv fun h₁ tk els hk₁ hz₁ hS hj=>?_
 rw [zD,zR (zK _)] at hj
 obtain ⟨ms,rfl,hms⟩:=hj
 obtain ⟨es,ep,t,m,he,T,hz,hled,se⟩:=hS
 have hel:=se.vrs
 have hlen:es.size<=4:=by rw [hz];exact T.few
 refine zY7 (s:={ s with heap:=h₁,toks:=tk }) (els:=es.toList.map (·.2)) (ms:=ded ns) (by rw [zD,zG];lia)
  (fun cs hp=>?_)
  (fun Q' hQ'=>zS8 (A:=A.in1) (s:={ s with heap:=h₁,toks:=tk }) (by simpa using hA.handled) ⟨he,T,hz,hled⟩ fun h' dr cs hk hz hp=>hQ' h' dr cs hk hz hp)
  fun h' dr D out k' hk hz hD hg ho=>?_
 ·obtain ⟨m',hm',rm'⟩:=hel.perm hp
  obtain ⟨M,rfl,hM⟩:=jU5 hm'
  exact ⟨M,rm'.ints,hM.trans hms⟩
 ·exact hQ { s with heap:=h',drawn:=dr,toks:=tk } D out k' _ (fun b o e=>hk b o (hk₁ b o e)) (zB (qI hz₁) hz) (zB (qI hz₁) hD) hg (VRs.of_ints ho) rfl rfl rfl
end
section
variable {d:Nat} {sc:Scope} {ρ:Lc} {σ:Sto} {ι:List Addr}
inductive All2 {α β:Type} (R:α->β->Prop):List α->List β->Prop
 | nil:All2 R [] []
 | cons {a b l m}:R a b->All2 R l m->All2 R (a::l) (b::m)
theorem All2.perm {α β:Type} {R:α->β->Prop} {ys xs:List β} (p:ys.Perm xs):∀ {l:List α},All2 R l xs->∃ m,m.Perm l/\All2 R m ys:=by
 induction p with
 | nil=>intro l r;cases r;exact ⟨[],.refl _,.nil⟩
 | cons x p ih=>
  intro l r
  cases r with
  | cons r1 r2=>
   obtain ⟨m,hm,rm⟩:=ih r2
   exact ⟨_::m,hm.cons _,.cons r1 rm⟩
 | swap x y l'=>
  intro l r
  cases r with
  | cons r1 r=>cases r with
   | cons r2 r=>exact ⟨_,.swap ..,.cons r2 (.cons r1 r)⟩
 | trans p q ih1 ih2=>
  intro l r
  obtain ⟨m,hm,rm⟩:=ih2 r
  obtain ⟨m',hm',rm'⟩:=ih1 rm
  exact ⟨m',hm'.trans hm,rm'⟩
theorem All2.get {α β:Type} {R:α->β->Prop} {l:List α} {m:List β} (r:All2 R l m):∀ {i:Nat} (h1:i < l.length) (h2:i < m.length),R l[i] m[i]:=by
 induction r with
 | nil=>intro i h1;exact absurd h1 (wI _)
 | cons r _ ih=>
  intro i h1 h2
  cases i with
  | zero=>exact r
  | succ i=>exact ih (Nat.lt_of_succ_lt_succ h1) (Nat.lt_of_succ_lt_succ h2)
theorem All2.len {α β:Type} {R:α->β->Prop} {l:List α} {m:List β} (r:All2 R l m):l.length=m.length:=by
 induction r with
 | nil=>rfl
 | cons _ _ ih=>exact congrArg (·+1) ih
theorem All2.zip {h:Heap} {ks items:List V} {cs vs:List Value} (r:VRs h ι ks cs) (q:VRs h ι items vs):All2 (fun (p:V×V) (q:Value×Value)=>VR h ι p.1 q.1/\VR h ι p.2 q.2) (ks.zip items) (cs.zip vs):=by
 induction r using VRs.ind generalizing items vs with
 | nil=>exact .nil
 | cons a _ ih=>
  cases q using VRs.ind with
  | nil=>exact .nil
  | cons c e _=>exact .cons ⟨a,c⟩ (ih e)
theorem All2.snd {h:Heap} {qs:List (V×V)} {ps:List (Value×Value)} (r:All2 (fun (p:V×V) (q:Value×Value)=>VR h ι p.1 q.1/\VR h ι p.2 q.2) qs ps):VRs h ι (qs.map (·.2)) (ps.map (·.2)):=by
 induction r with
 | nil=>exact .nil
 | cons r _ ih=>exact .cons r.2 ih
theorem jG7 {enc g:V->List Int} {ks items:List V} (h:ks.map enc=items.map g):∀ p∈ks.zip items,p.1∈ks/\enc p.1=g p.2:=by
 induction ks generalizing items with
 | nil=>exact fun oo1 hp=>nomatch hp
 | cons k ks ih=>
  cases items with
  | nil=>cases h
  | cons v items=>
   have h:=List.cons.inj h
   rw [xH]
   exact vF.mpr ⟨⟨jA ..,h.1⟩,fun p hp=>⟨zY _ (ih h.2 p hp).1,(ih h.2 p hp).2⟩⟩
structure zI5 (w:World) (h₀:Heap) (ks:List V) (σ:Sto) (enc:V->List Int):Prop where
 con:∀ k∈ks,zN4 k=true
 kind:∀ (A:Around) (s:Shared) (ι:List Addr) (cs:List Value) (Q:SortKind->Shared->Prop) (E:Value->Shared->Prop),Sim w h₀ s.heap ι σ->VRs s.heap ι ks cs->2<=ks.length->Q (tuples' true) s->wpAny (model PG w) A (keyKind' cs.toArray) Q E s
 lt:∀ (A:Around) (s:Shared) (ι:List Addr) (c e:Value) (k k':V) (Q:Bool->Shared->Prop) (E:Value->Shared->Prop),k∈ks->k'∈ks->A.units+100 < cLine->Sim w h₀ s.heap ι σ->VR s.heap ι k c->VR s.heap ι k' e->Q (ltL (enc k) (enc k')) s->wpAny (model PG w) A (keyLt' (tuples' true) c e) Q E s
open Classical in
noncomputable def keyV (h:Heap) (ι:List Addr) (ks:List V) (enc:V->List Int) (c:Value):Option (List Int):=
 if e:∃ k,k∈ks/\VR h ι k c then some (enc e.choose) else none
theorem zU7 {h:Heap} {ks:List V} {enc:V->List Int} (hd:ι.Nodup) (ht:∀ a∈ι,zI7 h a) (hp:∀ k∈ks,zN4 k=true) {k:V} {c:Value} (hl:k∈ks) (r:VR h ι k c):keyV h ι ks enc c=some (enc k):=by
 have e:∃ k,k∈ks/\VR h ι k c:=⟨k,hl,r⟩
 unfold keyV
 rw [dif_pos e]
 obtain ⟨h1,h2⟩:=e.choose_spec
 rw [VR.one hd ht _ _ _ (hp _ h1) (hp _ hl) h2 r]
noncomputable def jJ7 (h:Heap) (ι:List Addr) (ks:List V) (enc:V->List Int):PyProof.Rows.KeyKind:={ ordL with keyOf:=keyV h ι ks enc,dflt:=[] }
theorem Sim.noTup {h:Heap} (S:Sim w h₀ h ι σ):∀ a∈ι,zI7 h a:=fun oo1 ha oo2 oo3 e=>S.notTup e ha
theorem jU4 {A:Around} {s:Shared} {ks:List V} {enc:V->List Int} {keys:Array Value} {vs:List Value} (K:zI5 w h₀ ks σ enc) (hu:A.units+100 < cLine) (S:Sim w h₀ s.heap ι σ) (hk:VRs s.heap ι ks keys.toList):Cmps (model PG w) A s (tuples' true) (jJ7 s.heap ι ks enc) (keys.zip vs.toArray):=by
 have hm:∀ p∈(keys.zip vs.toArray).toList,∃ k,k∈ks/\VR s.heap ι k p.1:=fun p hp=>by
  rw [ksk_zip] at hp
  have:=(List.of_mem_zip hp).1
  obtain ⟨i,hi⟩:=yC.mp this
  obtain ⟨v,hv,rv⟩:=hk.getc hi
  exact ⟨v,zI hv,rv⟩
 refine ⟨fun p hpm=>?_,fun p q a b E Q hpm hqm ha hb hQ=>?_⟩
 ·obtain ⟨k,hl,r⟩:=hm p hpm
  exact ⟨_,zU7 S.nodup S.noTup K.con hl r⟩
 ·obtain ⟨l,hl,r⟩:=hm p hpm
  obtain ⟨l',hl',r'⟩:=hm q hqm
  cases (zU7 S.nodup S.noTup K.con hl r).symm.trans ha
  cases (zU7 S.nodup S.noTup K.con hl' r').symm.trans hb
  exact K.lt A s ι _ _ _ _ _ _ hl hl' hu S r r' hQ
theorem keys_out {h:Heap} {ks items:List V} {enc g:V->List Int} {keys:Array Value} {vs:List Value} {xs:Array Keyed} (hd:ι.Nodup) (ht:∀ a∈ι,zI7 h a) (hc:∀ k∈ks,zN4 k=true) (hk:VRs h ι ks keys.toList) (hv:VRs h ι items vs) (hg:ks.map enc=items.map g)
  (hp:xs.Perm (keys.zip vs.toArray)) (hs:SortedToK (jJ7 h ι ks enc) xs xs.size):∃ m,VRs h ι m (xs.map (·.2)).toList/\m.Perm items/\m.Pairwise fun a b=>ltL (g b) (g a)=false:=by
 have hl:xs.toList.Perm (keys.toList.zip vs):=by rw [<-ksk_zip];exact wQ.mp hp
 have hlen:ks.length=items.length:=by have:=congrArg List.length hg;simpa using this
 obtain ⟨qs,hq,rq⟩:=All2.perm hl (All2.zip hk hv)
 refine ⟨qs.map (·.2),by rw [Array.toList_map];exact rq.snd,?_,?_⟩
 ·have:=hq.map (·.2)
  rwa [List.map_snd_zip (by lia)] at this
 ·rw [List.pairwise_map,List.pairwise_iff_getElem]
  intro i j hi hj hij
  have hz:=rq.len
  have hi':i < xs.toList.length:=by lia
  have hj':j < xs.toList.length:=by lia
  have q:=hs i j (qI hij) (by simpa using hj')
  have g1:=jG7 hg _ (hq.mem_iff.mp (List.getElem_mem hi))
  have g2:=jG7 hg _ (hq.mem_iff.mp (List.getElem_mem hj))
  have kk:∀ i (hi:i < qs.length) (hi':i < xs.toList.length),qs[i].1∈ks->PyProof.Rows.KK (jJ7 h ι ks enc) xs i=enc qs[i].1:=fun i hi hi' hm=>by
   unfold PyProof.Rows.KK
   rw [<-zW,zQ hi']
   show ((keyV h ι ks enc (xs.toList[i]).1).getD _)=_
   rw [zU7 hd ht hc hm (rq.get hi hi').1]
   rfl
  rw [kk i hi hi' g1.1,kk j hj hj' g2.1] at q
  rw [<-g1.2,<-g2.2]
  exact q
end
section
variable {d:Nat} {sc:Scope} {ρ:Lc} {σ:Sto} {ι:List Addr}
theorem zI2 {h:Heap} {a:Addr} {xs:Array Value} {k:Nat} (e:h.get? a=some (seqObj "list" xs k)):zI7 h a:=fun vs n z=>by
 have z:=congrArg (Option.map Obj.cls) (e.symm.trans z)
 simp at z
theorem key_end {A:Around} {E:Value->Shared->Prop} {s:Shared} {a kS:Addr} {e e1:Nat} {keys:Array Value} {vs:List Value} {ks items:List V} {enc g:V->List Int} {P:PySem.Fin->Shared->Prop} (hu:A.units+100 < cLine) (S:Sim w h₀ s.heap ι σ) (K:zI5 w h₀ ks σ enc) (hg:ks.map enc=items.map g)
  (hk:VRs s.heap ι ks keys.toList) (hv:VRs s.heap ι items vs) (h64:vs.length < 64) (hka:kS≠a) (ok:s.heap.get? kS=some (seqObj "list" keys e)) (oa:s.heap.get? a=some (seqObj "list" #[] e1)) (nk:kS ∉ ι/\h₀.objs.size<=kS) (na:a ∉ ι/\h₀.objs.size<=a)
  (h:∀ h' m (out:Array Value) k,Sim w h₀ h' ι σ->(∀ b o,b≠a->b≠kS->s.heap.get? b=some o->h'.get? b=some o)->s.heap.objs.size<=h'.objs.size->h'.get? a=some (seqObj "list" out k)->VRs h' ι m out.toList->m.Perm items->m.Pairwise (fun a b=>ltL (g b) (g a)=false)->P (.done (.ret .none)) { s with heap:=h' }) :
  wpAny (model PG w) A (ksk_end a false vs.toArray e1 (.ref kS) keys) P E s:=by
 have hl:ks.length=items.length:=by have:=congrArg List.length hg;simpa using this
 have hlk:keys.size=vs.length:=by rw [<-zG,<-hk.length,hl,hv.length]
 have hzs:(keys.zip vs.toArray).size=vs.length:=by rw [Array.size_zip,hlk,qT,Nat.min_self]
 have tail:∀ st:SortSt,(arrOf st).Perm (keys.zip vs.toArray)->SortedToK (jJ7 s.heap ι ks enc) (arrOf st) (arrOf st).size->failedOf st=none->wpAny (model PG w) A (ksk_tail a false e1 (.ref kS) st) P E s:=by
  intro st hp hs hf
  obtain ⟨m,rm,hm,hpw⟩:=keys_out S.nodup S.noTup K.con hk hv hg hp hs
  have hsz2:(arrOf st).size=vs.length:=by rw [hp.size_eq,hzs]
  have s1:=Heap.SameBut.update s.heap kS (Obj.mapSeq fun oo1=>(#[]:Array Value))
  have na1:(s.heap.update kS (Obj.mapSeq fun oo1=>(#[]:Array Value))).get? a=some (seqObj "list" #[] e1):=(s1.2 a hka.symm).trans oa
  unfold ksk_tail
  refine wpAny_bind (listUpdate_at ok rfl ?_ (by rw [hlk,sizeLine_eq];lia) (jO _))
  refine wpAny_bind (wpAny_letGo ?_)
  refine wpAny_bind (seqEpoch_at na1 rfl ?_)
  refine wpAny_bind (listUpdate_at na1 rfl ?_ (jO _) (by simp only [Bool.false_eq_true,if_false,Array.size_map];rw [hsz2,sizeLine_eq];lia))
  rw [hf]
  refine wpAny_ite_false dne ?_
  have s2:=Heap.SameBut.update (s.heap.update kS (Obj.mapSeq fun oo1=>(#[]:Array Value))) a (Obj.mapSeq fun oo1=>(arrOf st).map (·.2))
  have hkeep:∀ b o,b ∉ [a,kS]->s.heap.get? b=some o->((s.heap.update kS (Obj.mapSeq fun oo1=>(#[]:Array Value))).update a (Obj.mapSeq fun oo1=>(arrOf st).map (·.2))).get? b=some o:=fun b o hb e=>by
   simp only [jN,yP,or_false,not_or] at hb
   exact (s2.2 b hb.1).trans ((s1.2 b hb.2).trans e)
  have hsize:s.heap.objs.size<=((s.heap.update kS (Obj.mapSeq fun oo1=>(#[]:Array Value))).update a (Obj.mapSeq fun oo1=>(arrOf st).map (·.2))).objs.size:=by rw [s2.1,s1.1];exact zK _
  obtain ⟨S',tk⟩:=S.off (fp:=[a,kS]) (fun b hb=>by
   simp only [jN,yP,or_false] at hb
   rcases hb with rfl | rfl
   ·exact ⟨na.1,na.2,zI2 oa⟩
   ·exact ⟨nk.1,nk.2,zI2 ok⟩) hkeep hsize
  have hget:=get?_update_seq na1 fun oo1=>(arrOf st).map (·.2)
  have hk3:∀ b o,b≠a->b≠kS->s.heap.get? b=some o->((s.heap.update kS (Obj.mapSeq fun oo1=>(#[]:Array Value))).update a (Obj.mapSeq fun oo1=>(arrOf st).map (·.2))).get? b=some o:=fun b o h1 h2 e=>hkeep b o (by simp only [jN,yP,or_false,not_or];exact ⟨h1,h2⟩) e
  have rm':=rm.mono tk fun oo1 oo2 e=>e
  generalize hc:(if ((arrOf st).map (·.2)).size == (#[]:Array Value).size then e1 else e1+1)=c at hget
  have z1:=h ((s.heap.update kS (Obj.mapSeq fun oo1=>(#[]:Array Value))).update a (Obj.mapSeq fun oo1=>(arrOf st).map (·.2))) m ((arrOf st).map (·.2)) c
  have z2:=z1 S'
  have z3:=z2 hk3 hsize
  have z4:=z3 hget
  have z:=z4 rm' hm hpw
  exact wpAny_pure z
 unfold ksk_end
 simp only [Bool.false_eq_true,if_false]
 by_cases h2:vs.toArray.size < 2
 ·rw [if_pos h2,if_pos h2]
  refine wpAny_bind (wpAny_pure ?_)
  rw [StateT.run_pure]
  refine wpAny_bind (wpAny_pure ?_)
  refine tail (SortSt.mk' general' (keys.zip vs.toArray) #[] 7 none) (Array.Perm.refl _) (fun i j hij hj=>?_) rfl
  have hj2:j < (keys.zip vs.toArray).size:=hj
  rw [qT] at h2
  rw [hzs] at hj2
  have:i=j:=by lia
  subst this
  exact vH _
 ·rw [if_neg h2,if_neg h2]
  have h2':2<=vs.length:=by rw [qT] at h2;lia
  refine wpAny_bind ?_
  have hkind:=K.kind A s ι keys.toList (E:=E) (Q:=fun kd s'=>s'=s/\kd=tuples' true) S hk (by rw [hl,hv.length];exact h2') ⟨rfl,rfl⟩
  rw [Array.toArray_toList] at hkind
  refine wpAny_mono hkind (fun kd s' hks=>?_) fun oo1 oo2 e=>e
  obtain ⟨rfl,rfl⟩:=hks
  refine wpAny_bind (wpAny_mono (runs (E:=E) _ _ (jU4 (vs:=vs) K hu S hk) (st:=SortSt.mk' (tuples' true) (keys.zip vs.toArray) #[] 7 none) (Q:=fun oo1 st'=>(arrOf st').Perm (keys.zip vs.toArray)/\failedOf st'=none/\SortedToK (jJ7 s'.heap ι ks enc) (arrOf st') (keys.zip vs.toArray).size) ⟨Array.Perm.refl _,rfl,rfl,rfl⟩ (by rw [hzs];exact h2') (by rw [hzs];exact h64) fun st' a1 a2 a3=>⟨a1,a2,a3⟩) ?_ fun oo1 oo2 e=>e)
  rintro ⟨⟨⟩,st'⟩ s'' ⟨rfl,hp,hf,hs⟩
  exact tail st' hp (by rw [hp.size_eq];exact hs) hf
end
section
variable {d:Nat} {sc:Scope} {ρ:Lc} {σ:Sto} {ι:List Addr}
theorem notin {s s':Shared} {X:Addr->Prop} {ι':List Addr} {a:Addr} (st:Stp X s s' ι ι') (ha:a ∉ ι) (hl:a < s.heap.objs.size):a ∉ ι':=fun m=>by
 obtain ⟨t,rfl,ht⟩:=st.ext
 rcases jF.mp m with h | h
 ·exact ha h
 ·exact absurd hl (jK (ht a h))
end
namespace kA7
def S (d:Nat) (σ:Sto) (ι:List Addr) (A:Around) (E:Value->Shared->Prop) (s:Shared) (a:Addr) (kS:Addr) (e1:Nat) (f:Value) (vs:List Value) (items:List V) (enc:V->List Int) (g:V->List Int) (J:List V->Sto->Prop) (P:PySem.Fin->Shared->Prop):Prop:=∀ (hA:Room A d) (S:Sim w h₀ s.heap ι σ) (hv:VRs s.heap ι items vs) (h64:vs.length < 64) (hka:kS≠a) (ok:s.heap.get? kS=some (seqObj "list" #[] 0)) (oa:s.heap.get? a=some (seqObj "list" #[] e1)) (nk:kS ∉ ι/\h₀.objs.size<=kS) (na:a ∉ ι/\h₀.objs.size<=a) (j0:J [] σ) (turn:∀ so σ' v,J so σ'->items[so.length]?=some v->Cl w h₀ d f [v] σ' (fun k σ''=>J (so++[k]) σ'')) (fin:∀ ks σ',J ks σ'->ks.length=items.length->zI5 w h₀ ks σ' enc/\ks.map enc=items.map g) (h:∀ s' ι' σ' ks m (out:Array Value) k,Stp (fun x=>x=a∨x=kS) s s' ι ι'->Sim w h₀ s'.heap ι' σ'->J ks σ'->ks.length=items.length->s'.heap.get? a=some (seqObj "list" out k)->VRs s'.heap ι' m out.toList->m.Perm items->m.Pairwise (fun a b=>ltL (g b) (g a)=false)->P (.done (.ret .none)) s'),wpAny (model PG w) A (ksk_rest a f false vs.toArray e1 (.ref kS)) P E s
noncomputable def d:Nat:=pick fun z=>∀ σ ι A E s a kS e1 f vs items enc g J P,S z σ ι A E s a kS e1 f vs items enc g J P
noncomputable def σ:Sto:=pick fun z=>∀ ι A E s a kS e1 f vs items enc g J P,S d z ι A E s a kS e1 f vs items enc g J P
noncomputable def ι:List Addr:=pick fun z=>∀ A E s a kS e1 f vs items enc g J P,S d σ z A E s a kS e1 f vs items enc g J P
noncomputable def A:Around:=@pick Around nAr fun z=>∀ E s a kS e1 f vs items enc g J P,S d σ ι z E s a kS e1 f vs items enc g J P
noncomputable def E:Value->Shared->Prop:=pick fun z=>∀ s a kS e1 f vs items enc g J P,S d σ ι A z s a kS e1 f vs items enc g J P
noncomputable def s:Shared:=@pick Shared nSh fun z=>∀ a kS e1 f vs items enc g J P,S d σ ι A E z a kS e1 f vs items enc g J P
noncomputable def a:Addr:=pick fun z=>∀ kS e1 f vs items enc g J P,S d σ ι A E s z kS e1 f vs items enc g J P
noncomputable def kS:Addr:=pick fun z=>∀ e1 f vs items enc g J P,S d σ ι A E s a z e1 f vs items enc g J P
noncomputable def e1:Nat:=pick fun z=>∀ f vs items enc g J P,S d σ ι A E s a kS z f vs items enc g J P
noncomputable def f:Value:=pick fun z=>∀ vs items enc g J P,S d σ ι A E s a kS e1 z vs items enc g J P
noncomputable def vs:List Value:=pick fun z=>∀ items enc g J P,S d σ ι A E s a kS e1 f z items enc g J P
noncomputable def items:List V:=pick fun z=>∀ enc g J P,S d σ ι A E s a kS e1 f vs z enc g J P
noncomputable def enc:V->List Int:=pick fun z=>∀ g J P,S d σ ι A E s a kS e1 f vs items z g J P
noncomputable def g:V->List Int:=pick fun z=>∀ J P,S d σ ι A E s a kS e1 f vs items enc z J P
noncomputable def J:List V->Sto->Prop:=pick fun z=>∀ P,S d σ ι A E s a kS e1 f vs items enc g z P
noncomputable def P:PySem.Fin->Shared->Prop:=pick fun z=>S d σ ι A E s a kS e1 f vs items enc g J z
theorem core:S d σ ι A E s a kS e1 f vs items enc g J P:=by
 intro hA S hv h64 hka ok oa nk na j0 turn fin h
 have hal:a < s.heap.objs.size:=jC oa
 have hkl:kS < s.heap.objs.size:=jC ok
 have hlv:=hv.length
 refine wpAny_bind (wpAny_rule ?_)
 first
  | rw [List.forIn_toArray]
  | (rw [<-vK];simp only [List.toList_toArray])
  | rw [<-vK]
 refine wpAny_bind (ksk_fold (fun i s'=>∃ ι' σ' so kA e,Stp (fun x=>x=a∨x=kS) s s' ι ι'/\Sim w h₀ s'.heap ι' σ'/\J so σ'/\so.length=i/\s'.heap.get? kS=some (seqObj "list" kA e)/\s'.heap.get? a=some (seqObj "list" #[] e1)/\VRs s'.heap ι' items vs/\VRs s'.heap ι' so kA.toList) vs 0 s
  ⟨ι,σ,[],#[],0,.refl ..,S,j0,rfl,ok,oa,hv,.nil⟩ ?step ?done)
 case step=>
  rintro j x s' hx ⟨ι',σ',so,kA,e,st,S',hJ,hso,ok',oa',hv',hk'⟩
  simp only [qK] at hso ⊢
  obtain ⟨v,hiv,rv⟩:=hv'.getc hx
  have hj:j < vs.length:=(zC.mp hx).1
  have hz:kA.size=j:=by rw [<-zG,<-hk'.length,hso]
  have nk':=notin st nk.1 hkl
  have na':=notin st na.1 hal
  refine wpAny_bind (wpAny_attempt ((turn so σ' v hJ (by rw [hso];exact hiv) A s' ι' [x] hA S' (.cons rv .nil)).seq fun c s₂ ι₂ k σ₂ st₂ S₂ r₂ hJ₂=>?_))
  have ok₂:=st₂.keep _ _ ok' nk' id
  have oa₂:=st₂.keep _ _ oa' na' id
  have nk₂:=notin st₂ nk' (jC ok')
  have s1:=Heap.SameBut.update s₂.heap kS (Obj.mapSeq (·.push c))
  obtain ⟨c2,hc2⟩:∃ c2,(s₂.heap.update kS (Obj.mapSeq (·.push c))).get? kS=some (seqObj "list" (kA.push c) c2):=⟨_,get?_update_seq ok₂ (·.push c)⟩
  obtain ⟨S₃,tk⟩:=S₂.off (fp:=[kS]) (h':=s₂.heap.update kS (Obj.mapSeq (·.push c))) (fun b hb=>by
   rw [zM.mp hb]
   exact ⟨nk₂,nk.2,zI2 ok₂⟩) (fun b o hb e=>(s1.2 b (by simpa using hb)).trans e) (jU s1.1.symm)
  have st₃:Stp (fun x=>x=a∨x=kS) s₂ { s₂ with heap:=s₂.heap.update kS (Obj.mapSeq (·.push c)) } ι₂ ι₂:=
   ⟨⟨[],by simp,by simp⟩,fun b o e oo1 hX=>(s1.2 b fun q=>hX (.inr q)).trans e,jU s1.1.symm,rfl,rfl⟩
  refine wpAny_bind (listUpdate_at ok₂ rfl ?_ (by rw [sizeLine_eq];lia) (zB (jU (Array.size_push ..)) (by rw [sizeLine_eq];lia)))
  refine wpAny_pure ⟨rfl,ι₂,σ₂,so++[k],kA.push c,c2,(st.trans st₂.of_no).trans st₃,S₃,hJ₂,by simp [hso],hc2,(s1.2 a hka.symm).trans oa₂,(hv'.stp st₂ S').mono tk fun oo1 oo2 e=>e,?_⟩
  rw [yS]
  exact ((hk'.stp st₂ S').mono tk fun oo1 oo2 e=>e).snoc (r₂.mono tk fun oo1 oo2 e=>e)
 case done=>
  rintro s' ⟨ι',σ',ks,kA,e,st,S',hJ,hso,ok',oa',hv',hk'⟩
  simp only [qK] at hso
  have nk':=notin st nk.1 hkl
  have na':=notin st na.1 hal
  obtain ⟨K,hg⟩:=fin ks σ' hJ (by lia)
  refine wpAny_bind (listItems_at ok' rfl ?_)
  refine key_end (by have:=hA.u;lia) S' K hg hk' hv' h64 hka ok' oa' ⟨nk',nk.2⟩ ⟨na',na.2⟩ fun h' m out k S₂ hk hz hoa rm hm hp=>?_
  have st₃:Stp (fun x=>x=a∨x=kS) s' { s' with heap:=h' } ι' ι':=
   ⟨⟨[],by simp,by simp⟩,fun b o e oo1 hX=>hk b o (fun q=>hX (.inl q)) (fun q=>hX (.inr q)) e,hz,rfl,rfl⟩
  exact h _ ι' σ' ks m out k (st.trans st₃) S₂ hJ (by lia) hoa rm hm hp
theorem all:∀ d σ ι A E s a kS e1 f vs items enc g J P,S d σ ι A E s a kS e1 f vs items enc g J P:=cst (p:=fun z=>∀ σ ι A E s a kS e1 f vs items enc g J P,S z σ ι A E s a kS e1 f vs items enc g J P) (cst (p:=fun z=>∀ ι A E s a kS e1 f vs items enc g J P,S d z ι A E s a kS e1 f vs items enc g J P) (cst (p:=fun z=>∀ A E s a kS e1 f vs items enc g J P,S d σ z A E s a kS e1 f vs items enc g J P) (@cst Around nAr (fun z=>∀ E s a kS e1 f vs items enc g J P,S d σ ι z E s a kS e1 f vs items enc g J P) (cst (p:=fun z=>∀ s a kS e1 f vs items enc g J P,S d σ ι A z s a kS e1 f vs items enc g J P) (@cst Shared nSh (fun z=>∀ a kS e1 f vs items enc g J P,S d σ ι A E z a kS e1 f vs items enc g J P) (cst (p:=fun z=>∀ kS e1 f vs items enc g J P,S d σ ι A E s z kS e1 f vs items enc g J P) (cst (p:=fun z=>∀ e1 f vs items enc g J P,S d σ ι A E s a z e1 f vs items enc g J P) (cst (p:=fun z=>∀ f vs items enc g J P,S d σ ι A E s a kS z f vs items enc g J P) (cst (p:=fun z=>∀ vs items enc g J P,S d σ ι A E s a kS e1 z vs items enc g J P) (cst (p:=fun z=>∀ items enc g J P,S d σ ι A E s a kS e1 f z items enc g J P) (cst (p:=fun z=>∀ enc g J P,S d σ ι A E s a kS e1 f vs z enc g J P) (cst (p:=fun z=>∀ g J P,S d σ ι A E s a kS e1 f vs items z g J P) (cst (p:=fun z=>∀ J P,S d σ ι A E s a kS e1 f vs items enc z J P) (cst (p:=fun z=>∀ P,S d σ ι A E s a kS e1 f vs items enc g z P) (cst (p:=fun z=>S d σ ι A E s a kS e1 f vs items enc g J z) core)))))))))))))))
end kA7
section
variable {d:Nat} {sc:Scope} {ρ:Lc} {σ:Sto} {ι:List Addr}
theorem key_rest {d σ ι A E s a kS e1 f vs items enc g J P}:kA7.S d σ ι A E s a kS e1 f vs items enc g J P:=kA7.all d σ ι A E s a kS e1 f vs items enc g J P
end
section
variable {d:Nat} {sc:Scope} {ρ:Lc} {σ:Sto} {ι:List Addr}
theorem key_sort {A:Around} {E:Value->Shared->Prop} {s:Shared} {a:Addr} {n:Nat} {f:Value} {vs:List Value} {items:List V} {enc g:V->List Int} {J:List V->Sto->Prop} {P:PySem.Fin->Shared->Prop} (hA:Room A d) (S:Sim w h₀ s.heap ι σ)
  (hv:VRs s.heap ι items vs) (h64:vs.length < 64) (oa:s.heap.get? a=some (seqObj "list" vs.toArray n)) (na:a ∉ ι/\h₀.objs.size<=a)
  (j0:J [] σ) (turn:∀ so σ' v,J so σ'->items[so.length]?=some v->Cl w h₀ d f [v] σ' (fun k σ''=>J (so++[k]) σ''))
  (fin:∀ ks σ',J ks σ'->ks.length=items.length->zI5 w h₀ ks σ' enc/\ks.map enc=items.map g)
  (h:∀ s' ι' σ' ks m (out:Array Value) k,Stp (fun x=>x=a) s s' ι ι'->Sim w h₀ s'.heap ι' σ'->J ks σ'->ks.length=items.length->s'.heap.get? a=some (seqObj "list" out k)->VRs s'.heap ι' m out.toList->m.Perm items->m.Pairwise (fun a b=>ltL (g b) (g a)=false)->P (.done (.ret .none)) s') :
  wpAny (model PG w) A (ksk_tree a f false) P E s:=by
 have hal:a < s.heap.objs.size:=jC oa
 have s1:=Heap.SameBut.update s.heap a (Obj.mapSeq fun oo1=>(#[]:Array Value))
 obtain ⟨e1,ho1⟩:∃ e1,(s.heap.update a (Obj.mapSeq fun oo1=>(#[]:Array Value))).get? a=some (seqObj "list" #[] e1):=⟨_,get?_update_seq oa fun oo1=>#[]⟩
 obtain ⟨S1,tk⟩:=S.off (fp:=[a]) (h':=s.heap.update a (Obj.mapSeq fun oo1=>(#[]:Array Value))) (fun b hb=>by
  rw [zM.mp hb]
  exact ⟨na.1,na.2,zI2 oa⟩) (fun b o hb e=>(s1.2 b (by simpa using hb)).trans e) (jU s1.1.symm)
 refine wpAny_bind (listItems_at oa rfl ?_)
 refine wpAny_bind (listUpdate_at oa rfl ?_ (by rw [qT,sizeLine_eq];lia) (jO _))
 refine wpAny_bind (seqEpoch_at ho1 rfl ?_)
 refine wpAny_bind (wpAny_newTuple ?_ (by show vs.length<=_;rw [sizeLine_eq];lia))
 refine wpAny_bind (wpAny_newList ?_ (jO _))
 refine wpAny_holding ?_
 generalize hH:s.heap.update a (Obj.mapSeq fun oo1=>(#[]:Array Value))=H at s1 ho1 S1 tk ⊢
 have hHs:H.objs.size=s.heap.objs.size:=s1.1
 have ok:((H.push (seqObj "tuple" vs.toArray 0)).push (seqObj "list" #[] 0)).get? (H.push (seqObj "tuple" vs.toArray 0)).objs.size=some (seqObj "list" #[] 0):=zT _ rfl
 have hks:(H.push (seqObj "tuple" vs.toArray 0)).objs.size=s.heap.objs.size+1:=by rw [size_push',hHs]
 have st₁:Stp (fun x=>x=a) s { s with heap:=(H.push (seqObj "tuple" vs.toArray 0)).push (seqObj "list" #[] 0) } ι ι:=
  ⟨⟨[],by simp,by simp⟩,fun b o e oo1 hX=>zF _ (zF _ ((s1.2 b hX).trans e)),by show s.heap.objs.size<=((H.push (seqObj "tuple" vs.toArray 0)).push (seqObj "list" #[] 0)).objs.size;rw [size_push',size_push',hHs];lia,rfl,rfl⟩
 refine key_rest (s:={ s with heap:=(H.push (seqObj "tuple" vs.toArray 0)).push (seqObj "list" #[] 0) }) (ι:=ι) (σ:=σ) (kS:=(H.push (seqObj "tuple" vs.toArray 0)).objs.size) hA ((S1.push _).push _) ((hv.mono tk fun oo1 oo2 e=>e).mono (fun b us m e=>zF _ (zF _ e)) fun oo1 oo2 e=>e) h64
  (by rw [hks];exact qF (qY hal)) ok (zF _ (zF _ ho1)) ⟨fun m=>by rw [hks] at m;exact absurd (S.lt m) (jK (yY _)),by rw [hks];exact yK S.big⟩ na j0 turn fin fun s' ι' σ' ks m out k st S' hJ hlen hoa rm hm hp=>?_
 refine h s' ι' σ' ks m out k ?_ S' hJ hlen hoa rm hm hp
 refine ⟨?_,fun b o e hb hX=>?_,zB st₁.grow st.grow,st.gens.trans st₁.gens,st.os.trans st₁.os⟩
 ·obtain ⟨t,ht,hh⟩:=st.ext
  exact ⟨t,ht,fun x hx=>zB st₁.grow (hh x hx)⟩
 ·refine st.keep b o (st₁.keep b o e hb hX) hb fun q=>?_
  rcases q with q | q
  ·exact hX q
  ·rw [hks] at q
   exact absurd (jC e) (by rw [q];exact jK (yY _))
theorem zT7 {A:Around} {E:Value->Shared->Prop} {s:Shared} {lx:Addr} {vs:Array Value} {n:Nat} {f:Value} {items:List V} {enc g:V->List Int} {J:List V->Sto->Prop} {Q:Value->Shared->Prop} (ht:∀ x,Builtin.«list.sort» ⟨[.ref x],[(zA "key",f)]⟩=ksk_tree x f false) (hA:Room A (d+1)) (S:Sim w h₀ s.heap ι σ)
  (hl:s.heap.get? lx=some { cls:=.type "list",data:=.seq vs n }) (hv:VRs s.heap ι items vs.toList) (h64:items.length < 64)
  (j0:J [] σ) (turn:∀ so σ' v,J so σ'->items[so.length]?=some v->Cl w h₀ d f [v] σ' (fun k σ''=>J (so++[k]) σ''))
  (fin:∀ ks σ',J ks σ'->ks.length=items.length->zI5 w h₀ ks σ' enc/\ks.map enc=items.map g)
  (h:∀ s' ι' σ' ks m D,Stp NoX s s' ι ι'->Sim w h₀ s'.heap ι' (σ'++[.lst m])->VR s'.heap ι' (.ref σ'.length) (.ref D)->J ks σ'->m.Perm items->m.Pairwise (fun a b=>ltL (g b) (g a)=false)->Q (.ref D) s') :
  wpAny (model PG w) A (call (.builtin "sorted") [.ref lx] [(zA "key",f)]) Q E s:=by
 have hlv:=hv.length
 have hA1:Room A.in1.in1 d:=⟨zP4 (a:=A.depth) (w:=0) (by decide) hA.depth,zQ6 (a:=A.units) (u:=2) (by decide) hA.units,hA.handled⟩
 refine call_function_entry_kw kind_sorted plain_sorted entry_sorted (ksk_s1 _ _) ?_
 refine wpAny_bind (m:=checkCount "sorted" 1 1 _) (wpAny_pure ?_)
 refine wpAny_bind (collect_list (vs:=vs.toList) ⟨_,hl,rfl,n,rfl⟩ ?_ (by rw [sizeLine_eq];lia))
 refine wpAny_bind (wpAny_newList ?_ (by rw [sizeLine_eq];lia))
 have hsz:((s.heap.push (seqObj "list" #[] 0)).update s.heap.objs.size (Obj.mapSeq (·++vs.toList.toArray))).objs.size=s.heap.objs.size+1:=by
  rw [wD,size_push']
 have hoL:(((s.heap.push (seqObj "list" #[] 0)).update s.heap.objs.size (Obj.mapSeq (·++vs.toList.toArray))).push (seqObj "list" vs.toList.toArray 0)).get? (s.heap.objs.size+1)=some (seqObj "list" vs.toList.toArray 0):=by
  rw [<-hsz];exact zT _ rfl
 have keep:∀ b o,s.heap.get? b=some o->(((s.heap.push (seqObj "list" #[] 0)).update s.heap.objs.size (Obj.mapSeq (·++vs.toList.toArray))).push (seqObj "list" vs.toList.toArray 0)).get? b=some o:=fun b o q=>by
  have hlt:b < s.heap.objs.size:=jC q
  rw [xR _ _ _ (by rw [hsz];exact jP (qY hlt)),yV _ _ _ _ (jP hlt),xR _ _ _ (jP hlt)]
  exact q
 have hsz2:(((s.heap.push (seqObj "list" #[] 0)).update s.heap.objs.size (Obj.mapSeq (·++vs.toList.toArray))).push (seqObj "list" vs.toList.toArray 0)).objs.size=s.heap.objs.size+2:=by rw [size_push',hsz]
 show wpAny _ _ _ _ _ { s with heap:=((s.heap.push (seqObj "list" #[] 0)).update s.heap.objs.size (Obj.mapSeq (·++vs.toList.toArray))).push (seqObj "list" vs.toList.toArray 0) }
 rw [hsz]
 generalize ((s.heap.push (seqObj "list" #[] 0)).update s.heap.objs.size (Obj.mapSeq (·++vs.toList.toArray))).push (seqObj "list" vs.toList.toArray 0)=H at hoL keep hsz2 ⊢
 have hg:s.heap.objs.size<=H.objs.size:=by rw [hsz2];lia
 have hnew:s.heap.objs.size+1 ∉ ι:=fun m=>absurd (S.lt m) (jK (yY _))
 refine wpAny_bind (wpAny_holding (wpAny_call_entry_kw slot_list_sort ⟨_,hoL,rfl⟩ entry_list_sort ?body (ksk_l1 _ _)))
 case body=>
  show wpAny (model PG w) A.in1.in1 (Builtin.«list.sort» ⟨[.ref (s.heap.objs.size+1)],[(zA "key",f)]⟩) _ _ _
  rw [ht]
  refine key_sort (s:={ s with heap:=H }) (ι:=ι) (σ:=σ) hA1 (S.mono keep hg) (hv.mono (fun b us m e=>keep _ _ e) fun oo1 oo2 e=>e) (by lia) hoL ⟨hnew,yK S.big⟩ j0 turn fin fun s' ι' σ' ks m out k st S' hJ hlen hoa rm hm hp=>⟨_,rfl,?_⟩
  have hnew':s.heap.objs.size+1 ∉ ι':=notin st hnew (by show _ < H.objs.size;rw [hsz2];lia)
  have st':Stp NoX s s' ι (ι'++[s.heap.objs.size+1]):=by
   obtain ⟨t,rfl,hh⟩:=st.ext
   refine ⟨⟨t++[s.heap.objs.size+1],by simp,fun x hx=>?_⟩,fun b o e hb oo1=>st.keep b o (keep b o e) hb fun q=>?_,zB hg st.grow,st.gens,st.os⟩
   ·rcases jF.mp hx with h | h
    ·exact zB hg (hh x h)
    ·rw [zM.mp h];exact yY _
   ·exact absurd (jC e) (by rw [q];exact jK (yY _))
  refine wpAny_pure ⟨_,rfl,h s' (ι'++[s.heap.objs.size+1]) σ' ks m _ st' (S'.adopt (o:=.lst m) hnew' (yK S.big) ⟨out,k,hoa,rm.mono (fun oo1 oo2 oo3 e=>e) zE3⟩) (.ref (by rw [<-S'.len];simp)) hJ hm hp⟩
end
section
variable {d:Nat} {sc:Scope} {ρ:Lc} {σ:Sto} {ι:List Addr}
end
namespace kB4
def S (d:Nat) (sc:Scope) (ρ:Lc) (σ:Sto) (f:Expr) (e:Expr) (ke:Expr) (kp:Pos) (pos:Pos) (P:V->Sto->Prop):Prop:=∀ (x:Str) (h:Ev w h₀ (d+1) sc f ρ σ fun u σ₁=>u=.con (.builtin "sorted")/\Ev w h₀ (d+1) sc e ρ σ₁ fun v σ₂=>∃ n,v=.ref n/\Ev w h₀ (d+1) sc ke ρ σ₂ fun kv σ₃=>∃ (fa:Addr) (items:List V) (enc g:V->List Int) (J:List V->Sto->Prop),kv=.con (.ref fa)/\σ₃[n]?=some (.lst items)/\items.length < 64/\J [] σ₃/\
   (∀ so σ' v,J so σ'->items[so.length]?=some v->Cl w h₀ d (.ref fa) [v] σ' (fun k σ''=>J (so++[k]) σ''))/\
   (∀ ks σ',J ks σ'->ks.length=items.length->zI5 w h₀ ks σ' enc/\ks.map enc=items.map g)/\
   ∀ ks σ' m,J ks σ'->m.Perm items->m.Pairwise (fun a b=>ltL (g b) (g a)=false)->P (.ref σ'.length) (σ'++[.lst m])) (he1:∀ env,eval (.Call f [e] [⟨some x,ke,kp⟩] pos) env=(do callWith pos (<-eval f env) [] (backTo pos (starEach [e] env)) (backToKw pos (keywordEach [⟨some x,ke,kp⟩] env)))) (hs:∀ env,starEach [e] env=(false,eval e env)::starEach [] env) (hx:x=zA "key"),Ev w h₀ (d+1) sc (.Call f [e] [⟨some x,ke,kp⟩] pos) ρ σ P
noncomputable def d:Nat:=pick fun z=>∀ sc ρ σ f e ke kp pos P,S z sc ρ σ f e ke kp pos P
noncomputable def sc:Scope:=pick fun z=>∀ ρ σ f e ke kp pos P,S d z ρ σ f e ke kp pos P
noncomputable def ρ:Lc:=pick fun z=>∀ σ f e ke kp pos P,S d sc z σ f e ke kp pos P
noncomputable def σ:Sto:=pick fun z=>∀ f e ke kp pos P,S d sc ρ z f e ke kp pos P
noncomputable def f:Expr:=pick fun z=>∀ e ke kp pos P,S d sc ρ σ z e ke kp pos P
noncomputable def e:Expr:=pick fun z=>∀ ke kp pos P,S d sc ρ σ f z ke kp pos P
noncomputable def ke:Expr:=pick fun z=>∀ kp pos P,S d sc ρ σ f e z kp pos P
noncomputable def kp:Pos:=pick fun z=>∀ pos P,S d sc ρ σ f e ke z pos P
noncomputable def pos:Pos:=pick fun z=>∀ P,S d sc ρ σ f e ke kp z P
noncomputable def P:V->Sto->Prop:=pick fun z=>S d sc ρ σ f e ke kp pos z
theorem core:S d sc ρ σ f e ke kp pos P:=fun x h he1 hs hx=>fun A env s ι hA hsc F S E=>by
  rw [he1 env]
  refine wpAny_bind ((h A env s ι hA hsc F S).seq fun c s₁ ι₁ u σ₁ st S₁ r ⟨hu,p⟩=>?_)
  subst hu hx
  cases r using VR.conE
  refine callWith_kw (id:="sorted") (pos:=pos) (e:=e) (rest:=[]) (env:=env) (kws:=[⟨some (zA "key"),ke,kp⟩]) (wpAny_items_cons ((p A env s₁ ι₁ hA hsc (F.stp st S) S₁).seq fun c s₂ ι₂ v σ₂ st₂ S₂ r₂ ⟨n,hv,p₂⟩=>?_) (hs env)) (by rw [hs env];rfl) (by rw [hs env];rfl) rfl rfl
  subst hv
  refine wpAny_items_nil ?_
  show wpAny _ _ (evalAll [do let v <-eval ke env;standAt pos;pure v]) _ _ _
  refine PyProof.Rows.evalAll_cons (wpAny_bind ((p₂ A env s₂ ι₂ hA hsc (F.stp (st.trans st₂) S) S₂).seq fun c₃ s₃ ι₃ kv σ₃ st₃ S₃ r₃ p₃=>?_))
  obtain ⟨fa,items,enc,g,J,rfl,hn,h64,j0,turn,fin,hP⟩:=p₃
  cases r₃ using VR.conE
  refine wpAny_bind (wpAny_standAt (wpAny_pure (PyProof.Rows.evalAll_nil ?_)))
  have r₂':=r₂.stp st₃ S₂
  cases r₂' with
  | ref ha=>
   obtain ⟨vs,k,hl,hvs⟩:=S₃.objs _ _ _ ha hn
   show wpAny _ _ (call (.builtin "sorted") [_] [(zA "key",.ref fa)]) _ _ _
   exact zT7 (fun x=>ksk_t1 fa x) hA S₃ hl hvs h64 j0 turn fin fun s' ι' σ' ks m D st' S' rD hJ hm hp=>
    ⟨ι',.ref σ'.length,_,((st.trans st₂).trans st₃).trans st',S',rD,hP ks σ' m hJ hm hp⟩
theorem all:∀ d sc ρ σ f e ke kp pos P,S d sc ρ σ f e ke kp pos P:=cst (p:=fun z=>∀ sc ρ σ f e ke kp pos P,S z sc ρ σ f e ke kp pos P) (cst (p:=fun z=>∀ ρ σ f e ke kp pos P,S d z ρ σ f e ke kp pos P) (cst (p:=fun z=>∀ σ f e ke kp pos P,S d sc z σ f e ke kp pos P) (cst (p:=fun z=>∀ f e ke kp pos P,S d sc ρ z f e ke kp pos P) (cst (p:=fun z=>∀ e ke kp pos P,S d sc ρ σ z e ke kp pos P) (cst (p:=fun z=>∀ ke kp pos P,S d sc ρ σ f z ke kp pos P) (cst (p:=fun z=>∀ kp pos P,S d sc ρ σ f e z kp pos P) (cst (p:=fun z=>∀ pos P,S d sc ρ σ f e ke z pos P) (cst (p:=fun z=>∀ P,S d sc ρ σ f e ke kp z P) (cst (p:=fun z=>S d sc ρ σ f e ke kp pos z) core)))))))))
end kB4
section
variable {d:Nat} {sc:Scope} {ρ:Lc} {σ:Sto} {ι:List Addr}
theorem zI6 {f e ke:Expr} {x:Str} {kp pos:Pos} {P:V->Sto->Prop}
  (h:Ev w h₀ (d+1) sc f ρ σ fun u σ₁=>u=.con (.builtin "sorted")/\Ev w h₀ (d+1) sc e ρ σ₁ fun v σ₂=>∃ n,v=.ref n/\Ev w h₀ (d+1) sc ke ρ σ₂ fun kv σ₃=>∃ (fa:Addr) (items:List V) (enc g:V->List Int) (J:List V->Sto->Prop),kv=.con (.ref fa)/\σ₃[n]?=some (.lst items)/\items.length < 64/\J [] σ₃/\
   (∀ so σ' v,J so σ'->items[so.length]?=some v->Cl w h₀ d (.ref fa) [v] σ' (fun k σ''=>J (so++[k]) σ''))/\
   (∀ ks σ',J ks σ'->ks.length=items.length->zI5 w h₀ ks σ' enc/\ks.map enc=items.map g)/\
   ∀ ks σ' m,J ks σ'->m.Perm items->m.Pairwise (fun a b=>ltL (g b) (g a)=false)->P (.ref σ'.length) (σ'++[.lst m]))
  (he1:∀ env,eval (.Call f [e] [⟨some x,ke,kp⟩] pos) env=(do callWith pos (<-eval f env) [] (backTo pos (starEach [e] env)) (backToKw pos (keywordEach [⟨some x,ke,kp⟩] env))):=by intro; rfl)
  (hs:∀ env,starEach [e] env=(false,eval e env)::starEach [] env:=by intro; rfl) (hx:x=zA "key":=by rfl)
  : Ev w h₀ (d+1) sc (.Call f [e] [⟨some x,ke,kp⟩] pos) ρ σ P:=kB4.all d sc ρ σ f e ke kp pos P x h he1 hs hx
end
noncomputable def opL (o:List V):Bool:=o.all (V.fold false (fun oo1=>false) (fun s=>s.cps.size == 1) fun oo1=>false)
noncomputable def intL (x:List V):Bool:=x.all (V.fold false (fun oo1=>true) (fun oo1=>false) fun oo1=>false)
theorem jH3 {o o':List V} (h:opL o=true) (h':opL o'=true):kins o o'=true:=by
 induction o generalizing o' with
 | nil=>rfl
 | cons v o ih=>cases o' with
  | nil=>rfl
  | cons u o'=>
   have h:=zJ.mp h
   have h':=zJ.mp h'
   refine zJ.mpr ⟨?_,ih h.2 h'.2⟩
   have h:=h.1
   have h':=h'.1
   cases v <;> first | (cases h;done) | (cases u <;> first | (cases h';done) | exact zJ.mpr ⟨h,h'⟩)
theorem jD2 {o o':List V} (h:intL o=true) (h':intL o'=true):kins o o'=true:=by
 induction o generalizing o' with
 | nil=>rfl
 | cons v o ih=>cases o' with
  | nil=>rfl
  | cons u o'=>
   have h:=zJ.mp h
   have h':=zJ.mp h'
   refine zJ.mpr ⟨?_,ih h.2 h'.2⟩
   have h:=h.1
   have h':=h'.1
   cases v <;> first | (cases h;done) | (cases u <;> first | (cases h';done) | rfl)
theorem zH6 {o:List V} (h:opL o=true):gR o=true/\deps o=0/\zN9 o=true:=by
 induction o with
 | nil=>exact ⟨rfl,rfl,rfl⟩
 | cons v o ih=>
  have h:=zJ.mp h
  obtain ⟨a,b,c⟩:=ih h.2
  have h:=h.1
  cases v <;> first | (cases h;done) | exact ⟨a,(congrArg (max 0) b).trans rfl,c⟩
theorem zF7 {o:List V} (h:intL o=true):gR o=true/\deps o=0/\zN9 o=true:=by
 induction o with
 | nil=>exact ⟨rfl,rfl,rfl⟩
 | cons v o ih=>
  have h:=zJ.mp h
  obtain ⟨a,b,c⟩:=ih h.2
  have h:=h.1
  cases v <;> first | (cases h;done) | exact ⟨a,(congrArg (max 0) b).trans rfl,c⟩
noncomputable def Key3 (k:V):Prop:=∃ (n:Int) (o x:List V),k=.tup [.int n,.tup o,.tup x]/\opL o=true/\intL x=true/\(o.length:Int)=n/\(x.length:Int)=n
noncomputable def unint (v:V):Int:=V.casesOn v 0 (fun oo1=>0) (fun i=>i) (fun oo1=>0) (fun oo1=>0) (fun oo1=>0) fun oo1=>0
noncomputable def unref (v:V):Nat:=V.casesOn v 0 (fun oo1=>0) (fun oo1=>0) (fun oo1=>0) (fun oo1=>0) (fun n=>n) fun oo1=>0
noncomputable def enc3 (k:V):List Int:=unint ((untup k).getD 0 .none)::((untup ((untup k).getD 1 .none)).map encA++(untup ((untup k).getD 2 .none)).map encA)
section
variable {d:Nat} {sc:Scope} {ρ:Lc} {σ:Sto} {ι:List Addr}
theorem kat_ints {h:Heap} {ks:List V} {cs:List Value} (q:VRs h ι ks cs) (hs:∀ k∈ks,Key3 k):∃ fs,KatTups h cs fs/\fs.length=cs.length/\∀ v∈fs,∃ x t,v=Value.int x t:=by
 induction q using VRs.ind with
 | nil=>exact ⟨[],.nil,rfl,fun oo1 h=>nomatch h⟩
 | @cons k _ M _ r1 r2 ih=>
  obtain ⟨fs,h1,h2,h3⟩:=ih fun l hl=>hs l (zY _ hl)
  obtain ⟨x,o,y,rfl,_⟩:=hs k (jA ..)
  cases r1 using VR.tupE with
  | @tup a vs n ha hv=>
   generalize hvs:vs.toList=cl at hv
   cases hv using VRs.consE with
   | cons q1 q2=>
    cases q1 using VR.intE with
    | int t=>
     refine ⟨Value.int x t::fs,.cons ha rfl rfl (by rw [<-zW,hvs];rfl) h1,congrArg (·+1) h2,fun v hv=>?_⟩
     rcases jN.mp hv with rfl | hv
     ·exact ⟨x,t,rfl⟩
     ·exact h3 v hv
theorem keys3 {ks:List V} (hk:∀ k∈ks,Key3 k):zI5 w h₀ ks σ enc3:=by
 refine ⟨fun k hm=>?_,fun A s ι cs Q E S r h2 hq=>?_,fun A s ι c e k k' Q E hm hm' hu S r r' hq=>?_⟩
 ·obtain ⟨n,o,x,rfl,ho,hx,_,_⟩:=hk k hm
  show (true && (zN9 o && (zN9 x && true)))=true
  rw [(zH6 ho).2.2,(zF7 hx).2.2]
  rfl
 ·obtain ⟨fs,h1,h3,h4⟩:=kat_ints r hk
  have:=r.length
  exact kat_kind (T:=.type "int") h1 (by lia) (fun v hv=>by obtain ⟨x,t,rfl⟩:=h4 v hv;exact Looks.of_pure rfl) (by decide) hq
 ·obtain ⟨n,o,x,rfl,ho,hx,lo,lx⟩:=hk k hm
  obtain ⟨n',o',x',rfl,ho',hx',lo',lx'⟩:=hk k' hm'
  exact jU9 (by lia) r r' (jH3 ho ho') (jD2 hx hx') (zH6 ho).1 (zH6 ho').1 (zF7 hx).1 (zF7 hx').1 (zH6 ho).2.1 (zF7 hx).2.1 lo lo' lx lx' hq
noncomputable def Key2 (σ:Sto) (N:Nat) (k:V):Prop:=∃ (i j:Nat) (o x:List V),k=.tup [.ref i,.ref j]/\σ[i]?=some (.lst o)/\σ[j]?=some (.lst x)/\opL o=true/\intL x=true/\o.length=N/\x.length=N
noncomputable def lstAt (σ:Sto) (i:Nat):List V:=σ[i]?.elim [] fun o=>O.casesOn o (fun l=>l) (fun oo1=>[]) fun oo1 oo2=>[]
noncomputable def enc2 (σ:Sto) (k:V):List Int:=(lstAt σ (unref ((untup k).getD 0 .none))).map encA++(lstAt σ (unref ((untup k).getD 1 .none))).map encA
theorem jG5 {σ:Sto} {i j:Nat} {o x:List V} (hi:σ[i]?=some (.lst o)) (hj:σ[j]?=some (.lst x)):enc2 σ (.tup [.ref i,.ref j])=o.map encA++x.map encA:=by
 show (σ[i]?.elim [] _).map encA++(σ[j]?.elim [] _).map encA=_
 rw [hi,hj]
 rfl
theorem jV2 {s:Shared} {N:Nat} (S:Sim w h₀ s.heap ι σ) {ks:List V} {cs:List Value} (q:VRs s.heap ι ks cs) (hs:∀ k∈ks,Key2 σ N k):∃ fs,KatTups s.heap cs fs/\fs.length=cs.length/\∀ v∈fs,∃ a xs n,v=Value.ref a/\IsLs s.heap a xs n:=by
 induction q using VRs.ind with
 | nil=>exact ⟨[],.nil,rfl,fun oo1 h=>nomatch h⟩
 | @cons k _ M _ r1 r2 ih=>
  obtain ⟨fs,h1,h2,h3⟩:=ih fun l hl=>hs l (zY _ hl)
  obtain ⟨i,j,o,y,rfl,hi,_⟩:=hs k (jA ..)
  cases r1 using VR.tupE with
  | @tup a vs n ha hv=>
   generalize hvs:vs.toList=cl at hv
   cases hv using VRs.consE with
   | cons q1 q2=>
    cases q1 using VR.refE with
    | ref hx=>
     rename_i b
     obtain ⟨us,m,hl,_⟩:=S.objs _ _ _ hx hi
     refine ⟨Value.ref b::fs,.cons ha rfl rfl (by rw [<-zW,hvs];rfl) h1,congrArg (·+1) h2,fun v hv=>?_⟩
     rcases jN.mp hv with rfl | hv
     ·exact ⟨b,us,m,rfl,hl⟩
     ·exact h3 v hv
theorem keys2 {ks:List V} {N:Nat} (hk:∀ k∈ks,Key2 σ N k):zI5 w h₀ ks σ (enc2 σ):=by
 refine ⟨fun k hm=>?_,fun A s ι cs Q E S r h2 hq=>?_,fun A s ι c e k k' Q E hm hm' hu S r r' hq=>?_⟩
 ·obtain ⟨i,j,o,x,rfl,_⟩:=hk k hm
  rfl
 ·obtain ⟨fs,h1,h3,h4⟩:=jV2 S r hk
  have:=r.length
  exact kat_kind (T:=.type "list") h1 (by lia) (fun v hv=>by
   obtain ⟨a,xs,n,rfl,hl⟩:=h4 v hv
   exact (Looks.ld hl).andThen .now) (by decide) hq
 ·obtain ⟨i,j,o,x,rfl,hi,hj,ho,hx,lo,lx⟩:=hk k hm
  obtain ⟨i',j',o',x',rfl,hi',hj',ho',hx',lo',lx'⟩:=hk k' hm'
  cases r using VR.tupE with
  | @tup a vs n ha hv=>cases r' with
   | @tup b us m _ hb hu'=>
    generalize hvs:vs.toList=cl at hv
    generalize hus:us.toList=cl' at hu'
    cases hv using VRs.consE with
    | cons q1 q2=>cases q2 using VRs.consE with
     | cons q2 q3=>cases q3;cases hu' with
      | cons p1 p2=>cases p2 using VRs.consE with
       | cons p2 p3=>
        cases p3;cases q1 using VR.refE with
        | ref q1=>cases q2 using VR.refE with
         | ref q2=>cases p1 using VR.refE with
          | ref p1=>cases p2 using VR.refE with
           | ref p2=>
            obtain ⟨v1,n1,g1,z1⟩:=S.objs _ _ _ q1 hi
            obtain ⟨v2,n2,g2,z2⟩:=S.objs _ _ _ q2 hj
            obtain ⟨v3,n3,g3,z3⟩:=S.objs _ _ _ p1 hi'
            obtain ⟨v4,n4,g4,z4⟩:=S.objs _ _ _ p2 hj'
            rw [jG5 hi hj,jG5 hi' hj'] at hq
            exact key_two (σ:=fun oo1=>True) (c:=.none) (e:=.none) (by lia) ha hb hvs hus g1 g2 g3 g4 z1 z2 z3 z4 (jH3 ho ho') (jD2 hx hx') (zH6 ho).1 (zH6 ho').1 (zF7 hx).1 (zF7 hx').1 (zH6 ho).2.1 (zF7 hx).2.1 (by lia) (by lia) hq
end
section
variable {d:Nat} {sc:Scope} {ρ:Lc} {σ:Sto}
theorem gC {st:Stmt} {rest:List Stmt} {P:Fl->Lc->Sto->Prop} (h:let R:=ρ;let Q:Fl->Lc->Sto->Prop:=fun f ρ₁ σ₁=>match f with | .next=>Exs w h₀ d sc rest ρ₁ σ₁ P | f=>P f ρ₁ σ₁;Ex w h₀ d sc st R σ Q):Exs w h₀ d sc (st::rest) ρ σ P:=zE7 h
theorem gE {t e:Expr} {pos:Pos} {P:Fl->Lc->Sto->Prop} (h:let K:V->Sto->Prop:=fun v σ₁=>As w h₀ d sc t v ρ σ₁ fun ρ₂ σ₂=>P .next ρ₂ σ₂;Ev w h₀ d sc e ρ σ K)
  (hx:∀ env,env.scope=sc->exec (.Assign [t] e pos) env=(do standAt pos;let v <-eval e env;assign t env v;pure .next)):Ex w h₀ d sc (.Assign [t] e pos) ρ σ P:=jD1 h hx
noncomputable def evSs (f:Expr->Option V) (es:List Expr):Option (List V):=List.rec (some []) (fun e oo1 ih=>(f e).elim none fun v=>ih.elim none fun vs=>some (v::vs)) es
noncomputable def cS (c:Const):Option V:=by
 cases c with
 | int i=>exact some (.int i)
 | str x=>exact some (.str x)
 | _=>exact none
noncomputable def tS (vs:List V):Option V:=if vs.length<=1000 then some (.tup vs) else none
noncomputable def oS (o:Operator) (a b:V):Option V:=by
 cases o with
 | Add=>cases a with
  | int a=>cases b with
   | int b=>exact some (.int (a+b))
   | _=>exact none
  | _=>exact none
 | Sub=>cases a with
  | int a=>cases b with
   | int b=>exact some (.int (a - b))
   | _=>exact none
  | _=>exact none
 | _=>exact none
noncomputable def evS (ρ:Lc) (n:Nat):Expr->Option V:=Nat.rec (fun oo1=>none) (fun oo1 ih e=>by
 cases e with
 | Name x _=>exact if (x == ("__debug__":Str)) || (x == ("__classdict__":Str)) then none else ρ.lookup x
 | Constant c _ _=>exact cS c
 | Tuple es _ _=>exact (evSs ih es).elim none tS
 | BinOp l o r _=>exact (ih l).elim none fun a=>(ih r).elim none fun b=>oS o a b
 | _=>exact none) n
noncomputable def SOK (w:World) (h₀:Heap) (d:Nat) (sc:Scope) (ρ:Lc) (σ:Sto) (e:Expr) (v:V):Prop:=(∀ es env,starEach (e::es) env=(false,eval e env)::starEach es env)/\∀ {P:V->Sto->Prop},P v σ->Ev w h₀ d sc e ρ σ P
theorem noS {α:Type} {b:α} {G:Prop} (h:(none:Option α)=some b):G:=by cases h
theorem zW9 {α β:Type} {a:Option α} {f:α->Option β} {b:β} (h:a.elim none f=some b):∃ x,a=some x/\f x=some b:=by
 cases a with
 | none=>cases h
 | some x=>exact ⟨x,rfl,h⟩
theorem bn_oS {o:Operator} {a b v:V} {P:V->Sto->Prop} (h:oS o a b=some v) (p:P v σ):Bn w h₀ d o a b σ P:=by
 cases o with
 | Add=>cases a with
  | int=>cases b with
   | int=>exact zF8 (Option.some.inj h ▸ p)
   | _=>exact noS h
  | _=>exact noS h
 | Sub=>cases a with
  | int=>cases b with
   | int=>exact zK1 (Option.some.inj h ▸ p)
   | _=>exact noS h
  | _=>exact noS h
 | _=>exact noS h
theorem ev_of {n:Nat}:∀ {e:Expr} {v:V},evS ρ n e=some v->SOK w h₀ d sc ρ σ e v:=by
 induction n with
 | zero=>intro e v h;exact noS h
 | succ n ih=>
  have ihs:∀ {es:List Expr} {vs:List V} {P:List V->Sto->Prop},evSs (evS ρ n) es=some vs->P vs σ->Evs w h₀ d sc es ρ σ P:=by
   intro es
   induction es with
   | nil=>intro vs P h p;cases h;exact gF p
   | cons e es ihs=>
    intro vs P h p
    obtain ⟨v,h1,h⟩:=zW9 h
    obtain ⟨vs',h2,h⟩:=zW9 h
    cases h
    exact gD ((ih h1).2 (P:=fun v σ₁=>Evs w h₀ d sc es ρ σ₁ fun vs σ₂=>P (v::vs) σ₂) (ihs (P:=fun vs σ₂=>P (v::vs) σ₂) h2 p)) ((ih h1).1 es)
  intro e v h
  cases e with
  | Name x pos=>
   refine ⟨fun oo1 oo2=>rfl,fun p=>?_⟩
   have h:(if ((x == ("__debug__":Str)) || (x == ("__classdict__":Str)))=true then none else ρ.lookup x)=some v:=h
   split at h
   ·exact noS h
   ·rename_i z
    have z:=Bool.or_eq_false_iff.mp (Bool.eq_false_iff.mpr z)
    exact gB h p z.1 z.2
  | Constant c k pos=>
   refine ⟨fun oo1 oo2=>rfl,fun p=>?_⟩
   cases c with
   | int=>exact gI (Option.some.inj h ▸ p)
   | str=>exact zH4 (Option.some.inj h ▸ p)
   | _=>exact noS h
  | Tuple es k pos=>
   refine ⟨fun oo1 oo2=>rfl,fun {P} p=>?_⟩
   obtain ⟨vs,h1,h⟩:=zW9 h
   unfold tS at h
   split at h
   ·rename_i hl
    cases h
    exact zB9 (ihs (P:=fun vs σ₁=>vs.length<=1000/\P (.tup vs) σ₁) h1 ⟨hl,p⟩)
   ·exact noS h
  | BinOp l o r pos=>
   refine ⟨fun oo1 oo2=>rfl,fun {P} p=>?_⟩
   obtain ⟨a,h1,h⟩:=zW9 h
   obtain ⟨b,h2,h⟩:=zW9 h
   exact gV ((ih h1).2 (P:=fun a σ₁=>Ev w h₀ d sc r ρ σ₁ fun b σ₂=>Bn w h₀ d o a b σ₂ P) ((ih h2).2 (P:=fun b σ₂=>Bn w h₀ d o a b σ₂ P) (bn_oS h p)))
  | _=>exact noS h
theorem evs_of {es:List Expr}:∀ {vs:List V} {P:List V->Sto->Prop},evSs (evS ρ 9) es=some vs->P vs σ->Evs w h₀ d sc es ρ σ P:=by
 induction es with
 | nil=>intro vs P h p;cases h;exact gF p
 | cons e es ihs=>
  intro vs P h p
  obtain ⟨v,h1,h⟩:=zW9 h
  obtain ⟨vs',h2,h⟩:=zW9 h
  cases h
  exact gD ((ev_of h1).2 (P:=fun v σ₁=>Evs w h₀ d sc es ρ σ₁ fun vs σ₂=>P (v::vs) σ₂) (ihs (P:=fun vs σ₂=>P (v::vs) σ₂) h2 p)) ((ev_of (d:=d) (sc:=sc) (σ:=σ) h1).1 es)
theorem ev_s {e:Expr} {v:V} {P:V->Sto->Prop} (h:evS ρ 9 e=some v) (p:P v σ):Ev w h₀ d sc e ρ σ P:=(ev_of h).2 p
theorem gJ {es:List Expr} {vs:List V} {P:List V->Sto->Prop} (h:evSs (evS ρ 9) es=some vs) (p:P vs σ):Evs w h₀ d sc es ρ σ P:=evs_of h p
end
noncomputable def fndN:Nat->List Nat->Nat->Nat
 | 0,_,a=>a
 | n+1,ab,a=>if ab.getD a 0=a then a else fndN n ab (ab.getD a 0)
noncomputable def fnd (ab:List Nat) (a:Nat):Nat:=fndN a ab a
noncomputable def zE1 (ab:List Nat):Prop:=∀ i,i < ab.length->ab.getD i 0<=i
theorem fndN_any {ab:List Nat} (D:zE1 ab):∀ (n m a:Nat),a<=n->a<=m->a < ab.length->fndN n ab a=fndN m ab a:=by
 intro n
 induction n with
 | zero=>
  intro m a h _ hl
  obtain rfl:a=0:=by lia
  have:=D 0 hl
  cases m with
  | zero=>rfl
  | succ m=>rw [fndN,fndN,if_pos (by lia)]
 | succ n ih=>
  intro m a h hm hl
  have:=D a hl
  cases m with
  | zero=>
   obtain rfl:a=0:=by lia
   rw [fndN,fndN,if_pos (by lia)]
  | succ m=>
   rw [fndN,fndN]
   by_cases e:ab.getD a 0=a
   ·rw [if_pos e,if_pos e]
   ·rw [if_neg e,if_neg e,ih m _ (by lia) (by lia) (by lia)]
theorem zY9 {ab:List Nat} (D:zE1 ab) {a:Nat} (hl:a < ab.length) (e:ab.getD a 0≠a):fnd ab (ab.getD a 0)=fnd ab a:=by
 have:=D a hl
 cases a with
 | zero=>lia
 | succ a=>
  unfold fnd
  rw [fndN.eq_2,if_neg e]
  exact fndN_any D _ _ _ (zK _) (by lia) (by lia)
theorem zX4 {ab:List Nat} {a:Nat} (e:ab.getD a 0=a):fnd ab a=a:=by
 unfold fnd
 cases a with
 | zero=>rfl
 | succ a=>rw [fndN,if_pos e]
section
variable {d:Nat} {σ:Sto}
noncomputable abbrev nums (l:List Nat):List V:=l.map fun (k:Nat)=>V.int (k:Int)
structure UAt (σ:Sto) (u du a l m:Nat):Prop where
 inst:σ[u]?=some (.inst 358 du)
 dct:σ[du]?=some (.dct [(.str "above",.ref a),(.str "lots",.ref l),(.str "merged",.ref m)])
theorem zU2 {u du a l m x:Nat} {ab:List Nat} (B:Bs w h₀) (U:UAt σ u du a l m) (ha:σ[a]?=some (.lst (nums ab))) (D:zE1 ab) (hx:x < ab.length) (hz:ab.length < 1000) {P:V->Sto->Prop} (h:P (.int (fnd ab x)) σ):Cl w h₀ (d+1) (.ref 315) [.ref u,.int x] σ P:=by
 refine Cd.cl (zA3 (ps:=[zA "self",zA "a"]) B (by rfl) (by rfl) (len2 fun oo1 oo2=>rfl) rfl (by decide) (fun oo1=>by rfl) ?_)
 refine gC ?_;intro R Q
 refine zV7 (fun n ρ σ'=>σ'=σ/\n < ab.length/\fnd ab n=fnd ab x/\ρ.lookup (zA "a")=some (V.int n)/\ρ.lookup (zA "self")=some (V.ref u)) x ⟨rfl,hx,rfl,rfl,rfl⟩ (fun n ρ' σ' hI=>?_)
 obtain ⟨rfl,hn,hf,h1,h2⟩:=hI
 have hg:(nums ab)[n]?=some (.int (ab.getD n 0:Nat)):=by
  rw [zS,zQ hn,jG,zQ hn];rfl
 refine gU ?_
 refine zA8 ?_
 refine gH B (gB h2 ⟨u,358,du,_,_,rfl,U.inst,U.dct,rfl,rfl,⟨by rfl,by rfl,by rfl⟩,?_⟩)
 refine gB h1 (zI4 ha hg (by lia) ?_)
 refine gB h1 (cm_ne (gM ?_))
 by_cases e:ab.getD n 0=n
 ·have hc:(((ab.getD n 0:Nat):Int) != (n:Int))=false:=by rw [e];simp
  refine ifF hc ?_
  refine gC ?_;intro R Q
  refine gL ?_
  refine gB h1 ?_
  rw [<-zX4 e,hf]
  exact h
 ·have hc:(((ab.getD n 0:Nat):Int) != (n:Int))=true:=bne_iff_ne.mpr fun z=>e (Int.ofNat.inj z)
  refine ifT hc ?_
  refine gC ?_;intro R Q
  refine gE ?_ (fun oo1 oo2=>rfl);intro kk
  refine zA8 ?_
  refine gH B (gB h2 ⟨u,358,du,_,_,rfl,U.inst,U.dct,rfl,rfl,⟨by rfl,by rfl,by rfl⟩,?_⟩)
  refine gB h1 (zI4 ha hg (by lia) ?_)
  refine gN rfl ?_
  refine gG ?_
  have hd:=D n hn
  have hlt:ab.getD n 0 < n:=vB hd e
  exact ⟨_,ab.getD n 0,Sub.refl _,hlt,rfl,wY hlt hn,(zY9 D hn e).trans hf,rfl,by
   rw [zX]
   exact h2⟩
end
inductive Role where
 | hp | hd | bk | bd | un | ud | nodes | numbers | weights | depths | uab | lots | merged | edges | forest | known | hab | waiting
 | lot (i:Nat) | hb (k:Nat)
deriving DecidableEq
structure PH where
 nodes:List (Nat×List Nat)
 numbers:List ((Nat×List Nat)×Nat)
 wts:List Int
 dps:List Int
 uab:List Nat
 lots:List (List Nat)
 merged:List (Nat×Nat)
 edges:List V
 forest:List V
 known:List ((Nat×List Nat)×Nat)
 hab:List (Nat×List Nat)
 waiting:List Nat
deriving Inhabited
noncomputable def opV (o:Nat):V:=.str ⟨#[o]⟩
noncomputable def zD0 (n:Nat×List Nat):List V:=opV n.1::nums n.2
noncomputable def zB4 (n:Nat×List Nat):V:=.tup (zD0 n)
noncomputable abbrev nm (s:String):V:=.str (zA s)
noncomputable def cell (p:PH) (L:Role->Nat):Role->Option O
 | .hp=>some (.inst 488 (L .hd))
 | .hd=>some (.dct [(nm "bank",.ref (L .bk)),(nm "unions",.ref (L .un)),(nm "edges",.ref (L .edges)),(nm "forest",.ref (L .forest)),(nm "known",.ref (L .known)),(nm "above",.ref (L .hab)),(nm "waiting",.ref (L .waiting)),(nm "backs",.int 0)])
 | .bk=>some (.inst 191 (L .bd))
 | .bd=>some (.dct [(nm "nodes",.ref (L .nodes)),(nm "numbers",.ref (L .numbers)),(nm "weights",.ref (L .weights)),(nm "depths",.ref (L .depths))])
 | .un=>some (.inst 358 (L .ud))
 | .ud=>some (.dct [(nm "above",.ref (L .uab)),(nm "lots",.ref (L .lots)),(nm "merged",.ref (L .merged))])
 | .nodes=>some (.lst (p.nodes.map zB4))
 | .numbers=>some (.dct (p.numbers.map fun x=>(zB4 x.1,.int (x.2:Nat))))
 | .weights=>some (.lst (p.wts.map .int))
 | .depths=>some (.lst (p.dps.map .int))
 | .uab=>some (.lst (nums p.uab))
 | .lots=>some (.lst ((List.range p.lots.length).map fun i=>.ref (L (.lot i))))
 | .merged=>some (.lst (p.merged.map fun x=>.tup [.int (x.1:Nat),.int (x.2:Nat)]))
 | .edges=>some (.lst p.edges)
 | .forest=>some (.lst p.forest)
 | .known=>some (.dct (p.known.map fun x=>(zB4 x.1,.int (x.2:Nat))))
 | .hab=>some (.dct (vmap V.int (p.hab.map fun x=>((x.1:Int),V.ref (L (.hb x.1))))))
 | .waiting=>some (.lst (nums p.waiting))
 | .lot i=>p.lots[i]?.map fun l=>.lst (nums l)
 | .hb k=>(p.hab.lookup k).map fun l=>.lst (nums l)
structure HeapAt (σ:Sto) (L:Role->Nat) (p:PH):Prop where
 at_:∀ r o,cell p L r=some o->σ[L r]?=some o
 apart:∀ r r',(cell p L r).isSome=true->(cell p L r').isSome=true->L r=L r'->r=r'
theorem HeapAt.set {σ:Sto} {L:Role->Nat} {p p':PH} {r:Role} {o o':O} (H:HeapAt σ L p) (h0:cell p L r=some o) (h1:cell p' L r=some o') (h2:∀ r',r'≠r->cell p' L r'=cell p L r'):HeapAt (σ.set (L r) o') L p':=by
 have hs:∀ r',(cell p' L r').isSome=true->(cell p L r').isSome=true:=fun r' h=>by
  by_cases e:r'=r
  ·subst e;rw [h0];rfl
  ·rw [<-h2 r' e];exact h
 refine ⟨fun r' o'' h=>?_,fun a b ha hb e=>H.apart a b (hs a ha) (hs b hb) e⟩
 have hl:L r < σ.length:=(zC.mp (H.at_ r o h0)).1
 by_cases e:r'=r
 ·subst e
  rw [h1] at h
  cases h
  rw [jW hl]
 ·rw [h2 r' e] at h
  rw [jD (fun q=>e (H.apart r' r (by rw [h];rfl) (by rw [h0];rfl) q.symm))]
  exact H.at_ r' o'' h
theorem HeapAt.more {σ:Sto} {L:Role->Nat} {p:PH} (H:HeapAt σ L p) (t:Sto):HeapAt (σ++t) L p:=
 ⟨fun r o h=>by
  have:=H.at_ r o h
  rw [zH (zC.mp this).1];exact this,H.apart⟩
noncomputable def Keep (p:PH) (L:Role->Nat) (σ σ':Sto):Prop:=∀ i o,(∀ r,(cell p L r).isSome=true->i≠L r)->σ[i]?=some o->σ'[i]?=some o
theorem Keep.set {σ:Sto} {L:Role->Nat} {p:PH} {r:Role} {o o':O} (h0:cell p L r=some o):Keep p L σ (σ.set (L r) o'):=fun i o h e=>by
 rw [jD (fun q=>h r (by rw [h0];rfl) q.symm)];exact e
theorem Keep.more {σ:Sto} {L:Role->Nat} {p:PH} (t:Sto):Keep p L σ (σ++t):=fun i o oo1 e=>by
 rw [zH (zC.mp e).1];exact e
section
variable {d:Nat} {σ:Sto} {L:Role->Nat} {p:PH}
theorem jQ2 (B:Bs w h₀) (H:HeapAt σ L p) (hz:p.nodes.length < 1000) {P:V->Sto->Prop} (h:P (.int p.nodes.length) σ):Cl w h₀ (d+1) (.ref 110) [.ref (L .bk)] σ P:=by
 refine Cd.cl (zA3 (ps:=[zA "self"]) B (by rfl) (by rfl) (len1 fun oo1=>rfl) rfl (by decide) (fun oo1=>by rfl) ?_)
 refine gC ?_;intro R Q
 refine gL ?_
 refine gP (gW B rfl (by rfl) (by rfl) (by decide) ⟨_,rfl,rfl,?_⟩)
 refine gD (gH B (gB rfl ⟨L .bk,191,L .bd,_,_,rfl,H.at_ .bk _ rfl,H.at_ .bd _ rfl,rfl,rfl,⟨by rfl,by rfl,by rfl⟩,?_⟩))
 refine gF (zA7 (H.at_ .nodes _ rfl) (by rw [zD];lia) ?_)
 rw [zD]
 exact h
theorem bank_op (B:Bs w h₀) (H:HeapAt σ L p) (hz:p.nodes.length < 1000) {n:Nat} {x:Nat×List Nat} (hn:p.nodes[n]?=some x) {P:V->Sto->Prop} (h:P (opV x.1) σ):Cl w h₀ (d+1) (.ref 148) [.ref (L .bk),.int n] σ P:=by
 have hl:=(zC.mp hn).1
 refine Cd.cl (zA3 (ps:=[zA "self",zA "n"]) B (by rfl) (by rfl) (len2 fun oo1 oo2=>rfl) rfl (by decide) (fun oo1=>by rfl) ?_)
 refine gC ?_;intro R Q
 refine gL ?_
 refine zA8 ?_
 refine zA8 ?_
 refine gH B (gB rfl ⟨L .bk,191,L .bd,_,_,rfl,H.at_ .bk _ rfl,H.at_ .bd _ rfl,rfl,rfl,⟨by rfl,by rfl,by rfl⟩,?_⟩)
 refine gB rfl (zI4 (H.at_ .nodes _ rfl) (v:=zB4 x) (by rw [zS,hn];rfl) (by lia) ?_)
 refine gI ?_
 exact zJ7 (i:=0) (v:=opV x.1) rfl (by lia) h
theorem jQ3 (B:Bs w h₀) (H:HeapAt σ L p) (hz:p.nodes.length < 1000) {n:Nat} {x:Nat×List Nat} (hn:p.nodes[n]?=some x) (hk:x.2.length<=1000) {P:V->Sto->Prop} (h:P (.tup (nums x.2)) σ):Cl w h₀ (d+1) (.ref 155) [.ref (L .bk),.int n] σ P:=by
 have hl:=(zC.mp hn).1
 refine Cd.cl (zA3 (ps:=[zA "self",zA "n"]) B (by rfl) (by rfl) (len2 fun oo1 oo2=>rfl) rfl (by decide) (fun oo1=>by rfl) ?_)
 refine gC ?_;intro R Q
 refine gL ?_
 refine zC0 (zA8 (gH B (gB rfl ⟨L .bk,191,L .bd,_,_,rfl,H.at_ .bk _ rfl,H.at_ .bd _ rfl,rfl,rfl,⟨by rfl,by rfl,by rfl⟩,?_⟩)))
 refine gB rfl (zI4 (H.at_ .nodes _ rfl) (v:=zB4 x) (by rw [zS,hn];rfl) (by lia) ?_)
 refine gI ⟨1,rfl,?_⟩
 exact zG1 (a:=1) (l:=zD0 x) (by simp [zD0];lia) h
theorem jI7 (B:Bs w h₀) (H:HeapAt σ L p) (hz:p.uab.length < 1000) {P:V->Sto->Prop} (h:P (.int p.uab.length) σ):Cl w h₀ (d+1) (.ref 308) [.ref (L .un)] σ P:=by
 refine Cd.cl (zA3 (ps:=[zA "self"]) B (by rfl) (by rfl) (len1 fun oo1=>rfl) rfl (by decide) (fun oo1=>by rfl) ?_)
 refine gC ?_;intro R Q
 refine gL ?_
 refine gP (gW B rfl (by rfl) (by rfl) (by decide) ⟨_,rfl,rfl,?_⟩)
 refine gD (gH B (gB rfl ⟨L .un,358,L .ud,_,_,rfl,H.at_ .un _ rfl,H.at_ .ud _ rfl,rfl,rfl,⟨by rfl,by rfl,by rfl⟩,?_⟩))
 refine gF (zA7 (H.at_ .uab _ rfl) (by rw [zD];lia) ?_)
 rw [zD]
 exact h
theorem jQ8 (B:Bs w h₀) (H:HeapAt σ L p) (hz:p.nodes.length < 1000) {P:V->Sto->Prop} (h:P (.int p.nodes.length) σ):Cl w h₀ (d+2) (.ref 383) [.ref (L .hp)] σ P:=by
 refine Cd.cl (zA3 (ps:=[zA "self"]) B (by rfl) (by rfl) (len1 fun oo1=>rfl) rfl (by decide) (fun oo1=>by rfl) ?_)
 refine gC ?_;intro R Q
 refine gL ?_
 refine zJ5 B (gH B (gB rfl ⟨L .hp,488,L .hd,_,_,rfl,H.at_ .hp _ rfl,H.at_ .hd _ rfl,rfl,rfl,⟨by rfl,by rfl,by rfl⟩,?_⟩))
 exact ⟨L .bk,191,L .bd,_,110,rfl,H.at_ .bk _ rfl,H.at_ .bd _ rfl,rfl,rfl,⟨by rfl,by rfl,by rfl,by rfl⟩,jQ2 B H hz h⟩
theorem zG9 (B:Bs w h₀) (H:HeapAt σ L p) (D:zE1 p.uab) (hz:p.uab.length < 1000) {x:Nat} (hx:x < p.uab.length) {P:V->Sto->Prop} (h:P (.int (fnd p.uab x)) σ):Cl w h₀ (d+2) (.ref 412) [.ref (L .hp),.int x] σ P:=by
 refine Cd.cl (zA3 (ps:=[zA "self",zA "n"]) B (by rfl) (by rfl) (len2 fun oo1 oo2=>rfl) rfl (by decide) (fun oo1=>by rfl) ?_)
 refine gC ?_;intro R Q
 refine gL ?_
 refine gO B (gH B (gB rfl ⟨L .hp,488,L .hd,_,_,rfl,H.at_ .hp _ rfl,H.at_ .hd _ rfl,rfl,rfl,⟨by rfl,by rfl,by rfl⟩,?_⟩))
 refine ⟨L .un,358,L .ud,_,315,rfl,H.at_ .un _ rfl,H.at_ .ud _ rfl,rfl,rfl,⟨by rfl,by rfl,by rfl,by rfl⟩,?_⟩
 exact gJ rfl (zU2 B ⟨H.at_ .un _ rfl,H.at_ .ud _ rfl⟩ (H.at_ .uab _ rfl) D hx hz h)
end
section
variable {d:Nat} {σ:Sto} {L:Role->Nat} {p:PH}
noncomputable def canon (p:PH) (x:Nat×List Nat):Nat×List Nat:=(x.1,x.2.map (fnd p.uab))
end
namespace kY
def S (d:Nat) (σ:Sto) (L:Role->Nat) (p:PH) (n:Nat) (x:Nat×List Nat) (P:V->Sto->Prop):Prop:=∀ (B:Bs w h₀) (H:HeapAt σ L p) (D:zE1 p.uab) (hz:p.uab.length < 1000) (hz':p.nodes.length < 1000) (hn:p.nodes[n]?=some x) (hk:x.2.length<=100) (hx:∀ k∈x.2,k < p.uab.length) (h:∀ t,P (zB4 (canon p x)) (σ++t)),Cl w h₀ (d+3) (.ref 388) [.ref (L .hp),.int n] σ P
noncomputable def d:Nat:=pick fun z=>∀ σ L p n x P,S z σ L p n x P
noncomputable def σ:Sto:=pick fun z=>∀ L p n x P,S d z L p n x P
noncomputable def L:Role->Nat:=pick fun z=>∀ p n x P,S d σ z p n x P
noncomputable def p:PH:=pick fun z=>∀ n x P,S d σ L z n x P
noncomputable def n:Nat:=pick fun z=>∀ x P,S d σ L p z x P
noncomputable def x:Nat×List Nat:=pick fun z=>∀ P,S d σ L p n z P
noncomputable def P:V->Sto->Prop:=pick fun z=>S d σ L p n x z
theorem core:S d σ L p n x P:=by
 intro B H D hz hz' hn hk hx h
 refine Cd.cl (zA3 (ps:=[zA "self",zA "n"]) B (by rfl) (by rfl) (len2 fun oo1 oo2=>rfl) rfl (by decide) (fun oo1=>by rfl) ?_)
 refine gC ?_;intro R Q
 refine gL ?_
 refine gV ?_
 refine zB9 (gD (gO B (gH B (gB rfl ⟨L .hp,488,L .hd,_,_,rfl,H.at_ .hp _ rfl,H.at_ .hd _ rfl,rfl,rfl,⟨by rfl,by rfl,by rfl⟩,?_⟩))))
 refine ⟨L .bk,191,L .bd,_,148,rfl,H.at_ .bk _ rfl,H.at_ .bd _ rfl,rfl,rfl,⟨by rfl,by rfl,by rfl,by rfl⟩,gJ rfl (bank_op B H hz' hn (gF ⟨by simp,?_⟩))⟩
 refine gP (gW B rfl (by rfl) (by rfl) (by decide) ⟨_,rfl,rfl,?_⟩)
 refine gD (zC8 rfl rfl (by decide) (by decide) rfl ?_)
 refine zB0 (gO B (gH B (gB rfl ⟨L .hp,488,L .hd,_,_,rfl,H.at_ .hp _ rfl,H.at_ .hd _ rfl,rfl,rfl,⟨by rfl,by rfl,by rfl⟩,?_⟩)))
 refine ⟨L .bk,191,L .bd,_,155,rfl,H.at_ .bk _ rfl,H.at_ .bd _ rfl,rfl,rfl,⟨by rfl,by rfl,by rfl,by rfl⟩,gJ rfl (jQ3 B H hz' hn (by lia) ?_)⟩
 refine ⟨_,_,zH9,fun i acc σ'=>acc=nums ((x.2.take i).map (fnd p.uab))/\∃ t,σ'=σ++t,⟨by simp,[],by simp⟩,by simp;lia,fun oo1 oo2 oo3 oo4=>trivial,fun i v acc σ' hv hl hI=>?_,fun acc σ' hl hI=>?_⟩
 ·obtain ⟨rfl,t,rfl⟩:=hI
  rw [zS] at hv
  cases hxi:x.2[i]? with
  | none=>rw [hxi] at hv;cases hv
  | some k=>
   rw [hxi] at hv
   cases hv
   have H':=H.more t
   refine zA4 rfl ?_
   refine gO B (gB rfl ⟨L .hp,488,L .hd,_,412,rfl,H'.at_ .hp _ rfl,H'.at_ .hd _ rfl,rfl,rfl,⟨by rfl,by rfl,by rfl,by rfl⟩,?_⟩)
   refine gJ rfl (zG9 B H' D hz (hx k (zI hxi)) ⟨?_,t,rfl⟩)
   rw [jJ,hxi]
   simp [nums]
 ·obtain ⟨rfl,t,rfl⟩:=hI
  rw [show (nums x.2).length=x.2.length from zD _,zR (zK _)]
  refine gF ?_
  show Cl w h₀ (d+2) (.type "tuple") _ _ _
  refine zG7 (l:=nums (x.2.map (fnd p.uab))) (by rw [jB (zK _),yD];rfl) (by rw [zD,zD];lia) ?_
  refine zO6 (by rw [zD,zD];simp;lia) ?_
  have:=h (t++[O.lst (nums (x.2.map (fnd p.uab)))])
  rw [<-zP] at this
  exact this
theorem all:∀ d σ L p n x P,S d σ L p n x P:=cst (p:=fun z=>∀ σ L p n x P,S z σ L p n x P) (cst (p:=fun z=>∀ L p n x P,S d z L p n x P) (cst (p:=fun z=>∀ p n x P,S d σ z p n x P) (cst (p:=fun z=>∀ n x P,S d σ L z n x P) (cst (p:=fun z=>∀ x P,S d σ L p z x P) (cst (p:=fun z=>∀ P,S d σ L p n z P) (cst (p:=fun z=>S d σ L p n x z) core))))))
end kY
section
variable {d:Nat} {σ:Sto} {L:Role->Nat} {p:PH}
theorem jA9 {d σ L p n x P}:kY.S d σ L p n x P:=kY.all d σ L p n x P
end
theorem jQ1 (l:List Nat):∃ m:List Nat,m.Perm l/\(isort (l.map fun (k:Nat)=>(k:Int))).map V.int=nums m:=by
 refine ⟨(isort (l.map fun (k:Nat)=>(k:Int))).map Int.toNat,?_,?_⟩
 ·have:=(zF4 (l.map fun (k:Nat)=>(k:Int))).map Int.toNat
  rw [jE] at this
  have e:l.map (Int.toNat ∘ fun (k:Nat)=>(k:Int))=l:=by
   conv=>rhs;rw [<-gA l]
   exact qP fun a oo1=>by simp
  rwa [e] at this
 ·unfold nums
  rw [jE]
  refine qP fun a ha=>?_
  obtain ⟨k,_,rfl⟩:=jS.mp ((zF4 _).mem_iff.mp ha)
  simp
theorem jC5 (l:List Nat):nums l=(l.map fun (k:Nat)=>(k:Int)).map V.int:=by rw [jE];rfl
section
variable {d:Nat} {σ:Sto} {L:Role->Nat} {p:PH}
theorem zL3 {ab:List Nat} (D:zE1 ab):∀ {a:Nat},a < ab.length->fnd ab a<=a:=by
 intro a
 induction a using yZ with
 | ind a ih=>
  intro hl
  by_cases e:ab.getD a 0=a
  ·rw [zX4 e];exact zK _
  ·have h1:=D a hl
   have hlt:ab.getD a 0 < a:=vB h1 e
   rw [<-zY9 D hl e]
   exact zB (ih _ hlt (wY hlt hl)) h1
theorem jG9 (B:Bs w h₀) (H:HeapAt σ L p) (D:zE1 p.uab) (hz:p.uab.length < 1000) {x:Nat} (hx:x < p.uab.length) {l:List Nat} (hl:p.lots[fnd p.uab x]?=some l) (hl64:l.length < 64) {P:V->Sto->Prop} (h:∀ m,m.Perm l->P (.ref σ.length) (σ++[.lst (nums m)])):Cl w h₀ (d+2) (.ref 329) [.ref (L .un),.int x] σ P:=by
 have hll:=(zC.mp hl).1
 have hlt:=zL3 D hx
 refine Cd.cl (zA3 (ps:=[zA "self",zA "a"]) B (by rfl) (by rfl) (len2 fun oo1 oo2=>rfl) rfl (by decide) (fun oo1=>by rfl) ?_)
 refine gC ?_;intro R Q
 refine gL ?_
 refine gP (gW B rfl (by rfl) (by rfl) (by decide) ⟨_,rfl,rfl,?_⟩)
 refine gD (zA8 (gH B (gB rfl ⟨L .un,358,L .ud,_,_,rfl,H.at_ .un _ rfl,H.at_ .ud _ rfl,rfl,rfl,⟨by rfl,by rfl,by rfl⟩,?_⟩)))
 refine gO B (gB rfl ⟨L .un,358,L .ud,_,315,rfl,H.at_ .un _ rfl,H.at_ .ud _ rfl,rfl,rfl,⟨by rfl,by rfl,by rfl,by rfl⟩,?_⟩)
 refine gJ rfl (zU2 B ⟨H.at_ .un _ rfl,H.at_ .ud _ rfl⟩ (H.at_ .uab _ rfl) D hx hz ?_)
 refine zI4 (H.at_ .lots _ rfl) (v:=.ref (L (.lot (fnd p.uab x)))) (by rw [zS,yU hll];rfl) (by lia) ?_
 have hc:=H.at_ (.lot (fnd p.uab x)) (.lst (nums l)) (by show (p.lots[fnd p.uab x]?).map _=_;rw [hl];rfl)
 rw [jC5] at hc
 obtain ⟨m,hm,e⟩:=jQ1 l
 refine gF (zL8 hc (by rw [zD];exact hl64) ?_)
 rw [e]
 exact h m hm
theorem jF1 (B:Bs w h₀) (H:HeapAt σ L p) (D:zE1 p.uab) (hz:p.uab.length < 1000) {x:Nat} (hx:x < p.uab.length) {l:List Nat} (hl:p.lots[fnd p.uab x]?=some l) (hl64:l.length < 64) {P:V->Sto->Prop} (h:∀ m,m.Perm l->P (.ref σ.length) (σ++[.lst (nums m)])):Cl w h₀ (d+3) (.ref 461) [.ref (L .hp),.int x] σ P:=by
 refine Cd.cl (zA3 (ps:=[zA "self",zA "c"]) B (by rfl) (by rfl) (len2 fun oo1 oo2=>rfl) rfl (by decide) (fun oo1=>by rfl) ?_)
 refine gC ?_;intro R Q
 refine gL ?_
 refine gO B (gH B (gB rfl ⟨L .hp,488,L .hd,_,_,rfl,H.at_ .hp _ rfl,H.at_ .hd _ rfl,rfl,rfl,⟨by rfl,by rfl,by rfl⟩,?_⟩))
 refine ⟨L .un,358,L .ud,_,329,rfl,H.at_ .un _ rfl,H.at_ .ud _ rfl,rfl,rfl,⟨by rfl,by rfl,by rfl,by rfl⟩,?_⟩
 exact gJ rfl (jG9 B H D hz hx hl hl64 h)
end
theorem jH5 {α β:Type} (f:α->β):∀ l:List α,All2 (fun a b=>b=f a) l (l.map f)
 | []=>.nil
 | _::l=>.cons rfl (jH5 f l)
theorem map_all2 {α β:Type} {f:α->β} {l:List α} {m:List β} (r:All2 (fun a b=>b=f a) l m):m=l.map f:=by
 induction r with
 | nil=>rfl
 | cons h _ ih=>rw [zU,h,ih]
theorem jH2 {α β:Type} {f:α->β} {l:List α} {m:List β} (p:m.Perm (l.map f)):∃ l':List α,m=l'.map f/\l'.Perm l:=by
 obtain ⟨l',h1,h2⟩:=All2.perm p (jH5 f l)
 exact ⟨l',map_all2 h2,h1⟩
theorem jI6 {a b:List Nat} (h:nums a=nums b):a=b:=by
 induction a generalizing b with
 | nil=>cases b with
  | nil=>rfl
  | cons=>cases h
 | cons x a ih=>cases b with
  | nil=>cases h
  | cons y b=>
   have h:=List.cons.inj h
   rw [ih h.2,Int.ofNat.inj (V.int.inj h.1)]
theorem jB5 {a b:Nat×List Nat} (h:zD0 a=zD0 b):a=b:=by
 unfold zD0 opV at h
 rw [List.cons.injEq] at h
 obtain ⟨h1,h2⟩:=h
 obtain ⟨a1,a2⟩:=a
 obtain ⟨b1,b2⟩:=b
 have e:=jI6 h2
 simp only [V.str.injEq,Str.mk.injEq,Array.mk.injEq,List.cons.injEq,and_true] at h1
 simp only at e
 rw [e]
 congr 1
theorem jT4 (a b:List Nat):kins (nums a) (nums b)=true:=by
 induction a generalizing b with
 | nil=>rfl
 | cons x a ih=>cases b with
  | nil=>rfl
  | cons y b=>exact ih b
theorem jT1 {ns:List (Nat×List Nat)} (hl:ns.length<=4) (hn:ns.Nodup):Nds (ns.map zD0) where
 len:=by rw [zD];exact hl
 nodup:=List.Pairwise.map zD0 (fun oo1 oo2 hne e=>hne (jB5 e)) hn
 flat:=fun l hl=>by
  obtain ⟨x,_,rfl⟩:=jS.mp hl
  show (nums x.2).all jP0=true
  rw [wG]
  exact jQ.mpr fun oo1 oo2=>rfl
 kin:=fun l hl m hm=>by
  obtain ⟨x,_,rfl⟩:=jS.mp hl
  obtain ⟨y,_,rfl⟩:=jS.mp hm
  exact jT4 x.2 y.2
 str:=fun l hl=>by
  obtain ⟨x,_,rfl⟩:=jS.mp hl
  exact ⟨_,_,rfl⟩
noncomputable def canons (p:PH) (l:List Nat):List (Nat×List Nat):=l.map fun n=>canon p (p.nodes.getD n (0,[]))
section
variable {d:Nat} {σ:Sto} {L:Role->Nat} {p:PH}
theorem nodes_of (B:Bs w h₀) (H:HeapAt σ L p) (D:zE1 p.uab) (hz:p.uab.length < 1000) (hz':p.nodes.length < 1000) {x:Nat} (hx:x < p.uab.length) {l:List Nat} (hl:p.lots[fnd p.uab x]?=some l) (hl4:l.length<=4) (hnd:(canons p l).Nodup)
  (hin:∀ n∈l,n < p.nodes.length) (hk:∀ y∈p.nodes,y.2.length<=100/\∀ k∈y.2,k < p.uab.length) {P:V->Sto->Prop} (h:∀ (t:Sto) (M:List (Nat×List Nat)),M.Perm (canons p l)->P (.ref (σ++t).length) (σ++t++[.lst (M.map zB4)])):Cl w h₀ (d+4) (.ref 466) [.ref (L .hp),.int x] σ P:=by
 refine Cd.cl (zA3 (ps:=[zA "self",zA "c"]) B (by rfl) (by rfl) (len2 fun oo1 oo2=>rfl) rfl (by decide) (fun oo1=>by rfl) ?_)
 refine gC ?_;intro R Q
 refine gL ?_
 refine zW1 (gW B rfl (by rfl) (by rfl) (by decide) ⟨rfl,gW B rfl (by rfl) (by rfl) (by decide) ⟨rfl,?_⟩⟩)
 refine zC8 rfl rfl (by decide) (by decide) rfl ?_
 refine zB0 (gO B (gB rfl ⟨L .hp,488,L .hd,_,461,rfl,H.at_ .hp _ rfl,H.at_ .hd _ rfl,rfl,rfl,⟨by rfl,by rfl,by rfl,by rfl⟩,?_⟩))
 refine gJ rfl (jF1 B H D hz hx hl (by lia) fun m hm=>?_)
 have hml:=hm.length_eq
 refine ⟨_,_,gZ (l:=nums m) (by rw [jB (zK _),yD];rfl),fun i acc σ'=>acc=((canons p m).take i).map zB4/\∃ t,σ'=σ++[.lst (nums m)]++t,⟨by simp,[],by simp⟩,by simp;lia,fun i acc σ' hI=>?_,fun i v acc σ' hv hl hI=>?_,fun acc σ' hl hI=>?_⟩
 ·obtain ⟨_,t,rfl⟩:=hI
  rw [zP,jB (zK _),yD]
  rfl
 ·obtain ⟨rfl,t,rfl⟩:=hI
  rw [zS] at hv
  cases hxi:m[i]? with
  | none=>rw [hxi] at hv;cases hv
  | some k=>
   rw [hxi] at hv
   cases hv
   have H':=(H.more [.lst (nums m)]).more t
   have hkm:=hm.mem_iff.mp (zI hxi)
   have hkl:=hin k hkm
   have hnk:p.nodes[k]?=some p.nodes[k]:=zQ hkl
   obtain ⟨q1,q2⟩:=hk _ (zI hnk)
   refine zA4 rfl ?_
   refine gO B (gB rfl ⟨L .hp,488,L .hd,_,388,rfl,H'.at_ .hp _ rfl,H'.at_ .hd _ rfl,rfl,rfl,⟨by rfl,by rfl,by rfl,by rfl⟩,?_⟩)
   refine gJ rfl (jA9 B H' D hz hz' hnk q1 q2 fun t'=>⟨?_,t++t',by rw [zP _ t t']⟩)
   have e:(canons p m)[i]?=some (canon p p.nodes[k]):=by
    unfold canons
    rw [zS,hxi]
    show some (canon p (p.nodes.getD k (0,[])))=_
    rw [jG,hnk]
    rfl
   rw [jJ,e]
   simp
 ·obtain ⟨rfl,t,rfl⟩:=hI
  have hcl:(canons p m).length=m.length:=zD _
  rw [zR (by rw [hcl];simp)]
  have hcp:(canons p m).Perm (canons p l):=hm.map _
  have N:=jT1 (ns:=canons p m) (by lia) (hcp.nodup_iff.mpr hnd)
  have S:=ss_tups (d:=d+3) N
  rw [jE] at S
  refine ⟨_,_,_,rfl,by rw [jB (zK _),yD];rfl,S,fun m' hm'=>?_⟩
  obtain ⟨M,rfl,hM⟩:=hm'
  obtain ⟨ns,rfl,hns⟩:=jH2 hM
  have:=h ([.lst (nums m)]++t++[.lst ((canons p m).map zB4)]) ns (hns.trans hcp)
  simp only [<-zP] at this
  rw [jE]
  exact this
end
noncomputable def OpOk (o:Nat):Prop:=o < 128/\Txt.isspace ⟨#[o]⟩=false/\(Builtin.Str.occurrences (zA "()[]{},:") ⟨#[o]⟩ 0 (zA "()[]{},:").length 1).isEmpty=true/\(o == 63)=false
section
variable {d:Nat} {σ:Sto} {L:Role->Nat} {p:PH}
end
namespace kW
def S (d:Nat) (σ:Sto) (o:Nat) (P:V->Sto->Prop):Prop:=∀ (B:Bs w h₀) (ho:OpOk o) (h:∀ t,P (.bool true) (σ++t)),Cl w h₀ (d+1) (.ref 79) [opV o] σ P
noncomputable def d:Nat:=pick fun z=>∀ σ o P,S z σ o P
noncomputable def σ:Sto:=pick fun z=>∀ o P,S d z o P
noncomputable def o:Nat:=pick fun z=>∀ P,S d σ z P
noncomputable def P:V->Sto->Prop:=pick fun z=>S d σ o z
theorem core:S d σ o P:=by
 intro B ho h
 obtain ⟨h1,h2,h3,h4⟩:=ho
 refine Cd.cl (zA3 (ps:=[zA "text"]) B (by rfl) (by rfl) (len1 fun oo1=>rfl) rfl (by decide) (fun oo1=>by rfl) ?_)
 refine gC ?_;intro R Q
 refine gL ?_
 refine ev_and2 ?_
 refine jG3 ?_
 refine gB rfl ?_
 refine zH4 ?_
 refine jU3 (gM ?_)
 have e:((⟨#[o]⟩:Str) == zA "")=false:=by
  rw [beq_eq_false_iff_ne]
  intro q
  have:=congrArg (fun s:Str=>s.cps.size) q
  simp at this
  exact absurd this (by decide)
 rw [e]
 refine ifT rfl ?_
 refine jG3 ?_
 refine jN1 rfl rfl (by decide) (by decide) rfl ?_
 refine zB0 (gB rfl ⟨_,_,iter_str (by simp [h1]),fun i σ'=>σ'=σ,rfl,fun oo1 oo2 oo3=>trivial,fun i v σ' hv hI=>?_,fun σ' hI=>?_⟩)
 ·subst hI
  have hv':v=opV o:=by
   cases i with
   | zero=>simp at hv;exact hv.symm
   | succ i=>simp at hv
  subst hv'
  refine zA4 rfl ?_
  refine zS6 (zX6 (jC7 (gB rfl ⟨"str","str.isspace",rfl,PySem.F.plainAttrs_str,PySem.F.slot_str_isspace,PySem.F.type_str_isspace,jL9 (gM ?_)⟩)))
  refine ifF h2 ?_
  refine gU ?_
  refine gB rfl (zH4 (jS5 (gM ?_)))
  rw [h3]
  exact ⟨rfl,rfl⟩
 ·subst hI
  refine gY (gF ⟨by simp,?_⟩)
  refine jS8 (l:=[]) (by rw [zH (by simp),jB (zK _),yD];rfl) (by rw [jB (zK _),yD];rfl) ?_
  have:=h ([O.lst []]++[O.lst []])
  rw [<-zP] at this
  exact this
theorem all:∀ d σ o P,S d σ o P:=cst (p:=fun z=>∀ σ o P,S z σ o P) (cst (p:=fun z=>∀ o P,S d z o P) (cst (p:=fun z=>∀ P,S d σ z P) (cst (p:=fun z=>S d σ o z) core)))
end kW
section
variable {d:Nat} {σ:Sto} {L:Role->Nat} {p:PH}
theorem is_op_ok {d σ o P}:kW.S d σ o P:=kW.all d σ o P
theorem jF4 (B:Bs w h₀) {o n:Nat} (ho:OpOk o) {P:V->Sto->Prop} (h:∀ t,P .none (σ++t)):Cl w h₀ (d+2) (.ref 122) [.ref n,opV o] σ P:=by
 refine Cd.cl (zA3 (ps:=[zA "self",zA "op"]) B (by rfl) (by rfl) (len2 fun oo1 oo2=>rfl) rfl (by decide) (fun oo1=>by rfl) ?_)
 refine gC ?_;intro R Q
 refine zC1 ?_
 refine zS6 (ts_not (zX6 (zB8 B (zA1 B rfl (by rfl) ⟨_,rfl,by rfl,?_⟩))))
 refine gJ rfl (is_op_ok B ho fun t=>gM ?_)
 refine ifF rfl ?_
 refine gU (zA8 (gB rfl (gI (gt_str (c:=o) rfl (zH4 (jS6 (gM ?_)))))))
 have e:((⟨#[o]⟩:Str) == zA "?")=false:=by
  rw [beq_eq_false_iff_ne]
  intro q
  have h4:=ho.2.2.2
  have:=congrArg (fun s:Str=>s.cps.getD 0 0) q
  have e2:(zA "?").cps.getD 0 0=63:=by decide
  simp [e2] at this
  rw [this] at h4
  cases h4
 refine ifF e ?_
 refine gG ?_
 refine gG ?_
 exact h t
end
theorem jC1 (l:List Nat):gR (nums l)=true/\deps (nums l)=0:=by
 induction l with
 | nil=>exact ⟨rfl,rfl⟩
 | cons k l ih=>exact ⟨ih.1,(wZ _).trans ih.2⟩
theorem zD8 (x:Nat×List Nat):zC3 (zB4 x)=true/\zD1 (zB4 x)=true:=by
 obtain ⟨a,b⟩:=jC1 x.2
 refine ⟨a,zJ.mpr ⟨a,decide_eq_true ?_⟩⟩
 rw [show deps (zD0 x)=max 0 (deps (nums x.2)) from rfl,b]
 exact jO _
theorem jC8 (x y:Nat×List Nat):(zB4 x).eqb (zB4 y)=decide (x=y):=by
 have h:=V.eqb_iff (zD8 x).1 (zD8 y).1
 by_cases e:x=y
 ·subst e
  rw [decide_eq_true rfl]
  exact h.mpr rfl
 ·rw [decide_eq_false e]
  cases q:(zB4 x).eqb (zB4 y)
  ·rfl
  ·have z:=h.mp q
   unfold zB4 at z
   exact absurd (jB5 (V.tup.inj z)) e
section
variable {α:Type} [DecidableEq α] {x:α} {l:List (α×Nat)} {i:Nat}
noncomputable def kget (x:α) (l:List (α×Nat)):Option Nat:=List.rec none (fun y oo1 r=>if y.1=x then some y.2 else r) l
theorem zH0 {y:α×Nat}:kget x (y::l)=if y.1=x then some y.2 else kget x l:=rfl
theorem zX3 {f:α->V} (hf:∀ a b,(f a).eqb (f b)=decide (a=b)):dget (l.map fun y=>(f y.1,V.int (y.2:Nat))) (f x)=(kget x l).map fun (i:Nat)=>V.int (i:Int):=by
 induction l with
 | nil=>rfl
 | cons y l ih=>
  unfold dget at ih ⊢
  rw [zU,vO,hf,zH0]
  by_cases e:y.1=x
  ·rw [decide_eq_true e,if_pos e];rfl
  ·rw [decide_eq_false e,if_neg e];exact ih
theorem jI8 {f:α->V} (hf:∀ a b,(f a).eqb (f b)=decide (a=b)) (h:kget x l=none):dput (l.map fun y=>(f y.1,V.int (y.2:Nat))) (f x) (.int i)=(l++[(x,i)]).map fun y=>(f y.1,V.int (y.2:Nat)):=by
 unfold dput
 rw [zX3 hf,h]
 rw [qD]
 exact if_neg qW
end
noncomputable def kdct (l:List ((Nat×List Nat)×Nat)):List (V×V):=l.map fun y=>(zB4 y.1,V.int (y.2:Nat))
theorem zR8 (x:Nat×List Nat) (l:List ((Nat×List Nat)×Nat)):dget (kdct l) (zB4 x)=(kget x l).map fun (i:Nat)=>V.int (i:Int):=zX3 jC8
theorem zI8 (l:List ((Nat×List Nat)×Nat)):((kdct l).all fun q=>zD1 q.1)=true:=by
 unfold kdct
 rw [wG,jQ]
 intro q _
 exact (zD8 q.1).2
theorem jV3 {x:Nat×List Nat} {l:List ((Nat×List Nat)×Nat)} {i:Nat} (h:kget x l=none):dput (kdct l) (zB4 x) (.int i)=kdct (l++[(x,i)]):=jI8 jC8 h
section
variable {d:Nat} {σ:Sto} {L:Role->Nat} {p:PH}
theorem jA0 (B:Bs w h₀) (H:HeapAt σ L p) {x:Nat×List Nat} {i:Nat} (hi:kget x p.numbers=some i) (hk:x.2.length<=100) {P:V->Sto->Prop} (h:P (.int i) σ):Cl w h₀ (d+1) (.ref 115) [.ref (L .bk),opV x.1,.tup (nums x.2)] σ P:=by
 refine Cd.cl (zA3 (ps:=[zA "self",zA "op",zA "kids"]) B (by rfl) (by rfl) (len3 fun oo1 oo2 oo3=>rfl) rfl (by decide) (fun oo1=>by rfl) ?_)
 have hg:=zR8 x p.numbers
 rw [hi] at hg
 refine gC ?_;intro R Q
 refine gE ?_ (fun oo1 oo2=>rfl);intro kk
 refine gV ?_
 refine ev_s rfl ?_
 refine gP (gW B rfl (by rfl) (by rfl) (by decide) ⟨_,rfl,rfl,gJ rfl ?_⟩)
 refine zP8 (zO6 (by rw [zD];simp;lia) ?_)
 refine gN rfl ?_
 refine gC ?_;intro R Q
 refine zC1 ?_
 refine gU (gB rfl (gH B (gB rfl ⟨L .bk,191,L .bd,_,_,rfl,H.at_ .bk _ rfl,H.at_ .bd _ rfl,rfl,rfl,⟨by rfl,by rfl,by rfl⟩,?_⟩)))
 refine jC2 (l:=kdct p.numbers) (k:=zB4 x) B (H.at_ .numbers _ rfl) (zI8 p.numbers) (zD8 x).2 (gM ?_)
 rw [hg]
 refine ifT rfl ?_
 refine gC ?_;intro R Q
 refine gL ?_
 refine zA8 ?_
 refine gH B (gB rfl ⟨L .bk,191,L .bd,_,_,rfl,H.at_ .bk _ rfl,H.at_ .bd _ rfl,rfl,rfl,⟨by rfl,by rfl,by rfl⟩,?_⟩)
 refine gB rfl (jN2 (l:=kdct p.numbers) (k:=zB4 x) (H.at_ .numbers _ rfl) (zI8 p.numbers) (zD8 x).2 (hg.trans rfl) ?_)
 exact h
end
structure HB (n₀:Nat->Prop) (σ:Sto) (L:Role->Nat) (p:PH):Prop extends HeapAt σ L p where
 low:∀ r,(cell p L r).isSome=true->n₀ (L r)
 new:∀ k,σ.length<=k->n₀ k
noncomputable def KB (n₀:Nat->Prop) (σ σ':Sto):Prop:=∀ i,¬ n₀ i->σ'[i]?=σ[i]?
theorem KB.refl (n₀:Nat->Prop) (σ:Sto):KB n₀ σ σ:=fun oo1 oo2=>rfl
theorem KB.trans {n₀:Nat->Prop} {a b c:Sto} (x:KB n₀ a b) (y:KB n₀ b c):KB n₀ a c:=fun i h=>(y i h).trans (x i h)
theorem KB.set {n₀:Nat->Prop} {k:Nat} {σ:Sto} {o:O} (h:n₀ k):KB n₀ σ (σ.set k o):=fun i hi=>jD (fun (q:k=i)=>hi (q ▸ h))
theorem KB.more {n₀:Nat->Prop} {σ:Sto} (t:Sto) (h:∀ k,σ.length<=k->n₀ k):KB n₀ σ (σ++t):=fun i hi=>zH (Nat.lt_of_not_le fun q=>hi (h i q))
theorem HeapAt.lt {σ:Sto} {L:Role->Nat} {p:PH} (H:HeapAt σ L p) {r:Role} (h:(cell p L r).isSome=true):L r < σ.length:=by
 obtain ⟨o,ho⟩:=Option.isSome_iff_exists.mp h
 exact (zC.mp (H.at_ r o ho)).1
theorem HB.len {n₀:Nat->Prop} {σ:Sto} {L:Role->Nat} {p:PH} (H:HB n₀ σ L p):∀ k,σ.length<=k->n₀ k:=H.new
theorem HB.kmore {n₀:Nat->Prop} {σ:Sto} {L:Role->Nat} {p:PH} (H:HB n₀ σ L p) (t:Sto):KB n₀ σ (σ++t):=KB.more t H.len
theorem HB.more {n₀:Nat->Prop} {σ:Sto} {L:Role->Nat} {p:PH} (H:HB n₀ σ L p) (t:Sto):HB n₀ (σ++t) L p:=⟨H.toHeapAt.more t,H.low,fun k hk=>H.new k (by rw [zE] at hk;lia)⟩
theorem HB.set {n₀:Nat->Prop} {σ:Sto} {L:Role->Nat} {p:PH} (H:HB n₀ σ L p) (p':PH) {r:Role} {o':O} (h1:cell p' L r=some o') (h0:(cell p L r).isSome=true) (h2:∀ r',r'≠r->cell p' L r'=cell p L r'):HB n₀ (σ.set (L r) o') L p'/\KB n₀ σ (σ.set (L r) o'):=by
 obtain ⟨o,ho⟩:=Option.isSome_iff_exists.mp h0
 refine ⟨⟨H.toHeapAt.set ho h1 h2,fun r' h=>H.low r' ?_,fun k hk=>H.new k (by rw [jV] at hk;exact hk)⟩,KB.set (H.low r h0)⟩
 by_cases e:r'=r
 ·subst e;exact h0
 ·rw [<-h2 r' e];exact h
theorem HB.wr {n₀:Nat->Prop} {σ₀ σ σ':Sto} {L:Role->Nat} {p:PH} (H:HB n₀ σ L p) (K:KB n₀ σ₀ σ) {r:Role} {o':O} (e:σ.set (L r) o'=σ') (p':PH) (h1:cell p' L r=some o') (h0:(cell p L r).isSome=true:=by rfl)
  (h2:∀ r',r'≠r->cell p' L r'=cell p L r':=by intro r' hr; cases r' <;> first | rfl | exact absurd rfl hr):HB n₀ σ' L p'/\KB n₀ σ₀ σ':=by
 obtain ⟨a,b⟩:=H.set p' h1 h0 h2
 rw [e] at a b
 exact ⟨a,K.trans b⟩
noncomputable def up (L:Role->Nat) (r:Role) (k:Nat):Role->Nat:=fun r'=>if r'=r then k else L r'
theorem zG6 (L:Role->Nat) (r:Role) (k:Nat):up L r k r=k:=if_pos rfl
theorem zE9 (L:Role->Nat) {r r':Role} (k:Nat) (h:r'≠r):up L r k r'=L r':=if_neg h
theorem HB.step {n₀:Nat->Prop} {k:Nat} {σ σ':Sto} {L:Role->Nat} {p:PH} (H:HB n₀ σ L p) (p':PH) (r₀:Role) (hk:∀ r,(cell p L r).isSome=true->L r≠k) (hn:n₀ k) (hle:σ.length<=σ'.length)
  (hs:∀ r,r≠r₀->(cell p' (up L r₀ k) r).isSome=true->(cell p L r).isSome=true) (ha:∀ r o,cell p' (up L r₀ k) r=some o->σ'[up L r₀ k r]?=some o):HB n₀ σ' (up L r₀ k) p':=by
 refine ⟨⟨ha,fun r r' h h' e=>?_⟩,fun r h=>?_,fun k hk=>H.new k (zB hle hk)⟩
 ·by_cases e1:r=r₀
  ·by_cases e2:r'=r₀
   ·rw [e1,e2]
   ·rw [e1,zG6,zE9 L k e2] at e
    exact absurd e.symm (hk r' (hs r' e2 h'))
  ·by_cases e2:r'=r₀
   ·rw [e2,zG6,zE9 L k e1] at e
    exact absurd e (hk r (hs r e1 h))
   ·rw [zE9 L k e1,zE9 L k e2] at e
    exact H.apart r r' (hs r e1 h) (hs r' e2 h') e
 ·by_cases e1:r=r₀
  ·rw [e1,zG6];exact hn
  ·rw [zE9 L k e1];exact H.low r (hs r e1 h)
theorem gK {σ:Sto} {o:O}:(σ++[o])[σ.length]?=some o:=by rw [jB (zK _),yD];rfl
theorem HB.fresh {n₀:Nat->Prop} {σ:Sto} {L:Role->Nat} {p:PH} (H:HB n₀ σ L p):∀ r,(cell p L r).isSome=true->L r≠σ.length:=fun oo1 h=>jP (H.toHeapAt.lt h)
theorem Sub.drop {ρ ρ':Lc} {x:Str} {v:V} (h:ρ.lookup x=none) (s:Sub ρ ρ'):Sub ρ ((x,v)::ρ'):=fun y u e=>by
 rw [zX]
 cases q:y == x with
 | true=>rw [eq_of_beq q,h] at e;cases e
 | false=>exact s y u e
theorem Sub.same {ρ ρ':Lc} {x:Str} {v:V} (h:ρ.lookup x=some v) (s:Sub ρ ρ'):Sub ρ ((x,v)::ρ'):=fun y u e=>by
 rw [zX]
 cases q:y == x with
 | true=>rw [eq_of_beq q,h] at e;cases e;rfl
 | false=>exact s y u e
section
variable {d:Nat} {sc:Scope} {ρ:Lc} {σ:Sto}
theorem ex_forK {tg iter:Expr} {body:List Stmt} {pos:Pos} {P:Fl->Lc->Sto->Prop}
  (h:Its w h₀ d sc tg iter ρ σ fun l Ok σ₁=>∃ (I:Nat->Sto->Prop),I 0 σ₁/\(∀ i σ',I i σ'->Ok σ')/\
   (∀ i v σ',l[i]?=some v->I i σ'->As w h₀ d sc tg v ρ σ' fun ρ₂ σ₂=>Exs w h₀ d sc body ρ₂ σ₂ fun fl ρ₃ σ₃=>match fl with
    | .next=>Sub ρ ρ₃/\I (i+1) σ₃
    | .cont=>Sub ρ ρ₃/\I (i+1) σ₃
    | .brk=>P .next ρ₃ σ₃
    | .ret v=>P (.ret v) ρ₃ σ₃)/\
   (∀ σ',I l.length σ'->P .next ρ σ'))
  (hs0:∀ env x,foldedSetIterable iter env x=pure x:=by intros; rfl):Ex w h₀ d sc (.For tg iter body [] pos) ρ σ P:=by
 refine zW0 (fun A env s ι Q E hA hs F S k=>h A env s ι Q E hA hs F S fun it fp St s' ι' l Ok σ' st S' hb hSt hsrc ⟨I,i0,iOk,turn,fin⟩=>
  k it fp St s' ι' l Ok σ' st S' hb hSt hsrc ⟨fun i ρ' σ'=>ρ'=ρ/\I i σ',⟨rfl,i0⟩,fun i ρ' σ' hi=>iOk i σ' hi.2,fun i v ρ' σ' hv hi=>?_,fun ρ' σ' hi=>?_⟩) hs0
 ·obtain ⟨rfl,hi⟩:=hi
  intro A env s ι c hA hs F S r
  refine (turn i v σ' hv hi A env s ι c hA hs F S r).mono fun oo1 ρ₂ σ₂ hx=>hx.mono fun fl ρ₃ σ₃ hp=>?_
  cases fl with
  | next=>exact ⟨_,hp.1,rfl,hp.2⟩
  | cont=>exact ⟨_,hp.1,rfl,hp.2⟩
  | brk=>exact hp
  | ret v=>exact hp
 ·obtain ⟨rfl,hi⟩:=hi
  exact fin σ' hi
@[reducible] noncomputable def FE (ρ:Lc) (J:Sto->Prop) (P:Fl->Lc->Sto->Prop) (fl:Fl) (ρ₃:Lc) (σ₃:Sto):Prop:=match fl with
 | .next=>Sub ρ ρ₃/\J σ₃
 | .cont=>Sub ρ ρ₃/\J σ₃
 | .brk=>P .next ρ₃ σ₃
 | .ret v=>P (.ret v) ρ₃ σ₃
inductive FK (d:Nat) (sc:Scope) (tg:Expr) (body:List Stmt) (ρ:Lc) (P:Fl->Lc->Sto->Prop) (l:List V) (Ok:Sto->Prop) (σ₁:Sto):Prop
 | mk (I:Nat->Sto->Prop):I 0 σ₁->(∀ i σ',I i σ'->Ok σ')->(∀ i v σ',l[i]?=some v->I i σ'->As w h₀ d sc tg v ρ σ' fun ρ₂ σ₂=>Exs w h₀ d sc body ρ₂ σ₂ (FE ρ (I (i+1)) P))->(∀ σ',I l.length σ'->P .next ρ σ')->FK d sc tg body ρ P l Ok σ₁
theorem Its.mono {tg iter:Expr} {P P':List V->(Sto->Prop)->Sto->Prop} (h:Its w h₀ d sc tg iter ρ σ P) (hp:∀ l Ok σ,P l Ok σ->P' l Ok σ):Its w h₀ d sc tg iter ρ σ P':=
 fun A env s ι Q E hA hs F S k=>h A env s ι Q E hA hs F S fun it fp St s' ι' l Ok σ' st S' hb hSt hsrc p=>k it fp St s' ι' l Ok σ' st S' hb hSt hsrc (hp l Ok σ' p)
theorem zD6 {tg iter:Expr} {body:List Stmt} {pos:Pos} {P:Fl->Lc->Sto->Prop} (h:let K:=FK d sc tg body ρ P;Its w h₀ d sc tg iter ρ σ K)
  (hs0:∀ env x,foldedSetIterable iter env x=pure x:=by intros; rfl):Ex w h₀ d sc (.For tg iter body [] pos) ρ σ P:=by
 refine ex_forK (h.mono fun l Ok σ₁ p=>?_) hs0
 obtain ⟨I,i0,iOk,turn,fin⟩:=p
 refine ⟨I,i0,iOk,fun i v σ' hv hi A env s ι c hA hs F S r=>(turn i v σ' hv hi A env s ι c hA hs F S r).mono fun oo1 ρ₂ σ₂ q=>q.mono fun fl ρ₃ σ₃ z=>?_,fin⟩
 cases fl <;> exact z
end
theorem jO2 {α:Type} {l:List α} {i:Nat} {a d:α} (h:l[i]?=some a):l.getD i d=a:=by rw [jG,h];rfl
section
variable {d:Nat} {σ:Sto} {L:Role->Nat} {p:PH} {n₀:Nat->Prop}
noncomputable def zQ8 (p:PH) (x:Nat×List Nat) (a b:Int):PH:={ p with nodes:=p.nodes++[x],numbers:=p.numbers++[(x,p.nodes.length)],wts:=p.wts++[a],dps:=p.dps++[b] }
end
namespace kA
def S (d:Nat) (σ:Sto) (L:Role->Nat) (p:PH) (n₀:Nat->Prop) (x:Nat×List Nat) (P:V->Sto->Prop):Prop:=∀ (B:Bs w h₀) (H:HB n₀ σ L p) (hi:kget x p.numbers=none) (ho:OpOk x.1) (hk:x.2.length<=100) (hx:∀ k∈x.2,k < p.nodes.length) (hz:p.nodes.length < 500) (hw:p.wts.length=p.nodes.length) (hd:p.dps.length=p.nodes.length) (hnum:p.numbers.length=p.nodes.length) (h:∀ σ' a b,HB n₀ σ' L (zQ8 p x a b)->KB n₀ σ σ'->P (.int p.nodes.length) σ'),Cl w h₀ (d+3) (.ref 115) [.ref (L .bk),opV x.1,.tup (nums x.2)] σ P
noncomputable def d:Nat:=pick fun z=>∀ σ L p n₀ x P,S z σ L p n₀ x P
noncomputable def σ:Sto:=pick fun z=>∀ L p n₀ x P,S d z L p n₀ x P
noncomputable def L:Role->Nat:=pick fun z=>∀ p n₀ x P,S d σ z p n₀ x P
noncomputable def p:PH:=pick fun z=>∀ n₀ x P,S d σ L z n₀ x P
noncomputable def n₀:Nat->Prop:=pick fun z=>∀ x P,S d σ L p z x P
noncomputable def x:Nat×List Nat:=pick fun z=>∀ P,S d σ L p n₀ z P
noncomputable def P:V->Sto->Prop:=pick fun z=>S d σ L p n₀ x z
theorem core:S d σ L p n₀ x P:=by
 intro B H hi ho hk hx hz hw hd hnum h
 refine Cd.cl (zA3 (ps:=[zA "self",zA "op",zA "kids"]) B (by rfl) (by rfl) (len3 fun oo1 oo2 oo3=>rfl) rfl (by decide) (fun oo1=>by rfl) ?_)
 have hg:=zR8 x p.numbers
 rw [hi] at hg
 refine gC ?_;intro R Q
 refine gE ?_ (fun oo1 oo2=>rfl);intro kk
 refine gV ?_
 refine ev_s rfl ?_
 refine gP (gW B rfl (by rfl) (by rfl) (by decide) ⟨_,rfl,rfl,gJ rfl ?_⟩)
 refine zP8 (zO6 (by rw [zD];simp;lia) ?_)
 refine gN rfl ?_
 refine gC ?_;intro R Q
 refine zC1 ?_
 refine gU (gB rfl (gH B (gB rfl ⟨L .bk,191,L .bd,_,_,rfl,H.at_ .bk _ rfl,H.at_ .bd _ rfl,rfl,rfl,⟨by rfl,by rfl,by rfl⟩,?_⟩)))
 refine jC2 (l:=kdct p.numbers) (k:=zB4 x) B (H.at_ .numbers _ rfl) (zI8 p.numbers) (zD8 x).2 (gM ?_)
 rw [hg]
 refine ifF rfl ?_
 refine gG ?_
 refine gC ?_;intro R Q
 refine zA2 ?_
 refine gO B (gB rfl ⟨L .bk,191,L .bd,_,122,rfl,H.at_ .bk _ rfl,H.at_ .bd _ rfl,rfl,rfl,⟨by rfl,by rfl,by rfl,by rfl⟩,gJ rfl (jF4 B ho fun t=>?_)⟩)
 refine gC ?_;intro R Q
 refine zD6 ?_;intro kk
 refine zB0 (zC0 (gB rfl (gI ⟨1,rfl,zG1 (a:=1) (l:=zD0 x) (by simp [zD0];lia) ?_⟩)))
 refine ⟨_,_,zH9,fun i σ'=>σ'=σ++t,rfl,fun oo1 oo2 oo3=>trivial,fun i v σ' hv hI=>?_,fun σ' hI=>?_⟩
 ·subst hI
  refine gN rfl ?_
  refine gC ?_;intro R Q
  refine zC1 ?_
  have H':=H.more t
  cases hxi:x.2[i]? with
  | none=>rw [show (zD0 x).drop 1=nums x.2 from rfl,zS,hxi] at hv;cases hv
  | some k=>
   rw [show (zD0 x).drop 1=nums x.2 from rfl,zS,hxi] at hv
   cases hv
   have hkl:=hx k (zI hxi)
   refine ts_not (jS2 (gI (gB rfl (cm_le ⟨_,rfl,?_⟩))))
   refine ifT (decide_eq_true (by lia)) ?_
   refine gP (gW B rfl (by rfl) (by rfl) (by decide) ⟨_,rfl,rfl,?_⟩)
   refine gD (gH B (gB rfl ⟨L .bk,191,L .bd,_,_,rfl,H'.at_ .bk _ rfl,H'.at_ .bd _ rfl,rfl,rfl,⟨by rfl,by rfl,by rfl⟩,?_⟩))
   refine gF (zA7 (H'.at_ .nodes _ rfl) (by rw [zD];lia) (zQ0 (gM ?_)))
   rw [zD,decide_eq_true (by lia)]
   refine ifF rfl ?_
   refine gG ?_
   refine gG ?_
   exact ⟨Sub.drop rfl (Sub.refl _),rfl⟩
 ·subst hI
  have H₁:=H.more t
  refine gC ?_;intro R Q
  refine gE ?_ (fun oo1 oo2=>rfl);intro kk
  refine gP (gW B rfl (by rfl) (by rfl) (by decide) ⟨_,rfl,rfl,?_⟩)
  refine gD (gH B (gB rfl ⟨L .bk,191,L .bd,_,_,rfl,H₁.at_ .bk _ rfl,H₁.at_ .bd _ rfl,rfl,rfl,⟨by rfl,by rfl,by rfl⟩,?_⟩))
  refine gF (zA7 (H₁.at_ .nodes _ rfl) (by rw [zD];lia) ?_)
  refine zR4 (gH B (gB rfl ⟨L .bk,191,L .bd,_,_,rfl,H₁.at_ .bk _ rfl,H₁.at_ .bd _ rfl,rfl,rfl,⟨by rfl,by rfl,by rfl⟩,?_⟩))
  rw [zD]
  refine gB rfl (si_dct (l:=kdct p.numbers) (k:=zB4 x) (H₁.at_ .numbers _ rfl) (zI8 p.numbers) (zD8 x).2 (by simp [kdct];lia) ?_)
  rw [jV3 hi]
  generalize e₂:List.set _ _ _=σ₂
  obtain ⟨H₂,K₂⟩:=H₁.wr (H.kmore t) e₂ { p with numbers:=p.numbers++[(x,p.nodes.length)] } rfl
  refine gC ?_;intro R Q
  refine zA2 (zB1 (gH B (gB rfl ⟨L .bk,191,L .bd,_,_,rfl,H₂.at_ .bk _ rfl,H₂.at_ .bd _ rfl,rfl,rfl,⟨by rfl,by rfl,by rfl⟩,?_⟩)))
  refine ⟨"list","list.append",.inl ⟨_,H₂.at_ .nodes _ rfl,rfl⟩,jH,qB,qC,?_⟩
  refine gJ rfl (zC4 (H₂.at_ .nodes _ rfl) (by rw [zD];show p.nodes.length<=_;lia) ?_)
  try dsimp only
  generalize e₃:List.set _ _ _=σ₃
  obtain ⟨H₃,K₃⟩:=H₂.wr K₂ e₃ { p with numbers:=p.numbers++[(x,p.nodes.length)],nodes:=p.nodes++[x] } (by show some (O.lst ((p.nodes++[x]).map zB4))=_;rw [qD];rfl)
  refine gC ?_;intro R Q
  refine zA2 (zB1 (gH B (gB rfl ⟨L .bk,191,L .bd,_,_,rfl,H₃.at_ .bk _ rfl,H₃.at_ .bd _ rfl,rfl,rfl,⟨by rfl,by rfl,by rfl⟩,?_⟩)))
  refine ⟨"list","list.append",.inl ⟨_,H₃.at_ .weights _ rfl,rfl⟩,jH,qB,qC,?_⟩
  refine gD (gV (gI ?_))
  refine gP (gW B rfl (by rfl) (by rfl) (by decide) ⟨_,rfl,rfl,gD ?_⟩)
  refine zC8 rfl rfl (by decide) (by decide) rfl ?_
  refine zB0 (zC0 (gB rfl (gI ⟨1,rfl,zG1 (a:=1) (l:=zD0 x) (by simp [zD0];lia) ?_⟩)))
  refine ⟨_,_,zH9,fun i acc σ'=>acc=((x.2.take i).map fun k=>p.wts.getD k 0).map V.int/\∃ t,σ'=σ₃++t,⟨by simp,[],by simp⟩,by simp [zD0];lia,fun oo1 oo2 oo3 oo4=>trivial,fun i v acc σ' hv hl hI=>?_,fun acc σ' hl hI=>?_⟩
  ·obtain ⟨rfl,t,rfl⟩:=hI
   have H₄:=H₃.more t
   cases hxi:x.2[i]? with
   | none=>rw [show (zD0 x).drop 1=nums x.2 from rfl,zS,hxi] at hv;cases hv
   | some k=>
    rw [show (zD0 x).drop 1=nums x.2 from rfl,zS,hxi] at hv
    cases hv
    have hkl:=hx k (zI hxi)
    have hwk:p.wts[k]?=some (p.wts[k]'(by lia)):=zQ _
    refine zA4 rfl (zA8 (gH B (gB rfl ⟨L .bk,191,L .bd,_,_,rfl,H₄.at_ .bk _ rfl,H₄.at_ .bd _ rfl,rfl,rfl,⟨by rfl,by rfl,by rfl⟩,?_⟩)))
    refine gB rfl (zI4 (H₄.at_ .weights _ rfl) (v:=.int (p.wts.getD k 0)) (by rw [zS,hwk,jO2 hwk];rfl) (by lia) ⟨?_,t,rfl⟩)
    rw [jJ,hxi]
    simp
  ·obtain ⟨rfl,t,rfl⟩:=hI
   refine gF (cl_sum gK ?_)
   refine zF8 (gF ?_)
   refine zC4 ((H₃.more t).more _ |>.at_ .weights _ rfl) (by rw [zD];show p.wts.length<=_;lia) ?_
   try dsimp only
   generalize e₅:List.set _ _ _=σ₅
   generalize hwt:(1+_:Int)=wt at e₅
   obtain ⟨H₅,K₅⟩:=((H₃.more t).more _).wr (K₃.trans ((H₃.kmore t).trans ((H₃.more t).kmore _))) e₅ { p with numbers:=p.numbers++[(x,p.nodes.length)],nodes:=p.nodes++[x],wts:=p.wts++[wt] } (by show some (O.lst ((p.wts++[wt]).map V.int))=_;rw [qD];rfl)
   refine gC ?_;intro R Q
   refine zA2 (zB1 (gH B (gB rfl ⟨L .bk,191,L .bd,_,_,rfl,H₅.at_ .bk _ rfl,H₅.at_ .bd _ rfl,rfl,rfl,⟨by rfl,by rfl,by rfl⟩,?_⟩)))
   refine ⟨"list","list.append",.inl ⟨_,H₅.at_ .depths _ rfl,rfl⟩,jH,qB,qC,?_⟩
   refine gD (gV (gI ?_))
   refine gP (gW B rfl (by rfl) (by rfl) (by decide) ⟨_,rfl,rfl,gD (gV ?_)⟩)
   refine zC8 rfl rfl (by decide) (by decide) rfl ?_
   refine zB0 (zC0 (gB rfl (gI ⟨1,rfl,zG1 (a:=1) (l:=zD0 x) (by simp [zD0];lia) ?_⟩)))
   refine ⟨_,_,zH9,fun i acc σ'=>acc=((x.2.take i).map fun k=>p.dps.getD k 0).map V.int/\∃ t,σ'=σ₅++t,⟨by simp,[],by simp⟩,by simp [zD0];lia,fun oo1 oo2 oo3 oo4=>trivial,fun i v acc σ' hv hl hI=>?_,fun acc σ' hl hI=>?_⟩
   ·obtain ⟨rfl,t,rfl⟩:=hI
    have H₄:=H₅.more t
    cases hxi:x.2[i]? with
    | none=>rw [show (zD0 x).drop 1=nums x.2 from rfl,zS,hxi] at hv;cases hv
    | some k=>
     rw [show (zD0 x).drop 1=nums x.2 from rfl,zS,hxi] at hv
     cases hv
     have hkl:=hx k (zI hxi)
     have hwk:p.dps[k]?=some (p.dps[k]'(by lia)):=zQ _
     refine zA4 rfl (zA8 (gH B (gB rfl ⟨L .bk,191,L .bd,_,_,rfl,H₄.at_ .bk _ rfl,H₄.at_ .bd _ rfl,rfl,rfl,⟨by rfl,by rfl,by rfl⟩,?_⟩)))
     refine gB rfl (zI4 (H₄.at_ .depths _ rfl) (v:=.int (p.dps.getD k 0)) (by rw [zS,hwk,jO2 hwk];rfl) (by lia) ⟨?_,t,rfl⟩)
     rw [jJ,hxi]
     simp
   ·obtain ⟨rfl,t,rfl⟩:=hI
    generalize hds:List.map (fun k=>p.dps.getD k 0) _=ds
    have hdl:ds.length<=100:=by rw [<-hds,zD];exact zB (vW ..) hk
    refine gY (gJ rfl ⟨by simp,?_⟩)
    refine zY5 (a:=ds.map .int) (b:=[.int 0]) (by rw [zH (by simp)];exact gK) gK (by rw [zD];simp;lia) ?_
    refine gF (cl_max (ns:=ds++[0]) (by rw [qD];exact gK) (by simp) fun m oo1 oo2=>?_)
    refine zF8 (gF ?_)
    have H₆:=(((H₅.more t).more [O.lst (ds.map .int)]).more [O.lst [.int 0]]).more [.lst (ds.map .int++[.int 0])]
    refine zC4 (H₆.at_ .depths _ rfl) (by rw [zD];show p.dps.length<=_;lia) ?_
    try dsimp only
    generalize e₇:List.set _ _ _=σ₇
    have K₆:=K₅.trans ((H₅.kmore t).trans (((H₅.more t).kmore [O.lst (ds.map .int)]).trans ((((H₅.more t).more [O.lst (ds.map .int)]).kmore [O.lst [.int 0]]).trans ((((H₅.more t).more [O.lst (ds.map .int)]).more [O.lst [.int 0]]).kmore [.lst (ds.map .int++[.int 0])]))))
    obtain ⟨H₇,K₇⟩:=H₆.wr K₆ e₇ (zQ8 p x wt (1+m)) (by show some (O.lst ((p.dps++[1+m]).map V.int))=_;rw [qD];rfl)
    refine gC ?_;intro R Q
    refine gL ?_
    refine gV ?_
    refine gP (gW B rfl (by rfl) (by rfl) (by decide) ⟨_,rfl,rfl,?_⟩)
    refine gD (gH B (gB rfl ⟨L .bk,191,L .bd,_,_,rfl,H₇.at_ .bk _ rfl,H₇.at_ .bd _ rfl,rfl,rfl,⟨by rfl,by rfl,by rfl⟩,?_⟩))
    refine gF (zA7 (H₇.at_ .nodes _ rfl) (by rw [zD];show (p.nodes++[x]).length<=_;rw [zE];simp;lia) ?_)
    refine gI (zK1 ?_)
    have e:((List.map zB4 (zQ8 p x wt (1+m)).nodes).length:Int) - 1=p.nodes.length:=by
     rw [zD];show ((p.nodes++[x]).length:Int) - 1=_;rw [zE];simp
    rw [e]
    exact h _ _ _ H₇ K₇
theorem all:∀ d σ L p n₀ x P,S d σ L p n₀ x P:=cst (p:=fun z=>∀ σ L p n₀ x P,S z σ L p n₀ x P) (cst (p:=fun z=>∀ L p n₀ x P,S d z L p n₀ x P) (cst (p:=fun z=>∀ p n₀ x P,S d σ z p n₀ x P) (cst (p:=fun z=>∀ n₀ x P,S d σ L z n₀ x P) (cst (p:=fun z=>∀ x P,S d σ L p z x P) (cst (p:=fun z=>∀ P,S d σ L p n₀ z P) (cst (p:=fun z=>S d σ L p n₀ x z) core))))))
end kA
section
variable {d:Nat} {σ:Sto} {L:Role->Nat} {p:PH} {n₀:Nat->Prop}
theorem zZ5 {d σ L p n₀ x P}:kA.S d σ L p n₀ x P:=kA.all d σ L p n₀ x P
end
section
variable {d:Nat} {σ:Sto} {L:Role->Nat} {p:PH} {n₀:Nat->Prop}
end
namespace kI
def S (d:Nat) (σ:Sto) (L:Role->Nat) (p:PH) (n₀:Nat->Prop) (P:V->Sto->Prop):Prop:=∀ (B:Bs w h₀) (H:HB n₀ σ L p) (hz:p.uab.length < 500) (hl:p.lots.length < 500) (h:∀ σ' L',HB n₀ σ' L' { p with uab:=p.uab++[p.uab.length],lots:=p.lots++[[p.lots.length]] }->L' .hp=L .hp->KB n₀ σ σ'->P (.int p.uab.length) σ'),Cl w h₀ (d+1) (.ref 301) [.ref (L .un)] σ P
noncomputable def d:Nat:=pick fun z=>∀ σ L p n₀ P,S z σ L p n₀ P
noncomputable def σ:Sto:=pick fun z=>∀ L p n₀ P,S d z L p n₀ P
noncomputable def L:Role->Nat:=pick fun z=>∀ p n₀ P,S d σ z p n₀ P
noncomputable def p:PH:=pick fun z=>∀ n₀ P,S d σ L z n₀ P
noncomputable def n₀:Nat->Prop:=pick fun z=>∀ P,S d σ L p z P
noncomputable def P:V->Sto->Prop:=pick fun z=>S d σ L p n₀ z
theorem core:S d σ L p n₀ P:=by
 intro B H hz hl h
 refine Cd.cl (zA3 (ps:=[zA "self"]) B (by rfl) (by rfl) (len1 fun oo1=>rfl) rfl (by decide) (fun oo1=>by rfl) ?_)
 refine gC ?_;intro R Q
 refine zA2 (zB1 (gH B (gB rfl ⟨L .un,358,L .ud,_,_,rfl,H.at_ .un _ rfl,H.at_ .ud _ rfl,rfl,rfl,⟨by rfl,by rfl,by rfl⟩,?_⟩)))
 refine ⟨"list","list.append",.inl ⟨_,H.at_ .uab _ rfl,rfl⟩,jH,qB,qC,?_⟩
 refine gD (gP (gW B rfl (by rfl) (by rfl) (by decide) ⟨_,rfl,rfl,gD (gH B (gB rfl ⟨L .un,358,L .ud,_,_,rfl,H.at_ .un _ rfl,H.at_ .ud _ rfl,rfl,rfl,⟨by rfl,by rfl,by rfl⟩,?_⟩))⟩))
 refine gF (zA7 (H.at_ .uab _ rfl) (by rw [zD];lia) ?_)
 refine gF (zC4 (H.at_ .uab _ rfl) (by rw [zD];lia) ?_)
 generalize e₁:List.set _ _ _=σ₁
 obtain ⟨H₁,K₁⟩:=H.wr (KB.refl _ _) e₁ { p with uab:=p.uab++[p.uab.length] } (by show some (O.lst (nums (p.uab++[p.uab.length])))=_;unfold nums;rw [qD,zD];rfl)
 refine gC ?_;intro R Q
 refine zA2 (zB1 (gH B (gB rfl ⟨L .un,358,L .ud,_,_,rfl,H₁.at_ .un _ rfl,H₁.at_ .ud _ rfl,rfl,rfl,⟨by rfl,by rfl,by rfl⟩,?_⟩)))
 refine ⟨"list","list.append",.inl ⟨_,H₁.at_ .lots _ rfl,rfl⟩,jH,qB,qC,?_⟩
 refine gD (gY (gD (gP (gW B rfl (by rfl) (by rfl) (by decide) ⟨_,rfl,rfl,gD (gH B (gB rfl ⟨L .un,358,L .ud,_,_,rfl,H₁.at_ .un _ rfl,H₁.at_ .ud _ rfl,rfl,rfl,⟨by rfl,by rfl,by rfl⟩,?_⟩))⟩))))
 refine gF (zA7 (H₁.at_ .lots _ rfl) (by rw [zD,qR];show p.lots.length<=_;lia) (gF ⟨by simp,?_⟩))
 have H₂:=H₁.more [.lst [.int ((List.map (fun i=>V.ref (L (Role.lot i))) (List.range p.lots.length)).length)]]
 refine gF (zC4 (H₂.at_ .lots _ rfl) (by rw [zD,qR];show p.lots.length<=_;lia) ?_)
 try dsimp only
 generalize e₃:List.set _ _ _=σ₃
 have hL:L .lots < σ₁.length:=H₁.toHeapAt.lt (r:=.lots) rfl
 have e₃':σ₃=(σ₁.set (L .lots) (O.lst ((List.range p.lots.length).map (fun i=>V.ref (L (.lot i)))++[.ref σ₁.length])))++[.lst (nums [p.lots.length])]:=by
  rw [<-e₃,wR _ _ hL,zD,qR]
  rfl
 have hlen:(σ₁.set (L .lots) (O.lst ((List.range p.lots.length).map (fun i=>V.ref (L (.lot i)))++[.ref σ₁.length]))).length=σ₁.length:=jV
 have H₃:HB n₀ σ₃ (up L (.lot p.lots.length) σ₁.length) { p with uab:=p.uab++[p.uab.length],lots:=p.lots++[[p.lots.length]] }:=by
  refine H₁.step _ _ H₁.fresh (H₁.new _ (zK _)) (by rw [e₃',zE,hlen];lia) (fun r hr hs=>?_) (fun r o ho=>?_)
  ·cases r with
   | lot i=>
    have hi:i≠p.lots.length:=fun e=>hr (e ▸ rfl)
    have hs':((p.lots++[[p.lots.length]])[i]?).isSome=true:=Option.isSome_map.symm.trans (show (((p.lots++[[p.lots.length]])[i]?).map fun l=>O.lst (nums l)).isSome=true from hs)
    have:i < p.lots.length:=by
     obtain ⟨z,hz⟩:=Option.isSome_iff_exists.mp hs'
     have:=(zC.mp hz).1
     rw [zE] at this
     exact vB (jR this) hi
    show ((p.lots[i]?).map _).isSome=true
    rw [zQ this]
    rfl
   | hb k=>exact hs
   | _=>rfl
  ·rw [e₃']
   have keep:∀ r,r≠.lots->(∀ o,cell { p with uab:=p.uab++[p.uab.length] } L r=some o->(σ₁.set (L .lots) (O.lst ((List.range p.lots.length).map (fun i=>V.ref (L (.lot i)))++[.ref σ₁.length]))++[O.lst (nums [p.lots.length])])[L r]?=some o):=fun r hr o ho=>by
    have hlt:=H₁.toHeapAt.lt (r:=r) (by rw [ho];rfl)
    rw [zH (by rw [hlen];exact hlt),jD (fun q=>hr (H₁.apart r .lots (by rw [ho];rfl) rfl q.symm))]
    exact H₁.at_ r o ho
   cases r with
   | lots=>
    rw [zE9 _ _ (by simp),zH (by rw [hlen];exact hL),jW hL,<-ho]
    show _=some (O.lst ((List.range (p.lots++[[p.lots.length]]).length).map fun i=>V.ref (up L (.lot p.lots.length) σ₁.length (.lot i))))
    rw [zE,show ([[p.lots.length]]:List (List Nat)).length=1 from rfl,yE,qD]
    refine congrArg (fun z=>some (O.lst z)) ?_
    have ea:(List.range p.lots.length).map (fun i=>V.ref (L (.lot i)))=(List.range p.lots.length).map (fun i=>V.ref (up L (.lot p.lots.length) σ₁.length (.lot i))):=qP fun i hi=>by
     rw [zE9 _ _ (by intro q;cases q;simp at hi)]
    show _++_=_
    rw [ea]
    simp [zG6]
   | lot i=>
    have ho':((p.lots++[[p.lots.length]])[i]?).map (fun l=>O.lst (nums l))=some o:=ho
    by_cases hi:i=p.lots.length
    ·subst hi
     rw [jB (zK _),yD] at ho'
     cases ho'
     rw [zG6,jB (by rw [hlen];exact zK _),hlen,yD]
     rfl
    ·have hlt:i < p.lots.length:=by
      cases q:(p.lots++[[p.lots.length]])[i]? with
      | none=>rw [q] at ho';cases ho'
      | some z=>
       have:=(zC.mp q).1
       rw [zE] at this
       exact vB (jR this) hi
     rw [zE9 _ _ (by intro q;cases q;exact hi rfl)]
     rw [zH hlt] at ho'
     exact keep (.lot i) (by simp) o ho'
   | _=>
    rw [zE9 _ _ (by simp)]
    exact keep _ (by simp) o ho
 have K₃:KB n₀ σ σ₃:=by
  rw [e₃']
  exact K₁.trans ((KB.set (H₁.low .lots rfl)).trans (KB.more _ (by rw [hlen];exact H₁.len)))
 refine gC ?_;intro R Q
 refine gL ?_
 refine gV ?_
 refine gP (gW B rfl (by rfl) (by rfl) (by decide) ⟨_,rfl,rfl,?_⟩)
 refine gD (gH B (gB rfl ⟨L .un,358,L .ud,_,_,rfl,H₃.at_ .un _ rfl,H₃.at_ .ud _ rfl,rfl,rfl,⟨by rfl,by rfl,by rfl⟩,?_⟩))
 refine gF (zA7 (H₃.at_ .uab _ rfl) (by rw [zD];show (p.uab++[p.uab.length]).length<=_;rw [zE];simp;lia) ?_)
 refine gI (zK1 ?_)
 rw [show (((nums (p.uab++[p.uab.length])).length:Int) - 1)=p.uab.length by rw [zD,zE];simp]
 exact h _ _ H₃ rfl K₃
theorem all:∀ d σ L p n₀ P,S d σ L p n₀ P:=cst (p:=fun z=>∀ σ L p n₀ P,S z σ L p n₀ P) (cst (p:=fun z=>∀ L p n₀ P,S d z L p n₀ P) (cst (p:=fun z=>∀ p n₀ P,S d σ z p n₀ P) (cst (p:=fun z=>∀ n₀ P,S d σ L z n₀ P) (cst (p:=fun z=>∀ P,S d σ L p z P) (cst (p:=fun z=>S d σ L p n₀ z) core)))))
end kI
section
variable {d:Nat} {σ:Sto} {L:Role->Nat} {p:PH} {n₀:Nat->Prop}
theorem uni_make {d σ L p n₀ P}:kI.S d σ L p n₀ P:=kI.all d σ L p n₀ P
end
structure PC where
 nodes:List (Nat×List Nat)
 known:List ((Nat×List Nat)×Nat)
 uab:List Nat
 lots:List (List Nat)
 js:Nat
deriving Inhabited
noncomputable def canC (ab:List Nat) (x:Nat×List Nat):Nat×List Nat:=(x.1,x.2.map (fnd ab))
structure GP (p:PH) (c:PC):Prop where
 nodes:p.nodes=c.nodes
 numbers:p.numbers=c.nodes.zipIdx
 wts:p.wts.length=c.nodes.length
 dps:p.dps.length=c.nodes.length
 uab:p.uab=c.uab
 lots:p.lots=c.lots
 known:p.known=c.known
 waiting:p.waiting=[]
 len1:c.uab.length=c.nodes.length
 len2:c.lots.length=c.nodes.length
 down:zE1 c.uab
 small:c.nodes.length<=100
 kids:∀ y∈c.nodes,y.2.length<=100/\∀ k∈y.2,k < c.nodes.length
 roots:∀ k,k < c.nodes.length->c.uab.getD k 0=k->(p.hab.lookup k).isSome=true
 newest:∀ k,c.nodes.length<=k->p.hab.lookup k=none
 hlen:p.hab.length<=c.nodes.length
 hbs:∀ k l,p.hab.lookup k=some l->l.length<=4 * c.nodes.length
 edges:p.edges.length<=c.js
 forest:p.forest.length<=c.js
 merged:p.merged.length<=c.js
 knl:p.known.length<=c.nodes.length
 jsl:c.js<=100
 lotl:∀ l∈c.lots,l.length<=100
theorem zB5 {α:Type} {l:List (Nat×α)} {k:Nat} {m:List (Nat×α)} (h:l.lookup k=none):(l++m).lookup k=m.lookup k:=by
 induction l with
 | nil=>rfl
 | cons q l ih=>
  rw [zX] at h
  rw [jM,zX]
  cases e:k == q.1 with
  | true=>rw [e] at h;cases h
  | false=>rw [e] at h;exact ih h
theorem zD2 {α:Type} {l:List (Nat×α)} {k:Nat} {a:α} {m:List (Nat×α)} (h:l.lookup k=some a):(l++m).lookup k=some a:=by
 induction l with
 | nil=>cases h
 | cons q l ih=>
  rw [zX] at h
  rw [jM,zX]
  cases e:k == q.1 with
  | true=>rw [e] at h;exact h
  | false=>rw [e] at h;exact ih h
noncomputable def habK (L:Role->Nat) (hab:List (Nat×List Nat)):List (Int×V):=hab.map fun x=>((x.1:Int),V.ref (L (.hb x.1)))
theorem lk {α:Type} {k:Nat} {q:Nat×α} (e:(k == q.1)=true):q.1=k:=(eq_of_beq e).symm
theorem lkF {α:Type} {k:Nat} {q:Nat×α} (e:(k == q.1)=false):¬ (q.1:Int)=(k:Int):=fun z=>absurd (beq_iff_eq.mpr (Int.ofNat.inj z).symm) (Bool.eq_false_iff.mp e)
theorem habK_any {L:Role->Nat} {k:Nat} {hab:List (Nat×List Nat)} (h:hab.lookup k=none):((habK L hab).any fun q=>decide (q.1=(k:Int)))=false:=by
 induction hab with
 | nil=>rfl
 | cons q l ih=>
  rw [zX] at h
  cases e:k == q.1 with
  | true=>rw [e] at h;cases h
  | false=>
   rw [e] at h
   exact Bool.or_eq_false_iff.mpr ⟨decide_eq_false (lkF e),ih h⟩
theorem zQ5 {L:Role->Nat} {k:Nat} {hab:List (Nat×List Nat)} (h:(hab.lookup k).isSome=true):vget (habK L hab) (k:Int)=some (.ref (L (.hb k))):=by
 induction hab with
 | nil=>cases h
 | cons q l ih=>
  unfold vget habK at ih ⊢
  rw [zU,vO]
  rw [zX] at h
  cases e:k == q.1 with
  | true=>
   rw [lk e,show decide ((k:Int)=(k:Int))=true from decide_eq_true rfl]
   rfl
  | false=>
   rw [e] at h
   rw [decide_eq_false (lkF e)]
   exact ih h
noncomputable def zJ6 (h:List (Nat×List Nat)) (c n:Nat):List (Nat×List Nat):=h.map fun y=>if y.1=c then (y.1,y.2++[n]) else y
theorem zE2 (c n k:Nat) (h:List (Nat×List Nat)):(zJ6 h c n).lookup k=(h.lookup k).map fun l=>if k=c then l++[n] else l:=by
 induction h with
 | nil=>rfl
 | cons q h ih=>
  unfold zJ6 at ih ⊢
  rw [zU,zX]
  have e1:(if q.1=c then (q.1,q.2++[n]) else q).1=q.1:=by split <;> rfl
  rw [zX,e1]
  cases e:k == q.1 with
  | true=>
   rw [<-lk e]
   by_cases hc:q.1=c
   ·rw [if_pos hc];exact congrArg some (if_pos hc).symm
   ·rw [if_neg hc];exact congrArg some (if_neg hc).symm
  | false=>exact ih
theorem jJ6 (L:Role->Nat) (c n:Nat) (h:List (Nat×List Nat)):habK L (zJ6 h c n)=habK L h:=by
 unfold habK zJ6
 rw [jE]
 refine qP fun y oo1=>?_
 show (((if y.1=c then (y.1,y.2++[n]) else y).1:Int),V.ref (L (.hb (if y.1=c then (y.1,y.2++[n]) else y).1)))=_
 have e1:(if y.1=c then (y.1,y.2++[n]) else y).1=y.1:=by split <;> rfl
 rw [e1]
theorem zT4 {x:Nat×List Nat} {l:List (Nat×List Nat)} {i:Nat}:kget x (l.zipIdx i)=none ↔ x ∉ l:=by
 induction l generalizing i with
 | nil=>exact ⟨fun oo1=>yP,fun oo1=>rfl⟩
 | cons y l ih=>
  rw [List.zipIdx_cons,zH0]
  by_cases e:y=x
  ·simp [e]
  ·rw [if_neg e,ih]
   simp [Ne.symm e]
theorem fnd_more {ab:List Nat} (D:zE1 ab) (n:Nat):∀ {k:Nat},k < ab.length->fnd (ab++[n]) k=fnd ab k:=by
 have key:∀ (m k:Nat),k < ab.length->fndN m (ab++[n]) k=fndN m ab k:=by
  intro m
  induction m with
  | zero=>intros;rfl
  | succ m ih=>
   intro k hk
   have e:(ab++[n]).getD k 0=ab.getD k 0:=by
    rw [jG,jG,zH hk]
   rw [fndN,fndN,e,ih _ (jY (D k hk) hk)]
 exact fun {k} hk=>key _ k hk
theorem zL9 {ab:List Nat} (D:zE1 ab):∀ {k:Nat},k < ab.length->ab.getD (fnd ab k) 0=fnd ab k:=by
 intro k
 induction k using yZ with
 | ind k ih=>
  intro hk
  by_cases e:ab.getD k 0=k
  ·rw [zX4 e];exact e
  ·have h1:=D k hk
   have hlt:ab.getD k 0 < k:=vB h1 e
   rw [<-zY9 D hk e]
   exact ih _ hlt (wY hlt hk)
theorem zE1.more {ab:List Nat} (D:zE1 ab):zE1 (ab++[ab.length]):=fun i hi=>by
 rw [jG]
 by_cases h:i < ab.length
 ·rw [zH h,<-jG]
  exact D i h
 ·have hi':i=ab.length:=by rw [zE] at hi;simp at hi;lia
  subst hi'
  rw [jB (zK _),yD]
  exact zK _
theorem jP4:∀ (l acc:List Int) (i:Int),i∈l.foldl dedS acc->i∈acc∨i∈l
 | [],acc,i,h=>.inl h
 | j::l,acc,i,h=>by
  rw [vQ] at h
  rcases jP4 l _ i h with h | h
  ·unfold dedS at h
   split at h
   ·exact .inl h
   ·rcases jN.mp h with rfl | h
    ·exact .inr jA
    ·exact .inl h
  ·exact .inr (zY _ h)
section
variable {d:Nat} {σ:Sto} {L:Role->Nat} {p:PH} {n₀:Nat->Prop}
theorem look_new (B:Bs w h₀) (H:HB n₀ σ L p) (D:zE1 p.uab) (hz:p.uab.length < 1000) (hz':p.nodes.length < 1000) {n:Nat} {x:Nat×List Nat} (hn:p.nodes[n]?=some x) (hk:x.2.length<=100) (hx:∀ k∈x.2,k < p.uab.length) (hnu:n < p.uab.length)
  (hnew:kget (canC p.uab x) p.known=none) (hzk:p.known.length<=1000) {P:V->Sto->Prop}
  (h:∀ σ',HB n₀ σ' L { p with known:=p.known++[(canC p.uab x,n)] }->KB n₀ σ σ'->P .none σ'):Cl w h₀ (d+4) (.ref 405) [.ref (L .hp),.int n] σ P:=by
 refine Cd.cl (zA3 (ps:=[zA "self",zA "n"]) B (by rfl) (by rfl) (len2 fun oo1 oo2=>rfl) rfl (by decide) (fun oo1=>by rfl) ?_)
 refine gC ?_;intro R Q
 refine gE ?_ (fun oo1 oo2=>rfl);intro kk
 refine zB1 (gH B (gB rfl ⟨L .hp,488,L .hd,_,_,rfl,H.at_ .hp _ rfl,H.at_ .hd _ rfl,rfl,rfl,⟨by rfl,by rfl,by rfl⟩,?_⟩))
 refine ⟨"dict","dict.setdefault",.inr ⟨_,H.at_ .known _ rfl,rfl⟩,PySem.F.plainAttrs_dict,PySem.F.slot_dict_setdefault,PySem.F.type_dict_setdefault,?_⟩
 refine gD (gO B (gB rfl ⟨L .hp,488,L .hd,_,388,rfl,H.at_ .hp _ rfl,H.at_ .hd _ rfl,rfl,rfl,⟨by rfl,by rfl,by rfl,by rfl⟩,?_⟩))
 refine gJ rfl (jA9 B H.toHeapAt D hz hz' hn hk hx fun t=>?_)
 refine gJ rfl ?_
 have H₁:=H.more t
 refine jA3 (l:=kdct p.known) B (H₁.at_ .known _ rfl) (zI8 _) (zD8 _).2 (by simp [kdct];lia) ?_
 have hg:=zR8 (canC p.uab x) p.known
 rw [hnew] at hg
 rw [show canon p x=canC p.uab x from rfl,hg]
 simp only [Option.map_none]
 refine gN rfl ?_
 generalize e₂:List.set _ _ _=σ₂
 obtain ⟨H₂,K₂⟩:=H₁.wr (H.kmore t) e₂ { p with known:=p.known++[(canC p.uab x,n)] } (by show some (O.dct (kdct (p.known++[(canC p.uab x,n)])))=_;unfold kdct;rw [qD];rfl)
 refine gC ?_;intro R Q
 refine zC1 ?_
 refine gU ?_
 refine gO B (gB rfl ⟨L .hp,488,L .hd,_,412,rfl,H₂.at_ .hp _ rfl,H₂.at_ .hd _ rfl,rfl,rfl,⟨by rfl,by rfl,by rfl,by rfl⟩,?_⟩)
 refine gJ rfl (zG9 B H₂.toHeapAt D hz hnu ?_)
 refine gO B (gB rfl ⟨L .hp,488,L .hd,_,412,rfl,H₂.at_ .hp _ rfl,H₂.at_ .hd _ rfl,rfl,rfl,⟨by rfl,by rfl,by rfl,by rfl⟩,?_⟩)
 refine gJ rfl (zG9 B H₂.toHeapAt D hz hnu ?_)
 refine cm_ne (gM ?_)
 refine ifF (bne_self_eq_false _) ?_
 refine gG ?_
 refine gG ?_
 exact h _ H₂ K₂
end
noncomputable def addC (c:PC) (x:Nat×List Nat):PC:={ nodes:=c.nodes++[x],known:=c.known++[(canC (c.uab++[c.nodes.length]) x,c.nodes.length)],uab:=c.uab++[c.nodes.length],lots:=c.lots++[[c.nodes.length]],js:=c.js }
structure zF3 (c:PC) (x:Nat×List Nat):Prop where
 new:x ∉ c.nodes
 fresh:kget (canC (c.uab++[c.nodes.length]) x) c.known=none
 op:OpOk x.1
 short:x.2.length<=100
 kids:∀ k∈x.2,k < c.nodes.length
 room:c.nodes.length < 100
 few:(ded ((x.2.map (fnd (c.uab++[c.nodes.length]))).map fun (k:Nat)=>(k:Int))).length<=4
namespace kG
def S (σ:Sto) (σ':Sto) (L:Role->Nat) (p:PH) (n₀:Nat->Prop):Prop:=∀ {n:Nat} (H:HB n₀ σ L p) (hn:p.hab.lookup n=none) (e:(σ++[O.lst []]).set (L .hab) (O.dct (vmap V.int (vput (habK L p.hab) (n:Int) (.ref σ.length))))=σ'),HB n₀ σ' (up L (.hb n) σ.length) { p with hab:=p.hab++[(n,[])] }/\KB n₀ σ σ'
noncomputable def σ:Sto:=pick fun z=>∀ σ' L p n₀,S z σ' L p n₀
noncomputable def σ':Sto:=pick fun z=>∀ L p n₀,S σ z L p n₀
noncomputable def L:Role->Nat:=pick fun z=>∀ p n₀,S σ σ' z p n₀
noncomputable def p:PH:=pick fun z=>∀ n₀,S σ σ' L z n₀
noncomputable def n₀:Nat->Prop:=pick fun z=>S σ σ' L p z
theorem core:S σ σ' L p n₀:=by
 intro n H hn e
 have hL:L .hab < σ.length:=H.toHeapAt.lt (r:=.hab) rfl
 have e':σ'=σ.set (L .hab) (.dct (vmap V.int (habK L p.hab++[((n:Int),.ref σ.length)])))++[.lst []]:=by
  rw [<-e,wR _ _ hL]
  unfold vput
  rw [habK_any hn]
  rfl
 have hlen:(σ.set (L .hab) (O.dct (vmap V.int (habK L p.hab++[((n:Int),V.ref σ.length)])))).length=σ.length:=jV
 have mono:∀ k,(p.hab.lookup k).isSome=true->k≠n:=fun k h q=>by subst q;rw [hn] at h;cases h
 refine ⟨?_,by rw [e'];exact (KB.set (H.low .hab rfl)).trans (KB.more _ (by rw [hlen];exact H.len))⟩
 have look:∀ k,k≠n->(p.hab++[(n,([]:List Nat))]).lookup k=p.hab.lookup k:=fun k hk=>by
  cases q:p.hab.lookup k with
  | none=>
   rw [zB5 q,zX]
   have z:(k == n)=false:=by simpa using hk
   rw [z];rfl
  | some l=>exact zD2 q
 refine H.step _ _ H.fresh (H.new _ (zK _)) (by rw [e',zE,hlen];lia) (fun r hr hs=>?_) (fun r o ho=>?_)
 ·cases r with
  | hb k=>
   have hk:k≠n:=fun q=>hr (q ▸ rfl)
   have hs':(((p.hab++[(n,([]:List Nat))]).lookup k).map fun l=>O.lst (nums l)).isSome=true:=hs
   rw [look k hk] at hs'
   exact hs'
  | lot i=>exact hs
  | _=>rfl
 ·rw [e']
  have keep:∀ r,r≠.hab->(∀ o,cell p L r=some o->(σ.set (L .hab) (O.dct (vmap V.int (habK L p.hab++[((n:Int),V.ref σ.length)])))++[O.lst []])[L r]?=some o):=fun r hr o ho=>by
   have hlt:=H.toHeapAt.lt (r:=r) (by rw [ho];rfl)
   rw [zH (by rw [hlen];exact hlt),jD (fun q=>hr (H.apart r .hab (by rw [ho];rfl) rfl q.symm))]
   exact H.at_ r o ho
  cases r with
  | hab=>
   rw [zE9 _ _ (by simp),zH (by rw [hlen];exact hL),jW hL,<-ho]
   show _=some (O.dct (vmap V.int (habK (up L (.hb n) σ.length) (p.hab++[(n,[])]))))
   have ea:habK (up L (.hb n) σ.length) p.hab=habK L p.hab:=qP fun y hy=>by
    have hyn:y.1≠n:=fun q=>by
     have:∀ (l:List (Nat×List Nat)),y∈l->l.lookup n=none->False:=by
      intro l
      induction l with
      | nil=>intro h;cases h
      | cons z l ih=>
       intro h hh
       rw [zX] at hh
       cases e:n == z.1 with
       | true=>rw [e] at hh;cases hh
       | false=>
        rw [e] at hh
        rcases jN.mp h with rfl | h
        ·rw [q] at e;simp at e
        ·exact ih h hh
     exact this _ hy hn
    show ((y.1:Int),V.ref (up L (.hb n) σ.length (.hb y.1)))=_
    rw [zE9 _ _ (by intro q;cases q;exact hyn rfl)]
   unfold habK at ea ⊢
   rw [qD,ea]
   simp [zG6]
  | hb k=>
   have ho':(((p.hab++[(n,([]:List Nat))]).lookup k).map fun l=>O.lst (nums l))=some o:=ho
   by_cases hk:k=n
   ·subst hk
    rw [zB5 hn,zX,beq_self_eq_true] at ho'
    cases ho'
    rw [zG6,jB (by rw [hlen];exact zK _),hlen,yD]
    rfl
   ·rw [look k hk] at ho'
    rw [zE9 _ _ (by intro q;cases q;exact hk rfl)]
    exact keep (.hb k) (by simp) o ho'
  | lot i=>
   rw [zE9 _ _ (by simp)]
   exact keep (.lot i) (by simp) o ho
  | _=>
   rw [zE9 _ _ (by simp)]
   exact keep _ (by simp) o ho
theorem all:∀ σ σ' L p n₀,S σ σ' L p n₀:=cst (p:=fun z=>∀ σ' L p n₀,S z σ' L p n₀) (cst (p:=fun z=>∀ L p n₀,S σ z L p n₀) (cst (p:=fun z=>∀ p n₀,S σ σ' z p n₀) (cst (p:=fun z=>∀ n₀,S σ σ' L z n₀) (cst (p:=fun z=>S σ σ' L p z) core))))
end kG
theorem HB.hb_new {σ σ' L p n₀}:kG.S σ σ' L p n₀:=kG.all σ σ' L p n₀
inductive HBI (n₀:Nat->Prop) (L:Role->Nat) (p:PH) (σ:Sto) (n it:Nat) (cs:List V) (i:Nat) (σ':Sto):Prop
 | mk (hab':List (Nat×List Nat)):HB n₀ σ' L { p with hab:=hab' }->KB n₀ σ σ'->σ'[it]?=some (.lst cs)->(∀ k,(hab'.lookup k).isSome=(p.hab.lookup k).isSome)->hab'.lookup n=some []->hab'.length=p.hab.length->(∀ k l,hab'.lookup k=some l->l.length<=4 * n+i)->HBI n₀ L p σ n it cs i σ'
theorem HBI.at_ {n₀:Nat->Prop} {L:Role->Nat} {p:PH} {σ:Sto} {n it:Nat} {cs:List V} {i:Nat} {σ':Sto} (h:HBI n₀ L p σ n it cs i σ'):σ'[it]?=some (.lst cs):=by
 obtain ⟨_,_,_,h,_⟩:=h
 exact h
section
variable {d:Nat} {σ:Sto} {L:Role->Nat} {p:PH} {n₀:Nat->Prop} {c:PC}
end
namespace kF
def S (d:Nat) (σ:Sto) (L:Role->Nat) (p:PH) (n₀:Nat->Prop) (c:PC) (x:Nat×List Nat) (P:V->Sto->Prop):Prop:=∀ (B:Bs w h₀) (H:HB n₀ σ L p) (G:GP p c) (A:zF3 c x) (h:∀ σ' L' p',HB n₀ σ' L' p'->L' .hp=L .hp->KB n₀ σ σ'->GP p' (addC c x)->p'.hab.lookup c.nodes.length=some []->P (.int c.nodes.length) σ'),Cl w h₀ (d+5) (.ref 393) [.ref (L .hp),opV x.1,.tup (nums x.2)] σ P
noncomputable def d:Nat:=pick fun z=>∀ σ L p n₀ c x P,S z σ L p n₀ c x P
noncomputable def σ:Sto:=pick fun z=>∀ L p n₀ c x P,S d z L p n₀ c x P
noncomputable def L:Role->Nat:=pick fun z=>∀ p n₀ c x P,S d σ z p n₀ c x P
noncomputable def p:PH:=pick fun z=>∀ n₀ c x P,S d σ L z n₀ c x P
noncomputable def n₀:Nat->Prop:=pick fun z=>∀ c x P,S d σ L p z c x P
noncomputable def c:PC:=pick fun z=>∀ x P,S d σ L p n₀ z x P
noncomputable def x:Nat×List Nat:=pick fun z=>∀ P,S d σ L p n₀ c z P
noncomputable def P:V->Sto->Prop:=pick fun z=>S d σ L p n₀ c x z
theorem core:S d σ L p n₀ c x P:=by
 intro B H G A h
 have hr:=A.room
 refine Cd.cl (zA3 (ps:=[zA "self",zA "op",zA "numbers"]) B (by rfl) (by rfl) (len3 fun oo1 oo2 oo3=>rfl) rfl (by decide) (fun oo1=>by rfl) ?_)
 refine gC ?_;intro R Q
 refine gE ?_ (fun oo1 oo2=>rfl);intro kk
 refine gO B (gH B (gB rfl ⟨L .hp,488,L .hd,_,_,rfl,H.at_ .hp _ rfl,H.at_ .hd _ rfl,rfl,rfl,⟨by rfl,by rfl,by rfl⟩,?_⟩))
 refine ⟨L .bk,191,L .bd,_,115,rfl,H.at_ .bk _ rfl,H.at_ .bd _ rfl,rfl,rfl,⟨by rfl,by rfl,by rfl,by rfl⟩,gJ rfl ?_⟩
 refine zZ5 (d:=d+1) B H (by rw [G.numbers];exact zT4.mpr A.new) A.op A.short (by rw [G.nodes];exact A.kids) (by rw [G.nodes];lia) (by rw [G.wts,G.nodes]) (by rw [G.dps,G.nodes]) (by rw [G.numbers,G.nodes,List.length_zipIdx]) fun σ₁ a b H₁ K₁=>?_
 refine gN rfl ?_
 rw [G.nodes]
 refine gC ?_;intro R Q
 refine zC1 ?_
 refine gU (gB rfl (zJ5 B (gH B (gB rfl ⟨L .hp,488,L .hd,_,_,rfl,H₁.at_ .hp _ rfl,H₁.at_ .hd _ rfl,rfl,rfl,⟨by rfl,by rfl,by rfl⟩,?_⟩))))
 have hul:(zQ8 p x a b).uab.length=c.nodes.length:=by show p.uab.length=_;rw [G.uab,G.len1]
 have hll:(zQ8 p x a b).lots.length=c.nodes.length:=by show p.lots.length=_;rw [G.lots,G.len2]
 have hnl:(zQ8 p x a b).nodes.length=c.nodes.length+1:=by show (p.nodes++[x]).length=_;rw [zE,G.nodes];rfl
 refine ⟨L .un,358,L .ud,_,308,rfl,H₁.at_ .un _ rfl,H₁.at_ .ud _ rfl,rfl,rfl,⟨by rfl,by rfl,by rfl,by rfl⟩,jI7 B H₁.toHeapAt (by lia) (zQ0 (gM ?_))⟩
 rw [hul];refine ifF (decide_eq_false (by lia)) ?_
 refine gG ?_
 refine gC ?_;intro R Q
 refine zA2 (zJ5 B (gH B (gB rfl ⟨L .hp,488,L .hd,_,_,rfl,H₁.at_ .hp _ rfl,H₁.at_ .hd _ rfl,rfl,rfl,⟨by rfl,by rfl,by rfl⟩,?_⟩)))
 refine ⟨L .un,358,L .ud,_,301,rfl,H₁.at_ .un _ rfl,H₁.at_ .ud _ rfl,rfl,rfl,⟨by rfl,by rfl,by rfl,by rfl⟩,uni_make (d:=d+3) B H₁ (by lia) (by lia) fun σ₂ L₂ H₂ hL₂ K₂=>?_⟩
 have K₂:=K₁.trans K₂
 dsimp +zetaDelta only
 rw [<-hL₂]
 rw [hul,hll] at H₂
 generalize hp₂:({ zQ8 p x a b with uab:=(zQ8 p x a b).uab++[c.nodes.length],lots:=(zQ8 p x a b).lots++[[c.nodes.length]] }:PH)=p₂ at H₂
 have q1:p₂.nodes=c.nodes++[x]:=by rw [<-hp₂,<-G.nodes];rfl
 have q2:p₂.uab=c.uab++[c.nodes.length]:=by rw [<-hp₂,<-G.uab];rfl
 have q3:p₂.hab=p.hab:=by rw [<-hp₂];rfl
 have q4:p₂.known=c.known:=by rw [<-hp₂,<-G.known];rfl
 have D₂:zE1 p₂.uab:=by rw [q2,<-G.len1];exact G.down.more
 have hul₂:p₂.uab.length=c.nodes.length+1:=by rw [q2,zE,G.len1];rfl
 have hnone:p₂.hab.lookup c.nodes.length=none:=by rw [q3];exact G.newest _ (zK _)
 refine gC ?_;intro R Q
 refine gE ?_ (fun oo1 oo2=>rfl);intro kk;refine gY (gF ⟨by simp,?_⟩)
 have H₂':=H₂.more [O.lst []]
 refine zR4 (gH B (gB rfl ⟨L₂ .hp,488,L₂ .hd,_,_,rfl,H₂'.at_ .hp _ rfl,H₂'.at_ .hd _ rfl,rfl,rfl,⟨by rfl,by rfl,by rfl⟩,?_⟩))
 refine gB rfl (jF5 (kvs:=habK L₂ p₂.hab) (k:=(c.nodes.length:Int)) (zK2 w) (H₂'.at_ .hab _ rfl) (by unfold habK;rw [zD,q3];have:=G.hlen;lia) ?_)
 generalize e₃:List.set _ _ _=σ₃
 obtain ⟨H₃,K₃⟩:=H₂.hb_new hnone e₃
 have K₃:=K₂.trans K₃
 dsimp +zetaDelta only
 rw [show L₂ .hp=up L₂ (.hb c.nodes.length) σ₂.length .hp from rfl]
 have hL₃:up L₂ (.hb c.nodes.length) σ₂.length .hp=L .hp:=hL₂
 generalize up L₂ (.hb c.nodes.length) σ₂.length=L₃ at H₃ hL₃ ⊢
 generalize hp₃:({ p₂ with hab:=p₂.hab++[(c.nodes.length,[])] }:PH)=p₃ at H₃
 have D₃:zE1 p₃.uab:=by rw [<-hp₃];exact D₂
 have hul₃:p₃.uab.length=c.nodes.length+1:=by rw [<-hp₃];exact hul₂
 have hu₃:p₃.uab=c.uab++[c.nodes.length]:=by rw [<-hp₃];exact q2
 refine gC ?_;intro R Q
 refine zD6 ?_;intro kk
 refine zB0 (zW1 (gW B rfl (by rfl) (by rfl) (by decide) ⟨rfl,gW B rfl (by rfl) (by rfl) (by decide) ⟨rfl,?_⟩⟩))
 refine zC8 rfl rfl (by decide) (by decide) rfl ?_
 refine zB0 (gB rfl ⟨_,_,zH9,fun i acc σ'=>acc=nums ((x.2.take i).map (fnd p₃.uab))/\∃ t,σ'=σ₃++t,⟨by simp,[],by simp⟩,by simp;have:=A.short;lia,fun oo1 oo2 oo3 oo4=>trivial,fun i v acc σ' hv hl hI=>?_,fun acc σ' hl hI=>?_⟩)
 ·obtain ⟨rfl,t,rfl⟩:=hI
  rw [zS] at hv
  cases hxi:x.2[i]? with
  | none=>rw [hxi] at hv;cases hv
  | some k=>
   rw [hxi] at hv
   cases hv
   have H':=H₃.more t
   have hk:=A.kids k (zI hxi)
   refine zA4 rfl ?_
   refine gO B (gB rfl ⟨L₃ .hp,488,L₃ .hd,_,412,rfl,H'.at_ .hp _ rfl,H'.at_ .hd _ rfl,rfl,rfl,⟨by rfl,by rfl,by rfl,by rfl⟩,?_⟩)
   refine gJ rfl (zG9 (d:=d+2) B H'.toHeapAt D₃ (by lia) (by lia) ⟨?_,t,rfl⟩)
   rw [jJ,hxi]
   simp [nums]
 ·obtain ⟨rfl,t,rfl⟩:=hI
  rw [show (nums x.2).length=x.2.length from zD _,zR (zK _)]
  have hss:SS w (d+4) (nums (x.2.map (fnd p₃.uab))) (fun m=>m=(isort (ded ((x.2.map (fnd p₃.uab)).map fun (k:Nat)=>(k:Int)))).map V.int):=by
   rw [jC5]
   exact ss_ints (by rw [hu₃];exact A.few)
  refine ⟨_,nums (x.2.map (fnd p₃.uab)),_,rfl,gK,hss,fun m hm=>?_⟩
  ·subst hm
   have hin:∀ v∈(isort (ded ((x.2.map (fnd p₃.uab)).map fun (k:Nat)=>(k:Int)))).map V.int,∃ c':Nat,v=V.int c'/\(p₃.hab.lookup c').isSome=true/\c'≠c.nodes.length:=fun v hv=>by
    obtain ⟨i,hi,rfl⟩:=jS.mp hv
    have hi:=(zF4 _).mem_iff.mp hi
    rcases jP4 _ _ _ hi with h | h
    ·cases h
    ·obtain ⟨k,hk,rfl⟩:=jS.mp h
     obtain ⟨k',hk',rfl⟩:=jS.mp hk
     have hlt:=A.kids k' hk'
     have hf:fnd p₃.uab k'=fnd c.uab k':=by rw [hu₃];exact fnd_more G.down _ (by rw [G.len1];exact hlt)
     have hle:=zL3 G.down (a:=k') (by rw [G.len1];exact hlt)
     have hroot:=G.roots (fnd c.uab k') (by lia) (zL9 G.down (by rw [G.len1];exact hlt))
     refine ⟨fnd p₃.uab k',rfl,?_,by rw [hf];lia⟩
     rw [hf,<-hp₃]
     show ((p₂.hab++_).lookup _).isSome=true
     rw [q3]
     obtain ⟨l,hl⟩:=Option.isSome_iff_exists.mp hroot
     rw [zD2 hl]
     rfl
   generalize hcs:(isort (ded ((x.2.map (fnd p₃.uab)).map fun (k:Nat)=>(k:Int)))).map V.int=cs at hin ⊢
   have hcsl:cs.length<=4:=by
    rw [<-hcs,zD,(zF4 _).length_eq,hu₃]
    exact A.few
   generalize hσ₄:σ₃++t++[O.lst (nums (x.2.map (fnd p₃.uab)))]=σ₄
   have H₄:HB n₀ σ₄ L₃ p₃:=by rw [<-hσ₄];exact (H₃.more t).more _
   have K₄:KB n₀ σ σ₄:=by rw [<-hσ₄];exact K₃.trans ((H₃.kmore t).trans ((H₃.more t).kmore _))
   have hlt₄:∀ k,(p₃.hab.lookup k).isSome=true->L₃ (.hb k) < σ₄.length:=fun k hk=>H₄.toHeapAt.lt (r:=.hb k) (by show ((p₃.hab.lookup k).map _).isSome=true;rw [Option.isSome_map];exact hk)
   refine ⟨_,_,gZ (l:=cs) gK,fun i σ'=>HBI n₀ L₃ p₃ σ c.nodes.length σ₄.length cs i σ',
    ⟨p₃.hab,H₄.more _,K₄.trans (H₄.kmore _),gK,fun oo1=>rfl,?_,rfl,?_⟩,fun i σ' hh=>hh.at_,fun i v σ' hv hI=>?_,fun σ' hI=>?_⟩
   ·rw [<-hp₃]
    show (p₂.hab++_).lookup _=_
    rw [zB5 hnone,zX,beq_self_eq_true]
   ·intro k l hl
    rw [<-hp₃] at hl
    have hl:(p₂.hab++[(c.nodes.length,[])]).lookup k=some l:=hl
    rw [q3] at hl
    cases q:p.hab.lookup k with
    | some l'=>
     rw [zD2 q] at hl
     cases hl
     exact G.hbs k _ q
    | none=>
     rw [zB5 q,zX] at hl
     split at hl
     ·cases hl;exact jO _
     ·cases hl
   ·obtain ⟨hab',H₅,K₅,hit,hsome,hnew,hlen,hbd⟩:=hI
    obtain ⟨c',rfl,hc',hcn⟩:=hin v (zI hv)
    have hi4:i < 4:=zO (zC.mp hv).1 hcsl
    obtain ⟨l,hl⟩:=Option.isSome_iff_exists.mp ((hsome c').trans hc')
    have hbl:=hbd c' l hl
    refine gN rfl ?_
    refine gC ?_;intro R Q
    refine zA2 (zB1 (zA8 (gH B (gB rfl ⟨L₃ .hp,488,L₃ .hd,_,_,rfl,H₅.at_ .hp _ rfl,H₅.at_ .hd _ rfl,rfl,rfl,⟨by rfl,by rfl,by rfl⟩,?_⟩))))
    refine gB rfl (zJ8 (kvs:=habK L₃ hab') (k:=(c':Int)) (zK2 w) (H₅.at_ .hab _ rfl) (zQ5 ((hsome c').trans hc')) ?_)
    have hcell:σ'[L₃ (.hb c')]?=some (.lst (nums l)):=H₅.at_ (.hb c') _ (by show (hab'.lookup c').map _=_;rw [hl];rfl)
    refine ⟨"list","list.append",.inl ⟨_,hcell,rfl⟩,jH,qB,qC,?_⟩
    refine gJ rfl (zC4 hcell (by rw [zD];lia) ?_)
    refine gG ?_
    generalize e₆:List.set _ _ _=σ₆
    have hne:L₃ (.hb c')≠σ₄.length:=jP (hlt₄ c' hc')
    obtain ⟨H₆,K₆⟩:=H₅.wr K₅ e₆ { p₃ with hab:=zJ6 hab' c' c.nodes.length } (r:=.hb c') (o':=.lst (nums l++[.int c.nodes.length])) (by
      show ((zJ6 hab' c' c.nodes.length).lookup c').map _=_
      rw [zE2,hl]
      simp [nums]) (by show ((hab'.lookup c').map _).isSome=true;rw [hl];rfl) (by
      intro r' hr
      cases r' with
      | hb k=>
       have hk:k≠c':=fun q=>hr (q ▸ rfl)
       show ((zJ6 hab' c' c.nodes.length).lookup k).map _=(hab'.lookup k).map _
       rw [zE2]
       simp [hk]
      | hab=>
       show some (O.dct (vmap V.int (habK L₃ (zJ6 hab' c' c.nodes.length))))=some (O.dct (vmap V.int (habK L₃ hab')))
       rw [jJ6]
      | lot i=>rfl
      | _=>rfl)
    refine ⟨Sub.drop rfl (Sub.refl _),_,H₆,K₆,?_,fun k=>?_,?_,?_,fun k m hm=>?_⟩
    ·rw [<-e₆,jD hne];exact hit
    ·rw [zE2,Option.isSome_map];exact hsome k
    ·rw [zE2,hnew,Option.map_some,if_neg (fun q=>hcn q.symm)]
    ·unfold zJ6;rw [zD];exact hlen
    ·rw [zE2] at hm
     cases q:hab'.lookup k with
     | none=>rw [q] at hm;cases hm
     | some m'=>
      rw [q,Option.map_some] at hm
      have:=hbd k m' q
      cases hm
      split
      ·rw [zE];simp;lia
      ·lia
   ·obtain ⟨hab',H₅,K₅,_,hsome,hnew,hlen,hbd⟩:=hI
    have q5:p₃.nodes=c.nodes++[x]:=by rw [<-hp₃];exact q1
    have q6:p₃.known=c.known:=by rw [<-hp₃];exact q4
    refine gC ?_;intro R Q
    refine zA2 (gO B (gB rfl ⟨L₃ .hp,488,L₃ .hd,_,405,rfl,H₅.at_ .hp _ rfl,H₅.at_ .hd _ rfl,rfl,rfl,⟨by rfl,by rfl,by rfl,by rfl⟩,?_⟩))
    refine gJ rfl (look_new B H₅ D₃ (by show p₃.uab.length < 1000;lia) (by show p₃.nodes.length < 1000;rw [q5,zE];simp;lia) (x:=x) (by show p₃.nodes[_]?=_;rw [q5,jB (zK _),yD];rfl) A.short (fun k hk=>by have:=A.kids k hk;show k < p₃.uab.length;lia) (by show _ < p₃.uab.length;lia) (by show kget (canC p₃.uab x) p₃.known=none;rw [hu₃,q6];exact A.fresh) (by show p₃.known.length<=_;rw [q6,<-G.known];have:=G.knl;lia) fun σ₆ H₆ K₆=>?_)
    refine gC ?_;intro R Q
    refine gL ?_
    refine gB rfl ?_
    have hcl:(addC c x).nodes.length=c.nodes.length+1:=by show (c.nodes++[x]).length=_;rw [zE];rfl
    refine h _ _ _ H₆ hL₃ (K₅.trans K₆) ?_ hnew
    have hkn:∀ k,(hab'.lookup k).isSome=((p.hab++[(c.nodes.length,([]:List Nat))]).lookup k).isSome:=fun k=>by
     rw [hsome,<-hp₃]
     show ((p₂.hab++_).lookup k).isSome=_
     rw [q3]
    refine { nodes:=q5,numbers:=?_,wts:=?_,dps:=?_,uab:=hu₃,lots:=?_,known:=?_,waiting:=?_,len1:=?_,len2:=?_,down:=?_,small:=by rw [hcl];lia,kids:=?_,roots:=?_,newest:=?_,hlen:=?_,hbs:=?_,edges:=?_,forest:=?_,merged:=?_,knl:=?_,jsl:=G.jsl,lotl:=?_ }
    ·show p₃.numbers=_
     rw [<-hp₃]
     show p₂.numbers=_
     rw [<-hp₂]
     show p.numbers++[(x,p.nodes.length)]=(c.nodes++[x]).zipIdx
     rw [List.zipIdx_append,G.numbers,G.nodes]
     simp
    ·show p₃.wts.length=_
     rw [hcl,<-hp₃]
     show p₂.wts.length=_
     rw [<-hp₂]
     show (p.wts++[a]).length=_
     rw [zE,G.wts];rfl
    ·show p₃.dps.length=_
     rw [hcl,<-hp₃]
     show p₂.dps.length=_
     rw [<-hp₂]
     show (p.dps++[b]).length=_
     rw [zE,G.dps];rfl
    ·show p₃.lots=_
     rw [<-hp₃]
     show p₂.lots=_
     rw [<-hp₂]
     show p.lots++_=c.lots++_
     rw [G.lots]
    ·show p₃.known++[(canC p₃.uab x,c.nodes.length)]=c.known++_
     rw [q6,hu₃]
    ·show p₃.waiting=_
     rw [<-hp₃]
     show p₂.waiting=_
     rw [<-hp₂]
     exact G.waiting
    ·show (c.uab++[c.nodes.length]).length=_
     rw [zE,G.len1,hcl];rfl
    ·show (c.lots++_).length=_
     rw [zE,G.len2,hcl];rfl
    ·show zE1 (c.uab++[c.nodes.length])
     rw [<-hu₃];exact D₃
    ·intro y hy
     rcases jF.mp (show y∈c.nodes++[x] from hy) with hy | hy
     ·exact ⟨(G.kids y hy).1,fun k hk=>by have:=(G.kids y hy).2 k hk;lia⟩
     ·rw [zM.mp hy]
      exact ⟨A.short,fun k hk=>by have:=A.kids k hk;lia⟩
    ·intro k hk hroot
     show (hab'.lookup k).isSome=true
     rw [hkn]
     by_cases e:k=c.nodes.length
     ·subst e
      rw [zB5 (G.newest _ (zK _)),zX,beq_self_eq_true];rfl
     ·have hk':k < c.nodes.length:=by lia
      have hroot:(c.uab++[c.nodes.length]).getD k 0=k:=hroot
      rw [jG,zH (by rw [G.len1];exact hk'),<-jG] at hroot
      obtain ⟨l,hl⟩:=Option.isSome_iff_exists.mp (G.roots k hk' hroot)
      rw [zD2 hl];rfl
    ·intro k hk
     rw [hcl] at hk
     have e:(hab'.lookup k).isSome=false:=by
      rw [hkn,zB5 (G.newest k (by lia)),zX]
      have:(k == c.nodes.length)=false:=by rw [beq_eq_false_iff_ne];lia
      rw [this];rfl
     exact Option.isNone_iff_eq_none.mp (by rw [<-Option.not_isSome,e];rfl)
    ·show hab'.length<=_
     rw [hlen,hcl,<-hp₃]
     show (p₂.hab++_).length<=_
     rw [zE,q3]
     have:=G.hlen
     simp;lia
    ·intro k l hl
     have:=hbd k l hl
     rw [hcl];lia
    ·show p₃.edges.length<=c.js
     rw [<-hp₃]
     show p₂.edges.length<=_
     rw [<-hp₂]
     exact G.edges
    ·show p₃.forest.length<=c.js
     rw [<-hp₃]
     show p₂.forest.length<=_
     rw [<-hp₂]
     exact G.forest
    ·show p₃.merged.length<=c.js
     rw [<-hp₃]
     show p₂.merged.length<=_
     rw [<-hp₂]
     exact G.merged
    ·show (p₃.known++_).length<=_
     rw [q6,hcl,zE,<-G.known]
     have:=G.knl
     simp;lia
    ·intro l hl
     rcases jF.mp (show l∈c.lots++[[c.nodes.length]] from hl) with hl | hl
     ·exact G.lotl l hl
     ·rw [zM.mp hl];simp
theorem all:∀ d σ L p n₀ c x P,S d σ L p n₀ c x P:=cst (p:=fun z=>∀ σ L p n₀ c x P,S z σ L p n₀ c x P) (cst (p:=fun z=>∀ L p n₀ c x P,S d z L p n₀ c x P) (cst (p:=fun z=>∀ p n₀ c x P,S d σ z p n₀ c x P) (cst (p:=fun z=>∀ n₀ c x P,S d σ L z n₀ c x P) (cst (p:=fun z=>∀ c x P,S d σ L p z c x P) (cst (p:=fun z=>∀ x P,S d σ L p n₀ z x P) (cst (p:=fun z=>∀ P,S d σ L p n₀ c z P) (cst (p:=fun z=>S d σ L p n₀ c x z) core)))))))
end kF
section
variable {d:Nat} {σ:Sto} {L:Role->Nat} {p:PH} {n₀:Nat->Prop} {c:PC}
theorem zN0 {d σ L p n₀ c x P}:kF.S d σ L p n₀ c x P:=kF.all d σ L p n₀ c x P
end
section
variable {d:Nat} {σ:Sto} {L:Role->Nat} {p:PH} {n₀:Nat->Prop} {c:PC}
theorem kget_zip {x:Nat×List Nat} {l:List (Nat×List Nat)}:∀ {i k:Nat},l[i]?=some x->l.Nodup->kget x (l.zipIdx k)=some (i+k):=by
 induction l with
 | nil=>intro i k h;simp at h
 | cons y l ih=>
  intro i k h hn
  rw [vN] at hn
  rw [List.zipIdx_cons,zH0]
  cases i with
  | zero=>
   simp at h
   rw [if_pos h,qK]
  | succ i=>
   simp at h
   have hne:y≠x:=fun q=>hn.1 (q ▸ zI h)
   rw [if_neg hne,ih h hn.2]
   congr 1
   lia
theorem add_old (B:Bs w h₀) (H:HB n₀ σ L p) (G:GP p c) {x:Nat×List Nat} {i:Nat} (hi:c.nodes[i]?=some x) (hn:c.nodes.Nodup) {P:V->Sto->Prop} (h:P (.int i) σ):Cl w h₀ (d+2) (.ref 393) [.ref (L .hp),opV x.1,.tup (nums x.2)] σ P:=by
 have hs:=G.small
 have hil:=(zC.mp hi).1
 refine Cd.cl (zA3 (ps:=[zA "self",zA "op",zA "numbers"]) B (by rfl) (by rfl) (len3 fun oo1 oo2 oo3=>rfl) rfl (by decide) (fun oo1=>by rfl) ?_)
 refine gC ?_;intro R Q
 refine gE ?_ (fun oo1 oo2=>rfl);intro kk
 refine gO B (gH B (gB rfl ⟨L .hp,488,L .hd,_,_,rfl,H.at_ .hp _ rfl,H.at_ .hd _ rfl,rfl,rfl,⟨by rfl,by rfl,by rfl⟩,?_⟩))
 refine ⟨L .bk,191,L .bd,_,115,rfl,H.at_ .bk _ rfl,H.at_ .bd _ rfl,rfl,rfl,⟨by rfl,by rfl,by rfl,by rfl⟩,gJ rfl ?_⟩
 refine jA0 B H.toHeapAt (i:=i) (by rw [G.numbers];exact kget_zip hi hn) (G.kids x (zI hi)).1 ?_
 refine gN rfl ?_
 refine gC ?_;intro R Q
 refine zC1 ?_
 refine gU (gB rfl (zJ5 B (gH B (gB rfl ⟨L .hp,488,L .hd,_,_,rfl,H.at_ .hp _ rfl,H.at_ .hd _ rfl,rfl,rfl,⟨by rfl,by rfl,by rfl⟩,?_⟩))))
 refine ⟨L .un,358,L .ud,_,308,rfl,H.at_ .un _ rfl,H.at_ .ud _ rfl,rfl,rfl,⟨by rfl,by rfl,by rfl,by rfl⟩,jI7 B H.toHeapAt (by rw [G.uab,G.len1];lia) (zQ0 (gM ?_))⟩
 rw [G.uab,G.len1];refine ifT (decide_eq_true (by lia)) ?_
 refine gC ?_;intro R Q
 refine gL ?_
 refine gB rfl ?_
 exact h
theorem jM0 (B:Bs w h₀) {hp:Nat} {o:Nat} {parts:List V} (hl:parts.length<=100) (J:Nat->List V->Sto->Prop) (hJ:∀ i acc σ',J i acc σ'->∃ L p,HeapAt σ' L p/\L .hp=hp) (j0:J 0 [] σ)
  (turn:∀ i v acc σ',parts[i]?=some v->J i acc σ'->Cl w h₀ d (.ref 398) [.ref hp,v] σ' fun u σ''=>J (i+1) (acc++[u]) σ'') {P:V->Sto->Prop}
  (fin:∀ acc σ',J parts.length acc σ'->acc.length=parts.length->Cl w h₀ d (.ref 393) [.ref hp,opV o,.tup acc] (σ'++[.lst acc]) P):Cl w h₀ (d+1) (.ref 398) [.ref hp,.tup (opV o::parts)] σ P:=by
 refine Cd.cl (zA3 (ps:=[zA "self",zA "term"]) B (by rfl) (by rfl) (len2 fun oo1 oo2=>rfl) rfl (by decide) (fun oo1=>by rfl) ?_)
 refine gC ?_;intro R Q
 refine gL ?_
 obtain ⟨L,p,H,rfl⟩:=hJ _ _ _ j0
 refine gO B (gB rfl ⟨L .hp,488,L .hd,_,393,rfl,H.at_ .hp _ rfl,H.at_ .hd _ rfl,rfl,rfl,⟨by rfl,by rfl,by rfl,by rfl⟩,?_⟩)
 refine gD (zA8 (gB rfl (gI (zJ7 (i:=0) (v:=opV o) rfl (by lia) ?_))))
 refine gD (gP (gW B rfl (by rfl) (by rfl) (by decide) ⟨_,rfl,rfl,?_⟩))
 refine gD (zC8 rfl rfl (by decide) (by decide) rfl ?_)
 refine zB0 (zC0 (gB rfl (gI ⟨1,rfl,zG1 (a:=1) (l:=opV o::parts) (by simp;lia) ?_⟩)))
 refine ⟨_,_,zH9,J,j0,by simp;lia,fun oo1 oo2 oo3 oo4=>trivial,fun i v acc σ' hv hl hI=>?_,fun acc σ' hl' hI=>?_⟩
 ·refine zA4 rfl ?_
  obtain ⟨L',p',H',hL'⟩:=hJ _ _ _ hI
  refine gO B (gB rfl ?_)
  rw [<-hL']
  refine ⟨L' .hp,488,L' .hd,_,398,rfl,H'.at_ .hp _ rfl,H'.at_ .hd _ rfl,rfl,rfl,⟨by rfl,by rfl,by rfl,by rfl⟩,?_⟩
  refine gJ rfl ?_
  rw [hL']
  exact turn i v acc σ' hv hI
 ·refine gF (zG7 gK (by rw [hl'];simp;lia) (gF ?_))
  exact fin acc σ' hI hl'
theorem zQ7 (B:Bs w h₀) (H:HB n₀ σ L p) (G:GP p c) {o:Nat} (A:zF3 c (o,[])) {P:V->Sto->Prop}
  (h:∀ σ' L' p',HB n₀ σ' L' p'->L' .hp=L .hp->KB n₀ σ σ'->GP p' (addC c (o,[]))->p'.hab.lookup c.nodes.length=some []->P (.int c.nodes.length) σ'):Cl w h₀ (d+6) (.ref 398) [.ref (L .hp),.tup [opV o]] σ P:=by
 refine jM0 B (by simp) (fun i acc σ'=>i=0/\acc=[]/\σ'=σ) (fun i acc σ' ⟨_,_,e⟩=>⟨L,p,e ▸ H.toHeapAt,rfl⟩) ⟨rfl,rfl,rfl⟩ (fun i v acc σ' hv oo1=>by simp at hv) fun acc σ' ⟨_,e1,e2⟩ _=>?_
 subst e1 e2
 exact zN0 B (H.more _) G A fun σ' L' p' H' hL K G' hh=>h σ' L' p' H' hL ((H.kmore _).trans K) G' hh
theorem jF0 (B:Bs w h₀) (H:HB n₀ σ L p) (G:GP p c) {o i:Nat} (hi:c.nodes[i]?=some (o,[])) (hn:c.nodes.Nodup) {P:V->Sto->Prop}
  (h:P (.int i) (σ++[.lst []])):Cl w h₀ (d+3) (.ref 398) [.ref (L .hp),.tup [opV o]] σ P:=by
 refine jM0 B (by simp) (fun i acc σ'=>i=0/\acc=[]/\σ'=σ) (fun i acc σ' ⟨_,_,e⟩=>⟨L,p,e ▸ H.toHeapAt,rfl⟩) ⟨rfl,rfl,rfl⟩ (fun i v acc σ' hv oo1=>by simp at hv) fun acc σ' ⟨_,e1,e2⟩ _=>?_
 subst e1 e2
 exact add_old B (H.more _) G hi hn h
end
theorem jS4 (a b:Int):isort [a,b]=if a<=b then [a,b] else [b,a]:=rfl
section
variable {d:Nat} {σ:Sto} {L:Role->Nat} {p:PH} {n₀:Nat->Prop} {c:PC}
noncomputable def uniP (p:PH) (kept gone:Nat):PH:={ p with uab:=p.uab.set gone kept,lots:=p.lots.set kept (p.lots.getD kept []++p.lots.getD gone []),merged:=p.merged++[(kept,gone)] }
end
namespace kJ
def S (d:Nat) (σ:Sto) (L:Role->Nat) (p:PH) (n₀:Nat->Prop) (a:Nat) (b:Nat) (kept:Nat) (gone:Nat) (P:V->Sto->Prop):Prop:=∀ (B:Bs w h₀) (H:HB n₀ σ L p) (D:zE1 p.uab) (hz:p.uab.length < 500) (hlz:p.lots.length=p.uab.length) (hll:∀ l∈p.lots,l.length<=1000) (hm:p.merged.length<=1000) (ha:a < p.uab.length) (hb:b < p.uab.length) (hk:(fnd p.uab a=kept/\fnd p.uab b=gone)∨(fnd p.uab b=kept/\fnd p.uab a=gone)) (hlt:kept < gone) (h:∀ σ',HB n₀ σ' L (uniP p kept gone)->KB n₀ σ σ'->P (.tup [.int kept,.int gone]) σ'),Cl w h₀ (d+2) (.ref 322) [.ref (L .un),.int a,.int b] σ P
noncomputable def d:Nat:=pick fun z=>∀ σ L p n₀ a b kept gone P,S z σ L p n₀ a b kept gone P
noncomputable def σ:Sto:=pick fun z=>∀ L p n₀ a b kept gone P,S d z L p n₀ a b kept gone P
noncomputable def L:Role->Nat:=pick fun z=>∀ p n₀ a b kept gone P,S d σ z p n₀ a b kept gone P
noncomputable def p:PH:=pick fun z=>∀ n₀ a b kept gone P,S d σ L z n₀ a b kept gone P
noncomputable def n₀:Nat->Prop:=pick fun z=>∀ a b kept gone P,S d σ L p z a b kept gone P
noncomputable def a:Nat:=pick fun z=>∀ b kept gone P,S d σ L p n₀ z b kept gone P
noncomputable def b:Nat:=pick fun z=>∀ kept gone P,S d σ L p n₀ a z kept gone P
noncomputable def kept:Nat:=pick fun z=>∀ gone P,S d σ L p n₀ a b z gone P
noncomputable def gone:Nat:=pick fun z=>∀ P,S d σ L p n₀ a b kept z P
noncomputable def P:V->Sto->Prop:=pick fun z=>S d σ L p n₀ a b kept gone z
theorem core:S d σ L p n₀ a b kept gone P:=by
 intro B H D hz hlz hll hm ha hb hk hlt h
 have hfa:=zL3 D ha
 have hfb:=zL3 D hb
 have hkl:kept < p.lots.length:=by lia
 have hgl:gone < p.lots.length:=by lia
 have hlk:p.lots[kept]?=some (p.lots.getD kept []):=by rw [jG,zQ hkl];rfl
 have hlg:p.lots[gone]?=some (p.lots.getD gone []):=by rw [jG,zQ hgl];rfl
 refine Cd.cl (zA3 (ps:=[zA "self",zA "a",zA "b"]) B (by rfl) (by rfl) (len3 fun oo1 oo2 oo3=>rfl) rfl (by decide) (fun oo1=>by rfl) ?_)
 refine gC ?_;intro R Q
 refine gE ?_ (fun oo1 oo2=>rfl);intro kk
 refine gP (gW B rfl (by rfl) (by rfl) (by decide) ⟨_,rfl,rfl,?_⟩)
 refine gD (gY (gD (gO B (gB rfl ⟨L .un,358,L .ud,_,315,rfl,H.at_ .un _ rfl,H.at_ .ud _ rfl,rfl,rfl,⟨by rfl,by rfl,by rfl,by rfl⟩,?_⟩))))
 refine gJ rfl (zU2 B ⟨H.at_ .un _ rfl,H.at_ .ud _ rfl⟩ (H.at_ .uab _ rfl) D ha (by lia) ?_)
 refine gD (gO B (gB rfl ⟨L .un,358,L .ud,_,315,rfl,H.at_ .un _ rfl,H.at_ .ud _ rfl,rfl,rfl,⟨by rfl,by rfl,by rfl,by rfl⟩,?_⟩))
 refine gJ rfl (zU2 B ⟨H.at_ .un _ rfl,H.at_ .ud _ rfl⟩ (H.at_ .uab _ rfl) D hb (by lia) (gF ⟨by simp,?_⟩))
 refine gF (zL8 (l:=[(fnd p.uab a:Int),(fnd p.uab b:Int)]) gK (by simp) ?_)
 have e:isort [(fnd p.uab a:Int),(fnd p.uab b:Int)]=[(kept:Int),(gone:Int)]:=by
  rw [jS4]
  rcases hk with ⟨h1,h2⟩ | ⟨h1,h2⟩
  ·rw [h1,h2,if_pos (by lia)]
  ·rw [h1,h2,if_neg (by lia)]
 rw [e]
 refine jL3 (jR4 (fun oo1 oo2 h=>h) (a:=.int kept) (b:=.int gone) gK (zR9 (gN rfl (zR9 (gN rfl ?_)))))
 generalize hσ₁:σ++[O.lst [V.int (fnd p.uab a:Int),V.int (fnd p.uab b:Int)]]++[O.lst (List.map V.int [(kept:Int),(gone:Int)])]=σ₁
 have H₁:HB n₀ σ₁ L p:=by rw [<-hσ₁];exact (H.more _).more _
 have K₁:KB n₀ σ σ₁:=by rw [<-hσ₁];exact (H.kmore _).trans ((H.more _).kmore _)
 refine gC ?_;intro R Q
 refine zC1 ?_
 refine gU (gB rfl (gB rfl (zE4 (gM ?_))))
 refine ifF (beq_eq_false_iff_ne.mpr (by lia)) ?_
 refine gG ?_
 refine gC ?_;intro R Q
 refine gE ?_ (fun oo1 oo2=>rfl);intro kk;refine gB rfl ?_
 refine zR4 (gH B (gB rfl ⟨L .un,358,L .ud,_,_,rfl,H₁.at_ .un _ rfl,H₁.at_ .ud _ rfl,rfl,rfl,⟨by rfl,by rfl,by rfl⟩,?_⟩))
 refine gB rfl (si_lst (H₁.at_ .uab _ rfl) (by rw [zD];lia) (by rw [zD];lia) ?_)
 generalize e₂:List.set _ _ _=σ₂
 obtain ⟨H₂,K₂⟩:=H₁.wr K₁ e₂ { p with uab:=p.uab.set gone kept } (by show some (O.lst (nums (p.uab.set gone kept)))=_;unfold nums;rw [List.map_set])
 refine gC ?_;intro R Q
 refine zA2 (zB1 (zA8 (gH B (gB rfl ⟨L .un,358,L .ud,_,_,rfl,H₂.at_ .un _ rfl,H₂.at_ .ud _ rfl,rfl,rfl,⟨by rfl,by rfl,by rfl⟩,?_⟩))))
 refine gB rfl (zI4 (H₂.at_ .lots _ rfl) (v:=.ref (L (.lot kept))) (by rw [zS,yU (show kept < p.lots.length from hkl)];rfl) (by lia) ?_)
 have c1:σ₂[L (.lot kept)]?=some (.lst (nums (p.lots.getD kept []))):=H₂.at_ (.lot kept) _ (by show (p.lots[kept]?).map _=_;rw [hlk];rfl)
 have c2:σ₂[L (.lot gone)]?=some (.lst (nums (p.lots.getD gone []))):=H₂.at_ (.lot gone) _ (by show (p.lots[gone]?).map _=_;rw [hlg];rfl)
 refine ⟨"list","list.extend",.inl ⟨_,c1,rfl⟩,jH,vD,vE,?_⟩
 refine gD (zA8 (gH B (gB rfl ⟨L .un,358,L .ud,_,_,rfl,H₂.at_ .un _ rfl,H₂.at_ .ud _ rfl,rfl,rfl,⟨by rfl,by rfl,by rfl⟩,?_⟩)))
 refine gB rfl (zI4 (H₂.at_ .lots _ rfl) (v:=.ref (L (.lot gone))) (by rw [zS,yU (show gone < p.lots.length from hgl)];rfl) (by lia) ?_)
 have b1:=hll _ (zI hlk)
 have b2:=hll _ (zI hlg)
 refine gF (zM5 c1 c2 (by rw [zD,zD];lia) ?_)
 generalize e₃:List.set _ _ _=σ₃
 obtain ⟨H₃,K₃⟩:=H₂.wr K₂ e₃ { p with uab:=p.uab.set gone kept,lots:=p.lots.set kept (p.lots.getD kept []++p.lots.getD gone []) } (r:=.lot kept) (o':=.lst (nums (p.lots.getD kept [])++nums (p.lots.getD gone []))) (by
   show ((p.lots.set kept _)[kept]?).map _=_
   rw [jW hkl]
   simp [nums]) (by show ((p.lots[kept]?).map _).isSome=true;rw [hlk];rfl) (by
   intro r' hr
   cases r' with
   | lot i=>
    have hi:kept≠i:=fun q=>hr (q ▸ rfl)
    show ((p.lots.set kept _)[i]?).map _=(p.lots[i]?).map _
    rw [jD hi]
   | lots=>
    show some (O.lst ((List.range (p.lots.set kept _).length).map _))=some (O.lst ((List.range p.lots.length).map _))
    rw [jV]
   | hb k=>rfl
   | _=>rfl)
 refine gC ?_;intro R Q
 refine zA2 (zB1 (gH B (gB rfl ⟨L .un,358,L .ud,_,_,rfl,H₃.at_ .un _ rfl,H₃.at_ .ud _ rfl,rfl,rfl,⟨by rfl,by rfl,by rfl⟩,?_⟩)))
 refine ⟨"list","list.append",.inl ⟨_,H₃.at_ .merged _ rfl,rfl⟩,jH,qB,qC,?_⟩
 refine gD (ev_s rfl ?_)
 refine gF (zC4 (H₃.at_ .merged _ rfl) (by rw [zD];show p.merged.length<=_;lia) ?_)
 generalize e₄:List.set _ _ _=σ₄
 obtain ⟨H₄,K₄⟩:=H₃.wr K₃ e₄ (uniP p kept gone) (by show some (O.lst ((p.merged++[(kept,gone)]).map _))=_;rw [qD];rfl)
 refine gC ?_;intro R Q
 refine gL ?_
 refine ev_s rfl ?_
 exact h _ H₄ K₄
theorem all:∀ d σ L p n₀ a b kept gone P,S d σ L p n₀ a b kept gone P:=cst (p:=fun z=>∀ σ L p n₀ a b kept gone P,S z σ L p n₀ a b kept gone P) (cst (p:=fun z=>∀ L p n₀ a b kept gone P,S d z L p n₀ a b kept gone P) (cst (p:=fun z=>∀ p n₀ a b kept gone P,S d σ z p n₀ a b kept gone P) (cst (p:=fun z=>∀ n₀ a b kept gone P,S d σ L z n₀ a b kept gone P) (cst (p:=fun z=>∀ a b kept gone P,S d σ L p z a b kept gone P) (cst (p:=fun z=>∀ b kept gone P,S d σ L p n₀ z b kept gone P) (cst (p:=fun z=>∀ kept gone P,S d σ L p n₀ a z kept gone P) (cst (p:=fun z=>∀ gone P,S d σ L p n₀ a b z gone P) (cst (p:=fun z=>∀ P,S d σ L p n₀ a b kept z P) (cst (p:=fun z=>S d σ L p n₀ a b kept gone z) core)))))))))
end kJ
section
variable {d:Nat} {σ:Sto} {L:Role->Nat} {p:PH} {n₀:Nat->Prop} {c:PC}
theorem jQ6 {d σ L p n₀ a b kept gone P}:kJ.S d σ L p n₀ a b kept gone P:=kJ.all d σ L p n₀ a b kept gone P
end
noncomputable def habJ (h:List (Nat×List Nat)) (k g:Nat) (l:List Nat):List (Nat×List Nat):=(h.filter fun y=>decide ((y.1:Int)≠(g:Int))).map fun y=>if y.1=k then (y.1,l) else y
theorem zT1 {k g:Nat} (hne:k≠g) (l:List Nat) (j:Nat) (h:List (Nat×List Nat)):(habJ h k g l).lookup j=if j=g then none else (h.lookup j).map fun m=>if j=k then l else m:=by
 induction h with
 | nil=>exact (ite_self none).symm
 | cons q h ih=>
  unfold habJ at ih ⊢
  rw [xU]
  by_cases hg:q.1=g
  ·rw [decide_eq_false (fun z=>z (congrArg _ hg)),if_neg qW,ih]
   by_cases hj:j=g
   ·rw [if_pos hj,if_pos hj]
   ·rw [if_neg hj,if_neg hj,zX,beq_eq_false_iff_ne.mpr (hg ▸ hj)]
  ·rw [decide_eq_true (p:=(q.1:Int)≠(g:Int)) (fun z=>hg (Int.ofNat.inj z)),if_pos rfl,zU]
   have e1:(if q.1=k then (q.1,l) else q).1=q.1:=by split <;> rfl
   rw [zX,e1,ih]
   cases e:j == q.1 with
   | true=>
    have z:=lk e
    rw [zX,e]
    show some (if q.1=k then (q.1,l) else q).2=if j=g then none else some (if j=k then l else q.2)
    rw [if_neg (show ¬ j=g from z ▸ hg),<-z]
    by_cases hk:q.1=k
    ·rw [if_pos hk,if_pos hk]
    ·rw [if_neg hk,if_neg hk]
   | false=>
    rw [zX,e]
theorem jK9 {α:Type} {k:Nat} {a:α} {l:List (Nat×α)} (h:l.lookup k=some a):(k,a)∈l:=by
 induction l with
 | nil=>cases h
 | cons q l ih=>
  rw [zX] at h
  cases e:k == q.1 with
  | true=>rw [e] at h;cases h;rw [<-lk e];exact jA
  | false=>rw [e] at h;exact zY _ (ih h)
theorem jR3 (L:Role->Nat) {k g m:Nat} (l:List Nat) (h:List (Nat×List Nat)) (hk:(h.lookup k).isSome=true) (hne:k≠g):habK (up L (.hb k) m) (habJ h k g l)=vput (vdel (habK L h) (g:Int)) (k:Int) (.ref m):=by
 have e1:vdel (habK L h) (g:Int)=habK L (h.filter fun y=>decide ((y.1:Int)≠(g:Int))):=by
  unfold vdel habK
  rw [List.filter_map]
  rfl
 have hany:((habK L (h.filter fun y=>decide ((y.1:Int)≠(g:Int)))).any fun p=>decide (p.1=(k:Int)))=true:=by
  obtain ⟨l',hl'⟩:=Option.isSome_iff_exists.mp hk
  have hm:=jK9 hl'
  rw [List.any_eq_true]
  refine ⟨((k:Int),V.ref (L (.hb k))),jS.mpr ⟨(k,l'),List.mem_filter.mpr ⟨hm,decide_eq_true (by simp only [];lia)⟩,rfl⟩,decide_eq_true rfl⟩
 unfold vput
 rw [e1,hany,if_pos rfl]
 unfold habJ habK
 rw [jE,jE]
 refine qP fun y oo1=>?_
 show (((if y.1=k then (y.1,l) else y).1:Int),V.ref (up L (.hb k) m (.hb (if y.1=k then (y.1,l) else y).1)))=if (y.1:Int)=(k:Int) then ((y.1:Int),V.ref m) else ((y.1:Int),V.ref (L (.hb y.1)))
 have e2:(if y.1=k then (y.1,l) else y).1=y.1:=by split <;> rfl
 rw [e2]
 by_cases hy:y.1=k
 ·rw [hy,zG6,if_pos rfl]
 ·rw [if_neg (by lia),zE9 _ _ (by intro q;cases q;exact hy rfl)]
namespace kC
def S (σ:Sto) (σ':Sto) (L:Role->Nat) (p:PH) (n₀:Nat->Prop) (k:Nat) (g:Nat) (lk:List Nat) (lg:List Nat):Prop:=∀ (H:HB n₀ σ L p) (hk:p.hab.lookup k=some lk) (hg:p.hab.lookup g=some lg) (hne:k≠g) (e:(σ.set (L .hab) (O.dct (vmap V.int (vdel (habK L p.hab) (g:Int))))++[O.lst (nums lk++nums lg)]).set (L .hab) (O.dct (vmap V.int (vput (vdel (habK L p.hab) (g:Int)) (k:Int) (.ref (σ.set (L .hab) (O.dct (vmap V.int (vdel (habK L p.hab) (g:Int))))).length))))=σ'),HB n₀ σ' (up L (.hb k) σ.length) { p with hab:=habJ p.hab k g (lk++lg) }/\KB n₀ σ σ'
noncomputable def σ:Sto:=pick fun z=>∀ σ' L p n₀ k g lk lg,S z σ' L p n₀ k g lk lg
noncomputable def σ':Sto:=pick fun z=>∀ L p n₀ k g lk lg,S σ z L p n₀ k g lk lg
noncomputable def L:Role->Nat:=pick fun z=>∀ p n₀ k g lk lg,S σ σ' z p n₀ k g lk lg
noncomputable def p:PH:=pick fun z=>∀ n₀ k g lk lg,S σ σ' L z n₀ k g lk lg
noncomputable def n₀:Nat->Prop:=pick fun z=>∀ k g lk lg,S σ σ' L p z k g lk lg
noncomputable def k:Nat:=pick fun z=>∀ g lk lg,S σ σ' L p n₀ z g lk lg
noncomputable def g:Nat:=pick fun z=>∀ lk lg,S σ σ' L p n₀ k z lk lg
noncomputable def lk:List Nat:=pick fun z=>∀ lg,S σ σ' L p n₀ k g z lg
noncomputable def lg:List Nat:=pick fun z=>S σ σ' L p n₀ k g lk z
theorem core:S σ σ' L p n₀ k g lk lg:=by
 intro H hk hg hne e
 have hL:L .hab < σ.length:=H.toHeapAt.lt (r:=.hab) rfl
 have hlen:∀ o:O,(σ.set (L .hab) o).length=σ.length:=fun o=>jV
 have e':σ'=σ.set (L .hab) (O.dct (vmap V.int (habK (up L (.hb k) σ.length) (habJ p.hab k g (lk++lg)))))++[O.lst (nums lk++nums lg)]:=by
  rw [<-e,wR _ _ (by rw [hlen];exact hL),List.set_set,hlen,jR3 L _ _ (by rw [hk];rfl) hne]
 refine ⟨?_,by rw [e'];exact (KB.set (H.low .hab rfl)).trans (KB.more _ (by rw [hlen];exact H.len))⟩
 have look:=zT1 hne (lk++lg)
 refine H.step _ _ H.fresh (H.new _ (zK _)) (by rw [e',zE,hlen];lia) (fun r hr hs=>?_) (fun r o ho=>?_)
 ·cases r with
  | hb j=>
   have hs':(((habJ p.hab k g (lk++lg)).lookup j).map fun l=>O.lst (nums l)).isSome=true:=hs
   rw [look] at hs'
   show ((p.hab.lookup j).map _).isSome=true
   split at hs'
   ·cases hs'
   ·rw [Option.isSome_map,Option.isSome_map] at hs'
    rw [Option.isSome_map];exact hs'
  | lot i=>exact hs
  | _=>rfl
 ·rw [e']
  have keep:∀ r,r≠.hab->(∀ o,cell p L r=some o->(σ.set (L .hab) (O.dct (vmap V.int (habK (up L (.hb k) σ.length) (habJ p.hab k g (lk++lg)))))++[O.lst (nums lk++nums lg)])[L r]?=some o):=fun r hr o ho=>by
   have hlt:=H.toHeapAt.lt (r:=r) (by rw [ho];rfl)
   rw [zH (by rw [hlen];exact hlt),jD (fun q=>hr (H.apart r .hab (by rw [ho];rfl) rfl q.symm))]
   exact H.at_ r o ho
  cases r with
  | hab=>
   rw [zE9 _ _ (by simp),zH (by rw [hlen];exact hL),jW hL,<-ho]
   rfl
  | hb j=>
   have ho':((habJ p.hab k g (lk++lg)).lookup j).map (fun l=>O.lst (nums l))=some o:=ho
   rw [look] at ho'
   by_cases hj:j=k
   ·subst hj
    rw [if_neg hne,hk] at ho'
    simp at ho'
    subst ho'
    rw [zG6,jB (by rw [hlen];exact zK _),hlen,yD]
    try simp [nums]
   ·rw [zE9 _ _ (by intro q;cases q;exact hj rfl)]
    split at ho'
    ·cases ho'
    ·refine keep (.hb j) (by simp) o ?_
     rw [<-ho']
     show (p.hab.lookup j).map _=_
     rw [Option.map_map]
     cases p.hab.lookup j with
     | none=>rfl
     | some m=>simp [hj]
  | lot i=>
   rw [zE9 _ _ (by simp)]
   exact keep (.lot i) (by simp) o ho
  | _=>
   rw [zE9 _ _ (by simp)]
   exact keep _ (by simp) o ho
theorem all:∀ σ σ' L p n₀ k g lk lg,S σ σ' L p n₀ k g lk lg:=cst (p:=fun z=>∀ σ' L p n₀ k g lk lg,S z σ' L p n₀ k g lk lg) (cst (p:=fun z=>∀ L p n₀ k g lk lg,S σ z L p n₀ k g lk lg) (cst (p:=fun z=>∀ p n₀ k g lk lg,S σ σ' z p n₀ k g lk lg) (cst (p:=fun z=>∀ n₀ k g lk lg,S σ σ' L z n₀ k g lk lg) (cst (p:=fun z=>∀ k g lk lg,S σ σ' L p z k g lk lg) (cst (p:=fun z=>∀ g lk lg,S σ σ' L p n₀ z g lk lg) (cst (p:=fun z=>∀ lk lg,S σ σ' L p n₀ k z lk lg) (cst (p:=fun z=>∀ lg,S σ σ' L p n₀ k g z lg) (cst (p:=fun z=>S σ σ' L p n₀ k g lk z) core))))))))
end kC
theorem HB.hb_join {σ σ' L p n₀ k g lk lg}:kC.S σ σ' L p n₀ k g lk lg:=kC.all σ σ' L p n₀ k g lk lg
section
variable {d:Nat} {σ:Sto} {L:Role->Nat} {p:PH} {n₀:Nat->Prop} {c:PC}
noncomputable def zO8 (c:PC) (kept gone:Nat):PC:={ c with uab:=c.uab.set gone kept,lots:=c.lots.set kept (c.lots.getD kept []++c.lots.getD gone []),js:=c.js+1 }
end
namespace kB
def S (d:Nat) (σ:Sto) (L:Role->Nat) (p:PH) (n₀:Nat->Prop) (c:PC) (a:Nat) (b:Nat) (kept:Nat) (gone:Nat) (reason:V) (P:V->Sto->Prop):Prop:=∀ (B:Bs w h₀) (H:HB n₀ σ L p) (G:GP p c) (ha:a < c.nodes.length) (hb:b < c.nodes.length) (hk:(fnd c.uab a=kept/\fnd c.uab b=gone)∨(fnd c.uab b=kept/\fnd c.uab a=gone)) (hlt:kept < gone) (hg:p.hab.lookup gone=some []) (hj:c.js < 100) (hlots:(c.lots.getD kept []++c.lots.getD gone []).length<=100) (h:∀ σ' L' p',HB n₀ σ' L' p'->L' .hp=L .hp->KB n₀ σ σ'->GP p' (zO8 c kept gone)->P (.bool true) σ'),Cl w h₀ (d+4) (.ref 433) [.ref (L .hp),.int a,.int b,reason] σ P
noncomputable def d:Nat:=pick fun z=>∀ σ L p n₀ c a b kept gone reason P,S z σ L p n₀ c a b kept gone reason P
noncomputable def σ:Sto:=pick fun z=>∀ L p n₀ c a b kept gone reason P,S d z L p n₀ c a b kept gone reason P
noncomputable def L:Role->Nat:=pick fun z=>∀ p n₀ c a b kept gone reason P,S d σ z p n₀ c a b kept gone reason P
noncomputable def p:PH:=pick fun z=>∀ n₀ c a b kept gone reason P,S d σ L z n₀ c a b kept gone reason P
noncomputable def n₀:Nat->Prop:=pick fun z=>∀ c a b kept gone reason P,S d σ L p z c a b kept gone reason P
noncomputable def c:PC:=pick fun z=>∀ a b kept gone reason P,S d σ L p n₀ z a b kept gone reason P
noncomputable def a:Nat:=pick fun z=>∀ b kept gone reason P,S d σ L p n₀ c z b kept gone reason P
noncomputable def b:Nat:=pick fun z=>∀ kept gone reason P,S d σ L p n₀ c a z kept gone reason P
noncomputable def kept:Nat:=pick fun z=>∀ gone reason P,S d σ L p n₀ c a b z gone reason P
noncomputable def gone:Nat:=pick fun z=>∀ reason P,S d σ L p n₀ c a b kept z reason P
noncomputable def reason:V:=pick fun z=>∀ P,S d σ L p n₀ c a b kept gone z P
noncomputable def P:V->Sto->Prop:=pick fun z=>S d σ L p n₀ c a b kept gone reason z
theorem core:S d σ L p n₀ c a b kept gone reason P:=by
 intro B H G ha hb hk hlt hg hj hlots h
 have hs:=G.small
 have hul:p.uab.length=c.nodes.length:=by rw [G.uab,G.len1]
 refine Cd.cl (zA3 (ps:=[zA "self",zA "a",zA "b",zA "reason"]) B (by rfl) (by rfl) (len4 fun oo1 oo2 oo3 oo4=>rfl) rfl (by decide) (fun oo1=>by rfl) ?_)
 refine gC ?_;intro R Q
 refine zA2 (zB1 (gH B (gB rfl ⟨L .hp,488,L .hd,_,_,rfl,H.at_ .hp _ rfl,H.at_ .hd _ rfl,rfl,rfl,⟨by rfl,by rfl,by rfl⟩,?_⟩)))
 refine ⟨"list","list.append",.inl ⟨_,H.at_ .edges _ rfl,rfl⟩,jH,qB,qC,?_⟩
 refine gD (ev_s rfl ?_)
 refine gF (zC4 (H.at_ .edges _ rfl) (by have:=G.edges;have:=G.jsl;lia) ?_)
 generalize e₁:List.set _ _ _=σ₁
 obtain ⟨H₁,K₁⟩:=H.wr (KB.refl _ _) e₁ { p with edges:=p.edges++[.tup [.int a,.int b,reason]] } rfl
 refine gC ?_;intro R Q
 refine gE ?_ (fun oo1 oo2=>rfl);intro kk
 refine gO B (gH B (gB rfl ⟨L .hp,488,L .hd,_,_,rfl,H₁.at_ .hp _ rfl,H₁.at_ .hd _ rfl,rfl,rfl,⟨by rfl,by rfl,by rfl⟩,?_⟩))
 refine ⟨L .un,358,L .ud,_,322,rfl,H₁.at_ .un _ rfl,H₁.at_ .ud _ rfl,rfl,rfl,⟨by rfl,by rfl,by rfl,by rfl⟩,gJ rfl ?_⟩
 refine jQ6 (d:=d+1) B H₁ (kept:=kept) (gone:=gone) (by show zE1 p.uab;rw [G.uab];exact G.down) (by show p.uab.length < 500;lia) (by show p.lots.length=p.uab.length;rw [G.lots,G.len2,hul]) (by show ∀ l∈p.lots,_;rw [G.lots];exact fun l hl=>zB (G.lotl l hl) (by lia)) (by show p.merged.length<=_;have:=G.merged;lia) (by show a < p.uab.length;lia) (by show b < p.uab.length;lia) (by show (fnd p.uab a=kept/\fnd p.uab b=gone)∨_;rw [G.uab];exact hk) hlt fun σ₂ H₂ K₂=>?_
 have K₂:=K₁.trans K₂
 refine gN rfl ?_
 refine gC ?_;intro R Q
 refine zC1 ?_
 refine gU (gB rfl (jO6 (zX0 (gM ?_))))
 rw [if_neg (by decide)]
 refine gG ?_
 refine gC ?_;intro R Q
 refine gE ?_ (fun oo1 oo2=>rfl);intro kk;refine gB rfl ?_
 refine jL3 (zP0 (fun oo1 oo2 h=>h) (zR9 (gN rfl (zR9 (gN rfl ?_)))))
 refine gC ?_;intro R Q
 refine zA2 (zB1 (gH B (gB rfl ⟨L .hp,488,L .hd,_,_,rfl,H₂.at_ .hp _ rfl,H₂.at_ .hd _ rfl,rfl,rfl,⟨by rfl,by rfl,by rfl⟩,?_⟩)))
 refine ⟨"list","list.append",.inl ⟨_,H₂.at_ .forest _ rfl,rfl⟩,jH,qB,qC,?_⟩
 refine gD (gV (gP (gW B rfl (by rfl) (by rfl) (by decide) ⟨_,rfl,rfl,?_⟩)))
 refine gD (gH B (gB rfl ⟨L .hp,488,L .hd,_,_,rfl,H₂.at_ .hp _ rfl,H₂.at_ .hd _ rfl,rfl,rfl,⟨by rfl,by rfl,by rfl⟩,?_⟩))
 refine gF (zA7 (H₂.at_ .edges _ rfl) (by show (p.edges++[_]).length<=_;rw [zE];have:=G.edges;simp;lia) ?_)
 refine gI (zK1 (gF ?_))
 refine zC4 (H₂.at_ .forest _ rfl) (by show p.forest.length<=_;have:=G.forest;lia) ?_
 generalize hfv:V.int (((_:Nat):Int) - 1)=fv
 generalize hp₂:uniP _ kept gone=p₂ at H₂ ⊢
 generalize e₃:List.set _ _ _=σ₃
 obtain ⟨H₃,K₃⟩:=H₂.wr K₂ e₃ { p₂ with forest:=p₂.forest++[fv] } rfl
 have q1:p₂.hab=p.hab:=by rw [<-hp₂];rfl
 have q2:p₂.waiting=[]:=by rw [<-hp₂];exact G.waiting
 have hg₂:p₂.hab.lookup gone=some []:=by rw [q1];exact hg
 have hkr:(p.hab.lookup kept).isSome=true:=by
  have D:=G.down
  rcases hk with ⟨h1,_⟩ | ⟨h1,_⟩
  ·have h2:=zL9 D (k:=a) (by rw [G.len1];exact ha)
   have h3:=zL3 D (a:=a) (by rw [G.len1];exact ha)
   rw [h1] at h2 h3
   exact G.roots kept (by lia) h2
  ·have h2:=zL9 D (k:=b) (by rw [G.len1];exact hb)
   have h3:=zL3 D (a:=b) (by rw [G.len1];exact hb)
   rw [h1] at h2 h3
   exact G.roots kept (by lia) h2
 obtain ⟨lk,hlk⟩:=Option.isSome_iff_exists.mp hkr
 have hlk₂:p₂.hab.lookup kept=some lk:=by rw [q1];exact hlk
 have bk:=G.hbs kept lk hlk
 refine gC ?_;intro R Q
 refine zA2 (zB1 (gH B (gB rfl ⟨L .hp,488,L .hd,_,_,rfl,H₃.at_ .hp _ rfl,H₃.at_ .hd _ rfl,rfl,rfl,⟨by rfl,by rfl,by rfl⟩,?_⟩)))
 refine ⟨"list","list.extend",.inl ⟨_,H₃.at_ .waiting _ rfl,rfl⟩,jH,vD,vE,?_⟩
 refine gD (zA8 (gH B (gB rfl ⟨L .hp,488,L .hd,_,_,rfl,H₃.at_ .hp _ rfl,H₃.at_ .hd _ rfl,rfl,rfl,⟨by rfl,by rfl,by rfl⟩,?_⟩)))
 refine gB rfl (zJ8 (kvs:=habK L p₂.hab) (k:=(gone:Int)) (zK2 w) (H₃.at_ .hab _ rfl) (zQ5 (by rw [hg₂];rfl)) ?_)
 have cg:σ₃[L (.hb gone)]?=some (.lst (nums [])):=H₃.at_ (.hb gone) _ (by show (p₂.hab.lookup gone).map _=_;rw [hg₂];rfl)
 refine gF (zM5 (H₃.at_ .waiting _ rfl) cg (by rw [zD,zD];show p₂.waiting.length+_<=_;rw [q2];simp) ?_)
 try dsimp only
 generalize e₄:List.set _ _ _=σ₄
 obtain ⟨H₄,K₄⟩:=H₃.wr K₃ e₄ { p₂ with forest:=p₂.forest++[fv] } (by show some (O.lst (nums p₂.waiting))=_;simp [nums])
 refine gC ?_;intro R Q
 have ck:σ₄[L (.hb kept)]?=some (.lst (nums lk)):=H₄.at_ (.hb kept) _ (by show (p₂.hab.lookup kept).map _=_;rw [hlk₂];rfl)
 have hhl:p₂.hab.length<=100:=by rw [q1];have:=G.hlen;lia
 refine gE ?_ (fun oo1 oo2=>rfl);intro kk;refine gV (zA8 (gH B (gB rfl ⟨L .hp,488,L .hd,_,_,rfl,H₄.at_ .hp _ rfl,H₄.at_ .hd _ rfl,rfl,rfl,⟨by rfl,by rfl,by rfl⟩,?_⟩)))
 refine gB rfl (zJ8 (kvs:=habK L p₂.hab) (k:=(kept:Int)) (zK2 w) (H₄.at_ .hab _ rfl) (zQ5 (by rw [hlk₂];rfl)) ?_)
 refine zB1 (gH B (gB rfl ⟨L .hp,488,L .hd,_,_,rfl,H₄.at_ .hp _ rfl,H₄.at_ .hd _ rfl,rfl,rfl,⟨by rfl,by rfl,by rfl⟩,?_⟩))
 refine ⟨"dict","dict.pop",.inr ⟨_,H₄.at_ .hab _ rfl,rfl⟩,PySem.F.plainAttrs_dict,PySem.F.slot_dict_pop,PySem.F.type_dict_pop,?_⟩
 refine gJ rfl ?_
 refine cl_popB (kvs:=habK L p₂.hab) (k:=(gone:Int)) (zK2 w) (H₄.at_ .hab _ rfl) (by unfold habK;rw [zD];lia) (zQ5 (by rw [hg₂];rfl)) (fun h ι c r=>by cases r;rfl) ?_
 have ne1:L .hab≠L (.hb kept):=fun q=>by cases H₄.apart .hab (.hb kept) rfl (by show ((p₂.hab.lookup kept).map _).isSome=true;rw [hlk₂];rfl) q
 have ne2:L .hab≠L (.hb gone):=fun q=>by cases H₄.apart .hab (.hb gone) rfl (by show ((p₂.hab.lookup gone).map _).isSome=true;rw [hg₂];rfl) q
 have cg4:σ₄[L (.hb gone)]?=some (.lst (nums [])):=H₄.at_ (.hb gone) _ (by show (p₂.hab.lookup gone).map _=_;rw [hg₂];rfl)
 have hL4:L .hab < σ₄.length:=H₄.toHeapAt.lt (r:=.hab) rfl
 refine zY5 (by rw [jD ne1];exact ck) (by rw [jD ne2];exact cg4) (by rw [zD,zD];simp;lia) ?_
 have n1:L .hab≠L .hp:=fun q=>by cases H₄.apart .hab .hp rfl rfl q
 have n2:L .hab≠L .hd:=fun q=>by cases H₄.apart .hab .hd rfl rfl q
 have get5:∀ {r:Role} {o:O} (o' o2:O),cell p₂ L r=some o->σ₄[L r]?=some o->L .hab≠L r->(σ₄.set (L .hab) o'++[o2])[L r]?=some o:=fun {r o} o' o2 hc hx hne=>by
  have hl:=(zC.mp hx).1
  rw [zH (by rw [jV];exact hl),jD hne]
  exact hx
 refine zR4 (gH B (gB rfl ⟨L .hp,488,L .hd,_,_,rfl,get5 _ _ (r:=.hp) rfl (H₄.at_ .hp _ rfl) n1,get5 _ _ (r:=.hd) rfl (H₄.at_ .hd _ rfl) n2,rfl,rfl,⟨by rfl,by rfl,by rfl⟩,?_⟩))
 refine gB rfl (jF5 (kvs:=vdel (habK L p₂.hab) (gone:Int)) (k:=(kept:Int)) (zK2 w) (by rw [zH (by rw [jV];exact hL4),jW hL4]) (by
  refine zB (List.length_filter_le ..) ?_
  unfold habK
  rw [zD]
  lia) ?_)
 generalize e₅:List.set _ (L .hab) (O.dct (vmap V.int (vput _ _ _)))=σ₅
 obtain ⟨H₅,K₅⟩:=H₄.hb_join (k:=kept) (g:=gone) (lk:=lk) (lg:=[]) hlk₂ hg₂ (by lia) e₅
 have K₅:=K₄.trans K₅
 refine gC ?_;intro R Q
 refine gL ?_
 refine jP3 ?_
 have hnl:(zO8 c kept gone).nodes.length=c.nodes.length:=rfl
 have look:=zT1 (k:=kept) (g:=gone) (by lia) (lk++[])
 refine h _ _ _ H₅ rfl K₅ ?_
 have hkl:kept < c.nodes.length:=by
  rcases hk with ⟨h1,_⟩ | ⟨h1,_⟩
  ·have:=zL3 G.down (a:=a) (by rw [G.len1];exact ha);lia
  ·have:=zL3 G.down (a:=b) (by rw [G.len1];exact hb);lia
 refine { nodes:=?_,numbers:=?_,wts:=?_,dps:=?_,uab:=?_,lots:=?_,known:=?_,waiting:=q2,len1:=?_,len2:=?_,down:=?_,small:=G.small,kids:=G.kids,roots:=?_,newest:=?_,hlen:=?_,hbs:=?_,edges:=?_,forest:=?_,merged:=?_,knl:=?_,jsl:=hj,lotl:=?_ }
 ·show p₂.nodes=_;rw [<-hp₂];exact G.nodes
 ·show p₂.numbers=_;rw [<-hp₂];exact G.numbers
 ·show p₂.wts.length=_;rw [<-hp₂];exact G.wts
 ·show p₂.dps.length=_;rw [<-hp₂];exact G.dps
 ·show p₂.uab=_;rw [<-hp₂];show p.uab.set gone kept=c.uab.set gone kept;rw [G.uab]
 ·show p₂.lots=_;rw [<-hp₂];show p.lots.set kept (p.lots.getD kept []++p.lots.getD gone [])=c.lots.set _ _;rw [G.lots]
 ·show p₂.known=_;rw [<-hp₂];exact G.known
 ·show (c.uab.set gone kept).length=_;rw [jV];exact G.len1
 ·show (c.lots.set kept _).length=_;rw [jV];exact G.len2
 ·intro i hi
  have hi':i < c.uab.length:=by
   have:i < (c.uab.set gone kept).length:=hi
   rwa [jV] at this
  show (c.uab.set gone kept).getD i 0<=i
  rw [jG]
  by_cases e:gone=i
  ·subst e
   rw [jW hi']
   exact qI hlt
  ·rw [jD e,<-jG]
   exact G.down i hi'
 ·intro k hk' hr
  have hr:(c.uab.set gone kept).getD k 0=k:=hr
  have hk'':k < c.nodes.length:=hk'
  rw [jG] at hr
  show ((habJ p₂.hab kept gone (lk++[])).lookup k).isSome=true
  by_cases e:gone=k
  ·subst e
   rw [jW (by rw [G.len1];exact hk'')] at hr
   simp at hr
   lia
  ·rw [jD e,<-jG] at hr
   rw [look,if_neg (fun q=>e q.symm),Option.isSome_map,q1]
   exact G.roots k hk'' hr
 ·intro k hk'
  show (habJ p₂.hab kept gone (lk++[])).lookup k=none
  rw [look,q1,G.newest k hk']
  split <;> rfl
 ·show (habJ p₂.hab kept gone (lk++[])).length<=_
  unfold habJ
  rw [zD,q1]
  exact zB (List.length_filter_le ..) G.hlen
 ·intro k l hl
  have hl:(habJ p₂.hab kept gone (lk++[])).lookup k=some l:=hl
  rw [look,q1] at hl
  split at hl
  ·cases hl
  ·cases q:p.hab.lookup k with
   | none=>rw [q] at hl;cases hl
   | some m=>
    rw [q] at hl
    simp only [Option.map_some,Option.some.injEq] at hl
    subst hl
    split
    ·rw [jI];exact bk
    ·exact G.hbs k m q
 ·show p₂.edges.length<=c.js+1;rw [<-hp₂];show (p.edges++[_]).length<=_;rw [zE];have:=G.edges;simp;lia
 ·show (p₂.forest++[fv]).length<=c.js+1;rw [<-hp₂,zE];have:=G.forest;show p.forest.length+1<=_;lia
 ·show p₂.merged.length<=c.js+1;rw [<-hp₂];show (p.merged++[_]).length<=_;rw [zE];have:=G.merged;simp;lia
 ·show p₂.known.length<=_;rw [<-hp₂];exact G.knl
 ·intro l hl
  rcases List.mem_or_eq_of_mem_set (show l∈c.lots.set kept _ from hl) with h | h
  ·exact G.lotl l h
  ·rw [h];exact hlots
theorem all:∀ d σ L p n₀ c a b kept gone reason P,S d σ L p n₀ c a b kept gone reason P:=cst (p:=fun z=>∀ σ L p n₀ c a b kept gone reason P,S z σ L p n₀ c a b kept gone reason P) (cst (p:=fun z=>∀ L p n₀ c a b kept gone reason P,S d z L p n₀ c a b kept gone reason P) (cst (p:=fun z=>∀ p n₀ c a b kept gone reason P,S d σ z p n₀ c a b kept gone reason P) (cst (p:=fun z=>∀ n₀ c a b kept gone reason P,S d σ L z n₀ c a b kept gone reason P) (cst (p:=fun z=>∀ c a b kept gone reason P,S d σ L p z c a b kept gone reason P) (cst (p:=fun z=>∀ a b kept gone reason P,S d σ L p n₀ z a b kept gone reason P) (cst (p:=fun z=>∀ b kept gone reason P,S d σ L p n₀ c z b kept gone reason P) (cst (p:=fun z=>∀ kept gone reason P,S d σ L p n₀ c a z kept gone reason P) (cst (p:=fun z=>∀ gone reason P,S d σ L p n₀ c a b z gone reason P) (cst (p:=fun z=>∀ reason P,S d σ L p n₀ c a b kept z reason P) (cst (p:=fun z=>∀ P,S d σ L p n₀ c a b kept gone z P) (cst (p:=fun z=>S d σ L p n₀ c a b kept gone reason z) core)))))))))))
end kB
section
variable {d:Nat} {σ:Sto} {L:Role->Nat} {p:PH} {n₀:Nat->Prop} {c:PC}
theorem join_ok {d σ L p n₀ c a b kept gone reason P}:kB.S d σ L p n₀ c a b kept gone reason P:=kB.all d σ L p n₀ c a b kept gone reason P
theorem merge_ok (B:Bs w h₀) (H:HB n₀ σ L p) (G:GP p c) {a b kept gone:Nat} {reason:V} (ha:a < c.nodes.length) (hb:b < c.nodes.length) (hk:(fnd c.uab a=kept/\fnd c.uab b=gone)∨(fnd c.uab b=kept/\fnd c.uab a=gone)) (hlt:kept < gone)
  (hg:p.hab.lookup gone=some []) (hj:c.js < 100) (hlots:(c.lots.getD kept []++c.lots.getD gone []).length<=100) {P:V->Sto->Prop}
  (h:∀ v σ' L' p',HB n₀ σ' L' p'->L' .hp=L .hp->KB n₀ σ σ'->GP p' (zO8 c kept gone)->P v σ'):Cl w h₀ (d+5) (.ref 426) [.ref (L .hp),.int a,.int b,reason] σ P:=by
 refine Cd.cl (zA3 (ps:=[zA "self",zA "a",zA "b",zA "reason"]) B (by rfl) (by rfl) (len4 fun oo1 oo2 oo3 oo4=>rfl) rfl (by decide) (fun oo1=>by rfl) ?_)
 refine gC ?_;intro R Q
 refine gL ?_
 refine gO B (gB rfl ⟨L .hp,488,L .hd,_,433,rfl,H.at_ .hp _ rfl,H.at_ .hd _ rfl,rfl,rfl,⟨by rfl,by rfl,by rfl,by rfl⟩,?_⟩)
 refine gJ rfl ?_
 exact join_ok B H G ha hb hk hlt hg hj hlots fun σ' L' p'=>h _ σ' L' p'
theorem jV0 (B:Bs w h₀) (H:HB n₀ σ L p) (hw:p.waiting=[]) {P:V->Sto->Prop} (h:∀ v,P v σ):Cl w h₀ (d+1) (.ref 440) [.ref (L .hp)] σ P:=by
 refine Cd.cl (zA3 (ps:=[zA "self"]) B (by rfl) (by rfl) (len1 fun oo1=>rfl) rfl (by decide) (fun oo1=>by rfl) ?_)
 refine gC ?_;intro R Q
 refine zV7 (fun n ρ σ'=>n=0/\σ'=σ/\ρ=[(zA "self",V.ref (L .hp))]) 0 ⟨rfl,rfl,rfl⟩ (fun n ρ' σ' hI=>?_)
 obtain ⟨rfl,rfl,rfl⟩:=hI
 refine gU (gP (gW B rfl (by rfl) (by rfl) (by decide) ⟨_,rfl,rfl,?_⟩))
 refine gD (gH B (gB rfl ⟨L .hp,488,L .hd,_,_,rfl,H.at_ .hp _ rfl,H.at_ .hd _ rfl,rfl,rfl,⟨by rfl,by rfl,by rfl⟩,?_⟩))
 refine gF (zA7 (H.at_ .waiting _ rfl) (by rw [hw];simp) ?_)
 refine gI (jK2 (gM ?_))
 rw [hw];refine ifF rfl ?_
 refine gG ?_
 exact h _
end
theorem zI3 {σ T:Sto} {k:Nat} {o:O}:(σ++T).set (σ.length+k) o=σ++T.set k o:=by rw [List.set_append_right _ _ (qS _ _),wE]
theorem gX {σ T:Sto} {k:Nat}:(σ++T)[σ.length+k]?=T[k]?:=by rw [jB (qS _ _),wE]
section
variable {d:Nat} {σ:Sto} {sc:Scope} {ρ:Lc}
theorem zF2 {o:Expr} {name:Str} {pos:Pos} {v:V} {T:Sto} {C i j:Nat} {kvs:List (V×V)} {P:Lc->Sto->Prop} (B:Bs w h₀) (ho:Ev w h₀ d sc o ρ (σ++T) fun u σ₁=>u=.ref (σ.length+i)/\σ₁=σ++T) (h1:T[i]?=some (.inst C (σ.length+j))) (h2:T[j]?=some (.dct kvs))
  (hs:Sets w C name) (hk:zM7 kvs=true) (hl:kvs.length<=100) (h:P ρ (σ++T.set j (.dct (putV name v kvs)))):As w h₀ d sc (.Attribute o name pos) v ρ (σ++T) P:=
 jD5 B (ho.mono fun u σ₁ ⟨e1,e2⟩=>by
  subst e1 e2
  exact ⟨σ.length+i,C,σ.length+j,kvs,rfl,by rw [gX];exact h1,by rw [gX];exact h2,hs,hk,hl,by rw [zI3];exact h⟩)
theorem app2 (a b:Sto):(σ++a)++b=σ++(a++b):=zP ..
theorem jU1 (B:Bs w h₀) {P:V->Sto->Prop}
  (h:P (.ref (σ.length+1)) (σ++[.dct [(nm "nodes",.ref (σ.length+2)),(nm "numbers",.ref (σ.length+3)),(nm "weights",.ref (σ.length+4)),(nm "depths",.ref (σ.length+5))],.inst 191 (σ.length+0),.lst [],.dct [],.lst [],.lst []])):Cl w h₀ (d+2) (.ref 191) [] σ P:=by
 refine jG2 (fI:=103) B (by rfl) (by rfl) (by rfl) ?_
 refine zA3 (ps:=[zA "self"]) B (by rfl) (by rfl) (len1 fun oo1=>rfl) rfl (by decide) (fun oo1=>by rfl) ?_
 refine gC ?_;intro R Q
 refine gE ?_ (fun oo1 oo2=>rfl);intro kk;refine gY (gF ⟨by simp,?_⟩)
 rw [zE,app2]
 refine zF2 (i:=1) (j:=0) B (gB rfl ⟨rfl,rfl⟩) rfl rfl ⟨by rfl,by rfl,by rfl,by rfl⟩ rfl (by exact zL rfl) ?_
 refine gC ?_;intro R Q
 refine gE ?_ (fun oo1 oo2=>rfl);intro kk;refine zL6 ?_
 rw [zE,app2]
 refine zF2 (i:=1) (j:=0) B (gB rfl ⟨rfl,rfl⟩) rfl rfl ⟨by rfl,by rfl,by rfl,by rfl⟩ rfl (by exact zL rfl) ?_
 refine gC ?_;intro R Q
 refine gE ?_ (fun oo1 oo2=>rfl);intro kk;refine gY (gF ⟨by simp,?_⟩)
 rw [zE,app2]
 refine zF2 (i:=1) (j:=0) B (gB rfl ⟨rfl,rfl⟩) rfl rfl ⟨by rfl,by rfl,by rfl,by rfl⟩ rfl (by exact zL rfl) ?_
 refine gC ?_;intro R Q
 refine gE ?_ (fun oo1 oo2=>rfl);intro kk;refine gY (gF ⟨by simp,?_⟩)
 rw [zE,app2]
 refine zF2 (i:=1) (j:=0) B (gB rfl ⟨rfl,rfl⟩) rfl rfl ⟨by rfl,by rfl,by rfl,by rfl⟩ rfl (by exact zL rfl) ?_
 refine gG ?_
 exact ⟨rfl,h⟩
theorem uni_init (B:Bs w h₀) {P:V->Sto->Prop}
  (h:P (.ref (σ.length+1)) (σ++[.dct [(nm "above",.ref (σ.length+2)),(nm "lots",.ref (σ.length+3)),(nm "merged",.ref (σ.length+4))],.inst 358 (σ.length+0),.lst [],.lst [],.lst []])):Cl w h₀ (d+2) (.ref 358) [] σ P:=by
 refine jG2 (fI:=294) B (by rfl) (by rfl) (by rfl) ?_
 refine zA3 (ps:=[zA "self"]) B (by rfl) (by rfl) (len1 fun oo1=>rfl) rfl (by decide) (fun oo1=>by rfl) ?_
 refine gC ?_;intro R Q
 refine gE ?_ (fun oo1 oo2=>rfl);intro kk;refine gY (gF ⟨by simp,?_⟩)
 rw [zE,app2]
 refine zF2 (i:=1) (j:=0) B (gB rfl ⟨rfl,rfl⟩) rfl rfl ⟨by rfl,by rfl,by rfl,by rfl⟩ rfl (by exact zL rfl) ?_
 refine gC ?_;intro R Q
 refine gE ?_ (fun oo1 oo2=>rfl);intro kk;refine gY (gF ⟨by simp,?_⟩)
 rw [zE,app2]
 refine zF2 (i:=1) (j:=0) B (gB rfl ⟨rfl,rfl⟩) rfl rfl ⟨by rfl,by rfl,by rfl,by rfl⟩ rfl (by exact zL rfl) ?_
 refine gC ?_;intro R Q
 refine gE ?_ (fun oo1 oo2=>rfl);intro kk;refine gY (gF ⟨by simp,?_⟩)
 rw [zE,app2]
 refine zF2 (i:=1) (j:=0) B (gB rfl ⟨rfl,rfl⟩) rfl rfl ⟨by rfl,by rfl,by rfl,by rfl⟩ rfl (by exact zL rfl) ?_
 refine gG ?_
 exact ⟨rfl,h⟩
end
noncomputable def p0:PH:={ nodes:=[],numbers:=[],wts:=[],dps:=[],uab:=[],lots:=[],merged:=[],edges:=[],forest:=[],known:=[],hab:=[],waiting:=[] }
noncomputable def c0:PC:={ nodes:=[],known:=[],uab:=[],lots:=[],js:=0 }
theorem gp0:GP p0 c0 where
 nodes:=rfl
 numbers:=rfl
 wts:=rfl
 dps:=rfl
 uab:=rfl
 lots:=rfl
 known:=rfl
 waiting:=rfl
 len1:=rfl
 len2:=rfl
 down:=fun i hi=>by cases hi
 small:=by decide
 kids:=fun y hy=>by cases hy
 roots:=fun k hk=>by cases hk
 newest:=fun k oo1=>rfl
 hlen:=by decide
 hbs:=fun k l h=>by cases h
 edges:=by decide
 forest:=by decide
 merged:=by decide
 knl:=by decide
 jsl:=by decide
 lotl:=fun l hl=>by cases hl
noncomputable def idx0:Role->Nat
 | .hd=>0 | .hp=>1 | .bd=>2 | .bk=>3 | .nodes=>4 | .numbers=>5 | .weights=>6 | .depths=>7 | .ud=>8 | .un=>9 | .uab=>10 | .lots=>11 | .merged=>12
 | .edges=>13 | .forest=>14 | .known=>15 | .hab=>16 | .waiting=>17 | .lot _=>18 | .hb _=>18
noncomputable def inv0:Nat->Role
 | 0=>.hd | 1=>.hp | 2=>.bd | 3=>.bk | 4=>.nodes | 5=>.numbers | 6=>.weights | 7=>.depths | 8=>.ud | 9=>.un | 10=>.uab | 11=>.lots | 12=>.merged
 | 13=>.edges | 14=>.forest | 15=>.known | 16=>.hab | 17=>.waiting | _=>.lot 0
noncomputable def tail0 (n:Nat):Sto:=[.dct [(nm "bank",.ref (n+3)),(nm "unions",.ref (n+9)),(nm "edges",.ref (n+13)),(nm "forest",.ref (n+14)),(nm "known",.ref (n+15)),(nm "above",.ref (n+16)),(nm "waiting",.ref (n+17)),(nm "backs",.int 0)],
 .inst 488 (n+0),
 .dct [(nm "nodes",.ref (n+4)),(nm "numbers",.ref (n+5)),(nm "weights",.ref (n+6)),(nm "depths",.ref (n+7))],.inst 191 (n+2),.lst [],.dct [],.lst [],.lst [],
 .dct [(nm "above",.ref (n+10)),(nm "lots",.ref (n+11)),(nm "merged",.ref (n+12))],.inst 358 (n+8),.lst [],.lst [],.lst [],
 .lst [],.lst [],.dct [],.dct [],.lst []]
theorem hb0 (σ:Sto):HB (fun k=>σ.length<=k) (σ++tail0 σ.length) (fun r=>σ.length+idx0 r) p0 where
 at_:=fun r o h=>by
  show (σ++tail0 σ.length)[σ.length+idx0 r]?=some o
  rw [gX,<-h]
  cases r with
  | lot i=>cases h
  | hb k=>cases h
  | _=>rfl
 apart:=fun r r' h h' e=>by
  have e':idx0 r=idx0 r':=Nat.add_left_cancel e
  have back:∀ r,(cell p0 (fun r=>σ.length+idx0 r) r).isSome=true->inv0 (idx0 r)=r:=fun r h=>by
   cases r with
   | lot i=>cases h
   | hb k=>cases h
   | _=>rfl
  rw [<-back r h,<-back r' h',e']
 low:=fun r oo1=>qS _ _
 new:=fun k hk=>by rw [zE] at hk;show σ.length<=k;lia
section
variable {d:Nat} {σ:Sto} {sc:Scope} {ρ:Lc}
set_option linter.unusedSimpArgs false in
end
namespace kP
def S (d:Nat) (σ:Sto) (P:V->Sto->Prop):Prop:=∀ (B:Bs w h₀) (h:P (.ref (σ.length+1)) (σ++tail0 σ.length)),Cl w h₀ (d+4) (.ref 488) [] σ P
noncomputable def d:Nat:=pick fun z=>∀ σ P,S z σ P
noncomputable def σ:Sto:=pick fun z=>∀ P,S d z P
noncomputable def P:V->Sto->Prop:=pick fun z=>S d σ z
theorem core:S d σ P:=by
 intro B h
 refine jG2 (fI:=376) B (by rfl) (by rfl) (by rfl) ?_
 refine zA3 (ps:=[zA "self"]) B (by rfl) (by rfl) (len1 fun oo1=>rfl) rfl (by decide) (fun oo1=>by rfl) ?_
 refine gC ?_;intro R Q
 refine gE ?_ (fun oo1 oo2=>rfl);intro kk;refine zY8 B (zA1 B rfl (by rfl) ⟨_,rfl,by rfl,?_⟩)
 refine jU1 B ?_
 simp only [zE,zV,yF,qK,vX,qJ,app2,jM,yG]
 refine zF2 (i:=1) (j:=0) B (gB rfl ⟨rfl,rfl⟩) rfl rfl ⟨by rfl,by rfl,by rfl,by rfl⟩ rfl (by exact zL rfl) ?_
 refine gC ?_;intro R Q
 refine gE ?_ (fun oo1 oo2=>rfl);intro kk;refine zY8 B (zA1 B rfl (by rfl) ⟨_,rfl,by rfl,?_⟩)
 refine uni_init B ?_
 simp only [zE,zV,yF,jV,qK,vX,qJ,app2,jM,yG,vC]
 refine zF2 (i:=1) (j:=0) B (gB rfl ⟨rfl,rfl⟩) rfl rfl ⟨by rfl,by rfl,by rfl,by rfl⟩ rfl (by exact zL rfl) ?_
 refine gC ?_;intro R Q
 refine gE ?_ (fun oo1 oo2=>rfl);intro kk;refine gY (gF ⟨by simp,?_⟩)
 simp only [zE,zV,yF,jV,qK,vX,qJ,app2,jM,yG,vC]
 refine zF2 (i:=1) (j:=0) B (gB rfl ⟨rfl,rfl⟩) rfl rfl ⟨by rfl,by rfl,by rfl,by rfl⟩ rfl (by exact zL rfl) ?_
 refine gC ?_;intro R Q
 refine gE ?_ (fun oo1 oo2=>rfl);intro kk;refine gY (gF ⟨by simp,?_⟩)
 simp only [zE,zV,yF,jV,qK,vX,qJ,app2,jM,yG,vC]
 refine zF2 (i:=1) (j:=0) B (gB rfl ⟨rfl,rfl⟩) rfl rfl ⟨by rfl,by rfl,by rfl,by rfl⟩ rfl (by exact zL rfl) ?_
 refine gC ?_;intro R Q
 refine gE ?_ (fun oo1 oo2=>rfl);intro kk;refine zL6 ?_
 simp only [zE,zV,yF,jV,qK,vX,qJ,app2,jM,yG,vC]
 refine zF2 (i:=1) (j:=0) B (gB rfl ⟨rfl,rfl⟩) rfl rfl ⟨by rfl,by rfl,by rfl,by rfl⟩ rfl (by exact zL rfl) ?_
 refine gC ?_;intro R Q
 refine gE ?_ (fun oo1 oo2=>rfl);intro kk;refine zL6 ?_
 simp only [zE,zV,yF,jV,qK,vX,qJ,app2,jM,yG,vC]
 refine zF2 (i:=1) (j:=0) B (gB rfl ⟨rfl,rfl⟩) rfl rfl ⟨by rfl,by rfl,by rfl,by rfl⟩ rfl (by exact zL rfl) ?_
 refine gC ?_;intro R Q
 refine gE ?_ (fun oo1 oo2=>rfl);intro kk;refine gY (gF ⟨by simp,?_⟩)
 simp only [zE,zV,yF,jV,qK,vX,qJ,app2,jM,yG,vC]
 refine zF2 (i:=1) (j:=0) B (gB rfl ⟨rfl,rfl⟩) rfl rfl ⟨by rfl,by rfl,by rfl,by rfl⟩ rfl (by exact zL rfl) ?_
 refine gC ?_;intro R Q
 refine gE ?_ (fun oo1 oo2=>rfl);intro kk;refine gI ?_
 simp only [vC]
 refine zF2 (i:=1) (j:=0) B (gB rfl ⟨rfl,rfl⟩) rfl rfl ⟨by rfl,by rfl,by rfl,by rfl⟩ rfl (by exact zL rfl) ?_
 refine gG ?_
 exact ⟨rfl,h⟩
theorem all:∀ d σ P,S d σ P:=cst (p:=fun z=>∀ σ P,S z σ P) (cst (p:=fun z=>∀ P,S d z P) (cst (p:=fun z=>S d σ z) core))
end kP
section
variable {d:Nat} {σ:Sto} {sc:Scope} {ρ:Lc}
theorem jU0 {d σ P}:kP.S d σ P:=kP.all d σ P
end
section
variable {d:Nat} {σ:Sto} {L:Role->Nat} {p:PH} {n₀:Nat->Prop} {c:PC}
noncomputable def zN2 (w:World) (h₀:Heap) (d:Nat) (n₀:Nat->Prop) (hp:Nat) (t:V) (c c':PC) (k:Nat):Prop:=
 ∀ (σ:Sto) (L:Role->Nat) (p:PH) (P:V->Sto->Prop),HB n₀ σ L p->L .hp=hp->GP p c->
  (∀ σ' L' p',HB n₀ σ' L' p'->L' .hp=hp->KB n₀ σ σ'->GP p' c'->P (.int k) σ')->Cl w h₀ d (.ref 398) [.ref hp,t] σ P
noncomputable def zL4 (o:Nat):V:=.tup [opV o]
theorem zO0 (B:Bs w h₀) {o hp:Nat} (A:zF3 c (o,[])):zN2 w h₀ (d+6) n₀ hp (zL4 o) c (addC c (o,[])) c.nodes.length:=fun σ L p P H hL G h=>by
 subst hL
 exact zQ7 B H G A fun σ' L' p' H' hL' K G' oo1=>h σ' L' p' H' hL' K G'
theorem jQ4 (B:Bs w h₀) {o i hp:Nat} (hi:c.nodes[i]?=some (o,[])) (hn:c.nodes.Nodup):zN2 w h₀ (d+6) n₀ hp (zL4 o) c c i:=fun σ L p P H hL G h=>by
 subst hL
 exact jF0 (d:=d+3) B H G hi hn (h _ _ _ (H.more _) rfl (H.kmore _) G)
theorem zX8 (B:Bs w h₀) {o hp:Nat} {parts:List V} (hl:parts.length<=100) (cs:Nat->PC) (ks:Nat->Nat) (hpart:∀ i v,parts[i]?=some v->zN2 w h₀ (d+5) n₀ hp v (cs i) (cs (i+1)) (ks i))
  (A:zF3 (cs parts.length) (o,(List.range parts.length).map ks)):zN2 w h₀ (d+6) n₀ hp (.tup (opV o::parts)) (cs 0) (addC (cs parts.length) (o,(List.range parts.length).map ks)) (cs parts.length).nodes.length:=fun σ L p P H hL G h=>by
 refine jM0 B hl (fun i acc σ'=>acc=nums ((List.range i).map ks)/\∃ L' p',HB n₀ σ' L' p'/\L' .hp=hp/\KB n₀ σ σ'/\GP p' (cs i)) (fun i acc σ' ⟨_,L',p',H',e,_⟩=>⟨L',p',H'.toHeapAt,e⟩) ⟨rfl,L,p,H,hL,KB.refl _ _,G⟩ (fun i v acc σ' hv ⟨ha,L',p',H',hL',K',G'⟩=>?_) fun acc σ' ⟨ha,L',p',H',hL',K',G'⟩ _=>?_
 ·refine hpart i v hv σ' L' p' _ H' hL' G' fun σ₂ L₂ p₂ H₂ hL₂ K₂ G₂=>⟨?_,L₂,p₂,H₂,hL₂,K'.trans K₂,G₂⟩
  rw [ha,yE,qD]
  simp [nums]
 ·subst ha
  rw [<-hL']
  exact zN0 B (H'.more _) G' (x:=(o,(List.range parts.length).map ks)) A fun σ₂ L₂ p₂ H₂ hL₂ K₂ G₂ oo1=>h σ₂ L₂ p₂ H₂ (hL₂.trans hL') (K'.trans ((H'.kmore _).trans K₂)) G₂
theorem jJ1 {hp k d':Nat} {t:V} {c':PC} (h:zN2 w h₀ d n₀ hp t c c' k) (hd:d<=d'):zN2 w h₀ d' n₀ hp t c c' k:=fun σ L p P H hL G q=>(h σ L p P H hL G q).le hd
end
noncomputable def zH5 (c:PC) (x:Nat×List Nat):Bool:=
 (kget x c.nodes.zipIdx).isNone && (kget (canC (c.uab++[c.nodes.length]) x) c.known).isNone && Nat.ble x.2.length 100 && (x.2.all fun k=>wA k c.nodes.length) && wA c.nodes.length 100 &&
  Nat.ble (ded ((x.2.map (fnd (c.uab++[c.nodes.length]))).map fun (k:Nat)=>(k:Int))).length 4
theorem zF3.of {c:PC} {x:Nat×List Nat} (ho:OpOk x.1) (h:zH5 c x=true):zF3 c x:=by
 unfold zH5 at h
 simp only [jL] at h
 obtain ⟨⟨⟨⟨⟨h1,h2⟩,h3⟩,h4⟩,h5⟩,h6⟩:=h
 refine ⟨zT4.mp (Option.isNone_iff_eq_none.mp h1),Option.isNone_iff_eq_none.mp h2,ho,zL h3,fun k hk=>?_,?_,zL h6⟩
 ·have:=jQ.mp h4 k hk
  exact zL this
 ·exact zL h5
theorem zD7:∀ o∈[122,119,104,120,117,121,102,103,112],OpOk o:=by
 intro o ho
 simp only [jN,yP,or_false] at ho
 rcases ho with rfl | rfl | rfl | rfl | rfl | rfl | rfl | rfl | rfl <;> exact ⟨by decide,by decide +kernel,by decide +kernel,by decide⟩
noncomputable def cW (wide:Nat):PC:=addC (addC c0 (122,[])) (119,List.replicate wide 0)
noncomputable def cT (wide:Nat):Nat->PC
 | 0=>cW wide
 | k+1=>addC (cT wide k) (104,[k+1])
noncomputable def wV (wide:Nat):V:=.tup (opV 119::List.replicate wide (zL4 122))
noncomputable def tV (wide:Nat):Nat->V
 | 0=>wV wide
 | k+1=>.tup [opV 104,tV wide k]
theorem zY2 (n:Nat):(List.replicate n (0:Int)).foldl dedS [0]=[0]:=by
 induction n with
 | zero=>rfl
 | succ n ih=>rw [vI,vQ];exact ih
theorem ok_w {wide:Nat} (h:wide<=100):zF3 (addC c0 (122,[])) (119,List.replicate wide 0) where
 new:=by intro q;simp [addC,c0] at q
 fresh:=rfl
 op:=zD7 _ (by simp)
 short:=by simpa using h
 kids:=fun k hk=>by rw [(List.mem_replicate.mp hk).2];decide
 room:=by decide
 few:=by
  rw [List.map_replicate,List.map_replicate]
  cases wide with
  | zero=>decide
  | succ n=>
   rw [vI]
   show (List.foldl dedS _ _).length<=4
   rw [vQ]
   show (List.foldl dedS [0] (List.replicate n 0)).length<=4
   rw [zY2];decide
section
variable {d hp:Nat} {n₀:Nat->Prop}
theorem put_w (B:Bs w h₀) {wide:Nat} (h0:0 < wide) (h:wide<=100):zN2 w h₀ (d+7) n₀ hp (wV wide) c0 (cW wide) 1:=by
 have e:(List.range (List.replicate wide (zL4 122)).length).map (fun oo1=>0)=List.replicate wide 0:=by
  rw [vA,List.map_const',qR]
 have:=zX8 (d:=d+1) (n₀:=n₀) (hp:=hp) B (o:=119) (parts:=List.replicate wide (zL4 122)) (by simpa using h) (fun i=>if i=0 then c0 else addC c0 (122,[])) (fun oo1=>0) (fun i v hv=>?_) (by
  rw [e,vA,if_neg (by lia)];exact ok_w h)
 ·rw [e,vA] at this
  rw [if_pos rfl,if_neg (by lia)] at this
  exact this
 ·have hv':v=zL4 122:=by
   have:=zI hv
   exact (List.mem_replicate.mp this).2
  subst hv'
  rw [if_neg (show ¬ i+1=0 by lia)]
  by_cases hi:i=0
  ·rw [if_pos hi]
   exact zO0 B (zF3.of (zD7 _ (by simp)) rfl)
  ·rw [if_neg hi]
   exact jQ4 B rfl (by decide)
theorem put_h (B:Bs w h₀) {t:V} {c c':PC} {k:Nat} (h:zN2 w h₀ (d+5) n₀ hp t c c' k) (A:zF3 c' (104,[k])):zN2 w h₀ (d+6) n₀ hp (.tup [opV 104,t]) c (addC c' (104,[k])) c'.nodes.length:=
 zX8 B (o:=104) (parts:=[t]) (by simp) (fun i=>if i=0 then c else c') (fun oo1=>k) (fun i v hv=>by
  cases i with
  | zero=>simp at hv;subst hv;exact h
  | succ i=>simp at hv) A
theorem jS0 (B:Bs w h₀) {wide tall:Nat} (h0:0 < wide) (h:wide<=100) (ht:tall<=2):zN2 w h₀ (d+9) n₀ hp (tV wide tall) c0 (cT wide tall) (1+tall):=by
 have a0:=put_w (d:=d) (n₀:=n₀) (hp:=hp) B h0 h
 have a1:=put_h (d:=d+2) B a0 (zF3.of (zD7 _ (by simp)) rfl)
 have a2:=put_h (d:=d+3) B a1 (zF3.of (zD7 _ (by simp)) rfl)
 rcases tall with _ | _ | _ | t
 ·exact jJ1 a0 (by lia)
 ·exact jJ1 a1 (by lia)
 ·exact a2
 ·lia
end
noncomputable abbrev Gr:=Nat->List (Nat×List Nat)
noncomputable def tm (o:Nat) (kids:List V):V:=.tup (opV o::kids)
noncomputable def RF (G:Gr):Nat->List Nat->Nat->List (List V)
 | _,[],n=>if n=0 then [[]] else []
 | 0,_::_,_=>[]
 | k+1,c::cs,n=>(List.range n).flatMap fun i=>(G c).flatMap fun y=>(RF G k y.2 i).flatMap fun kids=>(RF G k cs (n - 1 - i)).map fun rest=>tm y.1 kids::rest
noncomputable def RR (G:Gr) (cs:List Nat) (n:Nat):List (List V):=RF G n cs n
theorem gS {α β:Type} {l:List α} {f g:α->List β} (h:∀ a∈l,f a=g a):l.flatMap f=l.flatMap g:=by
 induction l with
 | nil=>rfl
 | cons a l ih=>rw [zZ,zZ,h a jA,ih fun b hb=>h b (zY _ hb)]
theorem zZ0 (G:Gr) (k n:Nat):RF G k [] n=if n=0 then [[]] else []:=by cases k <;> rfl
theorem RF_any (G:Gr):∀ (k j:Nat) (cs:List Nat) (n:Nat),n<=k->n<=j->RF G k cs n=RF G j cs n:=by
 intro k
 induction k with
 | zero=>
  intro j cs n h _
  obtain rfl:=vV.mp h
  cases cs with
  | nil=>rw [zZ0,zZ0]
  | cons c cs=>cases j <;> rfl
 | succ k ih=>
  intro j cs n h hj
  cases cs with
  | nil=>rw [zZ0,zZ0]
  | cons c cs=>
   cases j with
   | zero=>
    obtain rfl:=vV.mp hj
    rfl
   | succ j=>
    refine gS fun i hi=>gS fun y oo1=>?_
    have hi:=jX.mp hi
    have h1:=jR (zO hi h)
    have h2:=jR (zO hi hj)
    have h3:=sub1 hi
    rw [ih j y.2 i h1 h2,ih j cs (n - 1 - i) (jR (zO h3 h)) (jR (zO h3 hj))]
theorem zJ9 (G:Gr) (n:Nat):RR G [] n=if n=0 then [[]] else []:=zZ0 G n n
theorem zK3 (G:Gr) (c:Nat) (cs:List Nat) (n:Nat):RR G (c::cs) n=(List.range n).flatMap fun i=>(G c).flatMap fun y=>(RR G y.2 i).flatMap fun kids=>(RR G cs (n - 1 - i)).map fun rest=>tm y.1 kids::rest:=by
 cases n with
 | zero=>rfl
 | succ n=>
  refine gS fun i hi=>gS fun y oo1=>?_
  have hi:=jX.mp hi
  rw [RF_any G n i y.2 i (jR hi) (zK _),RF_any G n (n+1 - 1 - i) cs (n+1 - 1 - i) (qG _ _) (zK _)]
  rfl
theorem zB2 {α β:Type} {l:List α} {f:α->List β} (h:∀ a∈l,f a=[]):l.flatMap f=[]:=by
 rw [List.flatMap_eq_nil_iff];exact h
theorem zL2 (G:Gr) (cs:List Nat) (n:Nat) (h:n < cs.length):RR G cs n=[]:=by
 induction cs generalizing n with
 | nil=>exact absurd h (wI _)
 | cons c cs ih=>
  rw [zK3]
  refine zB2 fun i hi=>zB2 fun y oo1=>zB2 fun kids oo1=>?_
  rw [ih (n - 1 - i) (short0 h (jX.mp hi))]
  rfl
theorem RR_one (G:Gr) (c i:Nat):RR G [c] (i+1)=(G c).flatMap fun y=>(RR G y.2 i).map fun kids=>[tm y.1 kids]:=by
 rw [zK3,yE,yW]
 rw [zB2 (l:=List.range i) fun j hj=>zB2 fun y oo1=>zB2 fun kids oo1=>by
  have hj:=jX.mp hj
  rw [zJ9,if_neg (show ¬ i+1 - 1 - j=0 from Nat.sub_ne_zero_of_lt hj)]
  rfl]
 rw [yG,zZ,yI,jI]
 refine gS fun y oo1=>?_
 rw [zJ9,if_pos (show i+1 - 1 - i=0 from yD i)]
 show (RR G y.2 i).flatMap (fun kids=>[[tm y.1 kids]])=_
 induction RR G y.2 i with
 | nil=>rfl
 | cons a l ih=>rw [zZ,zU,ih];rfl
theorem RR_one0 (G:Gr) (c:Nat):RR G [c] 0=[]:=zL2 G [c] 0 (by simp)
noncomputable def Rn (G:Gr) (cs:List Nat) (n:Nat):Nat:=(RR G cs n).length
theorem sum_map_zero {α:Type} {l:List α} {f:α->Nat} (h:∀ a∈l,f a=0):(l.map f).sum=0:=by
 induction l with
 | nil=>rfl
 | cons a l ih=>rw [zU,yN,h a jA,ih fun b hb=>h b (zY _ hb)]
theorem zG0 {α:Type} {l:List α} {f g:α->Nat} (h:∀ a∈l,f a=g a):(l.map f).sum=(l.map g).sum:=by rw [qP h]
theorem zW3 (G:Gr) (c i:Nat):Rn G [c] (i+1)=((G c).map fun y=>Rn G y.2 i).sum:=by
 unfold Rn
 rw [RR_one,yJ]
 exact zG0 fun y oo1=>zD _
theorem jP2 {α:Type} (l:List α) (f:α->Nat) (k:Nat):(l.map fun a=>f a * k).sum=(l.map f).sum * k:=by
 induction l with
 | nil=>simp
 | cons a l ih=>rw [zU,yN,zU,yN,ih,xO]
theorem jP1 (G:Gr) (c:Nat) (cs:List Nat) (n:Nat):Rn G (c::cs) n=((List.range n).map fun i=>Rn G [c] (i+1) * Rn G cs (n - 1 - i)).sum:=by
 have e:∀ i,Rn G [c] (i+1)=((G c).map fun y=>Rn G y.2 i).sum:=zW3 G c
 unfold Rn at e ⊢
 rw [zK3,yJ]
 refine zG0 fun i oo1=>?_
 rw [e,yJ,<-jP2]
 refine zG0 fun y oo1=>?_
 rw [yJ]
 show ((RR G y.2 i).map fun kids=>((RR G cs (n - 1 - i)).map _).length).sum=_
 induction RR G y.2 i with
 | nil=>simp
 | cons a l ih=>rw [zU,yN,ih,zD,zV,xO,wS,qH]
theorem jF3 (G:Gr) (n:Nat):Rn G [] n=if n=0 then 1 else 0:=by
 unfold Rn;rw [zJ9];split <;> rfl
theorem zW8 (G:Gr) {cs:List Nat} {n:Nat} (h:n < cs.length):Rn G cs n=0:=by unfold Rn;rw [zL2 G cs n h];rfl
theorem jD6 {α:Type} {l:List α} {f:α->Nat} {k:Nat} (h:∀ a∈l,f a<=k):(l.map f).sum<=l.length * k:=by
 induction l with
 | nil=>simp
 | cons a l ih=>
  rw [zU,yN,zV,xO,wS]
  exact qH _ k ▸ yL (h a jA) (ih fun b hb=>h b (zY _ hb))
theorem Rn_le (G:Gr) (h4:∀ c,(G c).length<=4):∀ (n:Nat) (cs:List Nat),n<=32->Rn G cs n<=2 ^ (7 * n):=by
 intro n
 induction n using yZ with
 | ind n ih=>
  intro cs hn
  cases cs with
  | nil=>
   rw [jF3]
   split
   ·exact Nat.one_le_two_pow
   ·exact jO _
  | cons c cs=>
   rw [jP1]
   cases n with
   | zero=>simp
   | succ n=>
    refine zB (jD6 (k:=4 * 2 ^ (7 * n)) fun i hi=>?_) ?_
    ·have hi:=jX.mp hi
     have h1:Rn G [c] (i+1)<=4 * 2 ^ (7 * i):=by
      rw [zW3]
      refine zB (jD6 (k:=2 ^ (7 * i)) fun y oo1=>ih i hi y.2 (zB (qI hi) hn)) ?_
      exact yR _ (h4 c)
     have h2:=ih (n+1 - 1 - i) (sub1 hi) cs (zB (zM8 _ _) hn)
     refine zB (wF h1 h2) ?_
     rw [Nat.mul_assoc,<-Nat.pow_add]
     refine Nat.mul_le_mul_left _ ?_
     exact Nat.pow_le_pow_right (by decide) (by rw [<-Nat.mul_add];exact Nat.mul_le_mul_left 7 (jU (Nat.add_sub_cancel' (jR hi))))
    ·rw [qR,<-Nat.mul_assoc]
     have:7 * (n+1)=7+7 * n:=qH (7 * n) 7
     rw [this,Nat.pow_add]
     exact yR _ (zB (yR 4 hn) (by decide))
noncomputable abbrev MK:=List ((List Nat×Nat)×Nat)
noncomputable def keyM (x:List Nat×Nat):V:=.tup [.tup (nums x.1),.int (x.2:Nat)]
theorem zF5 (x:List Nat×Nat):zC3 (keyM x)=true/\zD1 (keyM x)=true:=by
 obtain ⟨a,b⟩:=jC1 x.1
 have p:gR [.tup (nums x.1),.int (x.2:Nat)]=true:=zJ.mpr ⟨a,rfl⟩
 refine ⟨p,zJ.mpr ⟨p,decide_eq_true ?_⟩⟩
 rw [show deps [.tup (nums x.1),.int (x.2:Nat)]=max (deps (nums x.1)+1) (max 0 0) from rfl,b]
 exact zL rfl
theorem keyM_inj {x y:List Nat×Nat} (h:keyM x=keyM y):x=y:=by
 unfold keyM at h
 simp only [V.tup.injEq,List.cons.injEq,V.int.injEq,and_true] at h
 obtain ⟨h1,h2⟩:=h
 obtain ⟨x1,x2⟩:=x
 obtain ⟨y1,y2⟩:=y
 have e1:=jI6 h1
 have e2:x2=y2:=Int.ofNat.inj h2
 simp only at e1
 rw [e1,e2]
theorem zX1 (x y:List Nat×Nat):(keyM x).eqb (keyM y)=decide (x=y):=by
 have h:=V.eqb_iff (zF5 x).1 (zF5 y).1
 by_cases e:x=y
 ·subst e
  rw [decide_eq_true rfl]
  exact h.mpr rfl
 ·rw [decide_eq_false e]
  cases q:(keyM x).eqb (keyM y)
  ·rfl
  ·exact absurd (keyM_inj (h.mp q)) e
noncomputable def mdct (l:MK):List (V×V):=l.map fun y=>(keyM y.1,V.int (y.2:Nat))
theorem zR2 (x:List Nat×Nat) (l:MK):dget (mdct l) (keyM x)=(kget x l).map fun (i:Nat)=>V.int (i:Int):=zX3 zX1
theorem zM9 (l:MK):((mdct l).all fun q=>zD1 q.1)=true:=by
 unfold mdct
 rw [wG,jQ]
 intro q _
 exact (zF5 q.1).2
theorem jT7 {x:List Nat×Nat} {l:MK} {i:Nat} (h:kget x l=none):dput (mdct l) (keyM x) (.int i)=mdct (l++[(x,i)]):=jI8 zX1 h
section
variable {α:Type} [DecidableEq α] {x:α} {l:List (α×Nat)} {i:Nat}
theorem jA6 (h:kget x l=some i):(x,i)∈l:=by
 induction l with
 | nil=>cases h
 | cons y l ih=>
  rw [zH0] at h
  by_cases e:y.1=x
  ·rw [if_pos e] at h;cases h;rw [<-e];exact jA
  ·rw [if_neg e] at h;exact zY _ (ih h)
theorem jU7 (h:kget x l=none):x ∉ l.map (·.1):=by
 induction l with
 | nil=>exact yP
 | cons y l ih=>
  rw [zH0] at h
  by_cases e:y.1=x
  ·rw [if_pos e] at h;cases h
  ·rw [if_neg e] at h;exact fun q=>(jN.mp q).elim (fun q=>e q.symm) (ih h)
theorem jR1 (h:kget x l=none):kget x (l++[(x,i)])=some i:=by
 induction l with
 | nil=>exact if_pos rfl
 | cons y l ih=>
  rw [zH0] at h
  by_cases e:y.1=x
  ·rw [if_pos e] at h;cases h
  ·rw [if_neg e] at h;exact (if_neg e).trans (ih h)
end
structure MOk (G:Gr) (U:List (List Nat)) (N:Nat) (m:MK):Prop where
 nodup:(m.map (·.1)).Nodup
 vals:∀ y∈m,y.2=Rn G y.1.1 y.1.2/\y.1.1∈U/\y.1.2<=N
theorem MOk.nil {G:Gr} {U:List (List Nat)} {N:Nat}:MOk G U N []:=⟨wO,fun y hy=>by cases hy⟩
theorem MOk.put {G:Gr} {U:List (List Nat)} {N:Nat} {m:MK} (M:MOk G U N m) {cs:List Nat} {n:Nat} (h:kget (cs,n) m=none) (hu:cs∈U) (hn:n<=N):MOk G U N (m++[((cs,n),Rn G cs n)]):=by
 refine ⟨?_,fun y hy=>?_⟩
 ·rw [qD]
  refine vR.mpr ⟨M.nodup,by simp,fun a ha b hb=>?_⟩
  simp at hb
  rw [hb]
  intro q
  exact jU7 h (q ▸ ha)
 ·rcases jF.mp hy with hy | hy
  ·exact M.vals y hy
  ·rw [zM.mp hy]
   exact ⟨rfl,hu,hn⟩
theorem jJ9 {α:Type} (U:List α) (N:Nat):(U.flatMap fun u=>(List.range (N+1)).map fun n=>(u,n)).length=U.length * (N+1):=by
 induction U with
 | nil=>simp
 | cons a l ih=>
  rw [zZ,zE,ih,zD,qR,zV,xO,wS,qH]
theorem MOk.len {G:Gr} {U:List (List Nat)} {N:Nat} {m:MK} (M:MOk G U N m):m.length<=U.length * (N+1):=by
 rw [<-jJ9,<-zD (f:=(·.1)) (as:=m)]
 refine M.nodup.length_le_of_subset fun a ha=>?_
 obtain ⟨y,hy,rfl⟩:=jS.mp ha
 obtain ⟨_,h1,h2⟩:=M.vals y hy
 rw [qL]
 exact ⟨y.1.1,h1,jS.mpr ⟨y.1.2,jX.mpr (by lia),rfl⟩⟩
theorem bn_mulF {d:Nat} {σ:Sto} {a b:Int} {P:V->Sto->Prop} (hl:IntMulOk a b) (h:P (.int (a * b)) σ):Bn w h₀ d .Mult (.int a) (.int b) σ P:=fun oo1 oo2 oo3 oo4 oo5 oo6 S ra rb oo7=>by cases ra;cases rb;exact mul_int (Do.tok S (.int _ _) h) hl
theorem jR7 {a b:Nat} (ha:a<=2 ^ 250) (hb:b<=2 ^ 250):IntMulOk (a:Int) (b:Int):=by
 have key:∀ k:Nat,k<=2 ^ 250->Builtin.Int.intBits (k:Int)<=251:=fun k hk=>by
  unfold Builtin.Int.intBits
  split
  ·exact jO _
  ·rw [xJ]
   rcases xK k with h0 | hp
   ·subst h0;decide
   ·have:k.log2 < 251:=(Nat.log2_lt (by lia)).mpr (jY hk (Nat.pow_lt_pow_right (by decide) (by decide)))
    lia
 have h1:=key a ha
 have h2:=key b hb
 unfold IntMulOk
 have:Builtin.Int.intTooBig (Builtin.Int.intBits (a:Int)+Builtin.Int.intBits (b:Int))=false:=by
  unfold Builtin.Int.intTooBig
  refine decide_eq_false ?_
  have:((bitsLine:Nat):Int)=134217728:=by decide +kernel
  lia
 rw [this]
 simp
noncomputable def Ext (S:List Nat) (σ σ':Sto):Prop:=σ.length<=σ'.length/\∀ i o,i ∉ S->σ[i]?=some o->σ'[i]?=some o
theorem Ext.refl (S:List Nat) (σ:Sto):Ext S σ σ:=⟨zK _,fun oo1 oo2 oo3 e=>e⟩
theorem Ext.trans {S:List Nat} {a b c:Sto} (x:Ext S a b) (y:Ext S b c):Ext S a c:=⟨zB x.1 y.1,fun i o h e=>y.2 i o h (x.2 i o h e)⟩
theorem Ext.mono {S T:List Nat} {a b:Sto} (x:Ext S a b) (h:∀ i∈S,i∈T):Ext T a b:=⟨x.1,fun i o hi e=>x.2 i o (fun q=>hi (h i q)) e⟩
theorem Ext.more {S:List Nat} {σ:Sto} (t:Sto):Ext S σ (σ++t):=⟨by simp,fun i o oo1 e=>by rw [zH (zC.mp e).1];exact e⟩
theorem Ext.set {S:List Nat} {σ:Sto} {k:Nat} {o:O} (h:k∈S):Ext S σ (σ.set k o):=⟨by simp,fun i o' hi e=>by rw [jD (fun (q:k=i)=>hi (q ▸ h))];exact e⟩
theorem Ext.drop {S:List Nat} {a b:Sto} (k:Nat) (x:Ext (k::S) a b) (h:a.length<=k):Ext S a b:=⟨x.1,fun i o hi e=>x.2 i o (fun q=>by
 rcases jN.mp q with rfl | q
 ·have:=(zC.mp e).1;lia
 ·exact hi q) e⟩
theorem Ext.get {S:List Nat} {a b:Sto} (x:Ext S a b) {i:Nat} {o:O} (h:i ∉ S) (e:a[i]?=some o):b[i]?=some o:=x.2 i o h e
theorem Sub.put {ρ ρ':Lc} {x:Str} {v:V} (h:ρ'.lookup x=some v) (s:Sub ρ ρ'):Sub ((x,v)::ρ) ρ':=fun y u e=>by
 rw [zX] at e
 cases q:y == x with
 | true=>rw [q] at e;cases e;rw [eq_of_beq q];exact h
 | false=>rw [q] at e;exact s y u e
theorem perm_sum {α:Type} {l m:List α} (p:l.Perm m) (f:α->Nat):(l.map f).sum=(m.map f).sum:=by
 induction p with
 | nil=>rfl
 | cons a _ ih=>rw [zU,zU,yN,yN,ih]
 | swap a b l=>simp only [zU,yN];lia
 | trans _ _ h1 h2=>exact h1.trans h2
theorem int_sum {α:Type} (l:List α) (f:α->Nat):(l.map fun a=>((f a:Nat):Int)).sum=(((l.map f).sum:Nat):Int):=by
 induction l with
 | nil=>rfl
 | cons a l ih=>rw [zU,yN,ih,zU,yN];lia
theorem zZ9 {f:Nat->Nat} {k n:Nat} (hk:k<=n) (h:∀ j,k<=j->j < n->f j=0):((List.range k).map f).sum=((List.range n).map f).sum:=by
 induction n with
 | zero=>obtain rfl:k=0:=vV.mp hk;rfl
 | succ n ih=>
  by_cases e:k=n+1
  ·rw [e]
  ·rw [yE,qD,List.sum_append,<-ih (by lia) fun j h1 h2=>h j h1 (by lia)]
   simp [h n (by lia) (by lia)]
theorem mdct_put {G:Gr} {U:List (List Nat)} {N:Nat} {m:MK} (M:MOk G U N m) {cs:List Nat} {n:Nat} (hu:cs∈U) (hn:n<=N) :
  ∃ m',dput (mdct m) (keyM (cs,n)) (.int (Rn G cs n:Nat))=mdct m'/\MOk G U N m'/\kget (cs,n) m'=some (Rn G cs n):=by
 cases h:kget (cs,n) m with
 | none=>exact ⟨_,jT7 h,M.put h hu hn,jR1 h⟩
 | some i=>
  have hi:=(M.vals _ (jA6 h)).1
  have hi:i=Rn G cs n:=hi
  refine ⟨m,?_,M,by rw [h,hi]⟩
  unfold dput
  rw [zR2,h]
  rw [if_pos (show (Option.map (fun i:Nat=>V.int i) (some _)).isSome=true from rfl)]
  unfold mdct
  rw [jE]
  refine qP fun y hy=>?_
  show (if (keyM y.1).eqb (keyM (cs,n))=true then (keyM y.1,V.int (Rn G cs n:Nat)) else (keyM y.1,V.int (y.2:Nat)))=_
  rw [zX1]
  by_cases e:y.1=(cs,n)
  ·rw [decide_eq_true e,if_pos rfl,(M.vals y hy).1,e]
  ·rw [decide_eq_false e,if_neg (by decide)]
structure HG (p:PH) (G:Gr) (U:List (List Nat)) (N:Nat):Prop where
 down:zE1 p.uab
 z1:p.uab.length < 1000
 z2:p.nodes.length < 1000
 kids:∀ y∈p.nodes,y.2.length<=100/\∀ k∈y.2,k < p.uab.length
 cls:∀ c,[c]∈U->c < p.uab.length/\∃ l,p.lots[fnd p.uab c]?=some l/\l.length<=4/\(canons p l).Nodup/\(∀ n∈l,n < p.nodes.length)/\G c=canons p l
 tail:∀ c cs,c::cs∈U->[c]∈U/\cs∈U
 node:∀ c,[c]∈U->∀ y∈G c,y.2∈U
 len:∀ cs∈U,cs.length<=100
 big:U.length * (N+1)<=100000
 g4:∀ c,(G c).length<=4
 n31:N<=31
structure CAt (σ:Sto) (cn cd kn:Nat) (L:Role->Nat) (p:PH) (mk:V) (m:MK):Prop where
 heap:HeapAt σ L p
 inst:σ[cn]?=some (.inst 276 cd)
 dct:σ[cd]?=some (.dct [(nm "heap",.ref (L .hp)),(nm "mark",mk),(nm "known",.ref kn)])
 mem:σ[kn]?=some (.dct (mdct m))
 off:∀ r,(cell p L r).isSome=true->L r≠kn
 ne1:cn≠kn
 ne2:cd≠kn
theorem HeapAt.ext {σ σ':Sto} {L:Role->Nat} {p:PH} {S:List Nat} (H:HeapAt σ L p) (x:Ext S σ σ') (h:∀ r,(cell p L r).isSome=true->L r ∉ S):HeapAt σ' L p:=⟨fun r o e=>x.2 _ _ (h r (by rw [e];rfl)) (H.at_ r o e),H.apart⟩
theorem CAt.ext {σ σ':Sto} {cn cd kn:Nat} {L:Role->Nat} {p:PH} {mk:V} {m m':MK} (C:CAt σ cn cd kn L p mk m) (x:Ext [kn] σ σ') (hk:σ'[kn]?=some (.dct (mdct m'))):CAt σ' cn cd kn L p mk m':=
 ⟨C.heap.ext x fun r h=>by simpa using C.off r h,x.2 _ _ (by simpa using C.ne1) C.inst,x.2 _ _ (by simpa using C.ne2) C.dct,hk,C.off,C.ne1,C.ne2⟩
theorem CAt.more {σ:Sto} {cn cd kn:Nat} {L:Role->Nat} {p:PH} {mk:V} {m:MK} (C:CAt σ cn cd kn L p mk m) (t:Sto):CAt (σ++t) cn cd kn L p mk m:=
 C.ext (Ext.more t) (by rw [zH (zC.mp C.mem).1];exact C.mem)
theorem CAt.lt {σ:Sto} {cn cd kn:Nat} {L:Role->Nat} {p:PH} {mk:V} {m:MK} (C:CAt σ cn cd kn L p mk m):kn < σ.length:=(zC.mp C.mem).1
theorem jJ4 {y:Nat×List Nat} (h:y.2.length<=100):(zD0 y).length<=1000000:=by
 show (nums y.2).length+1<=_
 rw [zD]
 exact zB (yQ h) (by decide)
theorem Rn_31 (G:Gr) (h4:∀ c,(G c).length<=4) {n:Nat} {cs:List Nat} (h:n<=31):Rn G cs n<=2 ^ 250:=zB (Rn_le G h4 n cs (yK h)) (Nat.pow_le_pow_right (by decide) (zB (Nat.mul_le_mul_left 7 h) (by decide)))
inductive C3 (G:Gr) (U:List (List Nat)) (N cn cd kn:Nat) (L:Role->Nat) (p:PH) (mk:V) (T:List Nat) (σ σ':Sto):Prop
 | mk (m':MK):CAt σ' cn cd kn L p mk m'->MOk G U N m'->Ext T σ σ'->C3 G U N cn cd kn L p mk T σ σ'
theorem C3.get {G:Gr} {U:List (List Nat)} {N cn cd kn:Nat} {L:Role->Nat} {p:PH} {mk:V} {T:List Nat} {σ σ':Sto} (c:C3 G U N cn cd kn L p mk T σ σ') {i:Nat} {o:O} (hi:i ∉ T) (h:σ[i]?=some o):σ'[i]?=some o:=by
 obtain ⟨_,_,_,x⟩:=c
 exact x.get hi h
section
variable {d:Nat} {σ:Sto} {G:Gr} {cn:Nat}
theorem rows_nil (B:Bs w h₀) (n:Nat) {P:V->Sto->Prop} (h:P (.int (Rn G [] n:Nat)) σ):Cl w h₀ (d+1) (.ref 235) [.ref cn,.tup (nums []),.int n] σ P:=by
 refine Cd.cl (zA3 (ps:=[zA "self",zA "classes",zA "size"]) B (by rfl) (by rfl) (len3 fun oo1 oo2 oo3=>rfl) rfl (by decide) (fun oo1=>by rfl) ?_)
 refine gC ?_;intro R Q
 refine zC1 ?_
 refine zS6 (gU (gP (gW B rfl (by rfl) (by rfl) (by decide) ⟨_,rfl,rfl,gJ rfl (zA9 (by simp) ?_)⟩)))
 refine gI (zE4 (gM ?_))
 refine ifT rfl ?_;refine ifT rfl ?_
 refine gC ?_;intro R Q
 refine gL ?_
 refine zG3 (jN9 (gU (gB rfl (gI (zE4 (gM ?_))))))
 rw [jF3] at h
 by_cases h0:n=0
 ·subst h0
  refine ifT rfl ?_
  refine gU (gP (gW B rfl (by rfl) (by rfl) (by decide) ⟨_,rfl,rfl,gJ rfl (zA9 (by simp) ?_)⟩))
  refine gI (zE4 (gM ?_))
  refine ifT rfl ?_
  refine gI ?_
  exact h
 ·refine ifF (zF6 h0) ?_;refine ifF rfl ?_
  refine gI ?_
  rw [if_neg h0] at h
  exact h
theorem jL4 (B:Bs w h₀) (n:Nat) {c:Nat} {cs:List Nat} (hl:(c::cs).length<=100) (hn:n < (c::cs).length) {P:V->Sto->Prop} (h:P (.int (Rn G (c::cs) n:Nat)) σ):Cl w h₀ (d+1) (.ref 235) [.ref cn,.tup (nums (c::cs)),.int n] σ P:=by
 have hnl:(nums (c::cs)).length=(c::cs).length:=zD _
 have hc:(((c::cs).length:Int) == 0)=false:=zF6 (wC cs.length)
 have hz6:(nums (c::cs)).length<=1000000:=hnl ▸ zB hl (by decide)
 refine Cd.cl (zA3 (ps:=[zA "self",zA "classes",zA "size"]) B (by rfl) (by rfl) (len3 fun oo1 oo2 oo3=>rfl) rfl (by decide) (fun oo1=>by rfl) ?_)
 refine gC ?_;intro R Q
 refine zC1 ?_
 refine zS6 (gU (gP (gW B rfl (by rfl) (by rfl) (by decide) ⟨_,rfl,rfl,gJ rfl (zA9 hz6 ?_)⟩)))
 refine gI (zE4 (gM ?_))
 rw [hnl];refine ifF hc ?_
 refine gU (gB rfl (gP (gW B rfl (by rfl) (by rfl) (by decide) ⟨_,rfl,rfl,gJ rfl (zA9 hz6 ?_)⟩)))
 refine zQ0 (gM ?_)
 rw [hnl];refine ifT (decide_eq_true (vT.mpr hn)) ?_
 refine gC ?_;intro R Q
 refine gL ?_
 refine zG3 (jN9 (gU (gB rfl (gI (zE4 (gM ?_))))))
 rw [zW8 G hn] at h
 by_cases h0:n=0
 ·subst h0
  refine ifT rfl ?_
  refine gU (gP (gW B rfl (by rfl) (by rfl) (by decide) ⟨_,rfl,rfl,gJ rfl (zA9 hz6 ?_)⟩))
  refine gI (zE4 (gM ?_))
  rw [hnl];refine ifF hc ?_
  exact gI h
 ·refine ifF (zF6 h0) ?_;refine ifF rfl ?_
  exact gI h
end
section
variable {d:Nat} {L:Role->Nat} {p:PH} {G:Gr} {U:List (List Nat)} {N cn cd kn:Nat} {mk:V}
end
namespace kL
def S (d:Nat) (L:Role->Nat) (p:PH) (G:Gr) (U:List (List Nat)) (N:Nat) (cn:Nat) (cd:Nat) (kn:Nat) (mk:V):Prop:=∀ (B:Bs w h₀) (K:HG p G U N),∀ (n:Nat) (cs:List Nat) (σ:Sto) (m:MK) (P:V->Sto->Prop),cs∈U->n<=N->CAt σ cn cd kn L p mk m->MOk G U N m->
  (∀ σ' m',CAt σ' cn cd kn L p mk m'->MOk G U N m'->Ext [kn] σ σ'->P (.int (Rn G cs n:Nat)) σ')->Cl w h₀ (d+n+5) (.ref 235) [.ref cn,.tup (nums cs),.int n] σ P
noncomputable def d:Nat:=pick fun z=>∀ L p G U N cn cd kn mk,S z L p G U N cn cd kn mk
noncomputable def L:Role->Nat:=pick fun z=>∀ p G U N cn cd kn mk,S d z p G U N cn cd kn mk
noncomputable def p:PH:=pick fun z=>∀ G U N cn cd kn mk,S d L z G U N cn cd kn mk
noncomputable def G:Gr:=pick fun z=>∀ U N cn cd kn mk,S d L p z U N cn cd kn mk
noncomputable def U:List (List Nat):=pick fun z=>∀ N cn cd kn mk,S d L p G z N cn cd kn mk
noncomputable def N:Nat:=pick fun z=>∀ cn cd kn mk,S d L p G U z cn cd kn mk
noncomputable def cn:Nat:=pick fun z=>∀ cd kn mk,S d L p G U N z cd kn mk
noncomputable def cd:Nat:=pick fun z=>∀ kn mk,S d L p G U N cn z kn mk
noncomputable def kn:Nat:=pick fun z=>∀ mk,S d L p G U N cn cd z mk
noncomputable def mk:V:=pick fun z=>S d L p G U N cn cd kn z
theorem core:S d L p G U N cn cd kn mk:=by
 intro B K
 intro n
 induction n using yZ with
 | ind n ih=>
 intro cs σ m P hu hn C M h
 have hcl:=K.len cs hu
 cases cs with
 | nil=>exact (rows_nil (d:=0) B n (h σ m C M (Ext.refl _ _))).le (qN 1 _)
 | cons c cs=>
 by_cases hs:n < (c::cs).length
 ·exact (jL4 (d:=0) B n hcl hs (h σ m C M (Ext.refl _ _))).le (qN 1 _)
 have hnl:(nums (c::cs)).length=(c::cs).length:=zD _
 have hc:(((c::cs).length:Int) == 0)=false:=zF6 (wC cs.length)
 have hz6:(nums (c::cs)).length<=1000000:=hnl ▸ zB hcl (by decide)
 have hlen:(c::cs).length=cs.length+1:=rfl
 refine Cd.cl (zA3 (ps:=[zA "self",zA "classes",zA "size"]) B (by rfl) (by rfl) (len3 fun oo1 oo2 oo3=>rfl) rfl (by decide) (fun oo1=>by rfl) ?_)
 refine gC ?_;intro R Q
 refine zC1 ?_
 refine zS6 (gU (gP (gW B rfl (by rfl) (by rfl) (by decide) ⟨_,rfl,rfl,gJ rfl (zA9 hz6 ?_)⟩)))
 refine gI (zE4 (gM ?_))
 rw [hnl];refine ifF hc ?_
 refine gU (gB rfl (gP (gW B rfl (by rfl) (by rfl) (by decide) ⟨_,rfl,rfl,gJ rfl (zA9 hz6 ?_)⟩)))
 refine zQ0 (gM ?_)
 rw [hnl];refine ifF (decide_eq_false fun q=>hs (vT.mp q)) ?_
 refine gG ?_
 refine gC ?_;intro R Q
 refine gE ?_ (fun oo1 oo2=>rfl);intro kk
 refine ev_s rfl ?_
 refine gN rfl ?_
 refine gC ?_;intro R Q
 refine zC1 ?_
 refine gU (gB rfl (gH B (gB rfl ⟨cn,276,cd,_,_,rfl,C.inst,C.dct,rfl,rfl,⟨by rfl,by rfl,by rfl⟩,?_⟩)))
 refine jG1 (l:=mdct m) (k:=keyM (c::cs,n)) B C.mem (zM9 m) (zF5 _).2 (gM ?_)
 have hg:=zR2 (c::cs,n) m
 cases hm:kget (c::cs,n) m with
 | some i=>
  have hi:i=Rn G (c::cs) n:=(M.vals _ (jA6 hm)).1
  rw [hm] at hg
  rw [hg]
  refine ifF rfl ?_
  refine gG ?_
  refine gC ?_;intro R Q
  refine gL ?_
  refine zA8 ?_
  refine gH B (gB rfl ⟨cn,276,cd,_,_,rfl,C.inst,C.dct,rfl,rfl,⟨by rfl,by rfl,by rfl⟩,?_⟩)
  refine gB rfl (jN2 (l:=mdct m) (k:=keyM (c::cs,n)) C.mem (zM9 m) (zF5 _).2 hg ?_)
  rw [hi]
  exact h σ m C M (Ext.refl _ _)
 | none=>
 rw [hm] at hg
 rw [hg]
 refine ifT rfl ?_
 refine zE7 (Ex.mono (P:=fun fl ρ' σ'=>fl=.next/\Sub [(zA "found",V.int (Rn G (c::cs) n:Nat)),(zA "key",keyM (c::cs,n)),(zA "self",.ref cn)] ρ'/\C3 G U N cn cd kn L p mk [kn] σ σ') ?_ fun fl ρ' σ' hh=>?_)
 case refine_2=>
  obtain ⟨e,hsub,m',C',M',x'⟩:=hh
  subst e
  refine Exs.sub ?_ hsub
  refine gC ?_;intro R Q
  refine gE ?_ (fun oo1 oo2=>rfl);intro kk;refine gB rfl ?_
  refine zR4 (gH B (gB rfl ⟨cn,276,cd,_,_,rfl,C'.inst,C'.dct,rfl,rfl,⟨by rfl,by rfl,by rfl⟩,?_⟩))
  refine gB rfl (si_dct (l:=mdct m') (k:=keyM (c::cs,n)) C'.mem (zM9 m') (zF5 _).2 (by have:=M'.len;have:=K.big;unfold mdct;rw [zD];lia) ?_)
  obtain ⟨m₂,e₂,M₂,g₂⟩:=mdct_put M' hu hn
  rw [e₂]
  refine gG ?_
  have x₂:Ext [kn] σ' (σ'.set kn (.dct (mdct m₂))):=Ext.set (by simp)
  have C₂:=C'.ext x₂ (m':=m₂) (jW C'.lt)
  have x₃:=x'.trans x₂
  generalize σ'.set kn (.dct (mdct m₂))=σ₂ at x₃ C₂ ⊢
  refine gC ?_;intro R Q
  refine gL ?_
  refine zA8 ?_
  have hg₂:=zR2 (c::cs,n) m₂
  rw [g₂] at hg₂
  refine gH B (gB rfl ⟨cn,276,cd,_,_,rfl,C₂.inst,C₂.dct,rfl,rfl,⟨by rfl,by rfl,by rfl⟩,?_⟩)
  refine gB rfl (jN2 (l:=mdct m₂) (k:=keyM (c::cs,n)) C₂.mem (zM9 m₂) (zF5 _).2 hg₂ ?_)
  exact h σ₂ m₂ C₂ M₂ x₃
 refine zC1 (gU (gP (gW B rfl (by rfl) (by rfl) (by decide) ⟨_,rfl,rfl,gJ rfl (zA9 hz6 ?_)⟩)))
 refine gI (zE4 (gM ?_))
 rw [hnl]
 obtain ⟨hc1,hcs⟩:=K.tail c cs hu
 cases cs with
 | nil=>
  refine ifT rfl ?_
  obtain ⟨k,rfl⟩:∃ k,n=k+1:=⟨n - 1,(xI (xM.mp hs)).symm⟩
  obtain ⟨hcu,l,hl,hl4,hnd,hin,hG⟩:=K.cls c hc1
  refine gC ?_;intro R Q
  refine gE ?_ (fun oo1 oo2=>rfl);intro kk;refine gP (gW B rfl (by rfl) (by rfl) (by decide) ⟨_,rfl,rfl,gD ?_⟩)
  refine zC8 rfl rfl (by decide) (by decide) rfl ?_
  refine zB0 (gO B (gH B (gB rfl ⟨cn,276,cd,_,_,rfl,C.inst,C.dct,rfl,rfl,⟨by rfl,by rfl,by rfl⟩,?_⟩)))
  refine ⟨L .hp,488,L .hd,_,466,rfl,C.heap.at_ .hp _ rfl,C.heap.at_ .hd _ rfl,rfl,rfl,⟨by rfl,by rfl,by rfl,by rfl⟩,?_⟩
  refine gD (zA8 (gB rfl (gI (zJ7 (i:=0) (v:=.int c) rfl (by decide) (gF ?_)))))
  refine (nodes_of (d:=d+k+1) B C.heap K.down K.z1 K.z2 hcu hl hl4 hnd hin K.kids fun t T hT=>?_).le (zK _)
  have hTl:T.length<=4:=by rw [hT.length_eq,canons,zD];exact hl4
  have C₁:=(C.more t).more [.lst (T.map zB4)]
  have x₁:Ext [kn] σ (σ++t++[.lst (T.map zB4)]):=(Ext.more t).trans (Ext.more _)
  have hlast:(σ++t++[O.lst (T.map zB4)])[(σ++t).length]?=some (.lst (T.map zB4)):=gK
  have hkn:(σ++t).length ∉ [kn]:=fun q=>qF (C.more t).lt (zM.mp q)
  generalize (σ++t).length=lx at hlast hkn ⊢
  generalize σ++t++[O.lst (T.map zB4)]=σ₁ at C₁ x₁ hlast ⊢
  refine ⟨_,_,gZ hlast,fun i acc σ'=>acc=((T.take i).map fun y=>((Rn G y.2 k:Nat):Int)).map V.int/\C3 G U N cn cd kn L p mk [kn] σ₁ σ',⟨by simp,m,C₁,M,Ext.refl _ _⟩,by rw [zD];exact zB hTl (by decide),fun i acc σ' hh=>hh.2.get hkn hlast,fun i v acc σ' hv hl hI=>?_,fun acc σ' hl hI=>?_⟩
  ·obtain ⟨rfl,m',C',M',x'⟩:=hI
   rw [zS] at hv
   cases hxi:T[i]? with
   | none=>rw [hxi] at hv;cases hv
   | some y=>
    rw [hxi] at hv
    cases hv
    have hyG:y∈G c:=by rw [hG];exact hT.mem_iff.mp (zI hxi)
    have hyU:=K.node c hc1 y hyG
    refine zA4 rfl ?_
    refine gO B (gB rfl ⟨cn,276,cd,_,235,rfl,C'.inst,C'.dct,rfl,rfl,⟨by rfl,by rfl,by rfl,by rfl⟩,?_⟩)
    refine gD (zC0 (gB rfl (gI ⟨1,rfl,zG1 (a:=1) (l:=zD0 y) (jJ4 (K.len _ hyU)) ?_⟩)))
    refine gJ rfl ?_
    rw [show (((k+1:Nat):Int) - 1)=(k:Int) from xG (k:Int) 1]
    refine (ih k (yH k) y.2 σ' m' _ hyU (vS hn) C' M' fun σ₂ m₂ C₂ M₂ x₂=>⟨?_,m₂,C₂,M₂,x'.trans x₂⟩).le (zK _)
    rw [jJ,hxi]
    simp
  ·obtain ⟨rfl,m',C',M',x'⟩:=hI
   refine gF (cl_sum gK ?_)
   refine gN rfl ?_
   refine gG ?_
   have C₂:=C'.more [.lst (((T.take (T.map zB4).length).map fun y=>((Rn G y.2 k:Nat):Int)).map V.int)]
   refine ⟨rfl,?_,m',C₂,M',x₁.trans (x'.trans (Ext.more _))⟩
   rw [zD,zR (zK _),int_sum,perm_sum hT,<-hG,<-zW3]
   exact Sub.put rfl (Sub.put rfl (Sub.put rfl fun oo1 oo2 e=>by cases e))
 | cons c₂ cs=>
  refine ifF (zF6 (m:=1) fun q=>nomatch kX.inj q) ?_
  have hl2:(c::c₂::cs).length=cs.length+2:=rfl
  refine gC ?_;intro R Q
  refine gE ?_ (fun oo1 oo2=>rfl);intro kk;refine gI ?_
  refine gN rfl ?_
  refine gC ?_;intro R Q
  refine zW0 ?_
  refine zI9 (gW B rfl (by rfl) (by rfl) (by decide) ⟨_,rfl,rfl,gD (gI (gD (gV (gV (gB rfl ?_))))) ⟩)
  refine gP (gW B rfl (by rfl) (by rfl) (by decide) ⟨_,rfl,rfl,gJ rfl (zA9 hz6 ?_)⟩)
  refine zK1 (gI (zF8 (gF ?_)))
  rw [hnl]
  have hN:=K.n31
  refine zK4 (by decide) (abs3 (zB hn hN) hcl) ?_
  have hup:(upto 1 ((n:Int) - ((c::c₂::cs).length:Nat)+2)).length=n - cs.length - 1:=by rw [zE5,hl2,jN4]
  refine ⟨fun i ρ' σ'=>ρ'=(zA "found",V.int (((List.range i).map fun j=>Rn G [c] (j+1) * Rn G (c₂::cs) (n - 1 - j)).sum:Nat))::[(zA "key",keyM (c::c₂::cs,n)),(zA "self",.ref cn),(zA "classes",.tup (nums (c::c₂::cs))),(zA "size",.int n)]/\C3 G U N cn cd kn L p mk [kn] σ σ',⟨rfl,m,C,M,Ext.refl _ _⟩,fun oo1 oo2 oo3 oo4=>trivial,fun i v ρ' σ' hv hI=>?_,fun ρ' σ' hI=>?_⟩
  ·obtain ⟨rfl,m',C',M',x'⟩:=hI
   obtain ⟨rfl,hi⟩:=zL0 hv
   rw [hl2,jN4] at hi
   have hin:i+1 < n:=zO (Nat.add_lt_of_lt_sub hi) (qG _ _)
   have hi':=Nat.lt_of_succ_lt hin
   rw [show ((1:Int)+(i:Int))=((i+1:Nat):Int) from Int.add_comm 1 i]
   refine gN rfl ?_
   refine gC ?_;intro R Q
   refine gE ?_ (fun oo1 oo2=>rfl);intro kk;refine gO B (gB rfl ⟨cn,276,cd,_,235,rfl,C'.inst,C'.dct,rfl,rfl,⟨by rfl,by rfl,by rfl,by rfl⟩,?_⟩)
   refine gD (zC0 (gB rfl ?_))
   refine gI ⟨1,rfl,jJ8 hz6 ?_⟩
   refine gJ rfl ?_
   refine (ih (i+1) hin [c] σ' m' _ hc1 (zB (qI hin) hn) C' M' fun σ₂ m₂ C₂ M₂ x₂=>?_).le (qZ (jZ hin d) 4)
   refine gN rfl ?_
   refine gC ?_;intro R Q
   refine zC1 ?_
   refine gU (gB rfl (gI (jK2 (gM ?_))))
   have hsum:((List.range (i+1)).map fun j=>Rn G [c] (j+1) * Rn G (c₂::cs) (n - 1 - j)).sum=((List.range i).map fun j=>Rn G [c] (j+1) * Rn G (c₂::cs) (n - 1 - j)).sum+Rn G [c] (i+1) * Rn G (c₂::cs) (n - 1 - i):=by
    rw [yE,qD,List.sum_append];simp
   by_cases h0:0 < Rn G [c] (i+1)
   ·refine ifT (decide_eq_true (Int.natCast_pos.mpr h0)) ?_
    refine gC ?_;intro R Q
    refine gE ?_ (fun oo1 oo2=>rfl);intro kk;refine gV (gB rfl (gV (gB rfl ?_)))
    refine gO B (gB rfl ⟨cn,276,cd,_,235,rfl,C₂.inst,C₂.dct,rfl,rfl,⟨by rfl,by rfl,by rfl,by rfl⟩,?_⟩)
    refine gD (zC0 (gB rfl (gI ⟨1,rfl,zG1 (a:=1) hz6 ?_⟩)))
    refine gJ rfl ?_
    rw [cast1 hi']
    refine (ih (n - 1 - i) (sub1 hi') (c₂::cs) σ₂ m₂ _ hcs (zB (zM8 n i) hn) C₂ M₂ fun σ₃ m₃ C₃ M₃ x₃=>?_).le (qZ (jZ (sub1 hi') d) 4)
    have h31:=zB hn hN
    have b1:Rn G [c] (i+1)<=2 ^ 250:=Rn_31 G K.g4 (zB (qI hin) h31)
    have b2:Rn G (c₂::cs) (n - 1 - i)<=2 ^ 250:=Rn_31 G K.g4 (zB (zM8 n i) h31)
    refine bn_mulF (jR7 b1 b2) (zF8 ?_)
    refine gN rfl ?_
    refine gG ?_
    refine gG ?_
    refine ⟨_,Sub.put ?_ (Sub.drop rfl (Sub.drop rfl (Sub.drop rfl (Sub.drop rfl (Sub.refl _))))),rfl,m₃,C₃,M₃,x'.trans (x₂.trans x₃)⟩
    rw [hsum]
    show some (V.int _)=some (V.int _)
    congr 2
   ·refine ifF (decide_eq_false fun q=>h0 (Int.natCast_pos.mp q)) ?_
    refine gG ?_
    refine gG ?_
    refine ⟨_,Sub.put ?_ (Sub.drop rfl (Sub.drop rfl (Sub.drop rfl (Sub.refl _)))),rfl,m₂,C₂,M₂,x'.trans x₂⟩
    rw [hsum]
    have:Rn G [c] (i+1)=0:=Nat.eq_zero_of_not_pos h0
    rw [this,Nat.zero_mul,xQ]
    rfl
  ·obtain ⟨rfl,m',C',M',x'⟩:=hI
   refine gG ?_
   refine ⟨rfl,?_,m',C',M',x'⟩
   rw [hup,zZ9 (n:=n) (zB (qG _ _) (qG _ _)) fun j h1 h2=>by rw [zW8 G (cs:=c₂::cs) (short1 h1),Nat.mul_zero],<-jP1]
   exact Sub.put rfl (Sub.put rfl (Sub.put rfl fun oo1 oo2 e=>by cases e))
theorem all:∀ d L p G U N cn cd kn mk,S d L p G U N cn cd kn mk:=cst (p:=fun z=>∀ L p G U N cn cd kn mk,S z L p G U N cn cd kn mk) (cst (p:=fun z=>∀ p G U N cn cd kn mk,S d z p G U N cn cd kn mk) (cst (p:=fun z=>∀ G U N cn cd kn mk,S d L z G U N cn cd kn mk) (cst (p:=fun z=>∀ U N cn cd kn mk,S d L p z U N cn cd kn mk) (cst (p:=fun z=>∀ N cn cd kn mk,S d L p G z N cn cd kn mk) (cst (p:=fun z=>∀ cn cd kn mk,S d L p G U z cn cd kn mk) (cst (p:=fun z=>∀ cd kn mk,S d L p G U N z cd kn mk) (cst (p:=fun z=>∀ kn mk,S d L p G U N cn z kn mk) (cst (p:=fun z=>∀ mk,S d L p G U N cn cd z mk) (cst (p:=fun z=>S d L p G U N cn cd kn z) core)))))))))
end kL
section
variable {d:Nat} {L:Role->Nat} {p:PH} {G:Gr} {U:List (List Nat)} {N cn cd kn:Nat} {mk:V}
theorem jE0 {d L p G U N cn cd kn mk}:kL.S d L p G U N cn cd kn mk:=kL.all d L p G U N cn cd kn mk
end
theorem perm_flat {α β:Type} {l:List α} {f g:α->List β} (h:∀ a∈l,(f a).Perm (g a)):(l.flatMap f).Perm (l.flatMap g):=by
 induction l with
 | nil=>exact .refl _
 | cons a l ih=>
  rw [zZ,zZ]
  exact (h a jA).append (ih fun b hb=>h b (zY _ hb))
theorem zR1 {α β:Type} {f:α->List β} {l:List α} {j:Nat} {a:α} (h:l[j]?=some a):((l.take j).flatMap f).length+(f a).length<=(l.flatMap f).length:=by
 induction l generalizing j with
 | nil=>cases h
 | cons b l ih=>
  cases j with
  | zero=>
   cases h
   rw [List.take_zero,yI,zZ,zE,yF,qK]
   exact qS _ _
  | succ j=>
   rw [vZ,zZ,zZ,zE,zE,qJ]
   exact jZ (ih h) _
theorem zJ1 {α β:Type} {f:α->List β} {l:List α} {j:Nat} {a:α} (h:l[j]?=some a):(l.take (j+1)).flatMap f=(l.take j).flatMap f++f a:=by
 rw [jJ,h]
 simp
theorem zX7 (G:Gr):∀ (n:Nat) (cs:List Nat),∀ l∈RR G cs n,l.length=cs.length:=by
 intro n
 induction n using yZ with
 | ind n ih=>
  intro cs l hl
  cases cs with
  | nil=>
   rw [zJ9] at hl
   split at hl
   ·rw [zM.mp hl];rfl
   ·cases hl
  | cons c cs=>
   rw [zK3] at hl
   obtain ⟨i,hi,hl⟩:=qL.mp hl
   obtain ⟨y,_,hl⟩:=qL.mp hl
   obtain ⟨kids,_,hl⟩:=qL.mp hl
   obtain ⟨rest,hr,rfl⟩:=jS.mp hl
   have hi:=jX.mp hi
   rw [zV,zV,ih _ (sub1 hi) cs rest hr]
noncomputable def segR (G:Gr) (c:Nat) (cs:List Nat) (n i:Nat):List (List V):=(G c).flatMap fun y=>(RR G y.2 i).flatMap fun kids=>(RR G cs (n - 1 - i)).map fun rest=>tm y.1 kids::rest
theorem RR_seg (G:Gr) (c:Nat) (cs:List Nat) (n:Nat):RR G (c::cs) n=(List.range n).flatMap (segR G c cs n):=zK3 G c cs n
theorem zH8 {β:Type} {f:Nat->List β} {k n:Nat} (hk:k<=n) (h:∀ j,k<=j->j < n->f j=[]):(List.range k).flatMap f=(List.range n).flatMap f:=by
 induction n with
 | zero=>rw [vV.mp hk]
 | succ n ih=>
  by_cases e:k=n+1
  ·rw [e]
  ·have hk:=jR (vB hk e)
   rw [yE,yW,<-ih hk fun j h1 h2=>h j h1 (qY h2)]
   simp [h n hk (yH n)]
theorem short2 {n l j:Nat} (h1:n - l<=j) (h2:j < n):n - 1 - j < l:=Nat.sub_lt_left_of_lt_add (qU h2) (zO (wB (qF (Nat.zero_lt_of_lt h2))) (yB.mp h1))
theorem RR_seg' (G:Gr) (c:Nat) (cs:List Nat) {n:Nat} (h:cs.length < n):(List.range (n - cs.length)).flatMap (segR G c cs n)=RR G (c::cs) n:=by
 rw [RR_seg]
 refine zH8 (qG ..) fun j h1 h2=>?_
 unfold segR
 refine zB2 fun y oo1=>zB2 fun kids oo1=>?_
 rw [zL2 G cs (n - 1 - j) (short2 h1 h2)]
 rfl
theorem jF9 (G:Gr) (c:Nat) (cs:List Nat) (n i:Nat):(segR G c cs n i).length=Rn G [c] (i+1) * Rn G cs (n - 1 - i):=by
 unfold segR
 rw [yJ,zW3,<-jP2]
 refine zG0 fun y oo1=>?_
 rw [yJ]
 unfold Rn
 induction RR G y.2 i with
 | nil=>simp
 | cons a l ih=>rw [zU,yN,ih,zD,zV,xO,wS,qH]
theorem seg_le (G:Gr) (c:Nat) (cs:List Nat) {n i:Nat} (h:i < n):((List.range i).flatMap (segR G c cs n)).length+(segR G c cs n i).length<=Rn G (c::cs) n:=by
 unfold Rn
 rw [RR_seg]
 have:=zR1 (f:=segR G c cs n) (l:=List.range n) (j:=i) (a:=i) (by rw [yU h])
 have e:(List.range n).take i=List.range i:=by
  rw [List.take_range,vP (qI h)]
 rw [e] at this
 exact this
theorem CAt.put {σ₁ σ':Sto} {cn cd kn:Nat} {L:Role->Nat} {p:PH} {mk mk':V} {m m':MK} (C:CAt σ' cn cd kn L p mk m) (C₁:CAt σ₁ cn cd kn L p mk' m') {k:Nat} {o:O} (h:σ₁.length<=k):CAt (σ'.set k o) cn cd kn L p mk m:=by
 have h1:kn≠k:=jP (zO C₁.lt h)
 have h2:cn≠k:=jP (zO (zC.mp C₁.inst).1 h)
 have h3:cd≠k:=jP (zO (zC.mp C₁.dct).1 h)
 have h4:∀ r,(cell p L r).isSome=true->L r≠k:=fun r hr=>jP (zO (C₁.heap.lt hr) h)
 refine ⟨⟨fun r o e=>?_,C.heap.apart⟩,?_,?_,?_,C.off,C.ne1,C.ne2⟩
 ·rw [jD (h4 r (by rw [e];rfl)).symm];exact C.heap.at_ r o e
 ·rw [jD h2.symm];exact C.inst
 ·rw [jD h3.symm];exact C.dct
 ·rw [jD h1.symm];exact C.mem
theorem jQ9 {α β:Type} {f:α->β} {l:List α} (h:(l.map f).isEmpty=true):l=[]:=by
 cases l with
 | nil=>rfl
 | cons a l=>simp at h
theorem le_sum {α:Type} {f:α->Nat} {l:List α} {a:α} (h:a∈l):f a<=(l.map f).sum:=by
 induction l with
 | nil=>exact nomatch h
 | cons b l ih=>
  rw [zU,yN]
  rcases jN.mp h with rfl | h
  ·exact qS _ _
  ·exact zB (ih h) (qN _ _)
theorem zF9 {α β γ:Type} (l:List α) (r:List β) (f:α->β->γ):(l.flatMap fun a=>r.map (f a)).length=l.length * r.length:=by
 induction l with
 | nil=>simp
 | cons a l ih=>rw [zZ,zE,ih,zD,zV,xO,wS,qH]
section
variable {d:Nat} {L:Role->Nat} {p:PH} {G:Gr} {U:List (List Nat)} {N cn cd kn:Nat} {mk:V}
inductive SI (G:Gr) (U:List (List Nat)) (N cn cd kn:Nat) (L:Role->Nat) (p:PH) (mk:V) (T:List Nat) (σ:Sto) (fx:Nat) (X:List (List V)) (σ':Sto):Prop
 | mk (m':MK) (A:List (List V)):CAt σ' cn cd kn L p mk m'->MOk G U N m'->Ext T σ σ'->fx < σ'.length->σ'[fx]?=some (.lst (A.map .tup))->A.Perm X->SI G U N cn cd kn L p mk T σ fx X σ'
inductive SJ (G:Gr) (U:List (List Nat)) (N cn cd kn:Nat) (L:Role->Nat) (p:PH) (mk:V) (T:List Nat) (σ:Sto) (fx:Nat) (X:List (List V)) (σ':Sto):Prop
 | mk (m':MK) (A:List (List V)):CAt σ' cn cd kn L p mk m'->MOk G U N m'->Ext T σ σ'->σ'[fx]?=some (.lst (A.map .tup))->A.Perm X->SJ G U N cn cd kn L p mk T σ fx X σ'
inductive SK (cn cd kn:Nat) (L:Role->Nat) (p:PH) (mk:V) (m:MK) (T:List Nat) (σ:Sto) (fx:Nat) (X:List (List V)) (σ':Sto):Prop
 | mk (A:List (List V)):CAt σ' cn cd kn L p mk m->Ext T σ σ'->σ'[fx]?=some (.lst (A.map .tup))->A.Perm X->SK cn cd kn L p mk m T σ fx X σ'
inductive SL (G:Gr) (U:List (List Nat)) (N cn cd kn:Nat) (L:Role->Nat) (p:PH) (mk:V) (R:Nat->Lc) (ρ':Lc) (σ:Sto) (X Y:List (List V)) (σ':Sto):Prop
 | mk (k:Nat) (e:ρ'=R k) (m':MK) (Lt:List (List V)):CAt σ' cn cd kn L p mk m'->MOk G U N m'->Ext [kn] σ σ'->σ.length<=k->σ'[k]?=some (.lst (Lt.map .tup))->(Lt=[]->X=[])->(Lt≠[]->Lt.Perm Y)->SL G U N cn cd kn L p mk R ρ' σ X Y σ'
theorem SJ.get {T:List Nat} {σ:Sto} {fx:Nat} {X:List (List V)} {σ':Sto} (c:SJ G U N cn cd kn L p mk T σ fx X σ') {i:Nat} {o:O} (hi:i ∉ T) (h:σ[i]?=some o):σ'[i]?=some o:=by
 obtain ⟨_,_,_,_,x,_,_⟩:=c
 exact x.get hi h
theorem SK.get {m:MK} {T:List Nat} {σ:Sto} {fx:Nat} {X:List (List V)} {σ':Sto} (c:SK cn cd kn L p mk m T σ fx X σ') {i:Nat} {o:O} (hi:i ∉ T) (h:σ[i]?=some o):σ'[i]?=some o:=by
 obtain ⟨_,_,x,_,_⟩:=c
 exact x.get hi h
end
namespace kK
def S (d:Nat) (L:Role->Nat) (p:PH) (G:Gr) (U:List (List Nat)) (N:Nat) (cn:Nat) (cd:Nat) (kn:Nat) (mk:V):Prop:=∀ (B:Bs w h₀) (K:HG p G U N),∀ (n:Nat) (cs:List Nat) (σ:Sto) (m:MK) (P:V->Sto->Prop),cs∈U->n<=N->Rn G cs n<=1000000->CAt σ cn cd kn L p mk m->MOk G U N m->
  (∀ (σ':Sto) (m':MK) (k:Nat) (l:List (List V)),CAt σ' cn cd kn L p mk m'->MOk G U N m'->Ext [kn] σ σ'->σ.length<=k->σ'[k]?=some (.lst (l.map .tup))->l.Perm (RR G cs n)->P (.ref k) σ')->Cl w h₀ (d+n+6) (.ref 245) [.ref cn,.tup (nums cs),.int n] σ P
noncomputable def d:Nat:=pick fun z=>∀ L p G U N cn cd kn mk,S z L p G U N cn cd kn mk
noncomputable def L:Role->Nat:=pick fun z=>∀ p G U N cn cd kn mk,S d z p G U N cn cd kn mk
noncomputable def p:PH:=pick fun z=>∀ G U N cn cd kn mk,S d L z G U N cn cd kn mk
noncomputable def G:Gr:=pick fun z=>∀ U N cn cd kn mk,S d L p z U N cn cd kn mk
noncomputable def U:List (List Nat):=pick fun z=>∀ N cn cd kn mk,S d L p G z N cn cd kn mk
noncomputable def N:Nat:=pick fun z=>∀ cn cd kn mk,S d L p G U z cn cd kn mk
noncomputable def cn:Nat:=pick fun z=>∀ cd kn mk,S d L p G U N z cd kn mk
noncomputable def cd:Nat:=pick fun z=>∀ kn mk,S d L p G U N cn z kn mk
noncomputable def kn:Nat:=pick fun z=>∀ mk,S d L p G U N cn cd z mk
noncomputable def mk:V:=pick fun z=>S d L p G U N cn cd kn z
theorem core:S d L p G U N cn cd kn mk:=by
 intro B K
 intro n
 induction n using yZ with
 | ind n ih=>
 intro cs σ m P hu hn hb C M h
 have hcl:=K.len cs hu
 have hnl:(nums cs).length=cs.length:=zD _
 have hz6:(nums cs).length<=1000000:=hnl ▸ zB hcl (by decide)
 refine Cd.cl (zA3 (ps:=[zA "self",zA "classes",zA "size"]) B (by rfl) (by rfl) (len3 fun oo1 oo2 oo3=>rfl) rfl (by decide) (fun oo1=>by rfl) ?_)
 refine gC ?_;intro R Q
 refine zC1 ?_
 refine gU (gO B (gB rfl ⟨cn,276,cd,_,235,rfl,C.inst,C.dct,rfl,rfl,⟨by rfl,by rfl,by rfl,by rfl⟩,?_⟩))
 refine gJ rfl ?_
 refine jE0 (d:=d) B K n cs σ m _ hu hn C M fun σ₁ m₁ C₁ M₁ x₁=>?_
 refine gI (zE4 (gM ?_))
 by_cases h0:Rn G cs n=0
 ·rw [h0];refine ifT rfl ?_
  refine gC ?_;intro R Q
  refine gL ?_
  refine gY (gF ⟨by simp,?_⟩)
  refine h _ m₁ σ₁.length [] (C₁.more _) M₁ (x₁.trans (Ext.more _)) x₁.1 gK ?_
  rw [qX.mp h0]
 refine ifF (zF6 h0) ?_
 refine gG ?_
 refine gC ?_;intro R Q
 refine zC1 ?_
 refine gU (gP (gW B rfl (by rfl) (by rfl) (by decide) ⟨_,rfl,rfl,gJ rfl (zA9 hz6 ?_)⟩))
 refine gI (zE4 (gM ?_))
 rw [hnl]
 cases cs with
 | nil=>
  refine ifT rfl ?_
  refine gC ?_;intro R Q
  refine gL ?_
  refine gY (gJ rfl ⟨by simp,?_⟩)
  refine h _ m₁ σ₁.length [[]] (C₁.more _) M₁ (x₁.trans (Ext.more _)) x₁.1 gK ?_
  rw [zJ9]
  rw [jF3] at h0
  split
  ·exact .refl _
  ·rename_i hh;rw [if_neg hh] at h0;exact absurd rfl h0
 | cons c cs=>
 have hl1:(c::cs).length=cs.length+1:=rfl
 have hcsn:cs.length < n:=Nat.lt_of_not_le fun hh=>h0 (zW8 G (wL hh))
 refine ifF (zF6 (wC cs.length)) ?_
 refine gG ?_
 refine gC ?_;intro R Q
 refine gE ?_ (fun oo1 oo2=>rfl);intro kk;refine gY (gF ⟨by simp,?_⟩)
 refine gN rfl ?_
 generalize hfx:σ₁.length=fx
 refine gC ?_;intro R Q
 obtain ⟨hc1,hcs⟩:=K.tail c cs hu
 obtain ⟨hcu,lm,hlm,hl4,hnd,hin,hG⟩:=K.cls c hc1
 have hN:=K.n31
 have hσ₁:=jU hfx
 have hfk:fx ∉ [kn]:=fun q=>qF (zO C₁.lt hσ₁) (zM.mp q)
 have hfk':fx≠kn:=fun q=>hfk (by rw [q];exact zM.mpr rfl)
 refine zD6 ?_;intro kk
 refine zI9 (gW B rfl (by rfl) (by rfl) (by decide) ⟨_,rfl,rfl,gD (gI (gD (gV (gV (gB rfl ?_))))) ⟩)
 refine gP (gW B rfl (by rfl) (by rfl) (by decide) ⟨_,rfl,rfl,gJ rfl (zA9 hz6 ?_)⟩)
 refine zK1 (gI (zF8 (gF ?_)))
 rw [hnl]
 refine zK4 (by decide) (abs3 (zB hn hN) hcl) ?_
 have hup:(upto 1 ((n:Int) - ((c::cs).length:Nat)+2)).length=n - cs.length:=by rw [zE5,hl1,jO9]
 refine ⟨fun i σ'=>SI G U N cn cd kn L p mk [fx,kn] σ₁ fx ((List.range i).flatMap (segR G c cs n)) σ',
  ⟨m₁,[],C₁.more _,M₁,Ext.more _,by simp [<-hfx],by rw [<-hfx];exact gK,.refl _⟩,fun oo1 oo2 oo3=>trivial,fun i v σ' hv hI=>?_,fun σ' hI=>?_⟩
 ·obtain ⟨m',A,C',M',x',hfl,hA,hp⟩:=hI
  obtain ⟨rfl,hi⟩:=zL0 hv
  rw [hl1,jO9] at hi
  have hin':i < n:=zO hi (qG _ _)
  rw [show ((1:Int)+(i:Int))=((i+1:Nat):Int) from Int.add_comm 1 i]
  have hseg:=seg_le G c cs hin'
  rw [jF9] at hseg
  have hsucc:(List.range (i+1)).flatMap (segR G c cs n)=(List.range i).flatMap (segR G c cs n)++segR G c cs n i:=by rw [yE,yW];simp
  refine gN rfl ?_
  refine gC ?_;intro R Q
  refine (Ex.mono (P:=fun fl ρ' σ''=>fl=.next/\ρ'=(zA "is_there",V.bool (decide (cs=[]∨0 < Rn G [c] (i+1))))::(zA "first",V.int ((i+1:Nat):Int))::(zA "found",V.ref fx)::[(zA "self",V.ref cn),(zA "classes",V.tup (nums (c::cs))),(zA "size",V.int n)]/\
   C3 G U N cn cd kn L p mk [kn] σ' σ'') ?_ fun fl ρ' σ₂ hh=>?_)
  ·refine gE ?_ (fun oo1 oo2=>rfl);intro kk;refine ev_or2 (jG3 (gP (gW B rfl (by rfl) (by rfl) (by decide) ⟨_,rfl,rfl,gJ rfl (zA9 hz6 ?_)⟩)))
   refine gI (zE4 (gM ?_))
   rw [hnl]
   cases cs with
   | nil=>
    refine ifT rfl ?_
    refine gN rfl ?_
    rw [decide_eq_true (.inl rfl)]
    exact ⟨rfl,rfl,m',C',M',Ext.refl _ _⟩
   | cons c₂ cs=>
    refine ifF (zF6 (m:=1) fun q=>nomatch kX.inj q) ?_
    refine jG3 (gO B (gB rfl ⟨cn,276,cd,_,235,rfl,C'.inst,C'.dct,rfl,rfl,⟨by rfl,by rfl,by rfl,by rfl⟩,?_⟩))
    refine gD (zC0 (gB rfl ?_))
    refine gI ⟨1,rfl,jJ8 hz6 ?_⟩
    refine gJ rfl ?_
    refine (jE0 (d:=d) B K (i+1) [c] σ' m' _ hc1 (zB hin' hn) C' M' fun σ₂ m₂ C₂ M₂ x₂=>?_).le (qZ (jZ hin' d) 5)
    refine gI (jK2 ?_)
    refine gN rfl ?_
    have e:decide ((c₂::cs)=[]∨0 < Rn G [c] (i+1))=decide ((0:Int) < (Rn G [c] (i+1):Nat)):=by
     simp
    rw [e]
    exact ⟨rfl,rfl,m₂,C₂,M₂,x₂⟩
  obtain ⟨e,e2,m₂,C₂,M₂,x₂⟩:=hh
  subst e
  subst e2
  have y₂:Ext [fx,kn] σ₁ σ₂:=x'.trans (x₂.mono (by simp))
  have hA₂:=x₂.get hfk hA
  have hfl₂:=zO hfl x₂.1
  clear hA hfl x₂ x' C' M'
  refine zE7 (Ex.mono (P:=fun fl ρ' σ''=>fl=.next/\SL G U N cn cd kn L p mk (fun k=>(zA "late",V.ref k)::(zA "is_there",V.bool (decide (cs=[]∨0 < Rn G [c] (i+1))))::(zA "first",V.int ((i+1:Nat):Int))::(zA "found",V.ref fx)::[(zA "self",V.ref cn),(zA "classes",V.tup (nums (c::cs))),(zA "size",V.int n)]) ρ' σ₂ (segR G c cs n i) (RR G cs (n - 1 - i)) σ'') ?_ fun fl ρ' σ₃ hh=>?_)
  ·refine gE ?_ (fun oo1 oo2=>rfl);intro kk;refine zG3 (zX6 (gB rfl (gM ?_)))
   by_cases hb1:cs=[]∨0 < Rn G [c] (i+1)
   ·refine ifT (decide_eq_true hb1) ?_
    refine gO B (gB rfl ⟨cn,276,cd,_,245,rfl,C₂.inst,C₂.dct,rfl,rfl,⟨by rfl,by rfl,by rfl,by rfl⟩,?_⟩)
    refine gD (zC0 (gB rfl (gI ⟨1,rfl,zG1 (a:=1) hz6 ?_⟩)))
    refine gJ rfl ?_
    rw [cast1 hin']
    have hbl:Rn G cs (n - 1 - i)<=1000000:=by
     rcases hb1 with rfl | hb1
     ·rw [jF3];split <;> lia
     ·have:=Nat.le_mul_of_pos_left (Rn G cs (n - 1 - i)) hb1
      exact zB this (zB (zB (qN _ _) hseg) hb)
    refine (ih (n - 1 - i) (sub1 hin') cs σ₂ m₂ _ hcs (zB (zM8 n i) hn) hbl C₂ M₂ fun σ₃ m₃ k Lt C₃ M₃ x₃ hk hLt hp₃=>?_).le (qZ (jZ (sub1 hin') d) 5)
    refine gN rfl ?_
    refine ⟨rfl,k,rfl,m₃,Lt,C₃,M₃,x₃,hk,hLt,fun q=>?_,fun oo1=>hp₃⟩
    rw [q] at hp₃
    refine qX.mp ?_
    rw [jF9]
    unfold Rn
    rw [<-hp₃.length_eq]
    exact Nat.mul_zero _
   ·refine ifF (decide_eq_false hb1) ?_
    refine gY (gF ⟨by simp,?_⟩)
    refine gN rfl ?_
    refine ⟨rfl,σ₂.length,rfl,m₂,[],C₂.more _,M₂,Ext.more _,zK _,gK,fun oo1=>?_,fun q=>absurd rfl q⟩
    refine qX.mp ?_
    rw [jF9]
    have:Rn G [c] (i+1)=0:=by
     rcases xK (Rn G [c] (i+1)) with q | q
     ·exact q
     ·exact absurd (.inr q) hb1
    rw [this,Nat.zero_mul]
  obtain ⟨e,k,e2,m₃,Lt,C₃,M₃,x₃,hk,hLt,hz1,hz2⟩:=hh
  subst e
  subst e2
  have y₃:Ext [fx,kn] σ₁ σ₃:=y₂.trans (x₃.mono (by simp))
  have hA₃:=x₃.get hfk hA₂
  have hfl₃:=zO hfl₂ x₃.1
  have hkf:=qF (zO hfl₂ hk)
  have hkk:=qF (zO C₂.lt hk)
  refine gC ?_;intro R Q
  refine zC1 ?_
  refine gU (gB rfl (gY (gF ⟨by simp,?_⟩)))
  refine jB6 (l:=Lt.map .tup) (by rw [zH (zC.mp hLt).1];exact hLt) gK (gM ?_)
  have C₄:=C₃.more [.lst []]
  have y₄:Ext [fx,kn] σ₁ (σ₃++[.lst []]):=y₃.trans (Ext.more _)
  have hA₄:(σ₃++[O.lst []])[fx]?=some (.lst (A.map .tup)):=by rw [zH hfl₃];exact hA₃
  have hLt₄:(σ₃++[O.lst []])[k]?=some (.lst (Lt.map .tup)):=by rw [zH (zC.mp hLt).1];exact hLt
  have hfl₄:fx < (σ₃++[O.lst []]).length:=(zC.mp hA₄).1
  generalize σ₃++[O.lst []]=σ₄ at C₄ y₄ hA₄ hLt₄ hfl₄ ⊢
  by_cases hnil:Lt=[]
  ·rw [hnil];refine ifF rfl ?_
   refine gG ?_
   refine gG ?_
   refine ⟨Sub.drop rfl (Sub.drop rfl (Sub.drop rfl (Sub.refl _))),m₃,A,C₄,M₃,y₄,hfl₄,hA₄,?_⟩
   rw [hsucc,hz1 hnil,jI]
   exact hp
  have hpL:=hz2 hnil
  have hne:(!(List.map V.tup Lt).isEmpty)=true:=by
   cases Lt with
   | nil=>exact absurd rfl hnil
   | cons a l=>rfl
  refine ifT hne ?_
  refine gC ?_;intro R Q
  have hseg':=seg_le G c cs hin'
  have hAl:=hp.length_eq
  have hLl:=hpL.length_eq
  refine zD6 ?_;intro kk
  refine zB0 (gO B (gH B (gB rfl ⟨cn,276,cd,_,_,rfl,C₄.inst,C₄.dct,rfl,rfl,⟨by rfl,by rfl,by rfl⟩,?_⟩)))
  refine ⟨L .hp,488,L .hd,_,466,rfl,C₄.heap.at_ .hp _ rfl,C₄.heap.at_ .hd _ rfl,rfl,rfl,⟨by rfl,by rfl,by rfl,by rfl⟩,?_⟩
  refine gD (zA8 (gB rfl (gI (zJ7 (i:=0) (v:=.int c) rfl (by decide) (gF ?_)))))
  refine nodes_of (d:=d+n+1) B C₄.heap K.down K.z1 K.z2 hcu hlm hl4 hnd hin K.kids fun t T hT=>?_
  rw [<-hG] at hT
  have hTl:T.length<=4:=by rw [hT.length_eq];exact K.g4 c
  have C₅:=(C₄.more t).more [.lst (T.map zB4)]
  have y₅:Ext [fx,kn] σ₄ (σ₄++t++[.lst (T.map zB4)]):=(Ext.more t).trans (Ext.more _)
  have hlast:(σ₄++t++[O.lst (T.map zB4)])[(σ₄++t).length]?=some (.lst (T.map zB4)):=gK
  have hlx:(σ₄++t).length ∉ [fx,kn]:=fun q=>by
   have h1:=(C₄.more t).lt
   have h2:σ₄.length<=(σ₄++t).length:=by simp
   rcases jN.mp q with q | q
   ·exact qF (zO hfl₄ h2) q
   ·exact qF h1 (zM.mp q)
  have hkx:k ∉ [fx,kn]:=fun q=>by
   rcases jN.mp q with q | q
   ·exact hkf q
   ·rw [zM] at q;exact hkk q
  have hLt₅:=y₅.get hkx hLt₄
  have hA₅:(σ₄++t++[O.lst (T.map zB4)])[fx]?=some (.lst (A.map .tup)):=by rw [zP,zH hfl₄];exact hA₄
  have y₅':=y₄.trans y₅
  generalize (σ₄++t).length=lx at hlast hlx ⊢
  generalize σ₄++t++[O.lst (T.map zB4)]=σ₅ at C₅ hlast hLt₅ hA₅ y₅' ⊢
  refine ⟨_,_,gZ hlast,fun j τ=>SJ G U N cn cd kn L p mk [fx,kn] σ₅ fx (A++(T.take j).flatMap fun y=>(RR G y.2 i).flatMap fun kids=>(RR G cs (n - 1 - i)).map fun rest=>tm y.1 kids::rest) τ,
   ⟨m₃,A,C₅,M₃,Ext.refl _ _,hA₅,by simp⟩,fun j τ hh=>SJ.get hh hlx hlast,fun j v τ hv hI=>?_,fun τ hI=>?_⟩
  ·obtain ⟨m₆,A',C₆,M₆,y₆,hA₆,hp₆⟩:=hI
   rw [zS] at hv
   cases hxi:T[j]? with
   | none=>rw [hxi] at hv;cases hv
   | some y=>
   rw [hxi] at hv
   cases hv
   have hyG:y∈G c:=hT.mem_iff.mp (zI hxi)
   have hyU:=K.node c hc1 y hyG
   have hyl:=K.len _ hyU
   have hT1:=zR1 (f:=fun (y:Nat×List Nat)=>(RR G y.2 i).flatMap fun kids=>(RR G cs (n - 1 - i)).map fun rest=>tm y.1 kids::rest) hxi
   have hT2:(T.flatMap fun y=>(RR G y.2 i).flatMap fun kids=>(RR G cs (n - 1 - i)).map fun rest=>tm y.1 kids::rest).length=(segR G c cs n i).length:=(List.Perm.flatMap_right _ hT).length_eq
   have hT3:=zF9 (RR G y.2 i) (RR G cs (n - 1 - i)) (fun kids rest=>tm y.1 kids::rest)
   have hrl:0 < (RR G cs (n - 1 - i)).length:=by
    rw [<-hLl]
    cases Lt with
    | nil=>exact absurd rfl hnil
    | cons a l=>simp
   have hyb:Rn G y.2 i<=1000000:=by
    have:Rn G y.2 i * 1<=(RR G y.2 i).length * (RR G cs (n - 1 - i)).length:=wF (zK _) hrl
    try simp only at hT1
    exact zB (jU (Nat.mul_one _).symm) (zB this (zB (jU hT3.symm) (zB (zB (qN _ _) hT1) (zB (jU hT2) (zB (zB (qN _ _) hseg') hb)))))
   refine gN rfl ?_
   refine gC ?_;intro R Q
   refine zD6 ?_;intro kk
   refine zB0 (gO B (gB rfl ⟨cn,276,cd,_,245,rfl,C₆.inst,C₆.dct,rfl,rfl,⟨by rfl,by rfl,by rfl,by rfl⟩,?_⟩))
   refine gD (zC0 (gB rfl (gI ⟨1,rfl,zG1 (a:=1) (l:=zD0 y) (jJ4 hyl) ?_⟩)))
   refine gJ rfl ?_
   rw [show (((i+1:Nat):Int) - 1)=(i:Int) from xG (i:Int) 1]
   refine (ih i hin' y.2 τ m₆ _ hyU (zB (qI hin') hn) hyb C₆ M₆ fun σ₇ m₇ k₂ Kd C₇ M₇ y₇ hk₂ hKd hp₇=>?_).le (qZ (jZ hin' d) 5)
   have hfx₆:fx < τ.length:=(zC.mp hA₆).1
   have hkd2:k₂ ∉ [fx,kn]:=fun q=>by
    rcases jN.mp q with q | q
    ·exact qF (zO hfx₆ hk₂) q
    ·exact qF (zO C₆.lt hk₂) (zM.mp q)
   have hA₇:=y₇.get hfk hA₆
   refine ⟨_,_,gZ hKd,fun q τ₂=>SK cn cd kn L p mk m₇ [fx,kn] σ₇ fx (A'++(Kd.take q).flatMap fun kids=>(RR G cs (n - 1 - i)).map fun rest=>tm y.1 kids::rest) τ₂,
    ⟨A',C₇,Ext.refl _ _,hA₇,by simp⟩,fun q τ₂ hh=>SK.get hh hkd2 hKd,fun q v τ₂ hv hI=>?_,fun τ₂ hI=>?_⟩
   ·obtain ⟨A'',C₈,y₈,hA₈,hp₈⟩:=hI
    rw [zS] at hv
    cases hqi:Kd[q]? with
    | none=>rw [hqi] at hv;cases hv
    | some kd=>
    rw [hqi] at hv
    cases hv
    have hkdR:=hp₇.mem_iff.mp (zI hqi)
    have hkdl:=zX7 G i y.2 kd hkdR
    have hLt₈:=y₈.get hkx ((y₇.mono (T:=[fx,kn]) (by simp)).get hkx (y₆.get hkx hLt₅))
    refine gN rfl ?_
    refine gC ?_;intro R Q
    refine zA2 (zB1 (gB rfl ?_))
    refine ⟨"list","list.extend",.inl ⟨_,hA₈,rfl⟩,jH,vD,vE,?_⟩
    refine gD (zC8 rfl rfl (by decide) (by decide) rfl ?_)
    refine zB0 (gB rfl ⟨_,_,gZ hLt₈,fun r acc τ₃=>acc=(Lt.take r).map (fun rest=>V.tup (tm y.1 kd::rest))/\τ₃=τ₂,⟨by simp,rfl⟩,?_,fun r acc τ₃ h=>h.2 ▸ hLt₈,fun r v acc τ₃ hv hl hI=>?_,fun acc τ₃ hl hI=>?_⟩)
    ·rw [zD,hLl]
     have:Rn G cs (n - 1 - i)<=1000000:=by
      have h1:1 * Rn G cs (n - 1 - i)<=Rn G [c] (i+1) * Rn G cs (n - 1 - i):=by
       refine yR _ (Nat.one_le_iff_ne_zero.mpr fun q=>?_)
       have h2:=List.length_pos_of_mem hkdR
       have h3:=le_sum (f:=fun y:Nat×List Nat=>Rn G y.2 i) hyG
       rw [<-zW3,q] at h3
       have:Rn G y.2 i<=0:=h3
       unfold Rn at this
       lia
      exact zB (jU (wS _).symm) (zB h1 (zB (zB (qN _ _) hseg) hb))
     exact this
    ·obtain ⟨rfl,rfl⟩:=hI
     rw [zS] at hv
     cases hri:Lt[r]? with
     | none=>rw [hri] at hv;cases hv
     | some rest=>
     rw [hri] at hv
     cases hv
     have hrestl:=zX7 G _ cs rest (hpL.mem_iff.mp (zI hri))
     refine zA4 rfl ?_
     refine gV (zB9 (gD (gV (zB9 (gD (zA8 (gB rfl (gI (zJ7 (i:=0) (l:=zD0 y) (v:=opV y.1) rfl (by decide) (gF ⟨by simp,?_⟩))))))))))
     refine gB rfl (zO6 (by simp;lia) (gF ⟨by simp,?_⟩))
     refine gB rfl (zO6 (by simp;lia) ⟨?_,rfl⟩)
     rw [jJ,hri]
     simp [tm]
    ·obtain ⟨rfl,rfl⟩:=hI
     rw [zD,zR (zK _)]
     have b1:=zR1 (f:=fun (kids:List V)=>(RR G cs (n - 1 - i)).map fun rest=>tm y.1 kids::rest) hqi
     have b2:(Kd.flatMap fun kids=>(RR G cs (n - 1 - i)).map fun rest=>tm y.1 kids::rest).length=((RR G y.2 i).flatMap fun kids=>(RR G cs (n - 1 - i)).map fun rest=>tm y.1 kids::rest).length:=(List.Perm.flatMap_right _ hp₇).length_eq
     have b3:=hp₈.length_eq
     have b4:=hp₆.length_eq
     rw [zE] at b3 b4
     simp only [zD] at b1
     try simp only at hT1
     refine gF (zM5 (l:=A''.map .tup) (l':=Lt.map fun rest=>V.tup (tm y.1 kd::rest)) (by rw [zH (zC.mp hA₈).1];exact hA₈) gK (by rw [zD,zD,b3,b4,hAl,hLl,qJ,qJ];exact zB (zB (jZ (zB (jZ (zB b1 (jU b2)) _) (zB hT1 (jU hT2))) _) hseg') hb) ?_)
     have y₉:Ext [fx,kn] τ₃ ((τ₃++[O.lst (Lt.map fun rest=>V.tup (tm y.1 kd::rest))]).set fx (.lst (A''.map .tup++Lt.map fun rest=>V.tup (tm y.1 kd::rest)))):=(Ext.more _).trans (Ext.set (by simp))
     have C₉:=(C₈.more [O.lst (Lt.map fun rest=>V.tup (tm y.1 kd::rest))]).put C₁ hσ₁ (o:=.lst (A''.map .tup++Lt.map fun rest=>V.tup (tm y.1 kd::rest)))
     have hfx₉:fx < (τ₃++[O.lst (Lt.map fun rest=>V.tup (tm y.1 kd::rest))]).length:=by
      rw [zE];exact zO (zC.mp hA₈).1 (qS _ _)
     refine gG ?_
     refine ⟨Sub.drop rfl (Sub.refl _),A''++Lt.map (fun rest=>tm y.1 kd::rest),C₉,y₈.trans y₉,?_,?_⟩
     ·rw [jW hfx₉,qD,jE]
      rfl
     ·rw [zJ1 hqi,<-zP]
      exact hp₈.append (hpL.map _)
   ·obtain ⟨A'',C₈,y₈,hA₈,hp₈⟩:=hI
    rw [zD,zR (zK _)] at hp₈
    refine gG ?_
    refine ⟨Sub.drop rfl (Sub.refl _),m₇,A'',C₈,M₇,y₆.trans ((y₇.mono (by simp)).trans y₈),hA₈,?_⟩
    rw [zJ1 hxi,<-zP]
    exact hp₈.trans (hp₆.append (List.Perm.flatMap_right _ hp₇))
  ·obtain ⟨m₆,A',C₆,M₆,y₆,hA₆,hp₆⟩:=hI
   rw [zD,zR (zK _)] at hp₆
   refine gG ?_
   refine gG ?_
   refine ⟨Sub.drop rfl (Sub.drop rfl (Sub.drop rfl (Sub.refl _))),m₆,A',C₆,M₆,y₅'.trans y₆,(zC.mp hA₆).1,hA₆,?_⟩
   rw [hsucc]
   exact hp₆.trans (hp.append (List.Perm.flatMap_right _ hT))
 ·obtain ⟨m',A,C',M',x',hfl,hA,hp⟩:=hI
  refine gC ?_;intro R Q
  refine gL ?_
  refine gB rfl ?_
  rw [hup,RR_seg' G c cs hcsn] at hp
  exact h σ' m' fx A C' M' (x₁.trans (x'.drop fx hσ₁)) (hfx ▸ x₁.1) hA hp
theorem all:∀ d L p G U N cn cd kn mk,S d L p G U N cn cd kn mk:=cst (p:=fun z=>∀ L p G U N cn cd kn mk,S z L p G U N cn cd kn mk) (cst (p:=fun z=>∀ p G U N cn cd kn mk,S d z p G U N cn cd kn mk) (cst (p:=fun z=>∀ G U N cn cd kn mk,S d L z G U N cn cd kn mk) (cst (p:=fun z=>∀ U N cn cd kn mk,S d L p z U N cn cd kn mk) (cst (p:=fun z=>∀ N cn cd kn mk,S d L p G z N cn cd kn mk) (cst (p:=fun z=>∀ cn cd kn mk,S d L p G U z cn cd kn mk) (cst (p:=fun z=>∀ cd kn mk,S d L p G U N z cd kn mk) (cst (p:=fun z=>∀ kn mk,S d L p G U N cn z kn mk) (cst (p:=fun z=>∀ mk,S d L p G U N cn cd z mk) (cst (p:=fun z=>S d L p G U N cn cd kn z) core)))))))))
end kK
section
variable {d:Nat} {L:Role->Nat} {p:PH} {G:Gr} {U:List (List Nat)} {N cn cd kn:Nat} {mk:V}
theorem jP6 {d L p G U N cn cd kn mk}:kK.S d L p G U N cn cd kn mk:=kK.all d L p G U N cn cd kn mk
end
noncomputable def isOp (v:V):Bool:=V.casesOn v false (fun oo1=>false) (fun oo1=>false) (fun s=>s.cps.size == 1) (fun oo1=>false) (fun oo1=>false) fun oo1=>false
noncomputable def zC5:V->Bool:=V.rec (motive_1:=fun oo1=>Bool) (motive_2:=fun oo1=>Bool×Bool) false (fun oo1=>false) (fun oo1=>false) (fun oo1=>false) (fun oo1 p=>p.2) (fun oo1=>false) (fun oo1=>false) (true,false) fun v oo1 a p=>(a && p.1,isOp v && p.1)
noncomputable def zD9 (l:List V):Bool:=(V.rec_1 (motive_1:=fun oo1=>Bool) (motive_2:=fun oo1=>Bool×Bool) false (fun oo1=>false) (fun oo1=>false) (fun oo1=>false) (fun oo1 p=>p.2) (fun oo1=>false) (fun oo1=>false) (true,false) (fun v oo1 a p=>(a && p.1,isOp v && p.1)) l).1
noncomputable def subV:V->List V:=V.rec (motive_1:=fun oo1=>List V) (motive_2:=fun oo1=>List V×List V) [] (fun oo1=>[]) (fun oo1=>[]) (fun oo1=>[]) (fun l p=>List.casesOn l [] fun oo1 oo2=>.tup l::p.2) (fun oo1=>[]) (fun oo1=>[]) ([],[]) fun oo1 oo2 a p=>(a++p.1,p.1)
noncomputable def zC6 (l:List V):List V:=(V.rec_1 (motive_1:=fun oo1=>List V) (motive_2:=fun oo1=>List V×List V) [] (fun oo1=>[]) (fun oo1=>[]) (fun oo1=>[]) (fun l p=>List.casesOn l [] fun oo1 oo2=>.tup l::p.2) (fun oo1=>[]) (fun oo1=>[]) ([],[]) (fun oo1 oo2 a p=>(a++p.1,p.1)) l).1
noncomputable def opOf (v:V):V:=V.casesOn v .none (fun oo1=>.none) (fun oo1=>.none) (fun oo1=>.none) (fun l=>l.headD .none) (fun oo1=>.none) fun oo1=>.none
noncomputable def arOf (v:V):Nat:=V.casesOn v 0 (fun oo1=>0) (fun oo1=>0) (fun oo1=>0) (fun l=>l.tail.length) (fun oo1=>0) fun oo1=>0
theorem zB3 (v:V) (l:List V):zD9 (v::l)=(zC5 v && zD9 l):=rfl
theorem jS7 (v:V) (l:List V):zC5 (.tup (v::l))=(isOp v && zD9 l):=rfl
theorem zA0 (v:V) (l:List V):zC6 (v::l)=subV v++zC6 l:=rfl
theorem zJ4 (v:V) (l:List V):subV (.tup (v::l))=.tup (v::l)::zC6 l:=rfl
theorem zX2 {l:List V} {i:Nat} {v:V} (h:l[i]?=some v):zC6 (l.take (i+1))=zC6 (l.take i)++subV v:=by
 induction l generalizing i with
 | nil=>cases h
 | cons a l ih=>
  cases i with
  | zero=>cases h;exact jI _
  | succ i=>rw [vZ,vZ,zA0,zA0,ih h,zP]
theorem jT5 {l:List V}:∀ {i:Nat} {v:V},l[i]?=some v->(zC6 (l.take i)).length+(subV v).length<=(zC6 l).length:=by
 induction l with
 | nil=>intro i v h;cases h
 | cons a l ih=>
  intro i v h
  cases i with
  | zero=>cases h;rw [zA0,zE];exact zB (jU (qK _)) (qS _ _)
  | succ i=>
   rw [vZ,zA0,zA0,zE,zE,qJ]
   exact jZ (ih h) _
theorem jM8 {l:List V} (h:zD9 l=true):∀ {v:V},v∈l->zC5 v=true:=by
 induction l with
 | nil=>intro v hv;cases hv
 | cons a l ih=>
  intro v hv
  rw [zB3,jL] at h
  rcases jN.mp hv with rfl | hv
  ·exact h.1
  ·exact ih h.2 hv
theorem zA6 {t:V} (h:zC5 t=true):∃ s kids,t=.tup (.str s::kids)/\s.cps.size=1/\zD9 kids=true:=by
 cases t with
 | tup l=>cases l with
  | nil=>exact nomatch h
  | cons v kids=>
   have h:=zJ.mp h
   cases v with
   | str s=>exact ⟨s,kids,rfl,eq_of_beq h.1,h.2⟩
   | _=>exact nomatch h.1
 | _=>exact nomatch h
noncomputable def zM3 (s:List V) (b:Nat) (l:List V):Prop:=∃ Q:List (List V),Q.length=s.length/\(∀ q∈Q,q.length<=b)/\l=(Q.zip s).map fun x=>.tup [.tup x.1,x.2]
theorem zM3.len {s l:List V} {b:Nat} (h:zM3 s b l):l.length=s.length:=by
 obtain ⟨Q,h1,_,h3⟩:=h
 rw [h3,zD,List.length_zip,h1,Nat.min_self]
theorem zM3.get {s l:List V} {b:Nat} (h:zM3 s b l) {i:Nat} {v:V} (hv:l[i]?=some v):∃ q x,v=.tup [.tup q,x]/\s[i]?=some x/\q.length<=b:=by
 obtain ⟨Q,h1,h2,h3⟩:=h
 rw [h3,zS] at hv
 cases hz:(Q.zip s)[i]? with
 | none=>rw [hz] at hv;cases hv
 | some x=>
  rw [hz] at hv
  cases hv
  have hx:=List.getElem?_zip_eq_some.mp hz
  exact ⟨x.1,x.2,rfl,hx.2,h2 _ (zI hx.1)⟩
section
variable {d:Nat}
theorem parts_ok (B:Bs w h₀):∀ (k:Nat) (t:V) (σ:Sto) (P:V->Sto->Prop),t.dep<=k->k<=100->zC5 t=true->(subV t).length<=1000->
  (∀ T l,T[0]?=some (.lst l)->zM3 (subV t) t.dep l->P (.ref σ.length) (σ++T))->Cl w h₀ (d+k+1) (.ref 84) [t] σ P:=by
 intro k
 induction k with
 | zero=>
  intro t σ P h _ ht
  obtain ⟨s,kids,rfl,_,_⟩:=zA6 ht
  exact absurd h (vU _)
 | succ k ih=>
 intro t σ P hk hk1 ht hs h
 obtain ⟨s,kids,rfl,hs1,hkids⟩:=zA6 ht
 have hdep:(V.tup (.str s::kids)).dep=deps kids+1:=congrArg kX (wZ _)
 have hsub:subV (.tup (.str s::kids))=.tup (.str s::kids)::zC6 kids:=rfl
 have hkl:kids.length<=1000:=by
  have:∀ l:List V,zD9 l=true->l.length<=(zC6 l).length:=by
   intro l
   induction l with
   | nil=>intro _;simp
   | cons a l ih=>
    intro h
    rw [zB3,jL] at h
    obtain ⟨_,_,rfl,_,_⟩:=zA6 h.1
    rw [zA0,zE,zJ4]
    have:=ih h.2
    simp;lia
  have:=this kids hkids
  rw [hsub,zV] at hs
  lia
 refine Cd.cl (zA3 (ps:=[zA "t"]) B (by rfl) (by rfl) (len1 fun oo1=>rfl) rfl (by decide) (fun oo1=>by rfl) ?_)
 refine gC ?_;intro R Q
 refine gE ?_ (fun oo1 oo2=>rfl);intro kk;refine gY (gJ rfl ⟨by simp,?_⟩)
 refine gN rfl ?_
 refine gC ?_;intro R Q
 refine zD6 ?_;intro kk
 refine zI9 (gW B rfl (by rfl) (by rfl) (by decide) ⟨_,rfl,rfl,gD (zC0 (gB rfl (gI ⟨1,rfl,zG1 (a:=1) (by simp;lia) (gF ?_)⟩)))⟩)
 refine itc_enum ?_
 have hdrop:(V.str s::kids).drop 1=kids:=rfl
 rw [hdrop]
 refine ⟨fun i σ'=>∃ T l,σ'=σ++T/\T[0]?=some (.lst l)/\zM3 (.tup (.str s::kids)::zC6 (kids.take i)) (deps kids+1) l,⟨[.lst [.tup [.tup [],.tup (.str s::kids)]]],_,rfl,rfl,[[]],rfl,by simp,rfl⟩,fun oo1 oo2 oo3=>trivial,fun i v σ' hv hI=>?_,fun σ' hI=>?_⟩
 ·obtain ⟨T,l,rfl,hT,hl⟩:=hI
  obtain ⟨kid,hkid,rfl⟩:=zT0 hv
  have hmem:=zI hkid
  have hkd:kid.dep<=deps kids:=zG2 hmem
  have hlen:=jT5 hkid
  rw [hsub,zV] at hs
  refine jL3 (zP0 (fun oo1 oo2 h=>h) (zR9 (gN rfl (zR9 (gN rfl ?_)))))
  refine gC ?_;intro R Q
  refine zA2 (zB1 (gB rfl ?_))
  have hfx:(σ++T)[σ.length]?=some (.lst l):=by have:=gX (σ:=σ) (T:=T) (k:=0);rw [xQ] at this;rw [this];exact hT
  refine ⟨"list","list.extend",.inl ⟨_,hfx,rfl⟩,jH,vD,vE,?_⟩
  refine gD (zC8 rfl rfl (by decide) (by decide) rfl ?_)
  refine zB0 (zB8 B (zA1 B rfl (by rfl) ⟨_,rfl,by rfl,gJ rfl ?_⟩))
  refine ih kid (σ++T) _ (by lia) (by lia) (jM8 hkids hmem) (by lia) fun T₂ l₂ hT₂ hl₂=>?_
  have hlx:(σ++T++T₂)[(σ++T).length]?=some (.lst l₂):=by have:=gX (σ:=σ++T) (T:=T₂) (k:=0);rw [xQ] at this;rw [this];exact hT₂
  have hl₂l:=hl₂.len
  have hll:=hl.len
  rw [zV] at hll
  obtain ⟨Q₂,g1,g2,g3⟩:=hl₂
  refine ⟨_,_,gZ hlx,fun j acc σ'=>acc=((Q₂.zip (subV kid)).take j).map (fun x=>V.tup [.tup (.int i::x.1),x.2])/\σ'=σ++T++T₂,⟨by simp,rfl⟩,by lia,fun j acc σ' h=>h.2 ▸ hlx,fun j v acc σ' hv hl hI=>?_,fun acc σ' hl' hI=>?_⟩
  ·obtain ⟨rfl,rfl⟩:=hI
   rw [g3,zS] at hv
   cases hz:(Q₂.zip (subV kid))[j]? with
   | none=>rw [hz] at hv;cases hv
   | some x=>
    rw [hz] at hv
    cases hv
    have hx:=List.getElem?_zip_eq_some.mp hz
    have hq:=g2 _ (zI hx.1)
    refine jO4 (zP0 (X:=LocX) (fun oo1 oo2 h=>.inl h) (zU9 (zA4 rfl (zU9 (zA4 rfl ?_)))))
    refine zB9 (gD (gV (ev_s rfl (gB rfl (zO6 (by simp;lia) (gJ rfl ⟨by simp,?_,rfl⟩))))))
    rw [jJ,hz]
    simp
  ·obtain ⟨rfl,rfl⟩:=hI
   have hzl:(Q₂.zip (subV kid)).length=l₂.length:=by rw [g3,zD]
   rw [zR (by lia)]
   have hfx₂:(σ++T++T₂++[O.lst ((Q₂.zip (subV kid)).map fun x=>V.tup [.tup (.int i::x.1),x.2])])[σ.length]?=some (.lst l):=by
    rw [zP,zP,<-zP σ T,zH (zC.mp hfx).1]
    exact hfx
   refine gF (zM5 (l:=l) hfx₂ gK (by rw [zD];lia) ?_)
   refine gG ?_
   have e:(σ++T++T₂++[O.lst ((Q₂.zip (subV kid)).map fun x=>V.tup [.tup (.int i::x.1),x.2])]).set σ.length (.lst (l++(Q₂.zip (subV kid)).map fun x=>V.tup [.tup (.int i::x.1),x.2]))=σ++(T++T₂++[O.lst ((Q₂.zip (subV kid)).map fun x=>V.tup [.tup (.int i::x.1),x.2])]).set 0 (.lst (l++(Q₂.zip (subV kid)).map fun x=>V.tup [.tup (.int i::x.1),x.2])):=by
    have:=zI3 (σ:=σ) (T:=T++T₂++[O.lst ((Q₂.zip (subV kid)).map fun x=>V.tup [.tup (.int i::x.1),x.2])]) (k:=0) (o:=.lst (l++(Q₂.zip (subV kid)).map fun x=>V.tup [.tup (.int i::x.1),x.2]))
    rw [xQ] at this
    rw [<-this,zP,zP,zP]
   refine ⟨Sub.drop rfl (Sub.drop rfl (Sub.refl _)),_,_,e,jW (by simp only [zE,zV];lia),?_⟩
   obtain ⟨Q,f1,f2,f3⟩:=hl
   refine ⟨Q++Q₂.map (.int i::·),by rw [zE,zD,f1,g1,zX2 hkid,zV,zV,zE];lia,fun q hq=>?_,?_⟩
   ·rcases jF.mp hq with hq | hq
    ·exact f2 q hq
    ·obtain ⟨q',hq',rfl⟩:=jS.mp hq
     have:=g2 q' hq'
     rw [zV];lia
   ·rw [zX2 hkid,<-jM,List.zip_append f1,qD,<-f3,List.zip_map_left,jE]
    rfl
 ·obtain ⟨T,l,rfl,hT,hl⟩:=hI
  refine gC ?_;intro R Q
  refine gL ?_
  refine gB rfl ?_
  have hcl:(counted kids).length=kids.length:=by unfold counted;rw [List.length_mapIdx]
  rw [hcl,zR (zK _)] at hl
  exact h T l hT (by rw [hsub,hdep];exact hl)
end
noncomputable def keyOf (t:V):V:=.tup [.int ((subV t).length:Nat),.tup ((subV t).map opOf),.tup ((subV t).map fun s=>.int ((arOf s:Nat):Int))]
theorem zY3:∀ (k:Nat) (t:V),t.dep<=k->zC5 t=true->∀ x∈subV t,zC5 x=true/\(∃ s kids,x=.tup (.str s::kids)/\s.cps.size=1)/\(arOf x < (subV t).length):=by
 intro k
 induction k with
 | zero=>
  intro t h ht
  obtain ⟨s,kids,rfl,_,_⟩:=zA6 ht
  exact absurd h (vU _)
 | succ k ih=>
  intro t hk ht x hx
  have ht':=ht
  obtain ⟨s,kids,rfl,hs,hkids⟩:=zA6 ht
  have hdep:(V.tup (.str s::kids)).dep=deps kids+1:=congrArg kX (wZ _)
  have hsub:subV (.tup (.str s::kids))=.tup (.str s::kids)::zC6 kids:=rfl
  rw [hsub] at hx
  have key:∀ (l:List V),zD9 l=true->deps l<=k->l.length<=(zC6 l).length/\∀ x∈zC6 l,zC5 x=true/\(∃ s kids,x=.tup (.str s::kids)/\s.cps.size=1)/\arOf x < (zC6 l).length:=by
   intro l
   induction l with
   | nil=>intro _ _;exact ⟨zK _,fun x hx=>by cases hx⟩
   | cons a l ihl=>
    intro hl hd
    rw [zB3,jL] at hl
    rw [zH1] at hd
    obtain ⟨i1,i2⟩:=ihl hl.2 (by lia)
    have i3:=ih a (by lia) hl.1
    obtain ⟨_,_,hf,_,_⟩:=zA6 hl.1
    have hpos:0 < (subV a).length:=by rw [hf,zJ4];simp
    rw [zA0]
    refine ⟨by rw [zE,zV];lia,fun x hx=>?_⟩
    rw [zE]
    rcases jF.mp hx with hx | hx
    ·obtain ⟨a1,a2,a3⟩:=i3 x hx
     exact ⟨a1,a2,by lia⟩
    ·obtain ⟨a1,a2,a3⟩:=i2 x hx
     exact ⟨a1,a2,by lia⟩
  obtain ⟨k1,k2⟩:=key kids hkids (by lia)
  rw [hsub,zV]
  rcases jN.mp hx with rfl | hx
  ·exact ⟨ht',⟨s,kids,rfl,hs⟩,by show kids.length < _;lia⟩
  ·obtain ⟨a1,a2,a3⟩:=k2 x hx
   exact ⟨a1,a2,by lia⟩
section
variable {d:Nat} {σ:Sto}
end
namespace kQ
def S (d:Nat) (σ:Sto) (k:Nat) (t:V) (P:V->Sto->Prop):Prop:=∀ (B:Bs w h₀) (hk:t.dep<=k) (hk1:k<=100) (ht:zC5 t=true) (hs:(subV t).length<=1000) (h:∀ T,P (keyOf t) (σ++T)),Cl w h₀ (d+k+2) (.ref 89) [t] σ P
noncomputable def d:Nat:=pick fun z=>∀ σ k t P,S z σ k t P
noncomputable def σ:Sto:=pick fun z=>∀ k t P,S d z k t P
noncomputable def k:Nat:=pick fun z=>∀ t P,S d σ z t P
noncomputable def t:V:=pick fun z=>∀ P,S d σ k z P
noncomputable def P:V->Sto->Prop:=pick fun z=>S d σ k t z
theorem core:S d σ k t P:=by
 intro B hk hk1 ht hs h
 have hf:=zY3 k t hk ht
 refine Cd.cl (zA3 (ps:=[zA "t"]) B (by rfl) (by rfl) (len1 fun oo1=>rfl) rfl (by decide) (fun oo1=>by rfl) ?_)
 refine gC ?_;intro R Q
 refine zW7 rfl rfl (by decide) (by decide) rfl ?_ rfl (fun env hsc=>by cases env;cases hsc;rfl)
 refine zB0 (zB8 B (zA1 B rfl (by rfl) ⟨_,rfl,by rfl,gJ rfl ?_⟩))
 refine parts_ok (d:=d) B k t σ _ hk hk1 ht hs fun T l hT hl=>?_
 have hlx:(σ++T)[σ.length]?=some (.lst l):=by have:=gX (σ:=σ) (T:=T) (k:=0);rw [xQ] at this;rw [this];exact hT
 have hll:=hl.len
 refine ⟨_,_,gZ hlx,fun j acc σ'=>acc=(subV t).take j/\σ'=σ++T,⟨by simp,rfl⟩,by lia,fun j acc σ' h=>h.2 ▸ hlx,fun j v acc σ' hv hl' hI=>?_,fun acc σ' hl' hI=>?_⟩
 ·obtain ⟨rfl,rfl⟩:=hI
  obtain ⟨q,x,rfl,hx,_⟩:=hl.get hv
  refine jO4 (zP0 (X:=LocX) (fun oo1 oo2 h=>.inl h) (zU9 (zA4 rfl (zU9 (zA4 rfl ?_)))))
  refine gB rfl ⟨?_,rfl⟩
  rw [jJ,hx]
  rfl
 ·obtain ⟨rfl,rfl⟩:=hI
  rw [zR (by lia)]
  have hsx:(σ++T++[O.lst (subV t)])[(σ++T).length]?=some (.lst (subV t)):=gK
  generalize (σ++T).length=sx at hsx ⊢
  rw [zP] at hsx ⊢
  generalize T++[O.lst (subV t)]=T₁ at hsx ⊢
  refine gC ?_;intro R Q
  refine gL ?_
  refine zB9 (gD (gP (gW B rfl (by rfl) (by rfl) (by decide) ⟨_,rfl,rfl,gJ rfl (zA7 hsx (by lia) ?_)⟩)))
  refine gD (gP (gW B rfl (by rfl) (by rfl) (by decide) ⟨_,rfl,rfl,gD ?_⟩))
  refine zC8 rfl rfl (by decide) (by decide) rfl ?_
  refine zB0 (gB rfl ⟨_,_,gZ hsx,fun j acc σ'=>acc=((subV t).take j).map opOf/\σ'=σ++T₁,⟨by simp,rfl⟩,by lia,fun j acc σ' h=>h.2 ▸ hsx,fun j v acc σ' hv hl' hI=>?_,fun acc σ' hl' hI=>?_⟩)
  ·obtain ⟨rfl,rfl⟩:=hI
   obtain ⟨_,⟨s,kids,rfl,_⟩,_⟩:=hf v (zI hv)
   refine zA4 rfl (zA8 (gB rfl (gI (zJ7 (i:=0) (v:=.str s) rfl (by lia) ⟨?_,rfl⟩))))
   rw [jJ,hv]
   simp [opOf]
  ·obtain ⟨rfl,rfl⟩:=hI
   rw [zR (zK _)]
   refine gF (zG7 gK (by rw [zD];lia) ?_)
   have hsx₂:(σ++T₁++[O.lst ((subV t).map opOf)])[sx]?=some (.lst (subV t)):=by rw [zH (zC.mp hsx).1];exact hsx
   rw [zP] at hsx₂ ⊢
   generalize T₁++[O.lst ((subV t).map opOf)]=T₂ at hsx₂ ⊢
   refine gD (gP (gW B rfl (by rfl) (by rfl) (by decide) ⟨_,rfl,rfl,gD ?_⟩))
   refine zC8 rfl rfl (by decide) (by decide) rfl ?_
   refine zB0 (gB rfl ⟨_,_,gZ hsx₂,fun j acc σ'=>acc=((subV t).take j).map (fun s=>V.int ((arOf s:Nat):Int))/\σ'=σ++T₂,⟨by simp,rfl⟩,by lia,fun j acc σ' h=>h.2 ▸ hsx₂,fun j v acc σ' hv hl' hI=>?_,fun acc σ' hl' hI=>?_⟩)
   ·obtain ⟨rfl,rfl⟩:=hI
    obtain ⟨_,⟨s,kids,rfl,_⟩,har⟩:=hf v (zI hv)
    have har':kids.length < (subV t).length:=har
    refine zA4 rfl (gV (gP (gW B rfl (by rfl) (by rfl) (by decide) ⟨_,rfl,rfl,gJ rfl (zA9 (by simp;lia) ?_)⟩)))
    refine gI (zK1 ⟨?_,rfl⟩)
    rw [jJ,hv]
    simp [arOf]
   ·obtain ⟨rfl,rfl⟩:=hI
    rw [zR (zK _)]
    refine gF (zG7 gK (by rw [zD];lia) (gF ⟨by simp,?_⟩))
    rw [zP]
    exact h _
theorem all:∀ d σ k t P,S d σ k t P:=cst (p:=fun z=>∀ σ k t P,S z σ k t P) (cst (p:=fun z=>∀ k t P,S d z k t P) (cst (p:=fun z=>∀ t P,S d σ z t P) (cst (p:=fun z=>∀ P,S d σ k z P) (cst (p:=fun z=>S d σ k t z) core))))
end kQ
section
variable {d:Nat} {σ:Sto}
theorem key_ok {d σ k t P}:kQ.S d σ k t P:=kQ.all d σ k t P
end
noncomputable def mkV (p:PH):V:=.tup [.int (p.nodes.length:Nat),.int (p.edges.length:Nat),.int 0]
section
variable {d:Nat} {σ:Sto} {L:Role->Nat} {p:PH} {G:Gr} {U:List (List Nat)} {N cn cd kn:Nat} {mk:V} {m:MK}
theorem jK0 (B:Bs w h₀) {hp:Nat} {P:V->Sto->Prop}
  (h:P (.ref (σ.length+1)) (σ++[.dct [(nm "heap",.ref hp),(nm "mark",.none),(nm "known",.ref (σ.length+2))],.inst 276 (σ.length+0),.dct []])):Cl w h₀ (d+2) (.ref 276) [.ref hp] σ P:=by
 refine jG2 (fI:=209) B (by rfl) (by rfl) (by rfl) ?_
 refine zA3 (ps:=[zA "self",zA "heap"]) B (by rfl) (by rfl) (len2 fun oo1 oo2=>rfl) rfl (by decide) (fun oo1=>by rfl) ?_
 refine gC ?_;intro R Q
 refine gE ?_ (fun oo1 oo2=>rfl);intro kk;refine gB rfl ?_
 refine zF2 (i:=1) (j:=0) B (gB rfl ⟨rfl,rfl⟩) rfl rfl ⟨by rfl,by rfl,by rfl,by rfl⟩ rfl (by exact zL rfl) ?_
 refine gC ?_;intro R Q
 refine gE ?_ (fun oo1 oo2=>rfl);intro kk;refine jO6 ?_
 refine zF2 (i:=1) (j:=0) B (gB rfl ⟨rfl,rfl⟩) rfl rfl ⟨by rfl,by rfl,by rfl,by rfl⟩ rfl (by exact zL rfl) ?_
 refine gC ?_;intro R Q
 refine gE ?_ (fun oo1 oo2=>rfl);intro kk;refine zL6 ?_
 rw [zE,app2]
 refine zF2 (i:=1) (j:=0) B (gB rfl ⟨rfl,rfl⟩) rfl rfl ⟨by rfl,by rfl,by rfl,by rfl⟩ rfl (by exact zL rfl) ?_
 refine gG ?_
 exact ⟨rfl,h⟩
noncomputable def jO1 (G:Gr) (U:List (List Nat)) (N:Nat) (p:PH) (mk:V) (m:MK):Prop:=mk=.none∨(mk=mkV p/\MOk G U N m)
theorem jM9 (B:Bs w h₀) (C:CAt σ cn cd kn L p mk m) (hcd:∀ r,(cell p L r).isSome=true->L r≠cd) (hcc:cn≠cd) (F:jO1 G U N p mk m) (hz:p.nodes.length < 1000) (he:p.edges.length<=1000) {n:Nat} (hn:n<=200) {P:V->Sto->Prop}
  (h:∀ σ' kn' m',CAt σ' cn cd kn' L p (mkV p) m'->MOk G U N m'->Ext [cd] σ σ'->(kn'=kn∨σ.length<=kn')->P .none σ'):Cl w h₀ (d+3) (.ref 216) [.ref cn,.int n] σ P:=by
 refine Cd.cl (zA3 (ps:=[zA "self",zA "size"]) B (by rfl) (by rfl) (len2 fun oo1 oo2=>rfl) rfl (by decide) (fun oo1=>by rfl) ?_)
 refine gC ?_;intro R Q
 refine zC1 ?_
 refine gU (gB rfl (zZ1 B rfl (by rfl) (jK2 (gM ?_))))
 refine ifF (decide_eq_false (by lia)) ?_
 refine gG ?_
 refine gC ?_;intro R Q
 refine gE ?_ (fun oo1 oo2=>rfl);intro kk;refine zB9 (gD (zJ5 B (gH B (gB rfl ⟨cn,276,cd,_,_,rfl,C.inst,C.dct,rfl,rfl,⟨by rfl,by rfl,by rfl⟩,?_⟩))))
 refine ⟨L .hp,488,L .hd,_,383,rfl,C.heap.at_ .hp _ rfl,C.heap.at_ .hd _ rfl,rfl,rfl,⟨by rfl,by rfl,by rfl,by rfl⟩,?_⟩
 refine jQ8 (d:=d) B C.heap hz ?_
 refine gD (gP (gW B rfl (by rfl) (by rfl) (by decide) ⟨_,rfl,rfl,gD ?_⟩))
 refine gH B (gH B (gB rfl ⟨cn,276,cd,_,_,rfl,C.inst,C.dct,rfl,rfl,⟨by rfl,by rfl,by rfl⟩,?_⟩))
 refine ⟨L .hp,488,L .hd,_,_,rfl,C.heap.at_ .hp _ rfl,C.heap.at_ .hd _ rfl,rfl,rfl,⟨by rfl,by rfl,by rfl⟩,?_⟩
 refine gF (zA7 (C.heap.at_ .edges _ rfl) (by lia) ?_)
 refine gD (gH B (gH B (gB rfl ⟨cn,276,cd,_,_,rfl,C.inst,C.dct,rfl,rfl,⟨by rfl,by rfl,by rfl⟩,?_⟩)))
 refine ⟨L .hp,488,L .hd,_,_,rfl,C.heap.at_ .hp _ rfl,C.heap.at_ .hd _ rfl,rfl,rfl,⟨by rfl,by rfl,by rfl⟩,?_⟩
 refine gF ⟨by simp,?_⟩
 refine gN rfl ?_
 try dsimp only
 refine gC ?_;intro R Q
 refine zC1 ?_
 rcases F with rfl | ⟨rfl,M⟩
 ·refine gU (gB rfl (gH B (gB rfl ⟨cn,276,cd,_,_,rfl,C.inst,C.dct,rfl,rfl,⟨by rfl,by rfl,by rfl⟩,?_⟩)))
  refine zV8 (gM ?_)
  refine ifT rfl ?_
  refine gC ?_;intro R Q
  refine gE ?_ (fun oo1 oo2=>rfl);intro kk;refine gB rfl ?_
  refine jD5 B (gB rfl ⟨cn,276,cd,_,rfl,C.inst,C.dct,⟨by rfl,by rfl,by rfl,by rfl⟩,rfl,by exact zL rfl,?_⟩)
  refine gC ?_;intro R Q
  refine gE ?_ (fun oo1 oo2=>rfl);intro kk;refine zL6 ?_
  have hcl:cd < σ.length:=(zC.mp C.dct).1
  have hnl:cn < σ.length:=(zC.mp C.inst).1
  have g1:∀ (o o':O),(σ.set cd o++[o'])[cn]?=some (.inst 276 cd):=fun o o'=>by
   rw [zH (by rw [jV];exact hnl),jD hcc.symm];exact C.inst
  have g2:∀ (o o':O),(σ.set cd o++[o'])[cd]?=some o:=fun o o'=>by
   rw [zH (by rw [jV];exact hcl),jW hcl]
  refine jD5 B (gB rfl ⟨cn,276,cd,_,rfl,g1 _ _,g2 _ _,⟨by rfl,by rfl,by rfl,by rfl⟩,rfl,by exact zL rfl,?_⟩)
  refine gG ?_
  refine gG ?_
  have e:∀ (o o' o'':O),(σ.set cd o++[o']).set cd o''=σ.set cd o''++[o']:=fun o o' o''=>by
   rw [wR _ _ (by rw [jV];exact hcl),List.set_set]
  rw [e]
  have hlen:∀ o:O,(σ.set cd o).length=σ.length:=fun o=>jV
  have g3:∀ o:O,(σ.set cd o++[O.dct []])[σ.length]?=some (.dct []):=fun o=>by
   have:=gK (σ:=σ.set cd o) (o:=O.dct [])
   rw [hlen] at this
   exact this
  have x:∀ (o o':O),Ext [cd] σ (σ.set cd o++[o']):=fun o o'=>(Ext.set (by simp)).trans (Ext.more _)
  refine h _ σ.length [] ?_ MOk.nil (x _ _) (.inr (zK _))
  refine ⟨C.heap.ext (x _ _) fun r hr=>by simpa using hcd r hr,g1 _ _,?_,?_,fun r hr=>jP (C.heap.lt hr),by lia,by lia⟩
  ·rw [g2,hlen];rfl
  ·exact g3 _
 ·refine gU (gB rfl (gH B (gB rfl ⟨cn,276,cd,_,_,rfl,C.inst,C.dct,rfl,rfl,⟨by rfl,by rfl,by rfl⟩,?_⟩)))
  refine jQ5 (m:=[.int (p.nodes.length:Nat),.int (p.edges.length:Nat),.int 0]) rfl rfl (zL rfl) (gM ?_)
  have e:eqbs [V.int (p.nodes.length:Nat),V.int (p.edges.length:Nat),V.int 0] [V.int (p.nodes.length:Nat),V.int (p.edges.length:Nat),V.int 0]=true:=(zP2 rfl rfl).mpr rfl
  rw [e];refine ifF rfl ?_
  refine gG ?_
  refine gG ?_
  exact h σ kn m C M (Ext.refl _ _) (.inl rfl)
end
theorem RR_terms (G:Gr):∀ (n:Nat) (cs:List Nat),∀ l∈RR G cs n,zD9 l=true/\(zC6 l).length=n:=by
 intro n
 induction n using yZ with
 | ind n ih=>
  intro cs l hl
  cases cs with
  | nil=>
   rw [zJ9] at hl
   split at hl
   ·rename_i h;rw [zM.mp hl];exact ⟨rfl,h.symm⟩
   ·cases hl
  | cons c cs=>
   rw [zK3] at hl
   obtain ⟨i,hi,hl⟩:=qL.mp hl
   obtain ⟨y,_,hl⟩:=qL.mp hl
   obtain ⟨kids,hk,hl⟩:=qL.mp hl
   obtain ⟨rest,hr,rfl⟩:=jS.mp hl
   have hi:=jX.mp hi
   obtain ⟨a1,a2⟩:=ih i hi y.2 kids hk
   obtain ⟨b1,b2⟩:=ih _ (sub1 hi) cs rest hr
   refine ⟨?_,?_⟩
   ·rw [zB3,b1,Bool.and_true]
    unfold tm opV
    rw [jS7,a1]
    rfl
   ·rw [zA0,zE,b2]
    unfold tm opV
    rw [zJ4,zV,a2]
    exact jH4 hi
theorem jH8:∀ (k:Nat) (t:V),t.dep<=k->zC5 t=true->t.dep<=(subV t).length:=by
 intro k
 induction k with
 | zero=>exact fun t h oo1=>zB h (jO _)
 | succ k ih=>
  intro t hk ht
  obtain ⟨s,kids,rfl,hs,hkids⟩:=zA6 ht
  have hdep:(V.tup (.str s::kids)).dep=deps kids+1:=congrArg kX (wZ _)
  have hsub:subV (.tup (.str s::kids))=.tup (.str s::kids)::zC6 kids:=rfl
  have key:∀ (l:List V),zD9 l=true->deps l<=k->deps l<=(zC6 l).length:=by
   intro l
   induction l with
   | nil=>intro _ _;exact zK _
   | cons a l ihl=>
    intro hl hd
    rw [zB3,jL] at hl
    rw [zH1] at hd ⊢
    rw [zA0,zE]
    exact Nat.max_le.mpr ⟨zB (ih a (zB (xD _ _) hd) hl.1) (qS _ _),zB (ihl hl.2 (zB (wX _ _) hd)) (qN _ _)⟩
  rw [hdep,hsub,zV]
  exact yQ (key kids hkids (qV (show deps kids+1<=k+1 from hdep ▸ hk)))
noncomputable def RT (G:Gr) (c n:Nat):List V:=(RR G [c] n).map fun l=>l.headD .none
theorem jE4 {G:Gr} {c n:Nat} {t:V} (h:t∈RT G c n):zC5 t=true/\(subV t).length=n/\t.dep<=n:=by
 obtain ⟨l,hl,rfl⟩:=jS.mp h
 have h1:=zX7 G n [c] l hl
 obtain ⟨h2,h3⟩:=RR_terms G n [c] l hl
 obtain ⟨t,rfl⟩:∃ t,l=[t]:=by
  cases l with
  | nil=>cases h1
  | cons a l=>cases l with
   | nil=>exact ⟨a,rfl⟩
   | cons b l=>cases h1
 rw [zB3,jL] at h2
 rw [zA0,show zC6 []=[] from rfl,jI] at h3
 have:=jH8 _ t (zK _) h2.1
 exact ⟨h2.1,h3,by show t.dep<=n;lia⟩
noncomputable def g3 (t:V):List Int:=enc3 (keyOf t)
theorem key3_of {t:V} (h:zC5 t=true):Key3 (keyOf t):=by
 have hf:=zY3 _ t (zK _) h
 refine ⟨_,_,_,rfl,?_,?_,by simp,by simp⟩
 ·unfold opL
  rw [wG,jQ]
  intro x hx
  obtain ⟨_,⟨s,kids,rfl,hs⟩,_⟩:=hf x hx
  exact beq_iff_eq.mpr hs
 ·unfold intL
  rw [wG,jQ]
  intro x _
  rfl
section
variable {d:Nat} {σ:Sto} {L:Role->Nat} {p:PH} {G:Gr} {U:List (List Nat)} {N cn cd kn:Nat} {mk:V} {m:MK}
theorem jO8 (B:Bs w h₀) (K:HG p G U N) (C:CAt σ cn cd kn L p mk m) (hcd:∀ r,(cell p L r).isSome=true->L r≠cd) (hcc:cn≠cd) (F:jO1 G U N p mk m) (he:p.edges.length<=1000) {c n:Nat} (hc:c < p.uab.length) (hu:[fnd p.uab c]∈U) (hn:n<=N) {P:V->Sto->Prop}
  (h:∀ σ' kn' m',CAt σ' cn cd kn' L p (mkV p) m'->MOk G U N m'->Ext [cd,kn] σ σ'->(kn'=kn∨σ.length<=kn')->P (.int (Rn G [fnd p.uab c] n:Nat)) σ'):Cl w h₀ (d+n+6) (.ref 223) [.ref cn,.int c,.int n] σ P:=by
 have hN:=K.n31
 refine Cd.cl (zA3 (ps:=[zA "self",zA "c",zA "size"]) B (by rfl) (by rfl) (len3 fun oo1 oo2 oo3=>rfl) rfl (by decide) (fun oo1=>by rfl) ?_)
 refine gC ?_;intro R Q
 refine zA2 (gO B (gB rfl ⟨cn,276,cd,_,216,rfl,C.inst,C.dct,rfl,rfl,⟨by rfl,by rfl,by rfl,by rfl⟩,?_⟩))
 refine gJ rfl ?_
 refine (jM9 (d:=d) B C hcd hcc F K.z2 he (by lia) fun σ₁ kn₁ m₁ C₁ M₁ x₁ hk₁=>?_).le (by lia)
 refine gC ?_;intro R Q
 refine gL ?_
 refine gO B (gB rfl ⟨cn,276,cd,_,235,rfl,C₁.inst,C₁.dct,rfl,rfl,⟨by rfl,by rfl,by rfl,by rfl⟩,?_⟩)
 refine gD (zB9 (gD (gO B (gH B (gB rfl ⟨cn,276,cd,_,_,rfl,C₁.inst,C₁.dct,rfl,rfl,⟨by rfl,by rfl,by rfl⟩,?_⟩)))))
 refine ⟨L .hp,488,L .hd,_,412,rfl,C₁.heap.at_ .hp _ rfl,C₁.heap.at_ .hd _ rfl,rfl,rfl,⟨by rfl,by rfl,by rfl,by rfl⟩,?_⟩
 refine gJ rfl ?_
 refine (zG9 (d:=d) B C₁.heap K.down K.z1 hc (gF ⟨by simp,?_⟩)).le (by lia)
 refine gJ rfl ?_
 refine jE0 (d:=d) B K n [fnd p.uab c] σ₁ m₁ _ hu hn C₁ M₁ fun σ₂ m₂ C₂ M₂ x₂=>?_
 refine h σ₂ kn₁ m₂ C₂ M₂ ⟨zB x₁.1 x₂.1,fun i o hi e=>?_⟩ hk₁
 have h1:i ∉ [cd]:=fun q=>hi (by simp at q;simp [q])
 refine x₂.2 i o (fun q=>?_) (x₁.2 i o h1 e)
 rw [zM] at q
 rcases hk₁ with h2 | h2
 ·exact hi (by simp [q,h2])
 ·have:=(zC.mp e).1;lia
theorem jC4 (B:Bs w h₀) (K:HG p G U N) (C:CAt σ cn cd kn L p mk m) (hcd:∀ r,(cell p L r).isSome=true->L r≠cd) (hcc:cn≠cd) (F:jO1 G U N p mk m) (he:p.edges.length<=1000) {c n:Nat} (hc:c < p.uab.length) (hu:[fnd p.uab c]∈U) (hn:n<=N) (hr:Rn G [fnd p.uab c] n < 64) {P:V->Sto->Prop}
  (h:∀ σ' kn' m' k M,CAt σ' cn cd kn' L p (mkV p) m'->MOk G U N m'->Ext [cd,kn] σ σ'->(kn'=kn∨σ.length<=kn')->σ.length<=k->k≠kn'->σ'[k]?=some (.lst M)->M.Perm (RT G (fnd p.uab c) n)->M.Pairwise (fun a b=>ltL (g3 b) (g3 a)=false)->P (.ref k) σ'):Cl w h₀ (d+n+10) (.ref 240) [.ref cn,.int c,.int n] σ P:=by
 have hN:=K.n31
 refine Cd.cl (zA3 (ps:=[zA "self",zA "c",zA "size"]) B (by rfl) (by rfl) (len3 fun oo1 oo2 oo3=>rfl) rfl (by decide) (fun oo1=>by rfl) ?_)
 refine gC ?_;intro R Q
 refine zC1 ?_
 refine gU (gO B (gB rfl ⟨cn,276,cd,_,223,rfl,C.inst,C.dct,rfl,rfl,⟨by rfl,by rfl,by rfl,by rfl⟩,?_⟩))
 refine gJ rfl ?_
 refine (jO8 (d:=d) B K C hcd hcc F he hc hu hn fun σ₁ kn₁ m₁ C₁ M₁ x₁ hk₁=>?_).le (by lia)
 refine zZ1 B rfl (by rfl) (jK2 (gM ?_))
 refine ifF (decide_eq_false (by lia)) ?_
 refine gG ?_
 refine gC ?_;intro R Q
 refine gL ?_
 refine (zI6 (d:=d+n+8) (gW B rfl (by rfl) (by rfl) (by decide) ⟨rfl,?_⟩))
 refine zC8 rfl rfl (by decide) (by decide) rfl ?_
 refine zB0 (gO B (gB rfl ⟨cn,276,cd,_,245,rfl,C₁.inst,C₁.dct,rfl,rfl,⟨by rfl,by rfl,by rfl,by rfl⟩,?_⟩))
 refine gD (zB9 (gD (gO B (gH B (gB rfl ⟨cn,276,cd,_,_,rfl,C₁.inst,C₁.dct,rfl,rfl,⟨by rfl,by rfl,by rfl⟩,?_⟩)))))
 refine ⟨L .hp,488,L .hd,_,412,rfl,C₁.heap.at_ .hp _ rfl,C₁.heap.at_ .hd _ rfl,rfl,rfl,⟨by rfl,by rfl,by rfl,by rfl⟩,?_⟩
 refine gJ rfl ?_
 refine (zG9 (d:=d) B C₁.heap K.down K.z1 hc (gF ⟨by simp,?_⟩)).le (by lia)
 refine gJ rfl ?_
 refine (jP6 (d:=d) B K n [fnd p.uab c] σ₁ m₁ _ hu hn (by lia) C₁ M₁ fun σ₂ m₂ k l C₂ M₂ x₂ hk hl hp=>?_).le (by lia)
 have hll:l.length=Rn G [fnd p.uab c] n:=hp.length_eq
 refine ⟨_,_,gZ hl,fun j acc σ'=>acc=(l.take j).map (fun l=>l.headD .none)/\σ'=σ₂,⟨by simp,rfl⟩,by rw [zD];lia,fun j acc σ' h=>h.2 ▸ hl,fun j v acc σ' hv hl' hI=>?_,fun acc σ' hl' hI=>?_⟩
 ·obtain ⟨rfl,rfl⟩:=hI
  rw [zS] at hv
  cases hq:l[j]? with
  | none=>rw [hq] at hv;cases hv
  | some kids=>
   rw [hq] at hv
   cases hv
   have h1:=zX7 G n _ kids (hp.mem_iff.mp (zI hq))
   obtain ⟨t,rfl⟩:∃ t,kids=[t]:=by
    cases kids with
    | nil=>cases h1
    | cons a l=>cases l with
     | nil=>exact ⟨a,rfl⟩
     | cons b l=>cases h1
   refine zA4 rfl (zA8 (gB rfl (gI (zJ7 (i:=0) (v:=t) rfl (by lia) ⟨?_,rfl⟩))))
   rw [jJ,hq]
   simp
 ·obtain ⟨rfl,rfl⟩:=hI
  rw [zD,zR (zK _)]
  have hT:(l.map fun l=>l.headD .none).Perm (RT G (fnd p.uab c) n):=hp.map _
  generalize hT0:(l.map fun l=>l.headD V.none)=T0 at hT ⊢
  have hTl:T0.length < 64:=by rw [<-hT0,zD];lia
  have hTt:∀ t∈T0,zC5 t=true/\(subV t).length=n/\t.dep<=n:=fun t ht=>jE4 (hT.mem_iff.mp ht)
  refine ⟨_,rfl,zA1 B rfl (by rfl) ⟨89,T0,enc3,g3,fun so σ''=>so=(T0.take so.length).map keyOf/\∃ T,σ''=σ'++[.lst T0]++T,rfl,gK,hTl,⟨rfl,[],by simp⟩,fun so σ'' v hJ hv=>?_,fun ks σ'' hJ hkl=>?_,fun ks σ'' M hJ hM hP=>?_⟩⟩
  ·obtain ⟨hso,T,rfl⟩:=hJ
   obtain ⟨t1,t2,t3⟩:=hTt v (zI hv)
   refine (key_ok (d:=d) B (k:=n) t3 (by lia) t1 (by lia) fun T'=>⟨?_,T++T',by rw [zP _ T T']⟩).le (by lia)
   rw [zE,vM,jJ,hv,qD,<-hso]
   rfl
  ·obtain ⟨hso,T,rfl⟩:=hJ
   rw [hkl,zR (zK _)] at hso
   refine ⟨keys3 fun k hk=>?_,?_⟩
   ·rw [hso] at hk
    obtain ⟨t,ht,rfl⟩:=jS.mp hk
    exact key3_of (hTt t ht).1
   ·rw [hso,jE]
    rfl
  ·obtain ⟨hso,T,rfl⟩:=hJ
   have C₃:=((C₂.more [.lst T0]).more T).more [.lst M]
   have hkn:kn₁ < σ'.length:=C₂.lt
   refine h _ kn₁ m₂ (σ'++[O.lst T0]++T).length M C₃ M₂ ⟨by have:=x₁.1;have:=x₂.1;simp only [zE];lia,fun i o hi e=>?_⟩ hk₁ (by have:=x₁.1;have:=x₂.1;simp only [zE];lia) (by simp only [zE];lia) gK (hM.trans hT) hP
   have h1:=x₁.2 i o hi e
   have h2:=x₂.2 i o (fun q=>by
    rw [zM] at q
    rcases hk₁ with h2 | h2
    ·exact hi (by simp [q,h2])
    ·have:=(zC.mp e).1;lia) h1
   have:=(zC.mp h2).1
   rw [zP,zP,zH this]
   exact h2
end
noncomputable def opsL (t:V):List V:=(subV t).map opOf
noncomputable def widL (t:V):List V:=(subV t).map fun s=>.int ((arOf s:Nat)+1:Int)
noncomputable def lawT (t:V):Sto:=[.lst (opsL t),.lst (widL t),.lst []]++List.replicate ((subV t).length+1) (.lst [])
theorem zF0:∀ l m:List V,zC6 (l++m)=zC6 l++zC6 m
 | [],m=>rfl
 | a::l,m=>by rw [jM,zA0,zA0,zF0 l m,zP]
theorem zN1:∀ {l m:List V},zD9 l=true->zD9 m=true->zD9 (l++m)=true
 | [],_,_,h=>h
 | a::l,m,h,h'=>by
  rw [zB3,jL] at h
  rw [jM,zB3,h.1,zN1 h.2 h',Bool.and_self]
theorem jT2 {α:Type} (l:List α) (h:l≠[]):∃ m a,l=m++[a]:=⟨l.dropLast,l.getLast h,(List.dropLast_concat_getLast h).symm⟩
theorem zY0:∀ {l:List V},zD9 l=true->l.length<=(zC6 l).length
 | [],_=>by simp
 | a::l,h=>by
  rw [zB3,jL] at h
  obtain ⟨_,_,rfl,_,_⟩:=zA6 h.1
  rw [zA0,zE,zJ4]
  have:=zY0 h.2
  simp only [zV];lia
section
variable {d:Nat} {σ:Sto}
theorem DoO.up {α β:Type} {R:Heap->List Addr->β->α->Prop} {s s₀ s':Shared} {ι ι₀:List Addr} {P:β->Sto->Prop} {c:α} (h:DoO w h₀ R s ι P c s') (st:Stp NoX s₀ s ι₀ ι):DoO w h₀ R s₀ ι₀ P c s':=by
 obtain ⟨ι',v,σ',st',S,r,p⟩:=h
 exact ⟨ι',v,σ',st.trans st',S,r,p⟩
theorem ev_neg {sc:Scope} {ρ:Lc} {x:Expr} {pos:Pos} {P:V->Sto->Prop} (h:Ev w h₀ d sc x ρ σ fun v σ₁=>∃ i,v=.int i/\P (.int (-i)) σ₁):Ev w h₀ d sc (.UnaryOp .USub x pos) ρ σ P:=
 fun A env s ι hA hs F S E=>wpAny_UnaryOp ((h A env s ι hA hs F S).seq fun c s₁ ι₁ v σ₁ st S₁ r ⟨i,e,p⟩=>by
  subst e
  cases r
  exact PyProof.Rows.neg_int ((Do.tok S₁ (VR.int _ _) p).up st))
end
namespace kE
def S (d:Nat) (σ:Sto) (t:V) (P:V->Sto->Prop):Prop:=∀ (B:Bs w h₀) (ht:zC5 t=true) (hs:(subV t).length<=1000) (h:P (.tup [.ref σ.length,.ref (σ.length+1)]) (σ++lawT t)),Cl w h₀ (d+1) (.ref 516) [t] σ P
noncomputable def d:Nat:=pick fun z=>∀ σ t P,S z σ t P
noncomputable def σ:Sto:=pick fun z=>∀ t P,S d z t P
noncomputable def t:V:=pick fun z=>∀ P,S d σ z P
noncomputable def P:V->Sto->Prop:=pick fun z=>S d σ t z
theorem core:S d σ t P:=by
 intro B ht hs h
 refine Cd.cl (zA3 (ps:=[zA "term"]) B (by rfl) (by rfl) (len1 fun oo1=>rfl) rfl (by decide) (fun oo1=>by rfl) ?_)
 refine gC ?_;intro R Q
 refine zV0 (names:=[zA "ops",zA "widths",zA "waiting"]) ?_ (by decide) rfl (fun env hsc=>by cases env;cases hsc;rfl)
 refine gD (gY (gF ⟨by simp,gD (gY (gF ⟨by simp,gD (gY (gJ rfl ⟨by simp,gF ⟨rfl,?_⟩⟩))⟩))⟩))
 simp only [zE,zV,yF,qK,vX,app2,jM,yG]
 refine gC ?_;intro R Q
 refine zV7 (fun k ρ' σ'=>∃ st o wd,σ'=σ++([.lst o,.lst wd,.lst st]++List.replicate o.length (.lst []))/\zD9 st.reverse=true/\o++(zC6 st.reverse).map opOf=opsL t/\wd++(zC6 st.reverse).map (fun s=>.int ((arOf s:Nat)+1:Int))=widL t/\k=(zC6 st.reverse).length/\o.length+k=(subV t).length/\
  ρ'=[(zA "ops",.ref (σ.length+0)),(zA "widths",.ref (σ.length+1)),(zA "waiting",.ref (σ.length+2)),(zA "term",t)]) (subV t).length ?_ (fun k ρ' σ' hI=>?_)
 ·refine ⟨[t],[],[],rfl,?_,?_,?_,?_,?_,rfl⟩
  ·show (zC5 t && true)=true
   rw [ht];rfl
  ·show []++(subV t++[]).map opOf=_
   rw [jI];rfl
  ·show []++(subV t++[]).map _=_
   rw [jI];rfl
  ·show _=(subV t++[]).length
   rw [jI]
  ·simp
 ·obtain ⟨st,o,wd,rfl,hst,ho,hw,rfl,hn,rfl⟩:=hI
  have gT:∀ (T:Sto) (i:Nat),((σ++T)++[O.lst []])[σ.length+i]?=(T++[O.lst []])[i]?:=fun T i=>by rw [app2,gX]
  refine gU (gB rfl (gY (gF ⟨by simp,?_⟩)))
  refine jB6 (l:=st) (by rw [gT];rfl) gK (gM ?_)
  rw [app2,show [O.lst o,O.lst wd,O.lst st]++List.replicate o.length (O.lst [])++[O.lst []]=[O.lst o,O.lst wd,O.lst st]++List.replicate (o.length+1) (O.lst []) by rw [zP,<-List.replicate_succ']]
  by_cases hnil:st=[]
  ·subst hnil
   refine ifF rfl ?_
   refine gC ?_;intro R Q
   refine gL ?_
   refine ev_s rfl ?_
   have e1:o=opsL t:=by rw [<-ho];simp [zC6]
   have e2:wd=widL t:=by rw [<-hw];simp [zC6]
   have e3:o.length=(subV t).length:=by rw [e1];unfold opsL;rw [zD]
   rw [e3,e1,e2]
   exact h
  ·obtain ⟨st',x,rfl⟩:=jT2 st hnil
   rw [yX,List.reverse_singleton,List.singleton_append] at hst ho hw hn
   rw [zB3,jL] at hst
   obtain ⟨s,kids,rfl,hs1,hkids⟩:=zA6 hst.1
   have hsub:subV (.tup (.str s::kids))=.tup (.str s::kids)::zC6 kids:=rfl
   rw [zA0,hsub] at ho hw hn
   have hol:o.length<=1000:=by lia
   have hwl:wd.length<=1000:=by
    have:=congrArg List.length hw
    unfold widL at this
    rw [zE,zD,zD] at this
    lia
   have hstl:st'.length<=1000:=by
    have:=zY0 hst.2
    rw [xA] at this
    simp only [zE,zV] at hn
    lia
   have hkl:kids.length<=1000:=by
    have:=zY0 hkids
    simp only [zE,zV] at hn
    lia
   refine ifT (by simp) ?_
   refine gC ?_;intro R Q
   refine gE ?_ (fun oo1 oo2=>rfl);intro kk;refine jC7 (gB rfl ?_)
   refine ⟨"list","list.pop",.inl ⟨_,by rw [gX];rfl,rfl⟩,jH,PySem.F.slot_list_pop,PySem.F.type_list_pop,?_⟩
   refine cl_pop (l:=st') (by rw [gX];rfl) (by lia) ?_
   rw [zI3]
   refine gN rfl ?_
   refine gC ?_;intro R Q
   refine zA2 (zB1 (gB rfl ?_))
   refine ⟨"list","list.append",.inl ⟨o,by rw [gX];rfl,rfl⟩,jH,qB,qC,?_⟩
   refine gD (zA8 (gB rfl (gI (zJ7 (i:=0) (v:=.str s) rfl (by lia) (gF ?_)))))
   refine zC4 (l:=o) (by rw [gX];rfl) (by lia) ?_
   rw [zI3]
   refine gC ?_;intro R Q
   refine zA2 (zB1 (gB rfl ?_))
   refine ⟨"list","list.append",.inl ⟨wd,by rw [gX];rfl,rfl⟩,jH,qB,qC,?_⟩
   refine gD (gP (gW B rfl (by rfl) (by rfl) (by decide) ⟨_,rfl,rfl,gJ rfl (zA9 (by simp;lia) (gF ?_))⟩))
   refine zC4 (l:=wd) (by rw [gX];rfl) (by lia) ?_
   rw [zI3]
   refine gC ?_;intro R Q
   refine zA2 (zB1 (gB rfl ?_))
   refine ⟨"list","list.extend",.inl ⟨st',by rw [gX];rfl,rfl⟩,jH,vD,vE,?_⟩
   refine gD (zC0 (gB rfl (gI ⟨0,rfl,ev_neg (gI ⟨1,rfl,_,rfl,gs_rev (l:=.str s::kids) (by simp;lia) (gF ?_)⟩)⟩)))
   rw [show (V.str s::kids).drop 1=kids from rfl]
   refine zZ8 (l:=st') (l':=kids.reverse) (by rw [gX];rfl) (by rw [xA];lia) ?_
   rw [zI3]
   refine gG ?_
   refine ⟨_,_,Sub.drop rfl (Sub.refl _),?_,st'++kids.reverse,o++[.str s],wd++[.int ((kids.length:Nat)+1:Int)],?_,?_,?_,?_,rfl,?_,rfl⟩
   ·rw [yX,yX,vG,List.reverse_singleton,List.singleton_append,zF0,zA0,hsub]
    simp only [zE,zV]
    lia
   ·rw [zE]
    have e4:((V.str s::kids).length:Int)=(kids.length:Nat)+1:=by simp
    rw [e4]
    rfl
   ·rw [yX,vG]
    exact zN1 hkids hst.2
   ·rw [yX,vG,zF0,<-ho,jM,zU,zP]
    rfl
   ·rw [yX,vG,zF0,<-hw,jM,zU,zP]
    rfl
   ·rw [yX,vG,zF0,zE,vM]
    rw [jM,zV] at hn
    lia
theorem all:∀ d σ t P,S d σ t P:=cst (p:=fun z=>∀ σ t P,S z σ t P) (cst (p:=fun z=>∀ t P,S d z t P) (cst (p:=fun z=>∀ P,S d σ z P) (cst (p:=fun z=>S d σ t z) core)))
end kE
section
variable {d:Nat} {σ:Sto}
theorem jM5 {d σ t P}:kE.S d σ t P:=kE.all d σ t P
end
noncomputable def g2 (t:V):List Int:=(opsL t).map encA++(widL t).map encA
theorem jH0 {α β:Type} {f:α->List β} {m:Nat}:∀ {l:List α},(∀ a∈l,(f a).length=m)->(l.flatMap f).length=l.length * m
 | [],_=>by simp
 | a::l,h=>by
  rw [zZ,zE,h a jA,jH0 fun b hb=>h b (zY _ hb),zV,xO,wS,qH]
theorem jH6 {α β:Type} {f:α->List β} {m:Nat} {l:List α} (hm:∀ a∈l,(f a).length=m) {j r:Nat} {a:α} (h:l[j]?=some a) (hr:r < m):(l.flatMap f)[j * m+r]?=(f a)[r]?:=by
 induction l generalizing j with
 | nil=>cases h
 | cons b l ih=>
  have hb:=hm b jA
  cases j with
  | zero=>
   cases h
   rw [zZ,Nat.zero_mul,qK,zH (by rw [hb];exact hr)]
  | succ j=>
   rw [zZ,show (j+1) * m+r=(f b).length+(j * m+r) by rw [hb,Nat.succ_mul,qH (j * m) m,qJ],jB (qS _ _),wE]
   exact ih (fun c hc=>hm c (zY _ hc)) h
theorem lawT_len (t:V):(lawT t).length=(subV t).length+4:=by
 unfold lawT
 simp only [zE,zV,yF,vA]
 lia
theorem ops_ok {t:V} (h:zC5 t=true):opL (opsL t)=true/\intL (widL t)=true:=by
 have hf:=zY3 _ t (zK _) h
 refine ⟨?_,?_⟩
 ·unfold opL opsL
  rw [wG,jQ]
  intro x hx
  obtain ⟨_,⟨s,kids,rfl,hs⟩,_⟩:=hf x hx
  exact beq_iff_eq.mpr hs
 ·unfold intL widL
  rw [wG,jQ]
  intro x _
  rfl
section
variable {d:Nat} {sc:Scope} {ρ:Lc} {σ:Sto}
theorem jI1 (B:Bs w h₀) {N:Nat} {items:List V} (ht:∀ t∈items,zC5 t=true/\(subV t).length=N) (hN:N<=1000) :
  ∃ (enc:V->List Int) (J:List V->Sto->Prop),J [] σ/\
   (∀ so σ' v,J so σ'->items[so.length]?=some v->Cl w h₀ (d+1) (.ref 516) [v] σ' (fun k σ''=>J (so++[k]) σ''))/\
   (∀ ks σ' ,J ks σ'->ks.length=items.length->zI5 w h₀ ks σ' enc/\ks.map enc=items.map g2)/\
   ∀ ks σ',J ks σ'->∃ T,σ'=σ++T:=by
 have hm:∀ a∈items,(lawT a).length=N+4:=fun a ha=>by rw [lawT_len,(ht a ha).2]
 refine ⟨enc2 (σ++items.flatMap lawT),fun so σ'=>σ'=σ++(items.take so.length).flatMap lawT/\so=(List.range so.length).map fun j=>V.tup [.ref (σ.length+(j * (N+4)+0)),.ref (σ.length+(j * (N+4)+1))],⟨by simp,rfl⟩,fun so σ' v hJ hv=>?_,fun ks σ' hJ hkl=>?_,fun ks σ' hJ=>⟨_,hJ.1⟩⟩
 ·obtain ⟨rfl,hso⟩:=hJ
  obtain ⟨t1,t2⟩:=ht v (zI hv)
  refine jM5 B t1 (by lia) ⟨?_,?_⟩
  ·rw [zE,vM,zJ1 hv,zP]
  ·have hlt:=(zC.mp hv).1
   have e:(σ++(items.take so.length).flatMap lawT).length=σ.length+so.length * (N+4):=by
    rw [zE,jH0 fun a ha=>hm a (List.mem_of_mem_take ha),wW,vP (by lia)]
   rw [e,zE,vM,yE,qD,<-hso]
   rfl
 ·obtain ⟨rfl,hso⟩:=hJ
  rw [hkl,zR (zK _)]
  have gets:∀ {j:Nat} {t:V},items[j]?=some t->(σ++items.flatMap lawT)[σ.length+(j * (N+4)+0)]?=some (.lst (opsL t))/\(σ++items.flatMap lawT)[σ.length+(j * (N+4)+1)]?=some (.lst (widL t)):=fun {j t} hj=>by
   rw [gX,gX,jH6 hm hj (by lia),jH6 hm hj (by lia)]
   exact ⟨rfl,rfl⟩
  refine ⟨keys2 (N:=N) fun k hk=>?_,?_⟩
  ·rw [hso] at hk
   obtain ⟨j,hj,rfl⟩:=jS.mp hk
   have hj:=jX.mp hj
   have hji:items[j]?=some (items[j]'(by lia)):=zQ _
   obtain ⟨t1,t2⟩:=ht _ (zI hji)
   obtain ⟨a1,a2⟩:=gets hji
   obtain ⟨b1,b2⟩:=ops_ok t1
   exact ⟨_,_,_,_,rfl,a1,a2,b1,b2,by unfold opsL;rw [zD,t2],by unfold widL;rw [zD,t2]⟩
  ·rw [hso,hkl,jE]
   refine List.ext_getElem? fun j=>?_
   rw [zS,zS]
   by_cases hj:j < items.length
   ·have hji:items[j]?=some items[j]:=zQ hj
    obtain ⟨a1,a2⟩:=gets hji
    rw [yU hj,hji]
    show some (enc2 _ (V.tup [.ref _,.ref _]))=some (g2 _)
    rw [jG5 a1 a2]
    rfl
   ·rw [vL (by simpa using hj),vL (by simpa using hj)]
    rfl
end
structure Jar (σ:Sto) (j c:Nat) (cells:List Int) (s:Nat):Prop where
 at_:σ[j]?=some (.dct (vmap V.str [(zA "cells",V.ref c),(zA "spot",V.int s)]))
 cells:σ[c]?=some (.lst (cells.map V.int))
 ne:j≠c
theorem fmod_lt {a b:Int} (h:0 < b):0<=a.fmod b/\a.fmod b < b:=⟨Int.fmod_nonneg_of_pos _ h,Int.fmod_lt_of_pos _ h⟩
theorem jM1 {a:Int} (h0:0<=a) (h1:a<=1000000):Builtin.Int.intBits a<=64:=intBits_le_64 (by lia) (by lia)
section
variable {d:Nat} {σ:Sto}
end
namespace kV
def S (d:Nat) (σ:Sto) (j:Nat) (c:Nat) (s:Nat) (many:Nat) (cells:List Int) (P:V->Sto->Prop):Prop:=∀ (B:Bs w h₀) (J:Jar σ j c cells s) (hc:cells.length<=100) (hs:s<=100) (hm:0 < many) (h:∀ v:Nat,v < many->∀ σ',Jar σ' j c cells (s+1)->σ'.length=σ.length->(∀ i,i≠j->σ'[i]?=σ[i]?)->P (.int v) σ'),Cl w h₀ (d+1) (.ref 499) [.ref j,.int many] σ P
noncomputable def d:Nat:=pick fun z=>∀ σ j c s many cells P,S z σ j c s many cells P
noncomputable def σ:Sto:=pick fun z=>∀ j c s many cells P,S d z j c s many cells P
noncomputable def j:Nat:=pick fun z=>∀ c s many cells P,S d σ z c s many cells P
noncomputable def c:Nat:=pick fun z=>∀ s many cells P,S d σ j z s many cells P
noncomputable def s:Nat:=pick fun z=>∀ many cells P,S d σ j c z many cells P
noncomputable def many:Nat:=pick fun z=>∀ cells P,S d σ j c s z cells P
noncomputable def cells:List Int:=pick fun z=>∀ P,S d σ j c s many z P
noncomputable def P:V->Sto->Prop:=pick fun z=>S d σ j c s many cells z
theorem core:S d σ j c s many cells P:=by
 intro B J hc hs hm h
 have hm':(0:Int) < (many:Int):=by lia
 have ret:∀ a:Int,∀ σ',Jar σ' j c cells (s+1)->σ'.length=σ.length->(∀ i,i≠j->σ'[i]?=σ[i]?)->P (.int (a.fmod many)) σ':=fun a σ' J' e1 e2=>by
  obtain ⟨f1,f2⟩:=fmod_lt (a:=a) hm'
  have e:a.fmod many=((a.fmod many).toNat:Int):=(Int.toNat_of_nonneg f1).symm
  rw [e]
  exact h _ (vT.mp (e ▸ f2)) σ' J' e1 e2
 refine Cd.cl (zA3 (ps:=[zA "jar",zA "many"]) B (by rfl) (by rfl) (len2 fun oo1 oo2=>rfl) rfl (by decide) (fun oo1=>by rfl) ?_)
 refine gC ?_;intro R Q
 refine gE ?_ (fun oo1 oo2=>rfl);intro kk
 refine zA8 ?_
 refine gB rfl (zH4 (zJ8 (k:=zA "spot") (zR0 w) J.at_ rfl ?_))
 refine gN rfl ?_
 try dsimp only
 refine gC ?_;intro R Q
 refine gE ?_ (fun oo1 oo2=>rfl);intro kk;refine ev_s rfl ?_
 refine zR4 (gB rfl (zH4 (jF5 (k:=zA "spot") (zR0 w) J.at_ (by simp) ?_)))
 have hjl:j < σ.length:=(zC.mp J.at_).1
 have J':Jar (σ.set j (.dct (vmap V.str [(zA "cells",V.ref c),(zA "spot",V.int (s+1:Nat))]))) j c cells (s+1):=
  ⟨jW hjl,by rw [jD J.ne];exact J.cells,J.ne⟩
 have e1:(σ.set j (.dct (vmap V.str [(zA "cells",V.ref c),(zA "spot",V.int (s+1:Nat))]))).length=σ.length:=jV
 have e2:∀ i,i≠j->(σ.set j (.dct (vmap V.str [(zA "cells",V.ref c),(zA "spot",V.int (s+1:Nat))])))[i]?=σ[i]?:=fun i hi=>jD hi.symm
 rw [show vput [(zA "cells",V.ref c),(zA "spot",V.int s)] (zA "spot") (V.int ((s:Int)+1))=[(zA "cells",V.ref c),(zA "spot",V.int (s+1:Nat))] from rfl]
 generalize σ.set j _=σ₁ at J' e1 e2 ⊢
 refine gC ?_;intro R Q
 refine zC1 ?_
 refine gU (gB rfl (gP (gW B rfl (by rfl) (by rfl) (by decide) ⟨_,rfl,rfl,gD (zA8 (gB rfl (zH4 (zJ8 (k:=zA "cells") (zR0 w) J'.at_ rfl (gF (zA7 J'.cells (by rw [zD];lia) ?_))))))⟩)))
 refine zQ0 (gM ?_)
 rw [zD]
 by_cases hlt:s < cells.length
 ·refine ifT (decide_eq_true (by lia)) ?_
  refine gC ?_;intro R Q
  refine gL ?_
  refine gV (zA8 (zA8 (gB rfl (zH4 (zJ8 (k:=zA "cells") (zR0 w) J'.at_ rfl ?_)))))
  refine gB rfl (zI4 J'.cells (v:=.int cells[s]) (by rw [zS,zQ hlt];rfl) (by lia) ?_)
  refine gB rfl (jG4 (by lia) ?_)
  exact ret _ σ₁ J' e1 e2
 ·refine ifF (decide_eq_false (by lia)) ?_
  refine gG ?_
  refine gC ?_;intro R Q
  refine gL ?_
  have hss:((s:Int)) * s<=100 * 100:=Int.mul_le_mul (by lia) (by lia) (by lia) (by lia)
  refine gV ?_
  refine gV ?_
  refine gV ?_
  refine gV ?_
  refine gV ?_
  refine gV ?_
  refine gV ?_
  refine gI ?_
  refine gB rfl ?_
  refine jE6 (by decide) ?_
  refine gB rfl ?_
  refine jE6 (jM1 (by lia) (by lia)) ?_
  refine gV ?_
  refine gI ?_
  refine gB rfl ?_
  refine jE6 (by decide) (zF8 ?_)
  refine gV ?_
  refine gI ?_
  refine gP (gW B rfl (by rfl) (by rfl) (by decide) ⟨_,rfl,rfl,gD (zA8 (gB rfl (zH4 (zJ8 (k:=zA "cells") (zR0 w) J'.at_ rfl ?_))))⟩)
  refine gF (zA7 J'.cells (by rw [zD];lia) ?_)
  refine jE6 (by decide) (zF8 ?_)
  refine gI (zF8 ?_)
  refine gI (jG4 (by decide) ?_)
  refine gB rfl (jG4 (by lia) ?_)
  exact ret _ σ₁ J' e1 e2
theorem all:∀ d σ j c s many cells P,S d σ j c s many cells P:=cst (p:=fun z=>∀ σ j c s many cells P,S z σ j c s many cells P) (cst (p:=fun z=>∀ j c s many cells P,S d z j c s many cells P) (cst (p:=fun z=>∀ c s many cells P,S d σ z c s many cells P) (cst (p:=fun z=>∀ s many cells P,S d σ j z s many cells P) (cst (p:=fun z=>∀ many cells P,S d σ j c z many cells P) (cst (p:=fun z=>∀ cells P,S d σ j c s z cells P) (cst (p:=fun z=>∀ P,S d σ j c s many z P) (cst (p:=fun z=>S d σ j c s many cells z) core)))))))
end kV
section
variable {d:Nat} {σ:Sto}
theorem zG4 {d σ j c s many cells P}:kV.S d σ j c s many cells P:=kV.all d σ j c s many cells P
end
noncomputable def jK5 (lv:List V) (kind:Nat) (R:Nat->List V) (room:Nat):List V:=if room < 2 then (if room=1 then lv else []) else
 (if kind=1∨kind=3 then (R (room - 1)).map fun kid=>tm 102 [kid] else [])++
 (if kind=2 then (R (room - 2)).map fun kid=>tm 103 [kid,tm 121 []] else [])++
 (if kind=0∨kind=3 then (List.range (room - 2)).flatMap fun i=>(R (i+1)).flatMap fun kid=>(R (room - 1 - (i+1))).map fun other=>tm 103 [kid,other] else [])
noncomputable def zA5 (lv:List V) (kind:Nat):Nat->Nat->List V:=Nat.rec (fun room=>if room=1 then lv else []) fun oo1=>jK5 lv kind
theorem zY1 (lv:List V) (kind room:Nat):zA5 lv kind 0 room=if room=1 then lv else []:=rfl
theorem zO3 (lv:List V) (kind k room:Nat):zA5 lv kind (k+1) room=jK5 lv kind (zA5 lv kind k) room:=rfl
theorem ring_len {lv:List V} (hl:lv.length<=2) (kind:Nat):∀ (k room b:Nat),room<=3->(k=0->b=2)->(k=1->b=8)->(k=2->b=80)->k<=2->(zA5 lv kind k room).length<=b:=by
 intro k
 have step:∀ (k b:Nat),2<=b->(∀ room,room<=3->(zA5 lv kind k room).length<=b)->∀ room,room<=3->(zA5 lv kind (k+1) room).length<=b+b+b * b:=by
  intro k b hb ih room hr
  have nb:0<=b * b:=jO _
  rw [zO3]
  unfold jK5
  split
  ·split
   ·exact zB hl (zB hb (zB (qS b b) (qS _ _)))
   ·exact jO _
  ·rename_i h2
   rw [zE,zE]
   have h1:(if kind=1∨kind=3 then (zA5 lv kind k (room - 1)).map fun kid=>tm 102 [kid] else []).length<=b:=by
    split
    ·rw [zD];exact ih _ (zB (qG _ _) hr)
    ·exact jO _
   have h2':(if kind=2 then (zA5 lv kind k (room - 2)).map fun kid=>tm 103 [kid,tm 121 []] else []).length<=b:=by
    split
    ·rw [zD];exact ih _ (zB (qG _ _) hr)
    ·exact jO _
   have h3:(if kind=0∨kind=3 then (List.range (room - 2)).flatMap fun i=>(zA5 lv kind k (i+1)).flatMap fun kid=>(zA5 lv kind k (room - 1 - (i+1))).map fun other=>tm 103 [kid,other] else []).length<=b * b:=by
    split
    ·rw [yJ]
     refine zB (jD6 (k:=b * b) fun i hi=>?_) ?_
     ·rw [zF9]
      have:=jX.mp hi
      exact wF (ih _ (zB this (zB (qG _ _) hr))) (ih _ (zB (qG _ _) (zB (qG _ _) hr)))
     ·rw [qR]
      have:room - 2<=1:=yB.mpr hr
      calc (room - 2) * (b * b)<=1 * (b * b):=yR _ this
       _=b * b:=wS _
    ·exact jO _
   exact yL (yL h1 h2') h3
 have h0:∀ room,room<=3->(zA5 lv kind 0 room).length<=2:=fun room oo1=>by rw [zY1];split <;> simp [hl]
 have h1:=step 0 2 (by decide) h0
 have h2:=step 1 8 (by decide) h1
 intro room b hr e0 e1 e2 hk
 rcases k with _ | _ | _ | k
 ·rw [e0 rfl];exact h0 room hr
 ·rw [e1 rfl];exact h1 room hr
 ·rw [e2 rfl];exact h2 room hr
 ·exact absurd hk (Nat.not_le.mpr (zO (by decide:2 < 3) (qN 3 k)))
theorem jN8 {lv:List V} (hl:lv.length<=2) (kind:Nat) {k room:Nat} (hk:k<=2) (hr:room<=3):(zA5 lv kind k room).length<=80:=by
 have h:=ring_len hl kind k room (if k=0 then 2 else if k=1 then 8 else 80) hr (fun e=>by rw [if_pos e]) (fun e=>by subst e;rfl) (fun e=>by subst e;rfl) hk
 refine zB h ?_
 split
 ·decide
 ·split <;> decide
theorem zU6 (a b kind:Nat):([V.int (a:Int),V.int (b:Int)].any fun u=>u.eqb (V.int (kind:Int)))=decide (kind=a∨kind=b):=by
 have e:∀ a:Nat,(V.int (a:Int)).eqb (V.int (kind:Int))=decide (kind=a):=fun a=>xZ.mpr (beq_iff_eq.trans (.trans ⟨fun e=>(Int.ofNat.inj e).symm,fun e=>congrArg _ e.symm⟩ decide_eq_true_iff.symm))
 rw [wJ,wJ,List.any_nil,e,e,Bool.or_false,Bool.decide_or]
section
variable {d:Nat}
inductive RI (σ:Sto) (R:Nat->Lc) (ρ':Lc) (L:List V) (σ':Sto):Prop
 | mk (T:Sto) (kf:Nat):σ'=σ++T->Sub (R kf) ρ'->σ.length<=kf->(σ++T)[kf]?=some (.lst L)->RI σ R ρ' L σ'
inductive RE (σ:Sto) (R:Nat->Lc) (J:Sto->Prop) (ρ':Lc) (L:List V) (σ':Sto):Prop
 | mk (T:Sto) (kf:Nat):σ'=σ++T->ρ'=R kf->σ.length<=kf->J T->(σ++T)[kf]?=some (.lst L)->RE σ R J ρ' L σ'
theorem RE.at1 {σ σ':Sto} {R:Nat->Lc} {ρ':Lc} {L:List V} {i:Nat} {o:O} (h:RE σ R (fun T=>(σ++T)[i]?=some o) ρ' L σ'):σ'[i]?=some o:=by
 obtain ⟨_,_,rfl,_,_,h,_⟩:=h
 exact h
theorem op_str (x:String) (o:Nat) (h:zA x=⟨#[o]⟩):V.str (zA x)=opV o:=by rw [h];rfl
end
namespace kH
def S (d:Nat) (lx:Nat) (lv:List V) (kind:Nat):Prop:=∀ (B:Bs w h₀) (hl:lv.length<=2),∀ (k room:Nat) (σ:Sto) (P:V->Sto->Prop),room<=3->k<=3->room<=k+1->σ[lx]?=some (.lst lv)->
  (∀ T kf,(σ++T)[kf]?=some (.lst (zA5 lv kind k room))->σ.length<=kf->P (.ref kf) (σ++T))->Cl w h₀ (d+k+1) (.ref 504) [.ref lx,.int kind,.int room] σ P
noncomputable def d:Nat:=pick fun z=>∀ lx lv kind,S z lx lv kind
noncomputable def lx:Nat:=pick fun z=>∀ lv kind,S d z lv kind
noncomputable def lv:List V:=pick fun z=>∀ kind,S d lx z kind
noncomputable def kind:Nat:=pick fun z=>S d lx lv z
theorem core:S d lx lv kind:=by
 intro B hl
 intro k
 induction k with
 | zero=>
  intro room σ P hr hk hrk hlx h
  refine Cd.cl (zA3 (ps:=[zA "leaves",zA "kind",zA "room"]) B (by rfl) (by rfl) (len3 fun oo1 oo2 oo3=>rfl) rfl (by decide) (fun oo1=>by rfl) ?_)
  refine gC ?_;intro R Q
  refine zC1 ?_
  refine gU (gB rfl (gI (zQ0 (gM ?_))))
  refine ifT (decide_eq_true (vT.mpr (wL hrk))) ?_
  refine gC ?_;intro R Q
  refine gL ?_
  refine zG3 (gU (gB rfl (gI (zE4 (gM ?_)))))
  by_cases h1:room=1
  ·subst h1
   refine ifT rfl ?_
   refine gP (gW B rfl (by rfl) (by rfl) (by decide) ⟨_,rfl,rfl,gJ rfl (zT2 hlx (zB hl (by decide)) ?_)⟩)
   exact h [.lst lv] σ.length gK (zK _)
  ·refine ifF (zF6 h1) ?_
   refine gY (gF ⟨by simp,?_⟩)
   refine h [.lst []] σ.length ?_ (zK _)
   rw [zY1,if_neg h1]
   exact gK
 | succ k ih=>
  intro room σ P hr hk hrk hlx h
  by_cases h2:room < 2
  ·refine Cd.cl (zA3 (ps:=[zA "leaves",zA "kind",zA "room"]) B (by rfl) (by rfl) (len3 fun oo1 oo2 oo3=>rfl) rfl (by decide) (fun oo1=>by rfl) ?_)
   refine gC ?_;intro R Q
   refine zC1 ?_
   refine gU (gB rfl (gI (zQ0 (gM ?_))))
   refine ifT (decide_eq_true (vT.mpr h2)) ?_
   refine gC ?_;intro R Q
   refine gL ?_
   refine zG3 (gU (gB rfl (gI (zE4 (gM ?_)))))
   rw [zO3] at h
   unfold jK5 at h
   rw [if_pos h2] at h
   by_cases h1:room=1
   ·subst h1
    refine ifT rfl ?_
    refine gP (gW B rfl (by rfl) (by rfl) (by decide) ⟨_,rfl,rfl,gJ rfl (zT2 hlx (zB hl (by decide)) ?_)⟩)
    exact h [.lst lv] σ.length gK (zK _)
   ·refine ifF (zF6 h1) ?_
    refine gY (gF ⟨by simp,?_⟩)
    refine h [.lst []] σ.length ?_ (zK _)
    rw [if_neg h1]
    exact gK
  ·have hb:∀ r,r<=3->(zA5 lv kind k r).length<=80:=fun r hr=>jN8 hl kind (qV hk) hr
   rw [zO3] at h
   unfold jK5 at h
   rw [if_neg h2] at h
   have h2':=xM.mp h2
   have ha1:room - 1<=3:=zB (qG _ _) hr
   have ha2:room - 2<=3:=zB (qG _ _) hr
   have hc1:room - 1<=k+1:=yB.mpr hrk
   have hc2:room - 2<=k+1:=zB (Nat.sub_le_sub_left (by decide:1<=2) room) hc1
   have hk2:k<=3:=vS hk
   have cr1:(room:Int) - 1=((room - 1:Nat):Int):=(xW (vS h2')).symm
   have cr2:(room:Int) - 2=((room - 2:Nat):Int):=(xW h2').symm
   have ha3:room - 1 - (0+1)<=3:=zB (qG _ _) ha1
   have hc3:room - 1 - (0+1)<=k+1:=zB (qG _ _) hc1
   have cr3:(room:Int) - 1 - ((0+1:Nat):Int)=((room - 1 - (0+1):Nat):Int):=by rw [cr1];exact (xW (qU h2')).symm
   refine Cd.cl (zA3 (ps:=[zA "leaves",zA "kind",zA "room"]) B (by rfl) (by rfl) (len3 fun oo1 oo2 oo3=>rfl) rfl (by decide) (fun oo1=>by rfl) ?_)
   refine gC ?_;intro R Q
   refine zC1 ?_
   refine gU (gB rfl (gI (zQ0 (gM ?_))))
   refine ifF (decide_eq_false fun q=>h2 (vT.mp q)) ?_
   refine gG ?_
   try dsimp only
   refine gC ?_;intro R Q
   refine gE ?_ (fun oo1 oo2=>rfl);intro kk;refine gY (gF ⟨by simp,?_⟩)
   refine gN rfl ?_
   try dsimp only
   have hlx':∀ T,(σ++T)[lx]?=some (.lst lv):=fun T=>by rw [zH (zC.mp hlx).1];exact hlx
   have keep:∀ {T:Sto} {kf:Nat} {o:O} (T':Sto),(σ++T)[kf]?=some o->(σ++(T++T'))[kf]?=some o:=fun {T kf o} T' e=>by rw [<-zP,zH (zC.mp e).1];exact e
   refine zE7 (Ex.mono (P:=fun fl ρ' σ'=>fl=.next/\RI σ (fun kf=>(zA "found",V.ref kf)::[(zA "leaves",V.ref lx),(zA "kind",V.int kind),(zA "room",V.int room)]) ρ' (if kind=1∨kind=3 then (zA5 lv kind k (room - 1)).map fun kid=>tm 102 [kid] else []) σ') ?_ fun fl ρ' σ' hh=>?_)
   ·refine zC1 (gU (gB rfl (ev_s rfl ?_)))
    refine zM1 (l:=[.int (1:Nat),.int (3:Nat)]) rfl rfl (zL rfl) (gM ?_)
    rw [zU6]
    by_cases hc:kind=1∨kind=3
    ·refine ifT (decide_eq_true hc) ?_
     refine gC ?_;intro R Q
     refine gE ?_ (fun oo1 oo2=>rfl);intro kk;refine gV (gB rfl ?_)
     refine zC8 rfl rfl (by decide) (by decide) rfl ?_
     refine zB0 (zB8 B (zA1 B rfl (by rfl) ⟨_,rfl,by rfl,gJ rfl ?_⟩))
     rw [cr1]
     refine ih (room - 1) (σ++[.lst []]) _ ha1 hk2 hc1 (hlx' _) fun T k₁ hk₁ hk₂=>?_
     refine ⟨_,_,gZ hk₁,fun j acc σ'=>acc=((zA5 lv kind k (room - 1)).take j).map (fun kid=>tm 102 [kid])/\σ'=σ++[.lst []]++T,⟨by simp,rfl⟩,zB (hb (room - 1) ha1) (by decide),fun j acc σ' h=>h.2 ▸ hk₁,fun j v acc σ' hv hl' hI=>?_,fun acc σ' hl' hI=>?_⟩
     ·obtain ⟨rfl,rfl⟩:=hI
      refine zA4 rfl (ev_s rfl (And.intro ?_ rfl))
      rw [jJ,hv]
      simp [tm,opV]
      rfl
     ·obtain ⟨rfl,rfl⟩:=hI
      rw [zR (zK _)]
      have hb1:=hb (room - 1) ha1
      refine zY5 (a:=[]) (b:=(zA5 lv kind k (room - 1)).map fun kid=>tm 102 [kid]) (by rw [app2,app2];show (σ++_)[σ.length+0]?=_;rw [gX];rfl) gK (by rw [zD];simp;lia) ?_
      refine gN rfl ?_
      try dsimp only
      refine gG ?_
      refine ⟨rfl,[.lst []]++T++[.lst ((zA5 lv kind k (room - 1)).map fun kid=>tm 102 [kid])]++[.lst ((zA5 lv kind k (room - 1)).map fun kid=>tm 102 [kid])],_,by simp only [zP,yG],Sub.put rfl (Sub.drop rfl (Sub.drop rfl (Sub.refl _))),?_,?_⟩
      ·repeat' first | exact zK _ | refine lapp ?_
      ·rw [if_pos hc,<-zP,<-zP,<-zP]
       exact gK
    ·refine ifF (decide_eq_false hc) ?_
     refine gG ?_
     refine ⟨rfl,[.lst []],σ.length,rfl,Sub.refl _,zK _,?_⟩
     rw [if_neg hc]
     exact gK
   obtain ⟨e,T,kf,e1,hsub,hkf,hf⟩:=hh
   subst e e1
   try dsimp only
   refine Exs.sub ?_ hsub
   clear hsub
   generalize hA:(if kind=1∨kind=3 then (zA5 lv kind k (room - 1)).map fun kid=>tm 102 [kid] else [])=A1 at hf h
   have hA1:A1.length<=80:=by
    rw [<-hA]
    split
    ·rw [zD];exact hb _ ha1
    ·exact jO _
   refine zE7 (Ex.mono (P:=fun fl ρ' σ'=>fl=.next/\RI σ (fun kf=>(zA "found",V.ref kf)::[(zA "leaves",V.ref lx),(zA "kind",V.int kind),(zA "room",V.int room)]) ρ' (A1++if kind=2 then (zA5 lv kind k (room - 2)).map fun kid=>tm 103 [kid,tm 121 []] else []) σ') ?_ fun fl ρ' σ' hh=>?_)
   ·refine zC1 (gU (gB rfl (gI (zE4 (gM ?_)))))
    by_cases hc:kind=2
    ·refine ifT (beq_iff_eq.mpr (congrArg _ hc)) ?_
     refine gC ?_;intro R Q
     refine gE ?_ (fun oo1 oo2=>rfl);intro kk;refine gV (gB rfl ?_)
     refine zC8 rfl rfl (by decide) (by decide) rfl ?_
     refine zB0 (zB8 B (zA1 B rfl (by rfl) ⟨_,rfl,by rfl,gJ rfl ?_⟩))
     rw [cr2]
     refine ih (room - 2) (σ++T) _ ha2 hk2 hc2 (hlx' _) fun T₁ k₁ hk₁ hk₂=>?_
     refine ⟨_,_,gZ hk₁,fun j acc σ'=>acc=((zA5 lv kind k (room - 2)).take j).map (fun kid=>tm 103 [kid,tm 121 []])/\σ'=σ++T++T₁,⟨by simp,rfl⟩,zB (hb (room - 2) ha2) (by decide),fun j acc σ' h=>h.2 ▸ hk₁,fun j v acc σ' hv hl' hI=>?_,fun acc σ' hl' hI=>?_⟩
     ·obtain ⟨rfl,rfl⟩:=hI
      refine zA4 rfl (ev_s rfl (And.intro ?_ rfl))
      rw [jJ,hv]
      simp [tm,opV]
      exact ⟨rfl,rfl⟩
     ·obtain ⟨rfl,rfl⟩:=hI
      rw [zR (zK _)]
      have hb1:=hb (room - 2) ha2
      refine zY5 (a:=A1) (b:=(zA5 lv kind k (room - 2)).map fun kid=>tm 103 [kid,tm 121 []]) (by rw [app2,app2];exact keep _ hf) gK (by rw [zD];lia) ?_
      refine gN rfl ?_
      try dsimp only
      refine gG ?_
      refine ⟨rfl,T++T₁++[.lst ((zA5 lv kind k (room - 2)).map fun kid=>tm 103 [kid,tm 121 []])]++[.lst (A1++(zA5 lv kind k (room - 2)).map fun kid=>tm 103 [kid,tm 121 []])],_,by simp only [zP],Sub.put rfl (Sub.drop rfl (Sub.drop rfl (Sub.refl _))),?_,?_⟩
      ·repeat' first | exact zK _ | refine lapp ?_
      ·rw [if_pos hc,<-zP,<-zP,<-zP]
       exact gK
    ·refine ifF (zF6 hc) ?_
     refine gG ?_
     refine ⟨rfl,T,kf,rfl,Sub.refl _,hkf,?_⟩
     rw [if_neg hc,jI]
     exact hf
   obtain ⟨e,T,kf,e1,hsub,hkf,hf⟩:=hh
   subst e e1
   try dsimp only
   refine Exs.sub ?_ hsub
   clear hsub
   generalize hA':(A1++if kind=2 then (zA5 lv kind k (room - 2)).map fun kid=>tm 103 [kid,tm 121 []] else [])=A2 at hf h
   have hA2:A2.length<=160:=by
    rw [<-hA',zE]
    split
    ·rw [zD];exact yL hA1 (hb (room - 2) ha2)
    ·exact zB hA1 (by decide)
   refine zE7 (Ex.mono (P:=fun fl ρ' σ'=>fl=.next/\RI σ (fun kf=>(zA "found",V.ref kf)::[(zA "leaves",V.ref lx),(zA "kind",V.int kind),(zA "room",V.int room)]) ρ' (A2++if kind=0∨kind=3 then (List.range (room - 2)).flatMap (fun i=>(zA5 lv kind k (i+1)).flatMap fun kid=>(zA5 lv kind k (room - 1 - (i+1))).map fun other=>tm 103 [kid,other]) else []) σ') ?_ fun fl ρ' σ' hh=>?_)
   ·refine zW0 (jP9 (gU (gB rfl (ev_s rfl ?_))))
    refine zM1 (l:=[.int (0:Nat),.int (3:Nat)]) rfl rfl (zL rfl) (gM ?_)
    rw [zU6]
    by_cases hc:kind=0∨kind=3
    ·refine ifT (decide_eq_true hc) ?_
     refine zI9 (gW B rfl (by rfl) (by rfl) (by decide) ⟨_,rfl,rfl,gJ rfl ?_⟩)
     refine zK4 (by decide) (by rw [cr1,xJ];exact zB ha1 (by decide)) ?_
     have hup:((room:Int) - 1 - 1).toNat=room - 2:=by rw [cr1];exact xB (room - 1) 1
     have hup':(upto 1 ((room:Int) - 1)).length=room - 2:=by rw [zE5,hup]
     refine ⟨fun i ρ' σ'=>RE σ (fun kf=>(zA "found",V.ref kf)::[(zA "leaves",V.ref lx),(zA "kind",V.int kind),(zA "room",V.int room)]) (fun oo1=>True) ρ' (A2++(List.range i).flatMap (fun i=>(zA5 lv kind k (i+1)).flatMap fun kid=>(zA5 lv kind k (room - 1 - (i+1))).map fun other=>tm 103 [kid,other])) σ',⟨T,kf,rfl,rfl,hkf,trivial,by rw [hf];simp⟩,fun oo1 oo2 oo3 oo4=>trivial,fun i v ρ' σ' hv hI=>?_,fun ρ' σ' hI=>?_⟩
     ·obtain ⟨T,kf,rfl,rfl,hkf,_,hf⟩:=hI
      obtain ⟨rfl,hi⟩:=zL0 hv
      rw [hup] at hi
      have hi0:i=0:=kZ.mp (zO hi (yB.mpr hr))
      subst hi0
      rw [show ((1:Int)+((0:Nat):Int))=((0+1:Nat):Int) from rfl]
      refine gN rfl ?_
      refine Exs.sub (ρ':=(zA "found",V.ref kf)::(zA "less",V.int ((0+1:Nat):Int))::[(zA "leaves",V.ref lx),(zA "kind",V.int kind),(zA "room",V.int room)]) ?_ (Sub.put rfl (Sub.put rfl (Sub.drop rfl (Sub.drop rfl (Sub.refl _)))))
      refine gC ?_;intro R Q
      refine zW0 (zB0 (zB8 B (zA1 B rfl (by rfl) ⟨_,rfl,by rfl,gJ rfl ?_⟩)))
      refine ih (0+1) (σ++T) _ (by decide) hk2 (yQ (jO k)) (hlx' _) fun T₁ k₁ hk₁ hk₂=>?_
      have hb1:=hb (0+1) (by decide)
      have hb2:=hb (room - 1 - (0+1)) ha3
      rw [app2] at hk₁ ⊢
      have hf₁:=keep T₁ hf
      refine ⟨_,_,gZ hk₁,fun q ρ' σ'=>RE σ (fun kf=>(zA "found",V.ref kf)::(zA "less",V.int ((0+1:Nat):Int))::[(zA "leaves",V.ref lx),(zA "kind",V.int kind),(zA "room",V.int room)]) (fun T=>(σ++T)[k₁]?=some (.lst (zA5 lv kind k (0+1)))) ρ' (A2++((zA5 lv kind k (0+1)).take q).flatMap fun kid=>(zA5 lv kind k (room - 1 - (0+1))).map fun other=>tm 103 [kid,other]) σ',
       ⟨T++T₁,kf,rfl,rfl,hkf,hk₁,by rw [hf₁];simp⟩,fun q ρ' σ' hh=>RE.at1 hh,fun q kid ρ' σ' hv hI=>?_,fun ρ' σ' hI=>?_⟩
      ·obtain ⟨T,kf,rfl,rfl,hkf,hk₁,hf⟩:=hI
       have hfl:(((zA5 lv kind k (0+1)).take q).flatMap fun kid=>(zA5 lv kind k (room - 1 - (0+1))).map fun other=>tm 103 [kid,other]).length<=80 * 80:=by
        rw [zF9]
        exact wF (zB (vW ..) hb1) hb2
       refine gN rfl ?_
       refine gC ?_;intro R Q
       refine gE ?_ (fun oo1 oo2=>rfl);intro kk;refine gV (gB rfl ?_)
       refine zC8 rfl rfl (by decide) (by decide) rfl ?_
       refine zB0 (zB8 B (zA1 B rfl (by rfl) ⟨_,rfl,by rfl,?_⟩))
       refine gD (gB rfl ?_)
       refine gD (gB rfl ?_)
       refine gD (gV (ev_s rfl ?_))
       refine gB rfl (zK1 (gF ?_))
       rw [cr3]
       refine ih (room - 1 - (0+1)) (σ++T) _ ha3 hk2 hc3 (hlx' _) fun T₂ k₂ hk₂ oo1=>?_
       refine ⟨_,_,gZ hk₂,fun j acc σ'=>acc=((zA5 lv kind k (room - 1 - (0+1))).take j).map (fun other=>tm 103 [kid,other])/\σ'=σ++T++T₂,⟨by simp,rfl⟩,by lia,fun j acc σ' h=>h.2 ▸ hk₂,fun j v acc σ' hv hl' hI=>?_,fun acc σ' hl' hI=>?_⟩
       ·obtain ⟨rfl,rfl⟩:=hI
        refine zA4 rfl (ev_s rfl (And.intro ?_ rfl))
        rw [jJ,hv]
        simp [tm,opV]
        rfl
       ·obtain ⟨rfl,rfl⟩:=hI
        rw [zR (zK _)]
        refine zY5 (b:=(zA5 lv kind k (room - 1 - (0+1))).map fun other=>tm 103 [kid,other]) (by rw [app2,app2];exact keep _ hf) gK (by rw [zE,zD];lia) ?_
        refine gN rfl ?_
        try dsimp only
        refine gG ?_
        refine ⟨_,Sub.put rfl (Sub.put rfl (Sub.drop rfl (Sub.drop rfl (Sub.drop rfl (Sub.drop rfl (Sub.refl _)))))),T++T₂++[.lst ((zA5 lv kind k (room - 1 - (0+1))).map fun other=>tm 103 [kid,other])]++[.lst ((A2++((zA5 lv kind k (0+1)).take q).flatMap fun kid=>(zA5 lv kind k (room - 1 - (0+1))).map fun other=>tm 103 [kid,other])++(zA5 lv kind k (room - 1 - (0+1))).map fun other=>tm 103 [kid,other])],_,by simp only [zP],rfl,?_,?_,?_⟩
        ·repeat' first | exact zK _ | refine lapp ?_
        ·rw [zP,zP];exact keep _ hk₁
        ·rw [zJ1 hv,<-zP,<-zP,<-zP]
         rw [gK,zP]
      ·obtain ⟨T,kf,rfl,rfl,hkf,hk₁,hf⟩:=hI
       rw [zR (zK _)] at hf
       try dsimp only
       refine gG ?_
       refine ⟨_,Sub.put rfl (Sub.drop rfl (Sub.drop rfl (Sub.refl _))),T,kf,rfl,rfl,hkf,trivial,?_⟩
       rw [hf]
       simp
     ·obtain ⟨T,kf,rfl,rfl,hkf,_,hf⟩:=hI
      rw [hup'] at hf
      refine ⟨rfl,T,kf,rfl,Sub.refl _,hkf,?_⟩
      rw [if_pos hc]
      exact hf
    ·refine ifF (decide_eq_false hc) ?_
     refine zB0 (gY (gF ⟨by simp,?_⟩))
     refine ⟨_,_,gZ gK,fun i ρ' σ'=>ρ'=(zA "found",V.ref kf)::[(zA "leaves",V.ref lx),(zA "kind",V.int kind),(zA "room",V.int room)]/\σ'=σ++T++[.lst []],⟨rfl,rfl⟩,fun i ρ' σ' h=>h.2 ▸ gK,fun i v ρ' σ' hv oo1=>by simp at hv,fun ρ' σ' hI=>?_⟩
     obtain ⟨rfl,rfl⟩:=hI
     refine ⟨rfl,T++[.lst []],kf,by rw [app2],Sub.refl _,hkf,?_⟩
     rw [if_neg hc,jI]
     exact keep _ hf
   obtain ⟨e,T,kf,e1,hsub,hkf,hf⟩:=hh
   subst e e1
   try dsimp only
   refine Exs.sub ?_ hsub
   refine gC ?_;intro R Q
   refine gL ?_
   refine gB rfl ?_
   exact h T kf hf hkf
theorem all:∀ d lx lv kind,S d lx lv kind:=cst (p:=fun z=>∀ lx lv kind,S z lx lv kind) (cst (p:=fun z=>∀ lv kind,S d z lv kind) (cst (p:=fun z=>∀ kind,S d lx z kind) (cst (p:=fun z=>S d lx lv z) core)))
end kH
section
variable {d:Nat}
theorem zU8 {d lx lv kind}:kH.S d lx lv kind:=kH.all d lx lv kind
end
noncomputable abbrev ring (lv:List V) (kind room:Nat):List V:=zA5 lv kind 2 room
noncomputable def zG8 (shape:Nat) (tw:V) (lv:List V) (kind room:Nat):List V:=
 if shape=0 then (ring lv kind room).map fun kid=>tm 112 [tw,kid] else
  (List.range (room - 1)).flatMap fun i=>(ring lv kind (i+1)).flatMap fun kid=>(ring lv kind (room - (i+1))).map fun other=>if shape=1 then tm 112 [tw,kid,other] else tm 112 [kid,tw,other]
theorem lt_app {α:Type} {l m:List α} {k:Nat} (h:(l++m).length<=k) (h0:0 < m.length):l.length < k:=zO (by rw [zE];exact Nat.lt_add_of_pos_right h0) h
section
variable {d:Nat} {σ:Sto}
end
namespace kD
def S (d:Nat) (σ:Sto) (lx:Nat) (lv:List V) (kind:Nat) (room:Nat) (tw:V) (P:V->Sto->Prop):Prop:=∀ (B:Bs w h₀) (hl:lv.length<=2) {shape:Nat} (hr:room<=3) (hlx:σ[lx]?=some (.lst lv)) (h:∀ T kf,(σ++T)[kf]?=some (.lst (zG8 shape tw lv kind room))->σ.length<=kf->P (.ref kf) (σ++T)),Cl w h₀ (d+4) (.ref 509) [.int shape,tw,.ref lx,.int kind,.int room] σ P
noncomputable def d:Nat:=pick fun z=>∀ σ lx lv kind room tw P,S z σ lx lv kind room tw P
noncomputable def σ:Sto:=pick fun z=>∀ lx lv kind room tw P,S d z lx lv kind room tw P
noncomputable def lx:Nat:=pick fun z=>∀ lv kind room tw P,S d σ z lv kind room tw P
noncomputable def lv:List V:=pick fun z=>∀ kind room tw P,S d σ lx z kind room tw P
noncomputable def kind:Nat:=pick fun z=>∀ room tw P,S d σ lx lv z room tw P
noncomputable def room:Nat:=pick fun z=>∀ tw P,S d σ lx lv kind z tw P
noncomputable def tw:V:=pick fun z=>∀ P,S d σ lx lv kind room z P
noncomputable def P:V->Sto->Prop:=pick fun z=>S d σ lx lv kind room tw z
theorem core:S d σ lx lv kind room tw P:=by
 intro B hl shape hr hlx h
 have hb:∀ r,r<=3->(ring lv kind r).length<=80:=fun r hr=>jN8 hl kind (zK 2) hr
 have hlx':∀ T,(σ++T)[lx]?=some (.lst lv):=fun T=>by rw [zH (zC.mp hlx).1];exact hlx
 refine Cd.cl (zA3 (ps:=[zA "shape",zA "tower",zA "leaves",zA "kind",zA "room"]) B (by rfl) (by rfl) (len5 fun oo1 oo2 oo3 oo4 oo5=>rfl) rfl (by decide) (fun oo1=>by rfl) ?_)
 refine gC ?_;intro R Q
 refine zC1 ?_
 refine gU (gB rfl (gI (zE4 (gM ?_))))
 by_cases h0:shape=0
 ·subst h0
  refine ifT rfl ?_
  refine gC ?_;intro R Q
  refine gL ?_
  refine zC8 rfl rfl (by decide) (by decide) rfl ?_
  refine zB0 (zB8 B (zA1 B rfl (by rfl) ⟨_,rfl,by rfl,?_⟩))
  refine gD (gB rfl ?_)
  refine gD (gB rfl ?_)
  refine gJ rfl ?_
  refine zU8 (d:=d) B hl 2 room σ _ hr (by decide) hr hlx fun T k₁ hk₁ oo1=>?_
  refine ⟨_,_,gZ hk₁,fun j acc σ'=>acc=((ring lv kind room).take j).map (fun kid=>tm 112 [tw,kid])/\σ'=σ++T,⟨by simp,rfl⟩,zB (hb room hr) (by decide),fun j acc σ' h=>h.2 ▸ hk₁,fun j v acc σ' hv hl' hI=>?_,fun acc σ' hl' hI=>?_⟩
  ·obtain ⟨rfl,rfl⟩:=hI
   refine zA4 rfl (ev_s rfl (And.intro ?_ rfl))
   rw [jJ,hv]
   simp [tm,opV]
   rfl
  ·obtain ⟨rfl,rfl⟩:=hI
   rw [app2]
   refine h _ _ ?_ (lapp (zK _))
   rw [<-app2,gK,zR (zK _)]
   rfl
 ·refine ifF (zF6 h0) ?_
  unfold zG8 at h
  rw [if_neg h0] at h
  refine gG ?_
  refine gC ?_;intro R Q
  refine gE ?_ (fun oo1 oo2=>rfl);intro kk;refine gY (gF ⟨by simp,?_⟩)
  refine gN rfl ?_
  rw [show σ.length=σ.length+0 from rfl]
  generalize hF:(fun i=>(ring lv kind (i+1)).flatMap fun kid=>(ring lv kind (room - (i+1))).map fun other=>if shape=1 then tm 112 [tw,kid,other] else tm 112 [kid,tw,other])=F at h
  have hFl:∀ i,i < 2->(F i).length<=6400:=fun i hi=>by
   rw [<-hF]
   show (List.flatMap _ _).length<=_
   rw [zF9]
   exact wF (hb _ (yK hi)) (hb _ (zB (qG _ _) hr))
  refine gC ?_;intro R Q
  refine zD6 ?_;intro kk
  refine zI9 (gW B rfl (by rfl) (by rfl) (by decide) ⟨_,rfl,rfl,gJ rfl ?_⟩)
  refine zK4 (by decide) (by rw [xJ];exact zB hr (by decide)) ?_
  have hup:(upto 1 (room:Int)).length=room - 1:=by rw [zE5];exact xB room 1
  refine ⟨fun i σ'=>∃ T,σ'=σ++T/\T[0]?=some (.lst ((List.range i).flatMap F)),⟨[.lst []],rfl,rfl⟩,fun oo1 oo2 oo3=>trivial,fun i v σ' hv hI=>?_,fun σ' hI=>?_⟩
  ·obtain ⟨T,rfl,hT⟩:=hI
   obtain ⟨rfl,hi⟩:=zL0 hv
   have hi:i < room - 1:=xB room 1 ▸ hi
   have hi2:i < 2:=zO hi (yB.mpr hr)
   have hi3:=yK hi2
   have hr':room - (i+1)<=3:=zB (qG _ _) hr
   have hpre:((List.range i).flatMap F).length<=2 * 6400:=by
    rw [yJ]
    refine zB (jD6 (k:=6400) fun j hj=>hFl j (wY (jX.mp hj) hi2)) ?_
    rw [qR]
    exact yR _ (qI hi2)
   rw [show ((1:Int)+(i:Int))=((i+1:Nat):Int) from Int.add_comm 1 i]
   refine gN rfl ?_
   refine gC ?_;intro R Q
   refine zD6 ?_;intro kk
   refine zB0 (zB8 B (zA1 B rfl (by rfl) ⟨_,rfl,by rfl,?_⟩))
   refine gD (gB rfl ?_)
   refine gD (gB rfl ?_)
   refine gJ rfl ?_
   refine zU8 (d:=d) B hl 2 (i+1) (σ++T) _ hi3 (by decide) hi3 (hlx' _) fun T₁ k₁ hk₁ hk₂=>?_
   have hb1:=hb (i+1) hi3
   have hb2:=hb (room - (i+1)) hr'
   have hT0:0 < T.length:=(zC.mp hT).1
   rw [app2] at hk₁ ⊢
   have hk₀:=lt_app hk₂ hT0
   obtain ⟨k₁',rfl⟩:∃ k,k₁=σ.length+k:=⟨k₁ - σ.length,(Nat.add_sub_of_le (qI hk₀)).symm⟩
   rw [gX] at hk₁
   have hk₁0:=jP (Nat.pos_of_lt_add_right hk₀)
   refine ⟨_,_,gZ (by rw [gX];exact hk₁),fun q σ'=>∃ T,σ'=σ++T/\T[k₁']?=some (.lst (ring lv kind (i+1)))/\T[0]?=some (.lst ((List.range i).flatMap F++((ring lv kind (i+1)).take q).flatMap fun kid=>(ring lv kind (room - (i+1))).map fun other=>if shape=1 then tm 112 [tw,kid,other] else tm 112 [kid,tw,other])),
    ⟨T++T₁,rfl,hk₁,by rw [zH hT0,hT];simp⟩,fun q σ' ⟨_,e,h,_⟩=>by rw [e,gX];exact h,fun q kid σ' hv hI=>?_,fun σ' hI=>?_⟩
   ·obtain ⟨T,rfl,hk₁,hT⟩:=hI
    have hfl:(((ring lv kind (i+1)).take q).flatMap fun kid=>(ring lv kind (room - (i+1))).map fun other=>if shape=1 then tm 112 [tw,kid,other] else tm 112 [kid,tw,other]).length<=80 * 80:=by
     rw [zF9]
     exact wF (zB (vW ..) hb1) hb2
    generalize hpq:(List.range i).flatMap F++((ring lv kind (i+1)).take q).flatMap (fun kid=>(ring lv kind (room - (i+1))).map fun other=>if shape=1 then tm 112 [tw,kid,other] else tm 112 [kid,tw,other])=A at hT
    have hAl:A.length<=20000:=by rw [<-hpq,zE];exact zB (yL hpre hfl) (by decide)
    refine gN rfl ?_
    refine gC ?_;intro R Q
    refine zD6 ?_;intro kk
    refine zB0 (zB8 B (zA1 B rfl (by rfl) ⟨_,rfl,by rfl,?_⟩))
    refine gD (gB rfl ?_)
    refine gD (gB rfl ?_)
    refine gD (gV (gB rfl ?_))
    refine gB rfl (zK1 (gF ?_))
    rw [<-xW (zB hi (qG _ _))]
    have hT0:0 < T.length:=(zC.mp hT).1
    refine zU8 (d:=d) B hl 2 (room - (i+1)) (σ++T) _ hr' (by decide) hr' (hlx' _) fun T₂ k₂ hk₂ hk₃=>?_
    rw [app2] at hk₂ ⊢
    have hk₀:=lt_app hk₃ hT0
    obtain ⟨k₂',rfl⟩:∃ k,k₂=σ.length+k:=⟨k₂ - σ.length,(Nat.add_sub_of_le (qI hk₀)).symm⟩
    rw [gX] at hk₂
    have hk₂0:=jP (Nat.pos_of_lt_add_right hk₀)
    refine ⟨_,_,gZ (by rw [gX];exact hk₂),fun r σ'=>∃ T,σ'=σ++T/\T[k₁']?=some (.lst (ring lv kind (i+1)))/\T[k₂']?=some (.lst (ring lv kind (room - (i+1))))/\T[0]?=some (.lst (A++((ring lv kind (room - (i+1))).take r).map fun other=>if shape=1 then tm 112 [tw,kid,other] else tm 112 [kid,tw,other])),
     ⟨T++T₂,rfl,by rw [zH (zC.mp hk₁).1];exact hk₁,hk₂,by rw [zH hT0,hT];simp⟩,fun r σ' ⟨_,e,_,h,_⟩=>by rw [e,gX];exact h,fun r other σ' hv₂ hI=>?_,fun σ' hI=>?_⟩
    ·obtain ⟨T,rfl,hk₁,hk₂,hT⟩:=hI
     have hrl:((ring lv kind (room - (i+1))).take r).length<=80:=zB (vW ..) hb2
     refine gN rfl ?_
     refine gC ?_;intro R Q
     refine zA2 (zB1 (gB rfl ?_))
     refine ⟨"list","list.append",.inl ⟨_,by rw [gX];exact hT,rfl⟩,jH,qB,qC,?_⟩
     refine gD (zG3 (gU (gB rfl (gI (zE4 (gM ?_))))))
     have fin:∀ v,v=(if shape=1 then tm 112 [tw,kid,other] else tm 112 [kid,tw,other])->∃ T',σ++T.set 0 (.lst ((A++((ring lv kind (room - (i+1))).take r).map fun other=>if shape=1 then tm 112 [tw,kid,other] else tm 112 [kid,tw,other])++[v]))=σ++T'/\T'[k₁']?=some (.lst (ring lv kind (i+1)))/\T'[k₂']?=some (.lst (ring lv kind (room - (i+1))))/\T'[0]?=some (.lst (A++((ring lv kind (room - (i+1))).take (r+1)).map fun other=>if shape=1 then tm 112 [tw,kid,other] else tm 112 [kid,tw,other])):=fun v hv=>by
      refine ⟨_,rfl,by rw [jD hk₁0];exact hk₁,by rw [jD hk₂0];exact hk₂,?_⟩
      rw [jW (zC.mp hT).1,jJ,hv₂,hv]
      simp
     by_cases h1:shape=1
     ·subst h1
      refine ifT rfl ?_
      refine ev_s rfl (gF ?_)
      refine zC4 (by rw [gX];exact hT) (by rw [zE,zD];exact zB (yL hAl hrl) (by decide)) ?_
      rw [zI3]
      refine gG ?_
      exact ⟨Sub.drop rfl (Sub.refl _),fin _ rfl⟩
     ·refine ifF (zF6 h1) ?_
      refine ev_s rfl (gF ?_)
      refine zC4 (by rw [gX];exact hT) (by rw [zE,zD];exact zB (yL hAl hrl) (by decide)) ?_
      rw [zI3]
      refine gG ?_
      exact ⟨Sub.drop rfl (Sub.refl _),fin _ (by rw [if_neg h1];rfl)⟩
    ·obtain ⟨T,rfl,hk₁,hk₂,hT⟩:=hI
     rw [zR (zK _)] at hT
     refine gG ?_
     refine ⟨Sub.drop rfl (Sub.refl _),T,rfl,hk₁,?_⟩
     rw [zJ1 hv,<-zP,hpq]
     exact hT
   ·obtain ⟨T,rfl,hk₁,hT⟩:=hI
    rw [zR (zK _)] at hT
    refine gG ?_
    refine ⟨Sub.drop rfl (Sub.refl _),T,rfl,?_⟩
    rw [hT,yE,yW,<-hF]
    simp
  ·obtain ⟨T,rfl,hT⟩:=hI
   rw [hup] at hT
   refine gC ?_;intro R Q
   refine gL ?_
   refine gB rfl ?_
   exact h T (σ.length+0) (by rw [gX];exact hT) (zK _)
theorem all:∀ d σ lx lv kind room tw P,S d σ lx lv kind room tw P:=cst (p:=fun z=>∀ σ lx lv kind room tw P,S z σ lx lv kind room tw P) (cst (p:=fun z=>∀ lx lv kind room tw P,S d z lx lv kind room tw P) (cst (p:=fun z=>∀ lv kind room tw P,S d σ z lv kind room tw P) (cst (p:=fun z=>∀ kind room tw P,S d σ lx z kind room tw P) (cst (p:=fun z=>∀ room tw P,S d σ lx lv z room tw P) (cst (p:=fun z=>∀ tw P,S d σ lx lv kind z tw P) (cst (p:=fun z=>∀ P,S d σ lx lv kind room z P) (cst (p:=fun z=>S d σ lx lv kind room tw z) core)))))))
end kD
section
variable {d:Nat} {σ:Sto}
theorem jT8 {d σ lx lv kind room tw P}:kD.S d σ lx lv kind room tw P:=kD.all d σ lx lv kind room tw P
end
structure zO1 (c:PC) (a b kept gone:Nat):Prop where
 ha:a < c.nodes.length
 hb:b < c.nodes.length
 hk:(fnd c.uab a=kept/\fnd c.uab b=gone)∨(fnd c.uab b=kept/\fnd c.uab a=gone)
 hlt:kept < gone
 hj:c.js < 100
 hl:(c.lots.getD kept []++c.lots.getD gone []).length<=100
noncomputable def zK6 (c:PC) (a b kept gone:Nat):Bool:=
 wA a c.nodes.length && wA b c.nodes.length && ((xE (fnd c.uab a) kept && xE (fnd c.uab b) gone) || (xE (fnd c.uab b) kept && xE (fnd c.uab a) gone)) && wA kept gone && wA c.js 100 && Nat.ble (c.lots.getD kept []++c.lots.getD gone []).length 100
theorem zO1.of {c:PC} {a b kept gone:Nat} (h:zK6 c a b kept gone=true):zO1 c a b kept gone:=by
 unfold zK6 at h
 simp only [jL,Bool.or_eq_true] at h
 obtain ⟨⟨⟨⟨⟨h1,h2⟩,h3⟩,h4⟩,h5⟩,h6⟩:=h
 refine ⟨zL h1,zL h2,?_,zL h4,zL h5,zL h6⟩
 rcases h3 with ⟨a,b⟩ | ⟨a,b⟩
 ·exact .inl ⟨qM a,qM b⟩
 ·exact .inr ⟨qM a,qM b⟩
noncomputable def cX (wide tall:Nat):PC:=addC (cT wide tall) (120,[])
noncomputable def stF (kind x:Nat) (c:PC):PC:=if kind=1∨kind=3 then zO8 (addC c (102,[x])) x c.nodes.length else c
noncomputable def stG (kind x:Nat) (c:PC):PC:=if kind=0∨kind=3 then zO8 (addC c (103,[x,x])) x c.nodes.length else c
noncomputable def stY (kind x:Nat) (c:PC):PC:=if kind=2 then zO8 (addC (addC c (121,[])) (103,[x,c.nodes.length])) x (c.nodes.length+1) else c
noncomputable def stU (two:Bool) (x:Nat) (c:PC):PC:=if two then zO8 (addC c (117,[])) x c.nodes.length else c
noncomputable def psOf (shape top x:Nat):List Nat:=if shape=0 then [top,x] else if shape=1 then [top,x,x] else [x,top,x]
noncomputable def c1 (wide tall kind:Nat):PC:=stF kind (2+tall) (cX wide tall)
noncomputable def c2 (wide tall kind:Nat):PC:=stG kind (2+tall) (c1 wide tall kind)
noncomputable def c3 (wide tall kind:Nat):PC:=stY kind (2+tall) (c2 wide tall kind)
noncomputable def c4 (wide tall kind:Nat) (two:Bool):PC:=stU two (2+tall) (c3 wide tall kind)
noncomputable def cFin (wide tall kind:Nat) (two:Bool) (shape:Nat):PC:=addC (c4 wide tall kind two) (112,psOf shape (1+tall) (2+tall))
noncomputable def L72:List (Nat×Nat×Nat×Bool):=[0,1,2].flatMap fun s=>[0,1,2,3].flatMap fun k=>[0,1,2].flatMap fun t=>[(s,k,t,false),(s,k,t,true)]
theorem mem72 {s k t:Nat} {b:Bool} (h:t<=2) (hk:k < 4) (hs:s < 3):(s,k,t,b)∈L72:=by
 have m3:∀ n,n < 3->n∈[0,1,2]:=by decide
 have m4:∀ n,n < 4->n∈[0,1,2,3]:=by decide
 refine qL.mpr ⟨s,m3 s hs,qL.mpr ⟨k,m4 k hk,qL.mpr ⟨t,m3 t (wL h),?_⟩⟩⟩
 cases b
 ·exact jA ..
 ·exact zY _ (jA ..)
theorem all72 {α:Type} {f g:Nat×Nat×Nat×Bool->α} (e:L72.map f=L72.map g) {s k t:Nat} {b:Bool} (h:t<=2) (hk:k < 4) (hs:s < 3):f (s,k,t,b)=g (s,k,t,b):=List.map_inj_left.mp e _ (mem72 h hk hs)
theorem tall3 {tall:Nat} (h:tall<=2):tall=0∨tall=1∨tall=2:=by lia
theorem kind4 {kind:Nat} (h:kind < 4):kind=0∨kind=1∨kind=2∨kind=3:=(by decide:∀ k,k < 4->(k=0∨k=1∨k=2∨k=3)) kind h
theorem okX {wide tall:Nat} (h:tall<=2):zH5 (cT wide tall) (120,[])=true:=by
 rcases tall3 h with rfl | rfl | rfl <;> kernel_rfl
theorem okF {wide tall:Nat} (h:tall<=2):(zH5 (cX wide tall) (102,[2+tall]) && zK6 (addC (cX wide tall) (102,[2+tall])) (2+tall) (cX wide tall).nodes.length (2+tall) (cX wide tall).nodes.length)=true:=by
 rcases tall3 h with rfl | rfl | rfl <;> kernel_rfl
theorem okG {wide tall kind:Nat} (h:tall<=2) (hk:kind=0∨kind=3):(zH5 (c1 wide tall kind) (103,[2+tall,2+tall]) && zK6 (addC (c1 wide tall kind) (103,[2+tall,2+tall])) (2+tall) (c1 wide tall kind).nodes.length (2+tall) (c1 wide tall kind).nodes.length)=true:=by
 rcases hk with rfl | rfl <;> rcases tall3 h with rfl | rfl | rfl <;> kernel_rfl
theorem okY {wide tall:Nat} (h:tall<=2):(zH5 (c2 wide tall 2) (121,[]) && zH5 (addC (c2 wide tall 2) (121,[])) (103,[2+tall,(c2 wide tall 2).nodes.length]) &&
  zK6 (addC (addC (c2 wide tall 2) (121,[])) (103,[2+tall,(c2 wide tall 2).nodes.length])) (2+tall) ((c2 wide tall 2).nodes.length+1) (2+tall) ((c2 wide tall 2).nodes.length+1))=true:=by
 rcases tall3 h with rfl | rfl | rfl <;> kernel_rfl
theorem okU {wide tall kind:Nat} (h:tall<=2) (hk:kind < 4):(zH5 (c3 wide tall kind) (117,[]) && zK6 (addC (c3 wide tall kind) (117,[])) (c3 wide tall kind).nodes.length (2+tall) (2+tall) (c3 wide tall kind).nodes.length)=true:=
 all72 (s:=0) (b:=true) (f:=fun x=>(zH5 (c3 wide x.2.2.1 x.2.1) (117,[]) && zK6 (addC (c3 wide x.2.2.1 x.2.1) (117,[])) (c3 wide x.2.2.1 x.2.1).nodes.length (2+x.2.2.1) (2+x.2.2.1) (c3 wide x.2.2.1 x.2.1).nodes.length)) (g:=fun oo1=>true) (by kernel_rfl) h hk (by decide)
theorem okP {wide tall kind shape:Nat} {two:Bool} (h:tall<=2) (hk:kind < 4) (hs:shape < 3):zH5 (c4 wide tall kind two) (112,psOf shape (1+tall) (2+tall))=true:=
 all72 (f:=fun x=>zH5 (c4 wide x.2.2.1 x.2.1 x.2.2.2) (112,psOf x.1 (1+x.2.2.1) (2+x.2.2.1))) (g:=fun oo1=>true) (by kernel_rfl) h hk hs
noncomputable def GC (c:PC):Gr:=fun k=>if k < c.nodes.length then (c.lots.getD (fnd c.uab k) []).map (fun n=>canC c.uab (c.nodes.getD n (0,[]))) else []
noncomputable def xn (x kind:Nat) (two:Bool):List (Nat×List Nat):=
 (120,[])::((if kind=0 then [(103,[x,x])] else if kind=1 then [(102,[x])] else if kind=2 then [(103,[x,x+1])] else [(102,[x]),(103,[x,x])])++if two then [(117,[])] else [])
noncomputable def mid (x kind:Nat) (two:Bool):List (List (Nat×List Nat)):=
 if kind=0 then [xn x kind two] else if kind=1 then [xn x kind two] else if kind=2 then [[(121,[])],xn x kind two] else [xn x kind two,xn x kind two]
noncomputable def gl (wide tall kind:Nat) (two:Bool) (shape:Nat):List (List (Nat×List Nat)):=
 [[(122,[])],[(119,(List.replicate wide 0).map (fnd (cFin wide tall kind two shape).uab))]]++(List.range tall).map (fun k=>[(104,[k+1])])++[xn (2+tall) kind two]++mid (2+tall) kind two++(if two then [xn (2+tall) kind two] else [])++[[(112,psOf shape (1+tall) (2+tall))]]
theorem gl_eq {wide tall kind shape:Nat} {two:Bool} (h:tall<=2) (hk:kind < 4) (hs:shape < 3):(List.range (cFin wide tall kind two shape).nodes.length).map (GC (cFin wide tall kind two shape))=gl wide tall kind two shape:=
 all72 (f:=fun x=>(List.range (cFin wide x.2.2.1 x.2.1 x.2.2.2 x.1).nodes.length).map (GC (cFin wide x.2.2.1 x.2.1 x.2.2.2 x.1))) (g:=fun x=>gl wide x.2.2.1 x.2.1 x.2.2.2 x.1) (by kernel_rfl) h hk hs
noncomputable def Uof (wide n:Nat) (T:List (List Nat)):List (List Nat):=
 (List.range (wide+1)).map (fun k=>List.replicate k 0)++((List.range n).map (fun c=>[c])++((List.range n).flatMap (fun a=>(List.range n).map fun b=>[a,b])++T))
theorem zU1 {wide n k:Nat} {T:List (List Nat)} (h:k<=wide):List.replicate k 0∈Uof wide n T:=
 jF.mpr (.inl (jS.mpr ⟨k,jX.mpr (by lia),rfl⟩))
theorem zE6 {wide n c:Nat} {T:List (List Nat)} (h:c < n):[c]∈Uof wide n T:=
 jF.mpr (.inr (jF.mpr (.inl (jS.mpr ⟨c,jX.mpr h,rfl⟩))))
theorem jE3 {wide n a b:Nat} {T:List (List Nat)} (h:a < n) (h':b < n):[a,b]∈Uof wide n T:=
 jF.mpr (.inr (jF.mpr (.inr (jF.mpr (.inl (qL.mpr ⟨a,jX.mpr h,jS.mpr ⟨b,jX.mpr h',rfl⟩⟩))))))
theorem Uof_T {wide n:Nat} {T:List (List Nat)} {cs:List Nat} (h:cs∈T):cs∈Uof wide n T:=
 jF.mpr (.inr (jF.mpr (.inr (jF.mpr (.inr h)))))
theorem jE5 {wide n:Nat} {T:List (List Nat)} {cs:List Nat} (h:cs∈Uof wide n T):(∃ k,k<=wide/\cs=List.replicate k 0)∨(∃ c,c < n/\cs=[c])∨(∃ a b,a < n/\b < n/\cs=[a,b])∨cs∈T:=by
 rcases jF.mp h with h | h
 ·obtain ⟨k,hk,rfl⟩:=jS.mp h
  exact .inl ⟨k,by have:=jX.mp hk;lia,rfl⟩
 ·rcases jF.mp h with h | h
  ·obtain ⟨c,hc,rfl⟩:=jS.mp h
   exact .inr (.inl ⟨c,jX.mp hc,rfl⟩)
  ·rcases jF.mp h with h | h
   ·obtain ⟨a,ha,h⟩:=qL.mp h
    obtain ⟨b,hb,rfl⟩:=jS.mp h
    exact .inr (.inr (.inl ⟨a,b,jX.mp ha,jX.mp hb,rfl⟩))
   ·exact .inr (.inr (.inr h))
theorem jR9 (n:Nat):((List.range n).flatMap (fun a=>(List.range n).map fun b=>[a,b])).length=n * n:=by
 rw [zF9 (List.range n) (List.range n) (fun a b=>[a,b]),qR]
theorem Uof_len (wide n:Nat) (T:List (List Nat)):(Uof wide n T).length=wide+1+(n+(n * n+T.length)):=by
 unfold Uof
 rw [zE,zE,zE,zD,zD,qR,qR,jR9]
noncomputable def chkL (c:PC):Bool:=
 (List.range c.nodes.length).all fun k=>wA (fnd c.uab k) c.nodes.length && Nat.ble (c.lots.getD (fnd c.uab k) []).length 4 && ((c.lots.getD (fnd c.uab k) []).all fun m=>wA m c.nodes.length) && decide (GC c k).Nodup
noncomputable def chkN (c:PC) (ps:List Nat):Bool:=
 Nat.ble c.nodes.length 10 && (List.range c.nodes.length).all fun k=>xE k 1 || (GC c k).all fun y=>(Nat.ble y.2.length 2 && y.2.all fun m=>wA m c.nodes.length) || decide (y.2=ps)
theorem chkL_ok {wide tall kind shape:Nat} {two:Bool} (h:tall<=2) (hk:kind < 4) (hs:shape < 3):chkL (cFin wide tall kind two shape)=true:=
 all72 (f:=fun x=>chkL (cFin wide x.2.2.1 x.2.1 x.2.2.2 x.1)) (g:=fun oo1=>true) (by kernel_rfl) h hk hs
theorem chkN_ok {wide tall kind shape:Nat} {two:Bool} (h:tall<=2) (hk:kind < 4) (hs:shape < 3):chkN (cFin wide tall kind two shape) (psOf shape (1+tall) (2+tall))=true:=
 all72 (f:=fun x=>chkN (cFin wide x.2.2.1 x.2.1 x.2.2.2 x.1) (psOf x.1 (1+x.2.2.1) (2+x.2.2.1))) (g:=fun oo1=>true) (by kernel_rfl) h hk hs
theorem jO3 {α:Type} {f:Nat->α} {l:List α} {n k:Nat} (h:(List.range n).map f=l) (hk:k < n):l[k]?=some (f k):=by
 rw [<-h,zS,yU hk];rfl
theorem at_x {wide tall kind shape:Nat} {two:Bool} (h:tall<=2):(gl wide tall kind two shape)[2+tall]?=some (xn (2+tall) kind two):=by
 rcases tall3 h with rfl | rfl | rfl <;> kernel_rfl
theorem at_y {wide tall shape:Nat} {two:Bool} (h:tall<=2):(gl wide tall 2 two shape)[3+tall]?=some [(121,[])]:=by
 rcases tall3 h with rfl | rfl | rfl <;> kernel_rfl
theorem at_p {wide tall kind shape:Nat} {two:Bool} (h:tall<=2) (hk:kind < 4):(gl wide tall kind two shape)[(c4 wide tall kind two).nodes.length]?=some [(112,psOf shape (1+tall) (2+tall))]:=
 all72 (s:=0) (f:=fun x=>(gl wide x.2.2.1 x.2.1 x.2.2.2 shape)[(c4 wide x.2.2.1 x.2.1 x.2.2.2).nodes.length]?) (g:=fun x=>some [(112,psOf shape (1+x.2.2.1) (2+x.2.2.1))]) (by kernel_rfl) h hk (by decide)
theorem at_h {wide tall kind shape k:Nat} {two:Bool} (h:tall<=2) (hk:k < tall):(gl wide tall kind two shape)[2+k]?=some [(104,[k+1])]:=by
 cases tall with
 | zero=>exact absurd hk (wI _)
 | succ tall=>
  cases tall with
  | zero=>cases kZ.mp hk;kernel_rfl
  | succ tall=>
   cases vV.mp (qV (qV h))
   cases k with
   | zero=>kernel_rfl
   | succ k=>cases vV.mp (qV (jR hk));kernel_rfl
theorem zX5 {wide tall kind shape:Nat} {two:Bool} (h:tall<=2) (hk:kind < 4) (hs:shape < 3) :
  (xE (fnd (cFin wide tall kind two shape).uab (2+tall)) (2+tall) && xE (fnd (cFin wide tall kind two shape).uab (c4 wide tall kind two).nodes.length) (c4 wide tall kind two).nodes.length && xE (fnd (cFin wide tall kind two shape).uab 0) 0 &&
   wA (2+tall) (c4 wide tall kind two).nodes.length && (wA (3+tall) (c4 wide tall kind two).nodes.length) && xE (cFin wide tall kind two shape).nodes.length ((c4 wide tall kind two).nodes.length+1))=true:=
 all72 (f:=fun x=>(xE (fnd (cFin wide x.2.2.1 x.2.1 x.2.2.2 x.1).uab (2+x.2.2.1)) (2+x.2.2.1) && xE (fnd (cFin wide x.2.2.1 x.2.1 x.2.2.2 x.1).uab (c4 wide x.2.2.1 x.2.1 x.2.2.2).nodes.length) (c4 wide x.2.2.1 x.2.1 x.2.2.2).nodes.length && xE (fnd (cFin wide x.2.2.1 x.2.1 x.2.2.2 x.1).uab 0) 0 &&
   wA (2+x.2.2.1) (c4 wide x.2.2.1 x.2.1 x.2.2.2).nodes.length && (wA (3+x.2.2.1) (c4 wide x.2.2.1 x.2.1 x.2.2.2).nodes.length) && xE (cFin wide x.2.2.1 x.2.1 x.2.2.2 x.1).nodes.length ((c4 wide x.2.2.1 x.2.1 x.2.2.2).nodes.length+1))) (g:=fun oo1=>true) (by kernel_rfl) h hk hs
theorem GC_w {wide tall kind shape:Nat} {two:Bool} (h:tall<=2) (hk:kind < 4) (hs:shape < 3):GC (cFin wide tall kind two shape) 1=[(119,List.replicate wide 0)]:=by
 have hr:=zX5 (wide:=wide) (two:=two) h hk hs
 simp only [jL] at hr
 obtain ⟨⟨⟨⟨⟨r1,r2⟩,r3⟩,r4⟩,r5⟩,r6⟩:=hr
 have h4:=zL r4
 have h6:=qM r6
 have:=jO3 (gl_eq (wide:=wide) (two:=two) h hk hs) (k:=1) (by lia)
 have e:(gl wide tall kind two shape)[1]?=some [(119,(List.replicate wide 0).map (fnd (cFin wide tall kind two shape).uab))]:=rfl
 rw [e] at this
 rw [<-Option.some.inj this,List.map_replicate,qM r3]
namespace kN
def S (wide:Nat) (tall:Nat) (kind:Nat) (shape:Nat) (two:Bool) (p:PH):Prop:=∀ (h:tall<=2) (hk:kind < 4) (hs:shape < 3) (hw:wide<=19) (P:GP p (cFin wide tall kind two shape)),HG p (GC (cFin wide tall kind two shape)) (Uof wide (cFin wide tall kind two shape).nodes.length [psOf shape (1+tall) (2+tall)]) 31
noncomputable def wide:Nat:=pick fun z=>∀ tall kind shape two p,S z tall kind shape two p
noncomputable def tall:Nat:=pick fun z=>∀ kind shape two p,S wide z kind shape two p
noncomputable def kind:Nat:=pick fun z=>∀ shape two p,S wide tall z shape two p
noncomputable def shape:Nat:=pick fun z=>∀ two p,S wide tall kind z two p
noncomputable def two:Bool:=pick fun z=>∀ p,S wide tall kind shape z p
noncomputable def p:PH:=pick fun z=>S wide tall kind shape two z
theorem core:S wide tall kind shape two p:=by
 intro h hk hs hw P
 have cL:=chkL_ok (wide:=wide) (two:=two) h hk hs
 have cN:=chkN_ok (wide:=wide) (two:=two) h hk hs
 have hr:=zX5 (wide:=wide) (two:=two) h hk hs
 have hwn:=GC_w (wide:=wide) (two:=two) h hk hs
 generalize cFin wide tall kind two shape=c at *
 unfold chkL at cL
 unfold chkN at cN
 simp only [jL] at hr cN
 obtain ⟨⟨⟨⟨⟨r1,r2⟩,r3⟩,r4⟩,r5⟩,r6⟩:=hr
 have h4:=zL r4
 have h6:=qM r6
 have hn10:=zL cN.1
 have hsm:=P.small
 have lots:∀ k,k < c.nodes.length->fnd c.uab k < c.nodes.length/\(c.lots.getD (fnd c.uab k) []).length<=4/\(∀ m∈c.lots.getD (fnd c.uab k) [],m < c.nodes.length)/\(GC c k).Nodup:=fun k hk=>by
  have:=jQ.mp cL k (jX.mpr hk)
  simp only [jL,jQ] at this
  obtain ⟨⟨⟨a0,a1⟩,a2⟩,a3⟩:=this
  exact ⟨zL a0,zL a1,fun m hm=>zL (a2 m hm),of_decide_eq_true a3⟩
 have inU:∀ k,[k]∈Uof wide c.nodes.length [psOf shape (1+tall) (2+tall)]->k < c.nodes.length:=fun k hk=>by
  rcases jE5 hk with ⟨j,hj,e⟩ | ⟨j,hj,e⟩ | ⟨a,b,_,_,e⟩ | e
  ·cases j with
   | zero=>cases e
   | succ j=>
    rw [vI] at e
    have:=(List.cons.inj e).1
    lia
  ·cases e;exact hj
  ·cases e
  ·rw [zM] at e
   unfold psOf at e
   split at e
   ·cases e
   ·split at e <;> cases e
 have hcan:∀ l,canons p l=l.map fun n=>canC c.uab (c.nodes.getD n (0,[])):=fun l=>by
  unfold canons
  rw [P.nodes]
  refine qP fun n oo1=>?_
  show (_,_)=(_,_)
  rw [P.uab]
 refine { down:=by rw [P.uab];exact P.down,z1:=by rw [P.uab,P.len1];lia,z2:=by rw [P.nodes];lia,kids:=by rw [P.nodes,P.uab,P.len1];exact P.kids,cls:=fun k hk=>?_,tail:=fun a cs hcs=>?_,node:=fun k hk y hy=>?_,len:=fun cs hcs=>?_,big:=?_,g4:=fun k=>?_,n31:=by lia }
 ·have hkn:=inU k hk
  obtain ⟨l0,l1,l2,l3⟩:=lots k hkn
  have hG:GC c k=canons p (c.lots.getD (fnd c.uab k) []):=by
   rw [hcan]
   unfold GC
   rw [if_pos hkn]
  refine ⟨by rw [P.uab,P.len1];exact hkn,c.lots.getD (fnd c.uab k) [],?_,l1,by rw [<-hG];exact l3,by rw [P.nodes];exact l2,hG⟩
  rw [P.uab,P.lots,jG,zQ (by rw [P.len2];exact l0)]
  rfl
 ·rcases jE5 hcs with ⟨j,hj,e⟩ | ⟨j,hj,e⟩ | ⟨a',b,ha,hb,e⟩ | e
  ·cases j with
   | zero=>cases e
   | succ j=>
    rw [vI] at e
    cases e
    exact ⟨zE6 (by lia),zU1 (by lia)⟩
  ·cases e;exact ⟨zE6 hj,zU1 (k:=0) (by lia)⟩
  ·cases e;exact ⟨zE6 ha,zE6 hb⟩
  ·rw [zM] at e
   unfold psOf at e
   split at e
   ·cases e;exact ⟨zE6 (by lia),zE6 (by lia)⟩
   ·split at e
    ·cases e;exact ⟨zE6 (by lia),jE3 (by lia) (by lia)⟩
    ·cases e;exact ⟨zE6 (by lia),jE3 (by lia) (by lia)⟩
 ·have hkn:=inU k hk
  by_cases h1:k=1
  ·subst h1
   rw [hwn] at hy
   rw [zM.mp hy]
   exact zU1 (zK _)
  ·have:=jQ.mp cN.2 k (jX.mpr hkn)
   rcases vY.mp this with q | q
   ·exact absurd (qM q) h1
   ·have q:=jQ.mp q y hy
    rcases vY.mp q with q | q
    ·rw [jL] at q
     have q1:=zL q.1
     have q2:∀ m∈y.2,m < c.nodes.length:=fun m hm=>zL (jQ.mp q.2 m hm)
     obtain ⟨o,ks⟩:=y
     simp only at q1 q2 ⊢
     match ks,q1,q2 with
     | [],_,_=>exact zU1 (k:=0) (by lia)
     | [a],_,q2=>exact zE6 (q2 a (by simp))
     | [a,b],_,q2=>exact jE3 (q2 a (by simp)) (q2 b (by simp))
     | _::_::_::_,q1,_=>simp at q1
    ·rw [of_decide_eq_true q]
     exact Uof_T (zM.mpr rfl)
 ·rcases jE5 hcs with ⟨j,hj,e⟩ | ⟨j,hj,e⟩ | ⟨a',b,ha,hb,e⟩ | e
  ·rw [e,vA];lia
  ·rw [e];simp
  ·rw [e];simp
  ·rw [zM.mp e]
   unfold psOf
   split
   ·simp
   ·split <;> simp
 ·rw [Uof_len]
  have:c.nodes.length * c.nodes.length<=10 * 10:=wF hn10 hn10
  exact zB (yR 32 (yL (yQ hw) (yL hn10 (yQ this)))) (by decide)
 ·unfold GC
  split
  ·rename_i hk
   rw [zD]
   exact (lots k hk).2.1
  ·simp
theorem all:∀ wide tall kind shape two p,S wide tall kind shape two p:=cst (p:=fun z=>∀ tall kind shape two p,S z tall kind shape two p) (cst (p:=fun z=>∀ kind shape two p,S wide z kind shape two p) (cst (p:=fun z=>∀ shape two p,S wide tall z shape two p) (cst (p:=fun z=>∀ two p,S wide tall kind z two p) (cst (p:=fun z=>∀ p,S wide tall kind shape z p) (cst (p:=fun z=>S wide tall kind shape two z) core)))))
end kN
theorem hg_ok {wide tall kind shape two p}:kN.S wide tall kind shape two p:=kN.all wide tall kind shape two p
theorem jF2 {α β γ:Type} (l:List α) (f:α->β) (g:β->List γ):(l.map f).flatMap g=l.flatMap fun a=>g (f a):=by
 induction l with
 | nil=>rfl
 | cons a l ih=>rw [zU,zZ,zZ,ih]
theorem zT9 {α β γ:Type} (l:List α) (f:α->List β) (g:β->List γ):(l.flatMap f).flatMap g=l.flatMap fun a=>(f a).flatMap g:=by
 induction l with
 | nil=>rfl
 | cons a l ih=>rw [zZ,yW,ih,zZ]
theorem zF1 {α β γ:Type} (l:List α) (f:α->List β) (g:β->γ):(l.flatMap f).map g=l.flatMap fun a=>(f a).map g:=by
 induction l with
 | nil=>rfl
 | cons a l ih=>rw [zZ,qD,ih,zZ]
variable {G:Gr}
theorem zT3 (c n:Nat):RR G [c] n=(RT G c n).map fun t=>[t]:=by
 unfold RT
 rw [jE]
 conv=>lhs;rw [<-gA (RR G [c] n)]
 refine qP fun l hl=>?_
 have h1:=zX7 G n [c] l hl
 cases l with
 | nil=>cases h1
 | cons a l=>cases l with
  | nil=>rfl
  | cons b l=>cases h1
theorem zV5 (c:Nat):RT G c 0=[]:=by unfold RT;rw [RR_one0];rfl
theorem zV1 (c i:Nat):RT G c (i+1)=(G c).flatMap fun y=>(RR G y.2 i).map fun kids=>tm y.1 kids:=by
 unfold RT
 rw [RR_one,zF1]
 refine gS fun y oo1=>?_
 rw [jE]
 rfl
theorem zO9 (c:Nat) (cs:List Nat) (n:Nat):RR G (c::cs) n=(List.range n).flatMap fun i=>(RT G c (i+1)).flatMap fun t=>(RR G cs (n - 1 - i)).map fun rest=>t::rest:=by
 rw [zK3]
 refine gS fun i oo1=>?_
 rw [zV1,zT9]
 refine gS fun y oo1=>?_
 rw [jF2]
theorem flat_one {β:Type} {f:Nat->List β} {n k:Nat} (h:∀ i,i < n->i≠k->f i=[]):(List.range n).flatMap f=if k < n then f k else []:=by
 induction n with
 | zero=>rfl
 | succ n ih=>
  rw [yE,yW,List.flatMap_singleton]
  rw [ih fun i hi hk=>h i (qY hi) hk]
  by_cases e:k=n
  ·subst e
   rw [if_neg (yM k),if_pos (yH k)]
   rfl
  ·rw [h n (yH n) (fun q=>e q.symm),jI]
   by_cases h1:k < n
   ·rw [if_pos h1,if_pos (qY h1)]
   ·rw [if_neg h1,if_neg fun q=>(Nat.lt_or_eq_of_le (jR q)).elim h1 e]
theorem jD8 (s S:Nat):s < s+1+S:=zO (yH s) (qS _ _)
theorem zU3 (s S:Nat):s+1+S - 1 - s=S:=by rw [wM,qH 1 s];exact wE _ _
theorem rig_past {s room j:Nat} (h:room<=j):¬ s < s+1+room - 1 - j:=xM.mpr (by rw [wM];exact yB.mpr (by rw [qJ];exact jZ (jZ h 1) s))
theorem ahead1 {s room i:Nat} (h:i < room):s+1+room - 1 - i=s+1+(room - 1 - i):=by rw [wM,wM,qH 1 i,Nat.add_sub_assoc h]
noncomputable def Rig (G:Gr) (c s:Nat) (t:V):Prop:=∀ n,RT G c n=if n=s then [t] else []
noncomputable def Rigs (G:Gr) (cs:List Nat) (s:Nat) (ts:List V):Prop:=∀ n,RR G cs n=if n=s then [ts] else []
theorem zQ1:Rigs G [] 0 []:=fun n=>by rw [zJ9]
theorem zQ2 {c o s:Nat} {cs:List Nat} {ts:List V} (h:G c=[(o,cs)]) (r:Rigs G cs s ts):Rig G c (s+1) (tm o ts):=fun n=>by
 cases n with
 | zero=>rw [zV5,if_neg (wC s).symm]
 | succ i=>
  rw [zV1,h,zZ,yI,jI,r i]
  by_cases e:i=s
  ·rw [if_pos e,if_pos (congrArg kX e)];rfl
  ·rw [if_neg e,if_neg fun q=>e (kX.inj q)];rfl
theorem zJ3 {c s:Nat} {t:V} (r:Rig G c (s+1) t) (cs:List Nat) (n:Nat):RR G (c::cs) n=if s < n then (RR G cs (n - 1 - s)).map fun rest=>t::rest else []:=by
 rw [zO9,flat_one (k:=s) fun i oo1 hi=>by rw [r,if_neg fun q=>hi (kX.inj q)];rfl]
 by_cases h:s < n
 ·rw [if_pos h,if_pos h,r,if_pos rfl,zZ,yI,jI]
 ·rw [if_neg h,if_neg h]
theorem jB8 {c s S:Nat} {t:V} {cs:List Nat} {ts:List V} (r:Rig G c (s+1) t) (rs:Rigs G cs S ts):Rigs G (c::cs) (s+1+S) (t::ts):=fun n=>by
 rw [zJ3 r,rs]
 by_cases h:n=s+1+S
 ·rw [h,if_pos (jD8 s S),if_pos (zU3 s S),if_pos rfl];rfl
 ·rw [if_neg h]
  by_cases h1:s < n
  ·rw [if_pos h1,if_neg fun q:n - 1 - s=S=>h (q ▸ (jH4 h1).symm)];rfl
  ·rw [if_neg h1]
theorem jK6 {t:V} (r:Rig G 0 1 t):∀ k,Rigs G (List.replicate k 0) k (List.replicate k t)
 | 0=>zQ1
 | k+1=>by
  have:=jB8 (s:=0) r (jK6 r k)
  rw [qK,qH] at this
  exact this
theorem rigs_one {c s:Nat} {t:V} (r:Rig G c (s+1) t):Rigs G [c] (s+1) [t]:=jB8 r zQ1
theorem jC3 {wide:Nat} (h0:G 0=[(122,[])]) (h1:G 1=[(119,List.replicate wide 0)]):∀ k,(∀ j,j < k->G (2+j)=[(104,[j+1])])->Rig G (1+k) (wide+k+1) (tV wide k)
 | 0,_=>zQ2 h1 (jK6 (zQ2 h0 zQ1) wide)
 | k+1,h=>by
  have ih:=jC3 h0 h1 k fun j hj=>h j (qY hj)
  rw [show 1+(k+1)=2+k by rw [qH k 1,<-qJ]]
  refine zQ2 (h k (yH k)) ?_
  rw [qH k 1,show wide+(1+k)=wide+k+1 by rw [qH 1 k,<-qJ]]
  exact rigs_one ih
noncomputable def lvs (two:Bool):List V:=zL4 120::if two then [zL4 117] else []
theorem range_one:List.range 1=[0]:=rfl
theorem jU2:List.range 2=[0,1]:=rfl
theorem xn_RT {x kind i:Nat} {two:Bool} {A B C D:List (List V)} (hx:G x=xn x kind two) (a:RR G [] i=A) (b:RR G [x] i=B) (c:RR G [x,x] i=C) (e:kind=2->RR G [x,x+1] i=D) :
  RT G x (i+1)=A.map (tm 120)++((if kind=0 then C.map (tm 103) else if kind=1 then B.map (tm 102) else if kind=2 then D.map (tm 103) else B.map (tm 102)++C.map (tm 103))++if two then A.map (tm 117) else []):=by
 rw [zV1,hx]
 unfold xn
 rw [zZ,yW,a]
 refine congrArg (_++·) (congr (congrArg HAppend.hAppend ?_) ?_)
 ·by_cases k0:kind=0
  ·rw [if_pos k0,if_pos k0,zZ,yI,jI,c]
  rw [if_neg k0,if_neg k0]
  by_cases k1:kind=1
  ·rw [if_pos k1,if_pos k1,zZ,yI,jI,b]
  rw [if_neg k1,if_neg k1]
  by_cases k2:kind=2
  ·rw [if_pos k2,if_pos k2,zZ,yI,jI,e k2]
  rw [if_neg k2,if_neg k2,zZ,zZ,yI,jI,b,c]
 ·cases two
  ·rfl
  ·exact (jI _).trans (congrArg (List.map (tm 117)) a)
theorem ring_is {x kind:Nat} {two:Bool} (hk:kind < 4) (hx:G x=xn x kind two) (hy:kind=2->G (x+1)=[(121,[])]):∀ room,room<=3->RT G x room=ring (lvs two) kind room:=by
 have r0:RT G x 0=[]:=zV5 x
 have n0:RR G [] 0=[[]]:=by rw [zJ9,if_pos rfl]
 have n1:∀ i,RR G [] (i+1)=[]:=fun i=>by rw [zJ9,if_neg (wC i)]
 have x0:RR G [x] 0=[]:=by rw [zT3,r0];rfl
 have xx0:∀ a b,RR G [a,b] 0=[]:=fun a b=>zL2 G _ _ (by decide:0 < 2)
 have xx1:∀ a b,RR G [a,b] 1=[]:=fun a b=>zL2 G _ _ (by decide:1 < 2)
 have r1:RT G x 1=lvs two:=(xn_RT hx n0 x0 (xx0 x x) fun oo1=>xx0 x (x+1)).trans (by rcases kind4 hk with rfl | rfl | rfl | rfl <;> cases two <;> rfl)
 have x1:RR G [x] 1=(lvs two).map fun t=>[t]:=by rw [zT3,r1]
 have r2:RT G x 2=ring (lvs two) kind 2:=(xn_RT hx (n1 0) x1 (xx1 x x) fun oo1=>xx1 x (x+1)).trans (by rcases kind4 hk with rfl | rfl | rfl | rfl <;> cases two <;> rfl)
 have x2:RR G [x] 2=(ring (lvs two) kind 2).map fun t=>[t]:=by rw [zT3,r2]
 have two2:∀ c,RR G [x,c] 2=(lvs two).flatMap fun kid=>(RT G c 1).map fun other=>[kid,other]:=fun c=>by
  rw [zO9,jU2,zZ,zZ,yI,jI,r1,show 2 - 1 - 0=1 from rfl,show 2 - 1 - 1=0 from rfl,zT3 c 1,zT3 c 0,zV5]
  rw [show (RT G x (1+1)).flatMap (fun t=>(([]:List V).map fun t=>[t]).map fun rest=>t::rest)=[] from zB2 fun oo1 oo2=>rfl,jI]
  refine gS fun a oo1=>?_
  rw [jE]
  rfl
 have xx2:RR G [x,x] 2=(lvs two).flatMap fun kid=>(lvs two).map fun other=>[kid,other]:=by rw [two2,r1]
 have r3:RT G x 3=ring (lvs two) kind 3:=by
  refine (xn_RT (D:=(lvs two).flatMap fun kid=>[zL4 121].map fun other=>[kid,other]) hx (n1 1) x2 xx2 fun e=>?_).trans (by rcases kind4 hk with rfl | rfl | rfl | rfl <;> cases two <;> rfl)
  rw [two2,show RT G (x+1) 1=[zL4 121] from (zQ2 (hy e) zQ1 1).trans (if_pos rfl)]
 intro room hr
 match room,hr with
 | 0,_=>exact r0
 | 1,_=>exact r1
 | 2,_=>exact r2
 | 3,_=>exact r3
theorem RT_p {c m:Nat} {ps:List Nat} (h:G c=[(112,ps)]):RT G c (m+1)=(RR G ps m).map fun kids=>tm 112 kids:=by
 rw [zV1,h,zZ,yI,jI]
theorem jS1 {pI top x s kind shape room:Nat} {two:Bool} {tw:V} (hs:shape < 3) (hp:G pI=[(112,psOf shape top x)]) (ht:Rig G top (s+1) tw) (hr:∀ r,r<=3->RT G x r=ring (lvs two) kind r) (h3:room<=3) :
  RT G pI (s+1+room+1)=zG8 shape tw (lvs two) kind room:=by
 rw [RT_p hp]
 have r0:ring (lvs two) kind 0=[]:=by rw [<-hr 0 (jO 3),zV5]
 have hx2:∀ n,n<=3->RR G [x,x] n=(List.range n).flatMap fun i=>(ring (lvs two) kind (i+1)).flatMap fun kid=>(ring (lvs two) kind (n - 1 - i)).map fun other=>[kid,other]:=fun n hn=>by
  rw [zO9]
  refine gS fun i hi=>?_
  have hi:=jX.mp hi
  rw [hr _ (zB hi hn)]
  refine gS fun t oo1=>?_
  rw [zT3,hr _ (zB (zM8 n i) hn),jE]
  rfl
 have cut:∀ F:V->V->V,(List.range room).flatMap (fun i=>(ring (lvs two) kind (i+1)).flatMap fun kid=>(ring (lvs two) kind (room - 1 - i)).map fun other=>F kid other)=(List.range (room - 1)).flatMap fun i=>(ring (lvs two) kind (i+1)).flatMap fun kid=>(ring (lvs two) kind (room - (i+1))).map fun other=>F kid other:=fun F=>by
  rw [<-zH8 (k:=room - 1) (n:=room) (qG _ _) fun j h1 h2=>zB2 fun kid oo1=>by
   rw [Nat.sub_eq_zero_of_le h1,r0]
   rfl]
  refine gS fun i oo1=>gS fun kid oo1=>?_
  rw [wM,qH 1 i]
 have:shape=0∨shape=1∨shape=2:=by lia
 rcases this with rfl | rfl | rfl
 ·show (RR G [top,x] (s+1+room)).map _=(ring (lvs two) kind room).map _
  rw [zJ3 ht,if_pos (jD8 s room),zU3,zT3,hr room h3,jE,jE]
  rfl
 ·show (RR G [top,x,x] (s+1+room)).map _=(List.range (room - 1)).flatMap fun i=>(ring (lvs two) kind (i+1)).flatMap fun kid=>(ring (lvs two) kind (room - (i+1))).map fun other=>tm 112 [tw,kid,other]
  rw [zJ3 ht,if_pos (jD8 s room),zU3,hx2 room h3,jE,<-cut,zF1]
  refine gS fun i oo1=>?_
  rw [zF1]
  refine gS fun kid oo1=>?_
  rw [jE]
  rfl
 ·show (RR G [x,top,x] (s+1+room)).map _=(List.range (room - 1)).flatMap fun i=>(ring (lvs two) kind (i+1)).flatMap fun kid=>(ring (lvs two) kind (room - (i+1))).map fun other=>tm 112 [kid,tw,other]
  rw [<-cut,zO9,<-zH8 (k:=room) (n:=s+1+room) (qN _ _) fun j h1 h2=>zB2 fun t oo1=>by
   rw [zJ3 ht,if_neg (rig_past h1)]
   rfl,zF1]
  refine gS fun i hi=>?_
  have hi:=jX.mp hi
  rw [zF1,hr _ (zB hi h3)]
  refine gS fun kid oo1=>?_
  rw [ahead1 hi,zJ3 ht,if_pos (jD8 _ _),zU3,zT3,hr _ (zB (zM8 room i) h3),jE,jE,jE]
  rfl
theorem jB3:∀ {a b:List Int},ltL a b=false->ltL b a=false->a=b
 | [],[],_,_=>rfl
 | [],_::_,h,_=>by cases h
 | _::_,[],_,h=>by cases h
 | x::l,y::m,h,h'=>by
  rw [zC2] at h h'
  by_cases e:x=y
  ·rw [if_pos e] at h
   rw [if_pos e.symm] at h'
   rw [e,jB3 h h']
  ·rw [if_neg e] at h
   rw [if_neg (fun q=>e q.symm)] at h'
   have:=of_decide_eq_false h
   have:=of_decide_eq_false h'
   lia
theorem zR7:∀ (o o' x x':List Int),o.length=o'.length->ltL (o++x.map (·+1)) (o'++x'.map (·+1))=ltL (o++x) (o'++x')
 | [],[],[],[],_=>rfl
 | [],[],[],_::_,_=>rfl
 | [],[],_::_,[],_=>rfl
 | [],[],a::x,b::x',_=>by
  have ih:=zR7 [] [] x x' rfl
  simp only [yG] at ih ⊢
  rw [zU,zU,zC2,zC2,ih]
  by_cases e:a=b
  ·rw [if_pos e,if_pos (by lia)]
  ·rw [if_neg e,if_neg (by lia)]
   by_cases q:a < b
   ·rw [decide_eq_true q,decide_eq_true (by lia)]
   ·rw [decide_eq_false q,decide_eq_false (by lia)]
 | a::o,b::o',x,x',h=>by
  rw [jM,jM,jM,jM,zC2,zC2,zR7 o o' x x' (by simpa using h)]
 | [],_::_,_,_,h=>by simp at h
 | _::_,[],_,_,h=>by simp at h
theorem zU5 (t:V):g2 t=(opsL t).map encA++((subV t).map fun s=>((arOf s:Nat):Int)).map (·+1):=by
 unfold g2 widL
 rw [jE,jE]
 rfl
theorem jN7 (t:V):g3 t=((subV t).length:Int)::((opsL t).map encA++(subV t).map fun s=>((arOf s:Nat):Int)):=by
 show ((subV t).length:Int)::(((subV t).map opOf).map encA++((subV t).map fun s=>V.int ((arOf s:Nat):Int)).map encA)=_
 rw [jE (l:=subV t) (g:=encA) (f:=fun s=>V.int ((arOf s:Nat):Int))]
 rfl
theorem g23 {a b:V} (h:(subV a).length=(subV b).length):ltL (g3 a) (g3 b)=ltL (g2 a) (g2 b):=by
 rw [jN7,jN7,zC2,if_pos (by rw [h]),zU5,zU5,zR7 _ _ _ _ (by unfold opsL;rw [zD,zD,zD,zD,h])]
theorem subV_cons {t:V} (h:zC5 t=true):∃ l,subV t=t::l:=by
 obtain ⟨s,kids,rfl,_,_⟩:=zA6 h
 exact ⟨_,rfl⟩
theorem encA_op {s s':Str} (h1:s.cps.size=1) (h2:s'.cps.size=1) (h:encA (.str s)=encA (.str s')):s=s':=by
 have:=zM6 (v:=.str s) (u:=.str s') (zJ.mpr ⟨beq_iff_eq.mpr h1,beq_iff_eq.mpr h2⟩)
 rw [decide_eq_true h] at this
 exact eq_of_beq this
theorem sub_inj:∀ (k:Nat),(∀ (t u:V) (r r':List V),t.dep<=k->zC5 t=true->zC5 u=true->
   (subV t++r).map (fun s=>(encA (opOf s),arOf s))=(subV u++r').map (fun s=>(encA (opOf s),arOf s))->t=u/\r.map (fun s=>(encA (opOf s),arOf s))=r'.map (fun s=>(encA (opOf s),arOf s))):=by
 intro k
 induction k with
 | zero=>
  intro t u r r' h ht
  obtain ⟨s,kids,rfl,_,_⟩:=zA6 ht
  exact absurd h (vU _)
 | succ k ih=>
  intro t u r r' hk ht hu he
  obtain ⟨s,kids,rfl,hs,hkids⟩:=zA6 ht
  obtain ⟨s',kids',rfl,hs',hkids'⟩:=zA6 hu
  have hdep:(V.tup (.str s::kids)).dep=deps kids+1:=congrArg kX (wZ _)
  rw [zJ4,zJ4,jM,jM,zU,zU,List.cons.injEq,Prod.mk.injEq] at he
  obtain ⟨⟨h1,h2⟩,h3⟩:=he
  have e1:s=s':=encA_op hs hs' h1
  have e2:kids.length=kids'.length:=h2
  have key:∀ (l l':List V) (r r':List V),deps l<=k->zD9 l=true->zD9 l'=true->l.length=l'.length->(zC6 l++r).map (fun s=>(encA (opOf s),arOf s))=(zC6 l'++r').map (fun s=>(encA (opOf s),arOf s))->
    l=l'/\r.map (fun s=>(encA (opOf s),arOf s))=r'.map (fun s=>(encA (opOf s),arOf s)):=by
   intro l
   induction l with
   | nil=>
    intro l' r r' _ _ _ hl h
    cases l' with
    | nil=>exact ⟨rfl,h⟩
    | cons _ _=>cases hl
   | cons a l ihl=>
    intro l' r r' hd hl hl' hlen h
    cases l' with
    | nil=>cases hlen
    | cons b l'=>
     rw [zB3,jL] at hl hl'
     rw [zH1] at hd
     rw [zA0,zA0,zP,zP] at h
     obtain ⟨q1,q2⟩:=ih a b _ _ (zB (xD _ _) hd) hl.1 hl'.1 h
     obtain ⟨q3,q4⟩:=ihl l' r r' (zB (wX _ _) hd) hl.2 hl'.2 (kX.inj hlen) q2
     exact ⟨by rw [q1,q3],q4⟩
  obtain ⟨q1,q2⟩:=key kids kids' r r' (qV (show deps kids+1<=k+1 from hdep ▸ hk)) hkids hkids' e2 h3
  exact ⟨by rw [e1,q1],q2⟩
theorem zip_of {α:Type} {f:α->Int} {g:α->Nat} {l:List α}:∀ {m:List α},l.map f=m.map f->l.map g=m.map g->l.map (fun s=>(f s,g s))=m.map (fun s=>(f s,g s)):=by
 induction l with
 | nil=>intro m h _;cases m with
  | nil=>rfl
  | cons=>cases h
 | cons a l ih=>intro m h h';cases m with
  | nil=>cases h
  | cons b m=>
   have h:=List.cons.inj h
   have h':=List.cons.inj h'
   rw [zU,zU,h.1,h'.1,ih h.2 h'.2]
theorem g2_inj {t u:V} (ht:zC5 t=true) (hu:zC5 u=true) (hl:(subV t).length=(subV u).length) (h:g2 t=g2 u):t=u:=by
 rw [zU5,zU5] at h
 have h1:=List.append_inj h (by unfold opsL;rw [zD,zD,zD,zD,hl])
 obtain ⟨h1,h2⟩:=h1
 have e1:(subV t).map (fun s=>encA (opOf s))=(subV u).map fun s=>encA (opOf s):=by
  unfold opsL at h1
  rw [jE,jE] at h1
  exact h1
 have e2:(subV t).map arOf=(subV u).map arOf:=by
  rw [jE,jE] at h2
  have inj:∀ (l m:List V),l.map ((fun x:Int=>x+1) ∘ fun s=>((arOf s:Nat):Int))=m.map ((fun x:Int=>x+1) ∘ fun s=>((arOf s:Nat):Int))->l.map arOf=m.map arOf:=by
   intro l
   induction l with
   | nil=>intro m h;cases m with
    | nil=>rfl
    | cons _ _=>simp at h
   | cons a l ih=>intro m h;cases m with
    | nil=>simp at h
    | cons b m=>
     rw [zU,zU,List.cons.injEq] at h
     have:arOf a=arOf b:=by have:=h.1;simp only [Function.comp] at this;lia
     rw [zU,zU,this,ih m h.2]
  exact inj _ _ h2
 have:=sub_inj _ t u [] [] (zK _) ht hu (by rw [jI,jI];exact zip_of e1 e2)
 exact this.1
theorem jJ3 {α:Type} {R:α->α->Prop} {l:List α}:∀ {m:List α},l.Perm m->l.Pairwise R->m.Pairwise R->(∀ a∈l,∀ b∈l,R a b->R b a->a=b)->l=m:=by
 induction l with
 | nil=>exact fun p oo1 oo2 oo3=>(List.nil_perm.mp p).symm
 | cons a l ih=>
  intro m p h1 h2 anti
  cases m with
  | nil=>exact nomatch p.length_eq
  | cons b m=>
  rw [xN] at h1 h2
  have e:a=b:=by
   by_cases q:a=b
   ·exact q
   ·have ha:a∈m:=by
     rcases jN.mp (p.mem_iff.mp jA) with r | r
     ·exact absurd r q
     ·exact r
    have hb:b∈l:=by
     rcases jN.mp (p.mem_iff.mpr jA) with r | r
     ·exact absurd r.symm q
     ·exact r
    exact anti a jA b (zY _ hb) (h1.1 b hb) (h2.1 a ha)
  subst e
  rw [ih ((List.perm_cons a).mp p) h1.2 h2.2 fun x hx y hy=>anti x (zY _ hx) y (zY _ hy)]
theorem jD0 {N:Nat} {l m t:List V} (ht:∀ a∈t,zC5 a=true/\(subV a).length=N) (hl:l.Perm t) (hm:m.Perm t) (pl:l.Pairwise fun a b=>ltL (g3 b) (g3 a)=false) (pm:m.Pairwise fun a b=>ltL (g2 b) (g2 a)=false):l=m:=by
 have hl':∀ a∈l,zC5 a=true/\(subV a).length=N:=fun a ha=>ht a (hl.mem_iff.mp ha)
 have pl':l.Pairwise fun a b=>ltL (g2 b) (g2 a)=false:=by
  refine pl.imp_of_mem fun {a b} ha hb h=>?_
  rw [<-g23 (by rw [(hl' b hb).2,(hl' a ha).2])]
  exact h
 refine jJ3 (hl.trans hm.symm) pl' pm fun a ha b hb h1 h2=>?_
 exact g2_inj (hl' a ha).1 (hl' b hb).1 (by rw [(hl' a ha).2,(hl' b hb).2]) (jB3 h2 h1)
theorem jL0:∀ (k:Nat) (t:V),t.dep<=k->zC5 t=true->zC3 t=true:=by
 intro k
 induction k with
 | zero=>
  intro t h ht
  obtain ⟨s,kids,rfl,_,_⟩:=zA6 ht
  exact absurd h (vU _)
 | succ k ih=>
  intro t hk ht
  obtain ⟨s,kids,rfl,hs,hkids⟩:=zA6 ht
  have hdep:(V.tup (.str s::kids)).dep=deps kids+1:=congrArg kX (wZ _)
  have key:∀ l:List V,deps l<=k->zD9 l=true->gR l=true:=by
   intro l
   induction l with
   | nil=>intro _ _;rfl
   | cons a l ihl=>
    intro hd hl
    rw [zB3,jL] at hl
    rw [zH1] at hd
    rw [zI1,ih a (by lia) hl.1,ihl (by lia) hl.2]
    rfl
  rw [jT0,zI1,key kids (by lia) hkids]
  rfl
theorem zW2 {N:Nat} {l:List V} (h:∀ a∈l,zC5 a=true/\(subV a).length=N):gR l=true/\deps l<=N:=by
 induction l with
 | nil=>exact ⟨rfl,jO _⟩
 | cons a l ih=>
  obtain ⟨i1,i2⟩:=ih fun b hb=>h b (zY _ hb)
  obtain ⟨a1,a2⟩:=h a jA
  have:=jH8 _ a (zK _) a1
  rw [zI1,jL0 _ a (zK _) a1,i1,zH1]
  exact ⟨rfl,by lia⟩
section
variable {d:Nat} {sc:Scope} {ρ:Lc} {σ:Sto} {ι:List Addr}
theorem ex_fn {f:Addr} {name qual:Str} {params:Arguments} {body:List Stmt} {scope:Scope} {dV kV doc pm cdv ct oc:Value} {an od:Option Addr} {osl:Array (Option Value)} {P:Fl->Lc->Sto->Prop}
  (hf:(Mine.KF w.params).lookup f=some ⟨oc,od,.func (fnOf name qual params body scope dV kV doc pm an cdv ct),osl⟩) (h:Exs w h₀ d scope body ρ σ P):Exs w h₀ d (getS w f) (getB w f) ρ σ P:=by
 have e1:getS w f=scope:=by unfold getS zS0;rw [hf]
 have e2:getB w f=body:=by unfold getB zS0;rw [hf]
 rw [e1,e2]
 exact h
theorem gs_con {a:Addr} {vs:List Value} {ns:List Int} {lo hi st:Option Int} {P:V->Sto->Prop} (hL:h₀.IsList a vs.toArray) (hI:IntsAre vs ns) (h0:st≠some 0) (hz:ns.length<=1000000) (h:P (.ref σ.length) (σ++[.lst (slcL (ns.map .int) lo hi st)])) :
  Gs w h₀ d (.con (.ref a)) lo hi st σ P:=fun A s ι ca sl vl vu vs' hA S ra hs pl pu pt=>by
 cases ra with
 | con=>
  obtain ⟨o,ho,hc,k,hd⟩:=hL
  have hl:=S.keep _ _ ho
  have hv:VRs s.heap ι (ns.map .int) vs:=VRs.of_ints hI
  have hlen:(ns.map V.int).length=vs.length:=hv.length
  refine ⟨_,_,⟨_,hl,hc⟩,F.slot_list_getitem.lookup,fun E=>wpAny_getItem_list_slice ⟨_,hl,hc,k,hd⟩ hs pl pu pt h0 ?_ (by rw [sizeLine_eq];simp;rw [zD] at hlen;lia)⟩
  have e:slicePick vs.toArray lo hi st=(slcL vs lo hi st).toArray:=by
   unfold slicePick slcL
   rw [qT]
   simp only [xS]
  rw [e]
  refine Do.lst S ?_ h
  unfold slcL
  rw [hlen]
  exact hv.pick _
end
noncomputable def L96:List (Nat×Nat×Nat×Bool):=[0,1,2].flatMap fun s=>[0,1,2,3].flatMap fun k=>[0,1,2,3].flatMap fun t=>[(s,k,t,false),(s,k,t,true)]
theorem all96 {f:Nat×Nat×Nat×Bool->Bool} (e:L96.all f=true) {s k t:Nat} {b:Bool} (h:t<=3) (hk:k < 4) (hs:s < 3):f (s,k,t,b)=true:=by
 have m3:∀ n,n < 3->n∈[0,1,2]:=by decide
 have m4:∀ n,n < 4->n∈[0,1,2,3]:=by decide
 refine jQ.mp e _ (qL.mpr ⟨s,m3 s hs,qL.mpr ⟨k,m4 k hk,qL.mpr ⟨t,m4 t (wL h),?_⟩⟩⟩)
 cases b
 ·exact jA ..
 ·exact zY _ (jA ..)
theorem jF7 {two:Bool} {shape kind room:Nat} {tw:V} (hs:shape < 3) (hk:kind < 4) (hr:room<=3):wA (zG8 shape tw (lvs two) kind room).length 64=true:=
 all96 (f:=fun x=>wA (zG8 x.1 tw (lvs x.2.2.2) x.2.1 x.2.2.1).length 64) (by kernel_rfl) hr hk hs
theorem jM4 {two:Bool} {kind room:Nat} (hk:kind < 4) (hr:room<=3):wA (ring (lvs two) kind room).length 64=true:=
 all96 (s:=0) (f:=fun x=>wA (ring (lvs x.2.2.2) x.2.1 x.2.2.1).length 64) (by kernel_rfl) hr hk (by decide)
structure Fin4 (p:PH) (G:Gr) (wide tall kind:Nat) (two:Bool) (shape pI:Nat):Prop where
 fx:fnd p.uab (2+tall)=2+tall
 fp:fnd p.uab pI=pI
 lx:2+tall < p.uab.length
 lp:pI < p.uab.length
 tx:∀ room,room<=3->RT G (2+tall) room=ring (lvs two) kind room
 tp:∀ room,room<=3->RT G pI (wide+tall+2+room)=zG8 shape (tV wide tall) (lvs two) kind room
theorem fin4 {wide tall kind shape:Nat} {two:Bool} {p:PH} (h:tall<=2) (hk:kind < 4) (hs:shape < 3) (P:GP p (cFin wide tall kind two shape)):Fin4 p (GC (cFin wide tall kind two shape)) wide tall kind two shape (c4 wide tall kind two).nodes.length:=by
 have hr:=zX5 (wide:=wide) (two:=two) h hk hs
 have hw:=GC_w (wide:=wide) (two:=two) h hk hs
 have hgl:=gl_eq (wide:=wide) (two:=two) h hk hs
 have ax:=at_x (wide:=wide) (kind:=kind) (shape:=shape) (two:=two) h
 have ap:=at_p (wide:=wide) (shape:=shape) (two:=two) h hk
 simp only [jL] at hr
 obtain ⟨⟨⟨⟨⟨r1,r2⟩,r3⟩,r4⟩,r5⟩,r6⟩:=hr
 have r1:=qM r1
 have r2:=qM r2
 have r4:=zL r4
 have r6:=qM r6
 have r5:=zL r5
 have get:∀ k l,k < (cFin wide tall kind two shape).nodes.length->(gl wide tall kind two shape)[k]?=some l->GC (cFin wide tall kind two shape) k=l:=fun k l hk e=>by
  rw [jO3 hgl hk] at e
  exact Option.some.inj e
 have gx:=get _ _ (by lia) ax
 have gp:=get _ _ (by lia) ap
 have g0:=get 0 [(122,[])] (by lia) rfl
 have gh:∀ j,j < tall->GC (cFin wide tall kind two shape) (2+j)=[(104,[j+1])]:=fun j hj=>get _ _ (by lia) (at_h (wide:=wide) (kind:=kind) (shape:=shape) (two:=two) h hj)
 have gy:kind=2->GC (cFin wide tall kind two shape) (2+tall+1)=[(121,[])]:=fun e=>by
  have:=at_y (wide:=wide) (shape:=shape) (two:=two) h
  rw [<-e] at this
  rw [show 2+tall+1=3+tall by lia]
  exact get _ _ (by lia) this
 have tx:=ring_is hk gx gy
 refine ⟨by rw [P.uab];exact r1,by rw [P.uab];exact r2,by rw [P.uab,P.len1];lia,by rw [P.uab,P.len1];lia,tx,fun room hr=>?_⟩
 have:=jS1 (kind:=kind) (two:=two) hs gp (jC3 g0 hw tall gh) tx hr
 rw [show wide+tall+2+room=wide+tall+1+room+1 by lia]
 exact this
inductive LR (cn cd kn lx:Nat) (L:Role->Nat) (p:PH) (two:Bool) (v:V) (σ₂:Sto):Prop
 | mk (r2:Nat):v=.int r2->r2<=3->CAt σ₂ cn cd kn L p .none []->σ₂[lx]?=some (.lst (lvs two))->LR cn cd kn lx L p two v σ₂
inductive LK (cn cd lx:Nat) (L:Role->Nat) (p:PH) (G:Gr) (U:List (List Nat)) (two:Bool) (σ':Sto):Prop
 | mk (kn:Nat) (m:MK) (mk:V):CAt σ' cn cd kn L p mk m->jO1 G U 31 p mk m->σ'[lx]?=some (.lst (lvs two))->lx≠kn->LK cn cd lx L p G U two σ'
section
variable {d:Nat} {σ:Sto}
theorem ex_fnk {ρ:Lc} {f:Addr} {name qual:Str} {params:Arguments} {body:List Stmt} {scope:Scope} {dV kV doc pm cdv ct oc:Value} {an od:Option Addr} {osl:Array (Option Value)} {P:Fl->Lc->Sto->Prop} (k:Nat)
  (hf:(Mine.KF w.params).lookup f=some ⟨oc,od,.func (fnOf name qual params body scope dV kV doc pm an cdv ct),osl⟩) (h:Exs w h₀ d scope (body.drop k) ρ σ P):Exs w h₀ d (getS w f) ((getB w f).drop k) ρ σ P:=by
 have e1:getS w f=scope:=by unfold getS zS0;rw [hf]
 have e2:getB w f=body:=by unfold getB zS0;rw [hf]
 rw [e1,e2]
 exact h
theorem CAt.other {σ σ':Sto} {cn cd kn j:Nat} {L:Role->Nat} {p:PH} {mk:V} {m:MK} (C:CAt σ cn cd kn L p mk m) (h:∀ i,i≠j->σ'[i]?=σ[i]?) (h1:cn≠j) (h2:cd≠j) (h3:kn≠j) (h4:∀ r,(cell p L r).isSome=true->L r≠j):CAt σ' cn cd kn L p mk m:=
 ⟨⟨fun r o e=>(h _ (h4 r (by rw [e];rfl))).trans (C.heap.at_ r o e),C.heap.apart⟩,(h _ h1).trans C.inst,(h _ h2).trans C.dct,(h _ h3).trans C.mem,C.off,C.ne1,C.ne2⟩
end
namespace kM
def S (σ:Sto) (wide:Nat) (tall:Nat) (kind:Nat) (shape:Nat) (s:Nat) (j:Nat) (cj:Nat) (lx:Nat) (cn:Nat) (cd:Nat) (kn:Nat) (two:Bool) (cells:List Int) (L:Role->Nat) (p:PH):Prop:=∀ (B:Bs w h₀) (h:tall<=2) (hk:kind < 4) (hs:shape < 3) (hw:wide<=19) (P:GP p (cFin wide tall kind two shape)) (J:Jar σ j cj cells s) (hcl:cells.length<=100) (hsl:s<=90) (C:CAt σ cn cd kn L p .none []) (hcd:∀ r,(cell p L r).isSome=true->L r≠cd) (hcc:cn≠cd) (hlx:σ[lx]?=some (.lst (lvs two))) (n1:cn≠j) (n2:cd≠j) (n3:kn≠j) (n4:∀ r,(cell p L r).isSome=true->L r≠j) (n5:lx≠j) (n6:lx≠cd) (n7:lx≠kn),Exs w h₀ 60 (getS w 521) ((getB w 521).drop 14) [(zA "counts",.ref cn),(zA "c",.int (c4 wide tall kind two).nodes.length),(zA "x",.int (2+tall:Nat)),(zA "tower",tV wide tall),(zA "tall",.int tall),(zA "wide",.int wide),(zA "leaves",.ref lx),(zA "shape",.int shape),(zA "kind",.int kind),(zA "jar",.ref j)] σ (fun fl oo1 oo2=>fl=.ret (.bool true))
noncomputable def σ:Sto:=pick fun z=>∀ wide tall kind shape s j cj lx cn cd kn two cells L p,S z wide tall kind shape s j cj lx cn cd kn two cells L p
noncomputable def wide:Nat:=pick fun z=>∀ tall kind shape s j cj lx cn cd kn two cells L p,S σ z tall kind shape s j cj lx cn cd kn two cells L p
noncomputable def tall:Nat:=pick fun z=>∀ kind shape s j cj lx cn cd kn two cells L p,S σ wide z kind shape s j cj lx cn cd kn two cells L p
noncomputable def kind:Nat:=pick fun z=>∀ shape s j cj lx cn cd kn two cells L p,S σ wide tall z shape s j cj lx cn cd kn two cells L p
noncomputable def shape:Nat:=pick fun z=>∀ s j cj lx cn cd kn two cells L p,S σ wide tall kind z s j cj lx cn cd kn two cells L p
noncomputable def s:Nat:=pick fun z=>∀ j cj lx cn cd kn two cells L p,S σ wide tall kind shape z j cj lx cn cd kn two cells L p
noncomputable def j:Nat:=pick fun z=>∀ cj lx cn cd kn two cells L p,S σ wide tall kind shape s z cj lx cn cd kn two cells L p
noncomputable def cj:Nat:=pick fun z=>∀ lx cn cd kn two cells L p,S σ wide tall kind shape s j z lx cn cd kn two cells L p
noncomputable def lx:Nat:=pick fun z=>∀ cn cd kn two cells L p,S σ wide tall kind shape s j cj z cn cd kn two cells L p
noncomputable def cn:Nat:=pick fun z=>∀ cd kn two cells L p,S σ wide tall kind shape s j cj lx z cd kn two cells L p
noncomputable def cd:Nat:=pick fun z=>∀ kn two cells L p,S σ wide tall kind shape s j cj lx cn z kn two cells L p
noncomputable def kn:Nat:=pick fun z=>∀ two cells L p,S σ wide tall kind shape s j cj lx cn cd z two cells L p
noncomputable def two:Bool:=pick fun z=>∀ cells L p,S σ wide tall kind shape s j cj lx cn cd kn z cells L p
noncomputable def cells:List Int:=pick fun z=>∀ L p,S σ wide tall kind shape s j cj lx cn cd kn two z L p
noncomputable def L:Role->Nat:=pick fun z=>∀ p,S σ wide tall kind shape s j cj lx cn cd kn two cells z p
noncomputable def p:PH:=pick fun z=>S σ wide tall kind shape s j cj lx cn cd kn two cells L z
theorem core:S σ wide tall kind shape s j cj lx cn cd kn two cells L p:=by
 intro B h hk hs hw P J hcl hsl C hcd hcc hlx n1 n2 n3 n4 n5 n6 n7
 refine ex_fnk 14 (by rfl) ?_
 simp only [List.drop_succ_cons,List.drop_zero]
 have K:=hg_ok h hk hs hw P
 have F4:=fin4 h hk hs P
 have hee:p.edges.length<=1000:=by have:=P.edges;have:=P.jsl;lia
 have hUx:[2+tall]∈Uof wide (cFin wide tall kind two shape).nodes.length [psOf shape (1+tall) (2+tall)]:=zE6 (by rw [<-P.len1,<-P.uab];exact F4.lx)
 have hUp:[(c4 wide tall kind two).nodes.length]∈Uof wide (cFin wide tall kind two shape).nodes.length [psOf shape (1+tall) (2+tall)]:=zE6 (by rw [<-P.len1,<-P.uab];exact F4.lp)
 have hlv:(lvs two).length<=2:=by cases two <;> decide
 generalize (c4 wide tall kind two).nodes.length=pI at *
 generalize GC (cFin wide tall kind two shape)=G at *
 generalize Uof wide (cFin wide tall kind two shape).nodes.length [psOf shape (1+tall) (2+tall)]=U at *
 refine gC ?_;intro R Q
 refine zD6 ?_;intro kk
 refine zB0 (zB9 (gD (zB8 B (zA1 B rfl (by rfl) ⟨_,rfl,by rfl,gJ rfl ?_⟩))))
 refine (zG4 (d:=0) (many:=2) B J hcl (by lia) (by lia) fun r1 hr1 σ₁ J₁ l₁ o₁=>?_).le (by lia)
 have C₁:=C.other o₁ n1 n2 n3 n4
 have hlx₁:=(o₁ lx n5).trans hlx
 have two_rooms:∀ (r2:Nat),r2<=3->∀ σ₂,CAt σ₂ cn cd kn L p .none []->σ₂[lx]?=some (.lst (lvs two))->∀ P':V->Sto->Prop,(P' (.int r2) σ₂)->P' (.int r2) σ₂:=fun oo1 oo2 oo3 oo4 oo5 oo6 h=>h
 clear two_rooms
 refine gD (Ev.mono (P:=LR cn cd kn lx L p two) ?_ fun v σ₂ hh=>?_)
 ·refine zG3 (gU (gB rfl (gI (zE4 (gM ?_)))))
  by_cases h0:shape=0
  ·refine ifT (beq_iff_eq.mpr (by lia)) ?_
   refine gV (gI (zB8 B (zA1 B rfl (by rfl) ⟨_,rfl,by rfl,gJ rfl ?_⟩)))
   refine (zG4 (d:=0) (many:=3) B J₁ hcl (by lia) (by lia) fun v hv σ₂ J₂ l₂ o₂=>?_).le (by lia)
   refine zF8 ⟨1+v,by rw [Int.natCast_add];rfl,by lia,C₁.other o₂ n1 n2 n3 n4,(o₂ lx n5).trans hlx₁⟩
  ·refine ifF (beq_eq_false_iff_ne.mpr (by lia)) ?_
   refine gV (gI (zB8 B (zA1 B rfl (by rfl) ⟨_,rfl,by rfl,gJ rfl ?_⟩)))
   refine (zG4 (d:=0) (many:=2) B J₁ hcl (by lia) (by lia) fun v hv σ₂ J₂ l₂ o₂=>?_).le (by lia)
   refine zF8 ⟨2+v,by rw [Int.natCast_add];rfl,by lia,C₁.other o₂ n1 n2 n3 n4,(o₂ lx n5).trans hlx₁⟩
 obtain ⟨r2,e,hr2,C₂,hlx₂⟩:=hh
 subst e
 refine gF ⟨by simp,?_⟩
 refine ⟨_,_,zH9,fun oo1 σ'=>LK cn cd lx L p G U two σ',⟨kn,[],.none,C₂,.inl rfl,hlx₂,n7⟩,fun oo1 oo2 oo3=>trivial,fun i v σ' hv hI=>?_,fun σ' hI=>?_⟩
 ·obtain ⟨kn,m,mk,C,Fr,hlx,n7⟩:=hI
  obtain ⟨r,rfl,hr⟩:∃ r:Nat,v=.int r/\r<=3:=by
   match i,hv with
   | 0,hv=>simp at hv;exact ⟨r1,hv.symm,by lia⟩
   | 1,hv=>simp at hv;exact ⟨r2,hv.symm,hr2⟩
   | _+2,hv=>simp at hv
  clear hv
  have hbt:∀ t∈zG8 shape (tV wide tall) (lvs two) kind r,zC5 t=true/\(subV t).length=wide+tall+2+r:=fun t ht=>by
   rw [<-F4.tp r hr] at ht
   have:=jE4 ht
   exact ⟨this.1,this.2.1⟩
  have hrt:∀ t∈ring (lvs two) kind r,zC5 t=true/\(subV t).length=r:=fun t ht=>by
   rw [<-F4.tx r hr] at ht
   have:=jE4 ht
   exact ⟨this.1,this.2.1⟩
  have hbl:(zG8 shape (tV wide tall) (lvs two) kind r).length < 64:=zL (jF7 hs hk hr)
  have hrl:(ring (lvs two) kind r).length < 64:=zL (jM4 hk hr)
  have hRb:Rn G [pI] (wide+tall+2+r)=(zG8 shape (tV wide tall) (lvs two) kind r).length:=by
   rw [<-F4.tp r hr];unfold RT Rn;rw [zD]
  have hRr:Rn G [2+tall] r=(ring (lvs two) kind r).length:=by
   rw [<-F4.tx r hr];unfold RT Rn;rw [zD]
  refine gN rfl ?_
  refine gC ?_;intro R Q
  refine jD1 (ev_s rfl ?_)  (fun oo1 oo2=>rfl)
  rw [show ((wide:Int)+tall+2+r)=((wide+tall+2+r:Nat):Int) by lia]
  refine gN rfl ?_
  generalize hN:wide+tall+2+r=N at *
  have hN31:N<=31:=by lia
  refine gC ?_;intro R Q
  refine gE ?_ (fun oo1 oo2=>rfl);intro kk;refine zI6 (d:=59) (gW B rfl (by rfl) (by rfl) (by decide) ⟨rfl,zB8 B (zA1 B rfl (by rfl) ⟨_,rfl,by rfl,?_⟩)⟩)
  refine gD (gB rfl ?_)
  refine gD (gB rfl ?_)
  refine gD (gB rfl ?_)
  refine gD (gB rfl ?_)
  refine gJ rfl ?_
  refine (jT8 (d:=0) B hlv hr hlx fun T kf hkf oo1=>?_).le (by lia)
  obtain ⟨enc,J,j0,turn,fin,ext⟩:=jI1 (d:=58) (σ:=σ'++T) B hbt (by lia)
  refine ⟨kf,rfl,zA1 B rfl (by rfl) ⟨516,_,enc,g2,J,rfl,hkf,hbl,j0,turn,fin,fun ks σ₁ M hJ hM hP=>?_⟩⟩
  obtain ⟨T₂,rfl⟩:=ext ks σ₁ hJ
  refine gN rfl ?_
  have x₁:Ext ([]:List Nat) σ' (σ'++T++T₂++[.lst M]):=((Ext.more _).trans (Ext.more _)).trans (Ext.more _)
  have C₁:=((C.more T).more T₂).more [.lst M]
  have hlx₁:=x₁.get (by simp) hlx
  have hdue:(σ'++T++T₂++[O.lst M])[(σ'++T++T₂).length]?=some (.lst M):=gK
  have hkd:kn < (σ'++T++T₂).length:=((C.more T).more T₂).lt
  have hcdl:cd < (σ'++T++T₂).length:=(zC.mp (((C.more T).more T₂).dct)).1
  generalize (σ'++T++T₂).length=dx at hdue hkd hcdl ⊢
  generalize σ'++T++T₂++[O.lst M]=σ₁ at C₁ hlx₁ hdue ⊢
  refine gC ?_;intro R Q
  refine zC1 ?_
  refine zS6 (gU (gO B (gB rfl ⟨cn,276,cd,_,240,rfl,C₁.inst,C₁.dct,rfl,rfl,⟨by rfl,by rfl,by rfl,by rfl⟩,?_⟩)))
  refine gJ rfl ?_
  refine (jC4 (d:=0) B K C₁ hcd hcc Fr hee F4.lp (by rw [F4.fp];exact hUp) hN31 (by rw [F4.fp,hRb];exact hbl) fun σ₂ kn₂ m₂ k₂ M₂ C₂ M₂ok x₂ hk₂ hk₂l hk₂n hM₂ hp₂ hs₂=>?_).le (by lia)
  have hdk:dx ∉ [cd,kn]:=by simp;lia
  have hdue₂:=x₂.get hdk hdue
  have hlk:lx ∉ [cd,kn]:=by simp;exact ⟨n6,n7⟩
  have hlx₂:=x₂.get hlk hlx₁
  have hdl:dx < σ₁.length:=(zC.mp hdue).1
  have hll:lx < σ₁.length:=(zC.mp hlx₁).1
  have hdk₂:dx≠kn₂:=by lia
  have hlk₂:lx≠kn₂:=by
   rcases hk₂ with h | h
   ·rw [h];exact n7
   ·lia
  rw [F4.fp,<-hN,F4.tp r hr] at hp₂
  have hMM:M₂=M:=jD0 hbt hp₂ hM hs₂ hP
  have hMt:∀ a∈M,zC5 a=true/\(subV a).length=N:=fun a ha=>hbt a (hM.mem_iff.mp ha)
  obtain ⟨hpu,hde⟩:=zW2 hMt
  rw [hMM] at hM₂
  refine gB rfl (jD3 hM₂ hdue₂ hpu hpu (by lia) (gM ?_))
  rw [(zP2 hpu hpu).mpr rfl];refine ifF rfl ?_
  refine gU (gO B (gB rfl ⟨cn,276,cd,_,223,rfl,C₂.inst,C₂.dct,rfl,rfl,⟨by rfl,by rfl,by rfl,by rfl⟩,?_⟩))
  refine gJ rfl ?_
  refine (jO8 (d:=0) B K C₂ hcd hcc (.inr ⟨rfl,M₂ok⟩) hee F4.lp (by rw [F4.fp];exact hUp) hN31 fun σ₃ kn₃ m₃ C₃ M₃ok x₃ hk₃=>?_).le (by lia)
  have hdue₃:=x₃.get (i:=dx) (by simp;lia) hdue₂
  have hlx₃:=x₃.get (i:=lx) (by simp;exact ⟨n6,hlk₂⟩) hlx₂
  have hlk₃:lx≠kn₃:=by
   rcases hk₃ with h | h
   ·rw [h];exact hlk₂
   ·have:=(zC.mp hlx₂).1;lia
  refine gP (gW B rfl (by rfl) (by rfl) (by decide) ⟨_,rfl,rfl,gJ rfl (zA7 hdue₃ (by rw [hM.length_eq];lia) (cm_ne (gM ?_)))⟩)
  rw [F4.fp,hRb,hM.length_eq];refine ifF (bne_self_eq_false _) ?_
  refine gG ?_
  refine gC ?_;intro R Q
  refine zC1 ?_
  refine gU (gO B (gB rfl ⟨cn,276,cd,_,240,rfl,C₃.inst,C₃.dct,rfl,rfl,⟨by rfl,by rfl,by rfl,by rfl⟩,?_⟩))
  refine gJ rfl ?_
  refine (jC4 (d:=0) B K C₃ hcd hcc (.inr ⟨rfl,M₃ok⟩) hee F4.lx (by rw [F4.fx];exact hUx) (by lia) (by rw [F4.fx,hRr];exact hrl) fun σ₄ kn₄ m₄ k₄ M₄ C₄ M₄ok x₄ hk₄ hk₄l hk₄n hM₄ hp₄ hs₄=>?_).le (by lia)
  have hlx₄:=x₄.get (i:=lx) (by simp;exact ⟨n6,hlk₃⟩) hlx₃
  have hlk₄:lx≠kn₄:=by
   rcases hk₄ with h | h
   ·rw [h];exact hlk₃
   ·have:=(zC.mp hlx₃).1;lia
  rw [F4.fx,F4.tx r hr] at hp₄
  refine zI6 (d:=59) (gW B rfl (by rfl) (by rfl) (by decide) ⟨rfl,zB8 B (zA1 B rfl (by rfl) ⟨_,rfl,by rfl,?_⟩)⟩)
  refine gD (gB rfl ?_)
  refine gD (gB rfl ?_)
  refine gJ rfl ?_
  refine (zU8 (d:=0) B hlv 2 r σ₄ _ hr (by lia) (by lia) hlx₄ fun T₅ kf₅ hkf₅ oo1=>?_).le (by lia)
  obtain ⟨enc₆,J₆,j0₆,turn₆,fin₆,ext₆⟩:=jI1 (d:=58) (σ:=σ₄++T₅) B hrt (by lia)
  refine ⟨kf₅,rfl,zA1 B rfl (by rfl) ⟨516,_,enc₆,g2,J₆,rfl,hkf₅,hrl,j0₆,turn₆,fin₆,fun ks₆ σ₆ M₆ hJ₆ hM₆ hP₆=>?_⟩⟩
  obtain ⟨T₆,rfl⟩:=ext₆ ks₆ σ₆ hJ₆
  have x₆:Ext ([]:List Nat) σ₄ (σ₄++T₅++T₆++[.lst M₆]):=((Ext.more _).trans (Ext.more _)).trans (Ext.more _)
  have C₆:=((C₄.more T₅).more T₆).more [.lst M₆]
  have hMM₆:M₄=M₆:=jD0 hrt hp₄ hM₆ hs₄ hP₆
  rw [hMM₆] at hM₄
  have hMt₆:∀ a∈M₆,zC5 a=true/\(subV a).length=r:=fun a ha=>hrt a (hM₆.mem_iff.mp ha)
  obtain ⟨hpu₆,hde₆⟩:=zW2 hMt₆
  refine jD3 (x₆.get (by simp) hM₄) gK hpu₆ hpu₆ (by lia) (gM ?_)
  rw [(zP2 hpu₆ hpu₆).mpr rfl];refine ifF rfl ?_
  refine gG ?_
  refine gG ?_
  exact ⟨Sub.drop rfl (Sub.drop rfl (Sub.drop rfl (Sub.refl _))),kn₄,m₄,_,C₆,.inr ⟨rfl,M₄ok⟩,x₆.get (by simp) hlx₄,hlk₄⟩
 ·refine gC ?_;intro R Q
  refine gL ?_
  exact jP3 rfl
theorem all:∀ σ wide tall kind shape s j cj lx cn cd kn two cells L p,S σ wide tall kind shape s j cj lx cn cd kn two cells L p:=cst (p:=fun z=>∀ wide tall kind shape s j cj lx cn cd kn two cells L p,S z wide tall kind shape s j cj lx cn cd kn two cells L p) (cst (p:=fun z=>∀ tall kind shape s j cj lx cn cd kn two cells L p,S σ z tall kind shape s j cj lx cn cd kn two cells L p) (cst (p:=fun z=>∀ kind shape s j cj lx cn cd kn two cells L p,S σ wide z kind shape s j cj lx cn cd kn two cells L p) (cst (p:=fun z=>∀ shape s j cj lx cn cd kn two cells L p,S σ wide tall z shape s j cj lx cn cd kn two cells L p) (cst (p:=fun z=>∀ s j cj lx cn cd kn two cells L p,S σ wide tall kind z s j cj lx cn cd kn two cells L p) (cst (p:=fun z=>∀ j cj lx cn cd kn two cells L p,S σ wide tall kind shape z j cj lx cn cd kn two cells L p) (cst (p:=fun z=>∀ cj lx cn cd kn two cells L p,S σ wide tall kind shape s z cj lx cn cd kn two cells L p) (cst (p:=fun z=>∀ lx cn cd kn two cells L p,S σ wide tall kind shape s j z lx cn cd kn two cells L p) (cst (p:=fun z=>∀ cn cd kn two cells L p,S σ wide tall kind shape s j cj z cn cd kn two cells L p) (cst (p:=fun z=>∀ cd kn two cells L p,S σ wide tall kind shape s j cj lx z cd kn two cells L p) (cst (p:=fun z=>∀ kn two cells L p,S σ wide tall kind shape s j cj lx cn z kn two cells L p) (cst (p:=fun z=>∀ two cells L p,S σ wide tall kind shape s j cj lx cn cd z two cells L p) (cst (p:=fun z=>∀ cells L p,S σ wide tall kind shape s j cj lx cn cd kn z cells L p) (cst (p:=fun z=>∀ L p,S σ wide tall kind shape s j cj lx cn cd kn two z L p) (cst (p:=fun z=>∀ p,S σ wide tall kind shape s j cj lx cn cd kn two cells z p) (cst (p:=fun z=>S σ wide tall kind shape s j cj lx cn cd kn two cells L z) core)))))))))))))))
end kM
section
variable {d:Nat} {σ:Sto}
theorem law_loop {σ wide tall kind shape s j cj lx cn cd kn two cells L p}:kM.S σ wide tall kind shape s j cj lx cn cd kn two cells L p:=kM.all σ wide tall kind shape s j cj lx cn cd kn two cells L p
end
theorem Jar.more {σ:Sto} {j c s:Nat} {cells:List Int} (J:Jar σ j c cells s) (t:Sto):Jar (σ++t) j c cells s:=
 ⟨by rw [zH (zC.mp J.at_).1];exact J.at_,by rw [zH (zC.mp J.cells).1];exact J.cells,J.ne⟩
theorem Jar.keep {σ σ':Sto} {j c s:Nat} {cells:List Int} (J:Jar σ j c cells s) {n₀:Nat->Prop} (K:KB n₀ σ σ') (h1:¬ n₀ j) (h2:¬ n₀ c):Jar σ' j c cells s:=⟨(K j h1).trans J.at_,(K c h2).trans J.cells,J.ne⟩
theorem HB.own {n₀ n₁:Nat->Prop} {σ:Sto} {L:Role->Nat} {p:PH} (H:HB n₀ σ L p) (h1:∀ r,(cell p L r).isSome=true->n₁ (L r)) (h2:∀ k,σ.length<=k->n₁ k):HB n₁ σ L p:=⟨H.toHeapAt,h1,h2⟩
theorem lvs_take {v:Nat} (h:v < 2):[V.tup [V.str (zA "x")],V.tup [V.str (zA "u")]].take (1+v)=lvs (decide (v=1)):=by
 have:v=0∨v=1:=by lia
 rcases this with rfl | rfl <;> rfl
theorem cT_len (wide:Nat):∀ k,(cT wide k).nodes.length=2+k
 | 0=>rfl
 | k+1=>by
  show ((cT wide k).nodes++[_]).length=_
  rw [zE,cT_len wide k]
  rfl
inductive HPI (own:Nat->Prop) (hp:Nat) (c:PC) (σ σ':Sto):Prop
 | mk (L:Role->Nat) (p:PH):HB own σ' L p->L .hp=hp->GP p c->KB own σ σ'->HPI own hp c σ σ'
theorem HPI.keep {own:Nat->Prop} {hp:Nat} {c:PC} {σ σ':Sto} (h:HPI own hp c σ σ'):KB own σ σ':=by
 obtain ⟨_,_,_,_,_,k⟩:=h
 exact k
section
variable {σ:Sto}
theorem zQ4 (B:Bs w h₀) {d hp:Nat} {L:Role->Nat} {p:PH} {n₀:Nat->Prop} {c:PC} {a b kept gone:Nat} {reason:V} (H:HB n₀ σ L p) (hL:L .hp=hp) (G:GP p c) (J:zO1 c a b kept gone) (hg:p.hab.lookup gone=some []) {P:V->Sto->Prop}
  (h:∀ v σ' L' p',HB n₀ σ' L' p'->L' .hp=hp->KB n₀ σ σ'->GP p' (zO8 c kept gone)->P v σ'):Cl w h₀ (d+5) (.ref 426) [.ref hp,.int a,.int b,reason] σ P:=by
 subst hL
 exact merge_ok B H G J.ha J.hb J.hk J.hlt hg J.hj J.hl h
set_option maxHeartbeats 8000000 in
theorem law_ok (B:Bs w h₀) {a:Addr} {vs:List Value} {ns:List Int} (hL:h₀.IsList a vs.toArray) (hI:IntsAre vs ns) (hn:ns.length<=63) :
  Exs w h₀ 60 (getS w 521) (getB w 521) [(zA "script",.con (.ref a))] [] (fun fl oo1 oo2=>fl=.ret (.bool true)):=by
 have tail:=@law_loop
 refine ex_fn (by rfl) ?_
 refine gC ?_;intro R Q
 refine gE ?_ (fun oo1 oo2=>rfl);intro kk;refine ev_dict2 (by decide) ?_
 refine zC8 rfl rfl (by decide) (by decide) rfl ?_
 refine zB0 (zC0 (gB rfl ?_))
 refine gI ⟨40,rfl,gs_con hL hI (by decide) (by lia) ?_⟩
 rw [show ((40:Int))=((40:Nat):Int) from rfl,jA4,<-List.map_take]
 generalize hcs:ns.take 40=cs
 have hcl:cs.length<=63:=by rw [<-hcs];exact zB (vW ..) hn
 refine ⟨_,_,gZ gK,fun i acc σ'=>acc=(cs.take i).map (fun c=>V.int (c.fmod 1000003))/\σ'=[]++[O.lst (cs.map V.int)],⟨by simp,rfl⟩,by rw [zD];lia,fun i acc σ' h=>h.2 ▸ gK,fun i v acc σ' hv hl hI=>?_,fun acc σ' hl hI=>?_⟩
 ·obtain ⟨rfl,rfl⟩:=hI
  rw [zS] at hv
  cases hci:cs[i]? with
  | none=>rw [hci] at hv;cases hv
  | some c=>
   rw [hci] at hv
   cases hv
   refine zA4 rfl (gV (gP (gW B rfl (by rfl) (by rfl) (by decide) ⟨_,rfl,rfl,gJ rfl (cl_int ?_)⟩)))
   refine gI (jG4 (by decide) ⟨?_,rfl⟩)
   rw [jJ,hci]
   simp
 obtain ⟨rfl,rfl⟩:=hI
 rw [zD,zR (zK _)]
 refine gI ?_
 refine gN rfl ?_
 generalize hcells:cs.map (fun c=>c.fmod 1000003)=cells
 have hcells':cs.map (fun c=>V.int (c.fmod 1000003))=cells.map V.int:=by rw [<-hcells,jE];rfl
 rw [hcells']
 have hcl2:cells.length<=100:=by rw [<-hcells,zD];lia
 have J0:Jar ([]++[O.lst (cs.map V.int)]++[O.lst (cells.map V.int)]++[O.dct (vmap V.str [(zA "cells",V.ref ([]++[O.lst (cs.map V.int)]).length),(zA "spot",V.int 0)])]) ([]++[O.lst (cs.map V.int)]++[O.lst (cells.map V.int)]).length ([]++[O.lst (cs.map V.int)]).length cells 0:=
  ⟨rfl,rfl,by simp⟩
 generalize ([]++[O.lst (cs.map V.int)]++[O.lst (cells.map V.int)]++[O.dct (vmap V.str [(zA "cells",V.ref ([]++[O.lst (cs.map V.int)]).length),(zA "spot",V.int 0)])]:Sto)=σ0 at J0 ⊢
 generalize ([]++[O.lst (cs.map V.int)]++[O.lst (cells.map V.int)]:Sto).length=j at J0 ⊢
 generalize ([]++[O.lst (cs.map V.int)]:Sto).length=cj at J0 ⊢
 refine gC ?_;intro R Q
 refine zV0 (names:=[zA "shape",zA "kind"]) ?_ (by decide) rfl (fun env hsc=>by cases env;cases hsc;rfl)
 refine gD (zB8 B (zA1 B rfl (by rfl) ⟨_,rfl,by rfl,gJ rfl ?_⟩))
 refine (zG4 (d:=0) (many:=3) B J0 hcl2 (by lia) (by lia) fun shape hs σ1 J1 l1 o1=>?_).le (by lia)
 refine gD (zB8 B (zA1 B rfl (by rfl) ⟨_,rfl,by rfl,gJ rfl ?_⟩))
 refine (zG4 (d:=0) (many:=4) B J1 hcl2 (by lia) (by lia) fun kind hk σ2 J2 l2 o2=>?_).le (by lia)
 refine gF ⟨rfl,?_⟩
 refine gC ?_;intro R Q
 refine gE ?_ (fun oo1 oo2=>rfl);intro kk;refine zC0 (gY (gJ rfl ⟨by simp,?_⟩))
 refine gV (gI (zB8 B (zA1 B rfl (by rfl) ⟨_,rfl,by rfl,gJ rfl ?_⟩)))
 have J2':=J2.more [.lst [V.tup [V.str (zA "x")],V.tup [V.str (zA "u")]]]
 refine (zG4 (d:=0) (many:=2) B J2' hcl2 (by lia) (by lia) fun v hv σ3 J3 l3 o3=>?_).le (by lia)
 have hj2:j < σ2.length:=(zC.mp J2.at_).1
 have hl2:σ3[σ2.length]?=some (.lst [V.tup [V.str (zA "x")],V.tup [V.str (zA "u")]]):=(o3 σ2.length (by lia)).trans gK
 refine zF8 ⟨((1+v:Nat):Int),by rw [Int.natCast_add];rfl,gs_lst hl2 (by decide) (by simp) ?_⟩
 rw [jA4,lvs_take hv]
 generalize decide (v=1)=two
 refine gN rfl ?_
 have J4:=J3.more [.lst (lvs two)]
 have hlx4:(σ3++[O.lst (lvs two)])[σ3.length]?=some (.lst (lvs two)):=gK
 have hj4:j≠σ3.length:=by rw [l3,zE];simp;lia
 have hcj4:cj≠σ3.length:=by have:=(zC.mp J3.cells).1;lia
 generalize σ3.length=lx at hlx4 hj4 hcj4 ⊢
 generalize σ3++[O.lst (lvs two)]=σ4 at J4 hlx4 ⊢
 clear J0 J1 J2 J2' J3 l1 l2 l3 o1 o2 o3 hl2 hj2
 refine gC ?_;intro R Q
 refine gE ?_ (fun oo1 oo2=>rfl);intro kk;refine gV (gI (zB8 B (zA1 B rfl (by rfl) ⟨_,rfl,by rfl,gD (gB rfl (gD (Ev.mono (P:=fun v σ'=>v=.int ((if shape=0 then 16 else 10:Nat):Int)/\σ'=σ4) ?_ fun v' σ' ⟨e,e2⟩=>gF ?_)))⟩)))
 ·refine zG3 (gU (gB rfl (gI (zE4 (gM ?_)))))
  by_cases h0:shape=0
  ·rw [show ((shape:Int) == 0)=true from beq_iff_eq.mpr (by lia),if_pos rfl,if_pos h0]
   exact gI ⟨rfl,rfl⟩
  ·rw [show ((shape:Int) == 0)=false from beq_eq_false_iff_ne.mpr (by lia),if_neg (by decide),if_neg h0]
   exact gI ⟨rfl,rfl⟩
 subst e e2
 refine (zG4 (d:=0) (many:=if shape=0 then 16 else 10) B J4 hcl2 (by lia) (by split <;> lia) fun wv hwv σ5 J5 l5 o5=>?_).le (by lia)
 have hwv:wv < 16:=zO hwv (by split <;> lia)
 refine zF8 ?_
 rw [show ((4:Int)+(wv:Int))=((4+wv:Nat):Int) by lia]
 generalize hwide:4+wv=wide
 have hw19:wide<=19:=by lia
 have hw4:4<=wide:=by lia
 refine gN rfl ?_
 have hlx5:=(o5 lx (fun q=>hj4 q.symm)).trans hlx4
 clear o5 l5 J4 hlx4
 refine gC ?_;intro R Q
 refine zV0 (names:=[zA "tower",zA "tall",zA "heap"]) ?_ (by decide) rfl (fun env hsc=>by cases env;cases hsc;rfl)
 refine gD (gV (ev_s rfl (gV (ev_s rfl ?_))))
 refine gB rfl (bn_rep (by lia) (by lia) (zO6 (by simp;lia) ?_))
 rw [show V.tup ([V.str (zA "w")]++List.replicate wide (V.tup [V.str (zA "z")]))=tV wide 0 from rfl]
 refine gD (zB8 B (zA1 B rfl (by rfl) ⟨_,rfl,by rfl,gJ rfl ?_⟩))
 refine (zG4 (d:=0) (many:=3) B J5 hcl2 (by lia) (by lia) fun tall htall σ6 J6 l6 o6=>?_).le (by lia)
 have ht2:tall<=2:=by lia
 have hlx6:=(o6 lx (fun q=>hj4 q.symm)).trans hlx5
 refine gD (zY8 B (zA1 B rfl (by rfl) ⟨_,rfl,by rfl,?_⟩))
 refine (jU0 (d:=0) B ?_).le (by lia)
 refine gF ⟨rfl,?_⟩
 have HB0:=hb0 σ6
 have J7:=J6.more (tail0 σ6.length)
 have hlx7:(σ6++tail0 σ6.length)[lx]?=some (.lst (lvs two)):=by rw [zH (zC.mp hlx6).1];exact hlx6
 have b1:j < σ6.length:=(zC.mp J6.at_).1
 have b2:cj < σ6.length:=(zC.mp J6.cells).1
 have b3:lx < σ6.length:=(zC.mp hlx6).1
 have hhp:(fun r=>σ6.length+idx0 r) .hp=σ6.length+1:=rfl
 generalize hhpd:σ6.length+1=hp at hhp ⊢
 generalize (fun r=>σ6.length+idx0 r)=L0 at HB0 hhp
 generalize hown:(fun k=>σ6.length<=k)=own at HB0
 have c1':¬ own j:=by rw [<-hown];exact Nat.not_le_of_lt b1
 have c2':¬ own cj:=by rw [<-hown];exact Nat.not_le_of_lt b2
 have c3':¬ own lx:=by rw [<-hown];exact Nat.not_le_of_lt b3
 have hbase:∀ k,own k->k≠j/\k≠lx:=fun k hk=>⟨fun q=>c1' (q ▸ hk),fun q=>c3' (q ▸ hk)⟩
 generalize σ6++tail0 σ6.length=σ7 at HB0 J7 hlx7 ⊢
 clear b1 b2 b3 hown hhpd J6 J5 o6 l6 hlx6 hlx5
 refine gC ?_;intro R Q
 refine zW0 ?_
 refine zI9 (gW B rfl (by rfl) (by rfl) (by decide) ⟨_,rfl,rfl,gJ rfl ?_⟩)
 refine jL2 (by lia) ?_
 refine ⟨fun i ρ' σ'=>ρ'=(zA "tower",tV wide i)::[(zA "tall",V.int tall),(zA "heap",V.ref hp),(zA "wide",V.int wide),(zA "leaves",V.ref lx),(zA "shape",V.int shape),(zA "kind",V.int kind),(zA "jar",V.ref j),(zA "script",V.con (.ref a))]/\σ'=σ7,⟨rfl,rfl⟩,fun oo1 oo2 oo3 oo4=>trivial,fun i v ρ' σ' hv hI=>?_,fun ρ' σ' hI=>?_⟩
 ·obtain ⟨rfl,rfl⟩:=hI
  refine gN (by rfl) ?_
  refine gC ?_;intro R Q
  refine gE ?_ (fun oo1 oo2=>rfl);intro kk;refine ev_s rfl ?_
  refine gN rfl ?_
  refine gG ?_
  exact ⟨_,Sub.put rfl (Sub.drop rfl (Sub.drop rfl (Sub.drop rfl (Sub.refl _)))),rfl,rfl⟩
 obtain ⟨rfl,rfl⟩:=hI
 rw [zE5,show ((tall:Int) - 0).toNat=tall by lia]
 refine gC ?_;intro R Q
 refine zV0 (names:=[zA "top",zA "x"]) ?_ (by decide) rfl (fun env hsc=>by cases env;cases hsc;rfl)
 refine gD (gO B (gB rfl ⟨hp,488,L0 .hd,_,398,rfl,hhp ▸ HB0.at_ .hp _ rfl,HB0.at_ .hd _ rfl,rfl,rfl,⟨by rfl,by rfl,by rfl,by rfl⟩,?_⟩))
 refine gJ rfl ?_
 refine Cl.le (d:=9) (jS0 (d:=0) B (by lia) (by lia) ht2 σ' L0 p0 _ HB0 hhp gp0 fun σ8 L8 p8 H8 hL8 K8 G8=>?_) (by lia)
 refine gD (gO B (gB rfl ⟨hp,488,L8 .hd,_,398,rfl,hL8 ▸ H8.at_ .hp _ rfl,H8.at_ .hd _ rfl,rfl,rfl,⟨by rfl,by rfl,by rfl,by rfl⟩,?_⟩))
 refine gJ rfl ?_
 refine Cl.le (d:=6) (zO0 (d:=0) B (o:=120) (zF3.of (zD7 _ (by simp)) (okX ht2)) σ8 L8 p8 _ H8 hL8 G8 fun σ9 L9 p9 H9 hL9 K9 G9=>?_) (by lia)
 rw [cT_len]
 refine gF ⟨rfl,?_⟩
 have K9:=K8.trans K9
 have J9:=J7.keep K9 c1' c2'
 have hlx9:=(K9 lx c3').trans hlx7
 clear J7 hlx7 K8 K9 H8 G8 hL8 HB0 hhp
 let R0:Lc:=[(zA "top",V.int (1+tall:Nat)),(zA "x",V.int (2+tall:Nat)),(zA "tower",tV wide tall),(zA "tall",V.int tall),(zA "heap",V.ref hp),(zA "wide",V.int wide),(zA "leaves",V.ref lx),(zA "shape",V.int shape),(zA "kind",V.int kind),(zA "jar",V.ref j)]
 refine Exs.sub (ρ':=R0) ?_ (Sub.put rfl (Sub.put rfl (Sub.put rfl (Sub.put rfl (Sub.put rfl (Sub.put rfl (Sub.put rfl (Sub.put rfl (Sub.put rfl (Sub.put rfl fun oo1 oo2 e=>by cases e))))))))))
 rw [show addC (cT wide tall) (120,[])=cX wide tall from rfl] at G9
 refine zE7 (Ex.mono (P:=fun fl ρ' σ'=>fl=.next/\ρ'=R0/\HPI own hp (c1 wide tall kind) σ9 σ') ?_ fun fl ρ' σF hh=>?_)
 ·refine zC1 (gU (gB rfl (ev_s rfl ?_)))
  refine zM1 (l:=[.int (1:Nat),.int (3:Nat)]) rfl rfl (zL rfl) (gM ?_)
  rw [zU6]
  by_cases hc:kind=1∨kind=3
  ·refine ifT (decide_eq_true hc) ?_
   have ok:=okF (wide:=wide) ht2
   rw [jL] at ok
   refine gC ?_;intro R Q
   refine zA2 (gO B (gB rfl ⟨hp,488,L9 .hd,_,426,rfl,hL9 ▸ H9.at_ .hp _ rfl,H9.at_ .hd _ rfl,rfl,rfl,⟨by rfl,by rfl,by rfl,by rfl⟩,?_⟩))
   refine gD (gB rfl ?_)
   refine gD (gO B (gB rfl ⟨hp,488,L9 .hd,_,393,rfl,hL9 ▸ H9.at_ .hp _ rfl,H9.at_ .hd _ rfl,rfl,rfl,⟨by rfl,by rfl,by rfl,by rfl⟩,?_⟩))
   refine gJ rfl ?_
   rw [<-hL9]
   refine Cl.le (d:=5) (zN0 (d:=0) (x:=(102,[2+tall])) B H9 G9 (zF3.of (zD7 _ (by simp)) ok.1) fun σa La pa Ha hLa Ka Ga hha=>?_) (by lia)
   refine gJ rfl ?_
   refine Cl.le (d:=5) (zQ4 (d:=0) B Ha hLa Ga (zO1.of ok.2) hha fun oo1 σb Lb pb Hb hLb Kb Gb=>?_) (by lia)
   refine gG ?_
   refine ⟨rfl,rfl,Lb,pb,Hb,hLb.trans hL9,?_,Ka.trans Kb⟩
   show GP pb (stF kind (2+tall) (cX wide tall))
   unfold stF
   rw [if_pos hc]
   exact Gb
  ·refine ifF (decide_eq_false hc) ?_
   refine gG ?_
   refine ⟨rfl,rfl,L9,p9,H9,hL9,?_,KB.refl _ _⟩
   show GP p9 (stF kind (2+tall) (cX wide tall))
   unfold stF
   rw [if_neg hc]
   exact G9
 obtain ⟨e,e2,LF,pF,HF,hLF,GF,KF⟩:=hh
 subst e
 subst e2
 have JF:=J9.keep KF c1' c2'
 have hlxF:=(KF lx c3').trans hlx9
 clear J9 hlx9 H9 G9 hL9
 refine zE7 (Ex.mono (P:=fun fl ρ' σ'=>fl=.next/\ρ'=R0/\HPI own hp (c2 wide tall kind) σF σ') ?_ fun fl ρ' σG hh=>?_)
 ·refine zC1 (gU (gB rfl (ev_s rfl ?_)))
  refine zM1 (l:=[.int (0:Nat),.int (3:Nat)]) rfl rfl (zL rfl) (gM ?_)
  rw [zU6]
  by_cases hc:kind=0∨kind=3
  ·refine ifT (decide_eq_true hc) ?_
   have ok:=okG (wide:=wide) ht2 hc
   rw [jL] at ok
   refine gC ?_;intro R Q
   refine zA2 (gO B (gB rfl ⟨hp,488,LF .hd,_,426,rfl,hLF ▸ HF.at_ .hp _ rfl,HF.at_ .hd _ rfl,rfl,rfl,⟨by rfl,by rfl,by rfl,by rfl⟩,?_⟩))
   refine gD (gB rfl ?_)
   refine gD (gO B (gB rfl ⟨hp,488,LF .hd,_,393,rfl,hLF ▸ HF.at_ .hp _ rfl,HF.at_ .hd _ rfl,rfl,rfl,⟨by rfl,by rfl,by rfl,by rfl⟩,?_⟩))
   refine gJ rfl ?_
   rw [<-hLF]
   refine Cl.le (d:=5) (zN0 (d:=0) (x:=(103,[2+tall,2+tall])) B HF GF (zF3.of (zD7 _ (by simp)) ok.1) fun σa La pa Ha hLa Ka Ga hha=>?_) (by lia)
   refine gJ rfl ?_
   refine Cl.le (d:=5) (zQ4 (d:=0) B Ha hLa Ga (zO1.of ok.2) hha fun oo1 σb Lb pb Hb hLb Kb Gb=>?_) (by lia)
   refine gG ?_
   refine ⟨rfl,rfl,Lb,pb,Hb,hLb.trans hLF,?_,Ka.trans Kb⟩
   show GP pb (stG kind (2+tall) (c1 wide tall kind))
   unfold stG
   rw [if_pos hc]
   exact Gb
  ·refine ifF (decide_eq_false hc) ?_
   refine gG ?_
   refine ⟨rfl,rfl,LF,pF,HF,hLF,?_,KB.refl _ _⟩
   show GP pF (stG kind (2+tall) (c1 wide tall kind))
   unfold stG
   rw [if_neg hc]
   exact GF
 obtain ⟨e,e2,LG,pG,HG',hLG,GG,KG⟩:=hh
 subst e
 subst e2
 have JG:=JF.keep KG c1' c2'
 have hlxG:=(KG lx c3').trans hlxF
 clear JF hlxF HF GF hLF
 refine zE7 (Ex.mono (P:=fun fl ρ' σ'=>fl=.next/\ρ'=R0/\HPI own hp (c3 wide tall kind) σG σ') ?_ fun fl ρ' σY hh=>?_)
 ·refine zC1 (gU (gB rfl (gI (zE4 (gM ?_)))))
  by_cases hc:kind=2
  ·refine ifT (beq_iff_eq.mpr (by lia)) ?_
   subst hc
   have ok:=okY (wide:=wide) ht2
   rw [jL,jL] at ok
   refine gC ?_;intro R Q
   refine zA2 (gO B (gB rfl ⟨hp,488,LG .hd,_,426,rfl,hLG ▸ HG'.at_ .hp _ rfl,HG'.at_ .hd _ rfl,rfl,rfl,⟨by rfl,by rfl,by rfl,by rfl⟩,?_⟩))
   refine gD (gB rfl ?_)
   refine gD (gO B (gB rfl ⟨hp,488,LG .hd,_,393,rfl,hLG ▸ HG'.at_ .hp _ rfl,HG'.at_ .hd _ rfl,rfl,rfl,⟨by rfl,by rfl,by rfl,by rfl⟩,?_⟩))
   refine gD (zH4 (gD (zB9 (gD (gB rfl (gD (gO B (gB rfl ⟨hp,488,LG .hd,_,398,rfl,hLG ▸ HG'.at_ .hp _ rfl,HG'.at_ .hd _ rfl,rfl,rfl,⟨by rfl,by rfl,by rfl,by rfl⟩,?_⟩))))))))
   refine gJ rfl ?_
   refine Cl.le (d:=6) (zO0 (d:=0) B (o:=121) (zF3.of (zD7 _ (by simp)) ok.1.1) _ LG pG _ HG' hLG GG fun σy Ly py Hy hLy Ky Gy=>?_) (by lia)
   refine gF ⟨by simp,gF ?_⟩
   rw [<-hLy]
   refine Cl.le (d:=5) (zN0 (d:=0) (x:=(103,[2+tall,(c2 wide tall 2).nodes.length])) B Hy Gy (zF3.of (zD7 _ (by simp)) ok.1.2) fun σa La pa Ha hLa Ka Ga hha=>?_) (by lia)
   refine gJ rfl ?_
   have hnl:(addC (c2 wide tall 2) (121,[])).nodes.length=(c2 wide tall 2).nodes.length+1:=by show ((c2 wide tall 2).nodes++[_]).length=_;rw [zE];rfl
   rw [hnl] at hha ⊢
   refine Cl.le (d:=5) (zQ4 (d:=0) B Ha hLa Ga (zO1.of ok.2) hha fun oo1 σb Lb pb Hb hLb Kb Gb=>?_) (by lia)
   refine gG ?_
   refine ⟨rfl,rfl,Lb,pb,Hb,hLb.trans hLy,?_,Ky.trans (Ka.trans Kb)⟩
   show GP pb (stY 2 (2+tall) (c2 wide tall 2))
   unfold stY
   rw [if_pos rfl]
   exact Gb
  ·refine ifF (beq_eq_false_iff_ne.mpr (by lia)) ?_
   refine gG ?_
   refine ⟨rfl,rfl,LG,pG,HG',hLG,?_,KB.refl _ _⟩
   show GP pG (stY kind (2+tall) (c2 wide tall kind))
   unfold stY
   rw [if_neg hc]
   exact GG
 obtain ⟨e,e2,LY,pY,HY,hLY,GY,KY⟩:=hh
 subst e
 subst e2
 have JY:=JG.keep KY c1' c2'
 have hlxY:=(KY lx c3').trans hlxG
 clear JG hlxG HG' GG hLG
 refine gC ?_;intro R Q
 refine zD6 ?_;intro kk
 refine zB0 (zC0 (gB rfl ?_))
 refine gI ⟨((1:Nat):Int),rfl,gs_lst hlxY (by decide) (by cases two <;> decide) ?_⟩
 rw [jP7]
 have hidx:(σY++[O.lst ((lvs two).drop 1)])[σY.length]?=some (.lst ((lvs two).drop 1)):=gK
 have HI:HB (fun k=>own k/\k≠σY.length) (σY++[O.lst ((lvs two).drop 1)]) LY pY:=(HY.more _).own (fun r hr=>⟨HY.low r hr,HY.fresh r hr⟩) fun k hk=>by
  rw [zE,vM] at hk
  exact ⟨HY.new k (by lia),by lia⟩
 have KI:KB own σY (σY++[O.lst ((lvs two).drop 1)]):=HY.kmore _
 generalize hidxd:σY.length=idx at hidx HI
 generalize σY++[O.lst ((lvs two).drop 1)]=σI at hidx HI KI ⊢
 refine ⟨_,_,gZ hidx,fun i σ'=>HPI (fun k=>own k/\k≠idx) hp (if i=0 then c3 wide tall kind else zO8 (addC (c3 wide tall kind) (117,[])) (2+tall) (c3 wide tall kind).nodes.length) σI σ',⟨LY,pY,HI,hLY,by rw [if_pos rfl];exact GY,KB.refl _ _⟩,fun i σ' hh=>(hh.keep idx (fun q=>q.2 rfl)).trans hidx,fun i v σ' hv hI=>?_,fun σ' hI=>?_⟩
 ·obtain ⟨Li,pi,Hi,hLi,Gi,Ki⟩:=hI
  have hi0:i=0/\v=zL4 117:=by
   cases two with
   | false=>simp [lvs] at hv
   | true=>
    match i,hv with
    | 0,hv=>simp [lvs] at hv;exact ⟨rfl,hv.symm⟩
    | _+1,hv=>simp [lvs] at hv
  obtain ⟨rfl,rfl⟩:=hi0
  rw [if_pos rfl] at Gi
  have ok:=okU (wide:=wide) ht2 hk
  rw [jL] at ok
  refine gN rfl ?_
  refine gC ?_;intro R Q
  refine zA2 (gO B (gB rfl ⟨hp,488,Li .hd,_,426,rfl,hLi ▸ Hi.at_ .hp _ rfl,Hi.at_ .hd _ rfl,rfl,rfl,⟨by rfl,by rfl,by rfl,by rfl⟩,?_⟩))
  refine gD (gO B (gB rfl ⟨hp,488,Li .hd,_,398,rfl,hLi ▸ Hi.at_ .hp _ rfl,Hi.at_ .hd _ rfl,rfl,rfl,⟨by rfl,by rfl,by rfl,by rfl⟩,?_⟩))
  refine gJ rfl ?_
  rw [<-hLi]
  refine Cl.le (d:=6) (zQ7 (d:=0) (o:=117) B Hi Gi (zF3.of (zD7 _ (by simp)) ok.1) fun σa La pa Ha hLa Ka Ga hha=>?_) (by lia)
  refine gD (gB rfl ?_)
  refine gJ rfl ?_
  refine Cl.le (d:=5) (zQ4 (d:=0) B Ha hLa Ga (zO1.of ok.2) hha fun oo1 σb Lb pb Hb hLb Kb Gb=>?_) (by lia)
  refine gG ?_
  refine ⟨Sub.drop rfl (Sub.refl _),Lb,pb,Hb,hLb.trans hLi,?_,Ki.trans (Ka.trans Kb)⟩
  rw [if_neg (by lia)]
  exact Gb
 obtain ⟨LU,pU,HU,hLU,GU,KU⟩:=hI
 have GU:GP pU (c4 wide tall kind two):=by
  cases two with
  | false=>exact GU
  | true=>exact GU
 have KU':KB own σI σ':=fun i hi=>KU i fun q=>hi q.1
 have JU:=(JY.keep KI c1' c2').keep KU' c1' c2'
 have hlxU:=(KU' lx c3').trans ((KI lx c3').trans hlxY)
 have lowU:∀ r,(cell pU LU r).isSome=true->LU r≠j:=fun r hr=>(hbase _ (HU.low r hr).1).1
 clear JY hlxY HY GY HI KI KU KU' hidx
 refine gC ?_;intro R Q
 refine zA2 (zJ5 B (gB rfl ⟨hp,488,LU .hd,_,440,rfl,hLU ▸ HU.at_ .hp _ rfl,HU.at_ .hd _ rfl,rfl,rfl,⟨by rfl,by rfl,by rfl,by rfl⟩,?_⟩))
 rw [<-hLU]
 refine Cl.le (d:=1) (jV0 (d:=0) B HU GU.waiting fun v=>?_) (by lia)
 refine gC ?_;intro R Q
 refine gE ?_ (fun oo1 oo2=>rfl);intro kk;refine gO B (gB rfl ⟨hp,488,LU .hd,_,393,rfl,hLU ▸ HU.at_ .hp _ rfl,HU.at_ .hd _ rfl,rfl,rfl,⟨by rfl,by rfl,by rfl,by rfl⟩,?_⟩)
 refine gD (zH4 ?_)
 refine gD (zA8 (zB9 ?_))
 refine gD (zB9 ?_)
 refine gD (gB rfl ?_)
 refine gJ rfl ⟨by simp,?_⟩
 refine gD (zB9 ?_)
 refine gD (gB rfl ?_)
 refine gD (gB rfl ?_)
 refine gJ rfl ⟨by simp,?_⟩
 refine gD (zB9 ?_)
 refine gD (gB rfl ?_)
 refine gD (gB rfl ?_)
 refine gJ rfl ⟨by simp,gF ⟨by simp,?_⟩⟩
 refine gB rfl (zJ7 (i:=shape) (v:=.tup (nums (psOf shape (1+tall) (2+tall)))) ?_ (by lia) (gF ?_))
 ·have:shape=0∨shape=1∨shape=2:=by lia
  rcases this with rfl | rfl | rfl <;> rfl
 rw [<-hLU]
 refine Cl.le (d:=5) (zN0 (d:=0) (x:=(112,psOf shape (1+tall) (2+tall))) B HU GU (zF3.of (zD7 _ (by simp)) (okP ht2 hk hs)) fun σp Lp pp Hp hLp Kp Gp oo1=>?_) (by lia)
 refine gN rfl ?_
 have Kp':KB own σ' σp:=fun i hi=>Kp i fun q=>hi q.1
 have Jp:=JU.keep Kp' c1' c2'
 have hlxp:=(Kp' lx c3').trans hlxU
 have lowp:∀ r,(cell pp Lp r).isSome=true->Lp r≠j:=fun r hr=>(hbase _ (Hp.low r hr).1).1
 have hjl:j < σp.length:=(zC.mp Jp.at_).1
 have hll:lx < σp.length:=(zC.mp hlxp).1
 clear JU hlxU HU GU Kp Kp'
 refine gC ?_;intro R Q
 refine gE ?_ (fun oo1 oo2=>rfl);intro kk;refine zB8 B (zA1 B rfl (by rfl) ⟨_,rfl,by rfl,gJ rfl ?_⟩)
 refine Cl.le (d:=2) (jK0 (d:=0) B ?_) (by lia)
 refine gN rfl ?_
 have HC:=Hp.more [O.dct [(nm "heap",V.ref hp),(nm "mark",.none),(nm "known",.ref (σp.length+2))],.inst 276 (σp.length+0),.dct []]
 have JC:=Jp.more [O.dct [(nm "heap",V.ref hp),(nm "mark",.none),(nm "known",.ref (σp.length+2))],.inst 276 (σp.length+0),.dct []]
 have hlxC:(σp++[O.dct [(nm "heap",V.ref hp),(nm "mark",.none),(nm "known",.ref (σp.length+2))],.inst 276 (σp.length+0),.dct []])[lx]?=some (.lst (lvs two)):=by rw [zH hll];exact hlxp
 have hlow:∀ r,(cell pp Lp r).isSome=true->Lp r < σp.length:=fun r hr=>Hp.toHeapAt.lt hr
 have CC:CAt (σp++[O.dct [(nm "heap",V.ref hp),(nm "mark",.none),(nm "known",.ref (σp.length+2))],.inst 276 (σp.length+0),.dct []]) (σp.length+1) (σp.length+0) (σp.length+2) Lp pp .none []:=
  ⟨HC.toHeapAt,by rw [gX];rfl,by rw [gX,hLp,hLU];rfl,by rw [gX];rfl,fun r hr=>by have:=hlow r hr;lia,by lia,by lia⟩
 refine Exs.sub ?_ (Sub.put (x:=zA "counts") rfl (Sub.put (x:=zA "c") rfl (Sub.put (x:=zA "x") rfl (Sub.put (x:=zA "tower") rfl (Sub.put (x:=zA "tall") rfl (Sub.put (x:=zA "wide") rfl (Sub.put (x:=zA "leaves") rfl (Sub.put (x:=zA "shape") rfl (Sub.put (x:=zA "kind") rfl (Sub.put (x:=zA "jar") (ρ:=[]) rfl fun oo1 oo2 e=>by cases e))))))))))
 exact tail B ht2 hk hs hw19 Gp JC hcl2 (by lia) CC (fun r hr=>by have:=hlow r hr;lia) (by lia) hlxC (by lia) (by lia) (by lia) lowp (fun q=>hj4 q.symm) (by lia) (by lia)
end
theorem frame_end {w:World} {prog:Program} {s₁:Shared} {h₁:Heap} {a fa:Addr} {nm':Str} {cd:Value} {m:Str->Option Value} {sc:Scope} {body:List Stmt} (hprog:prog=PG) (hkind:sc.kind=.function) (hall:(sc.names.all fun p=>p.2 == .local || p.2 == .globalImplicit)=true)
  (hks:sc.names.lookup (zA "script")=some .local)
  (D:Exs w s₁.heap 60 sc body [(zA "script",.con (.ref a))] [] (fun fl oo1 oo2=>fl=.ret (.bool true)))
  (F:Fr s₁.heap s₁.heap.objs.size h₁ m) (hm:m (zA "script")=some (.ref a)) {A:Around} (hA:Room A 60) {tk:Nat} {Q:Flow->Shared->Prop} {E:Value->Shared->Prop}
  (hQ:∀ s',(∀ b o,s₁.heap.get? b=some o->s'.heap.get? b=some o)->s'.gens=s₁.gens->s'.os=s₁.os->Q (.ret (.bool true)) s') :
  wpAny (model prog w) A (execs body (envOf nm' sc s₁.heap.objs.size fa cd)) Q E { s₁ with heap:=h₁,toks:=tk }:=by
 subst hprog
 have hlt:s₁.heap.objs.size < h₁.objs.size:=by
  obtain ⟨o,_,_,e,_⟩:=F.ns
  exact jC e
 have S:Sim w s₁.heap h₁ [] []:=⟨F.keep,qI hlt,rfl,wO,fun a ha=>(yP ha).elim,fun i a o hi=>by simp at hi⟩
 have nocell:∀ x k,sc.names.lookup x=some k->k=.local∨k=.globalImplicit:=fun x k h=>by
  have:=jQ.mp hall (x,k) (PySem.mem_of_lookup h)
  rcases vY.mp this with q | q
  ·exact .inl (by simpa using q)
  ·exact .inr (by simpa using q)
 have FR0:FR s₁.heap h₁ [] (envOf nm' sc s₁.heap.objs.size fa cd) [(zA "script",.con (.ref a))]:=by
  refine ⟨hkind,rfl,rfl,⟨m,F.ns,fun x v hx oo1=>?_⟩,⟨by simp,zK _⟩,fun x v hx hk=>?_,fun x v hx=>?_,fun x b hx=>(nomatch hx),fun x y b hx=>(nomatch hx),fun x hx=>?_⟩
  ·rw [zX] at hx
   cases q:x == zA "script" with
   | true=>
    rw [q] at hx
    cases hx
    rw [eq_of_beq q]
    exact ⟨_,hm,.con _⟩
   | false=>rw [q] at hx;cases hx
  ·rcases hk with hk | hk <;> rcases nocell x _ hk with q | q <;> cases q
  ·rw [zX] at hx
   cases q:x == zA "script" with
   | true=>rw [eq_of_beq q];exact .inl hks
   | false=>rw [q] at hx;cases hx
  ·rcases nocell x _ hx with q | q <;> cases q
 refine (D A (envOf nm' sc s₁.heap.objs.size fa cd) { s₁ with heap:=h₁,toks:=tk } [] hA rfl FR0 S).seq fun c s' ι' v ρ' σ' st F' S' r p=>?_
 have p:v=.ret (.bool true):=p
 subst p
 cases r with
 | ret rv=>
  cases rv
  refine hQ s' (fun b o e=>st.keep b o (F.keep b o e) (by simp) fun q=>?_) st.gens st.os
  rcases q with q | ⟨x,hx⟩
  ·have:=jC e
   have q':b=s₁.heap.objs.size:=q
   rw [q'] at this
   exact yM _ this
  ·cases hx
theorem law_sc (w:World):(getS w 521).kind=.function/\((getS w 521).names.all fun p=>p.2 == .local || p.2 == .globalImplicit)=true/\(getS w 521).names.lookup (zA "script")=some .local:=⟨by rfl,by rfl,by rfl⟩
theorem post_ok (args:List WData):PySem.Challenge.rw_pq0026_01.row.claim.post args (.bool true) args=true:=by wrow_post
theorem law_all {w':World} {h':Heap} {a:Addr} {vs:List Value} {ns:List Int} (B:Bs w' h') (hL:h'.IsList a vs.toArray) (hI:IntsAre vs ns) (hn:ns.length<=63) :
  Exs w' h' 60 (getS w' 521) (getB w' 521) [(zA "script",.con (.ref a))] [] (fun fl oo1 oo2=>fl=.ret (.bool true)):=
 Classical.byContradiction fun c=>by
  have z:Bad (w,h₀):=by
   delta w h₀
   exact Classical.epsilon_spec (p:=Bad) ⟨(w',h'),a,vs,ns,B,hL,hI,hn,c⟩
  obtain ⟨a,vs,ns,B,hL,hI,hn,c⟩:=z
  exact c (law_ok B hL hI hn)
end
end Mine
open PySem PySem.W PySem.Calls PyProof.Rows PySem.SeqAt
local macro_rules | `(tactic| k_qdec) => `(tactic| decide +kernel)
set_option maxRecDepth 100000 in
set_option maxHeartbeats 8000000 in
theorem PySem.Challenge.cw_pq0026_01_holds : PySem.Challenge.rw_pq0026_01.Holds := by
  w_on
  refine holds_law Mine.said fun said => ?_
  refine holds_open (q := Mine.VW) (loose := []) (Xt := fun s => xlAt Mine.VW [] s && recOk [] s) (XP := XL Mine.VW []) (Yf := Hook.obs (kHook Mine.KF Mine.kAs Mine.kAs_is)) (Ya := Hook.val (kHook Mine.KF Mine.kAs Mine.kAs_is)) (YP := Hook.says (kHook Mine.KF Mine.kAs Mine.kAs_is)) (N := 7036) Mine.hl (Hook.of _) (Hook.keeps _) (fun s e => xl_of s (Bool.and_eq_true_iff.mp e).1) XL.keeps (by rfl) (by rfl) (by rfl) (fun s e => recFacts_of (Bool.and_eq_true_iff.mp e).2) (by rfl) said (by decide +kernel) ⟨rfl, rfl, rfl, rfl, rfl, by decide +kernel⟩ ?hw ?hc
  case hw => w_witness2
  w_strict k_go0
  rename_i w s₀ s₁ mg mb G Y fa o pm doc kV ho hg KX X V GL T BT TE TW w9 w8 M w7 w6 hcd ns hs hlay0 hL1 hr1 hl2 w4 w3 a vs as hL ra w1 r0 hI hr hc1 hc2 K0 hD h₁ F N0
  with_reducible refine Mine.frame_end (a := a) ?hprog ?k1 ?k2 ?k3 ?D F ?hm ?hA ?hQ
  case hprog => rfl
  case k1 => rfl
  case k2 => rfl
  case k3 => rfl
  case hm => rfl
  case hA => exact ⟨by exact Nat.le_of_ble_eq_true rfl, by exact Nat.le_of_ble_eq_true rfl, rfl⟩
  case D => exact Mine.law_all (w' := w) (h' := s₁.heap) ⟨KX, mg, mb, _, T⟩ hL hI (by omega)
  case hQ =>
    intro s' keep g o
    exact ⟨.inl ⟨_, .bool true, [], rfl, fun _ => by rfl, .bool _, Mine.post_ok _, unshared_nil⟩, keep, o, g.trans hg⟩
