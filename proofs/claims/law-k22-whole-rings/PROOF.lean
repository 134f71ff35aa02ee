import PyProof.Rows.All
import Wide.All
import OpenK.AllK
import Wide.FinOn
import KE.KStateDown
import Lean
import HandS.ForMost
import HandS.Exc
import HandS.Defaults
import HandS.Head0
import HandS.Head1
import HandS.Head2
import HandS.HeadEnd
import HandS.HeadHook1
import HandS.HeadHook2
import PySem.Challenge.RW_tautropes_k22_whole_rings_of_powers_and
import KE.KDictWalk
import KE.KPairComp
import HandS.DictComp
import KE.KDictSum
import KE.KDictCopyH
import KE.SortData
import PyProof.TupleOfSeq
import KE.DataMinMax
import KE.KEqDict
import HandS.Style
import HandS.Strs
import KE.DataEq
import KE.DataCmp
import PyProof.NeData
import HandS.TupMul
import HandS.TupAny
import HandS.TupLen
import HandS.IsInst
import HandS.Walk
import HandS.More
set_option Elab.async false
set_option linter.all false
set_option maxRecDepth 100000
namespace Tau
open PySem PySem.Spec PyProof.Rows L2
def topS (i : Nat) : Stmt := PySem.Challenge.pw_tautropes_k22_whole_rings_of_powers_and.main.body.getD i (.Pass ⟨0, 0, 0, 0⟩)
abbrev sIsName : Stmt := topS 12
abbrev sIsListing : Stmt := topS 13
abbrev sBadNames : Stmt := topS 14
abbrev sIsPair : Stmt := topS 15
abbrev sBadPairs : Stmt := topS 16
abbrev sPairsOf : Stmt := topS 17
abbrev sBesideAll : Stmt := topS 18
abbrev sShrunk : Stmt := topS 20
abbrev sTurned : Stmt := topS 21
abbrev sBehind : Stmt := topS 22
abbrev sNeedClosed : Stmt := topS 24
abbrev sCore : Stmt := topS 25
abbrev sTurns : Stmt := topS 26
abbrev sNamed : Stmt := topS 27
abbrev sTimesOf : Stmt := topS 28
abbrev sNeedSomething : Stmt := topS 29
abbrev sRoot : Stmt := topS 30
abbrev sCountWalks : Stmt := topS 33
abbrev sShrunkWalks : Stmt := topS 34
abbrev sAllRings : Stmt := topS 35
abbrev sFirstThree : Stmt := topS 37
abbrev sLawPen : Stmt := topS 40
abbrev sLawDraw : Stmt := topS 41
abbrev sLawPick : Stmt := topS 42
abbrev sLawShuffled : Stmt := topS 43
abbrev sLawNames : Stmt := topS 44
abbrev sLawNear : Stmt := topS 45
abbrev sLawMayDoor : Stmt := topS 46
abbrev sLawWithDoors : Stmt := topS 47
abbrev sLawDrawnPairs : Stmt := topS 48
abbrev sLawYard : Stmt := topS 49
abbrev sLawHanded : Stmt := topS 50
abbrev sLawEither : Stmt := topS 51
abbrev sLawReach : Stmt := topS 52
abbrev sLawHouse : Stmt := topS 53
abbrev sLawIsSplit : Stmt := topS 54
abbrev sLaw : Stmt := topS 55
abbrev sHouse : Stmt := topS 38
abbrev sHoInit : Stmt := inClass sHouse 0
abbrev sHoRooms : Stmt := inClass sHouse 2
abbrev sHoNeedRoom : Stmt := inClass sHouse 4
abbrev DefIs (K : PySem.W.Frag) (x q : Str) (st : Stmt) (f : Addr) (fd : FuncData) : Prop := FunD K x q (defArgs st) (defBody st) (defScope st) [] [] f fd
end Tau
set_option maxHeartbeats 0
namespace Tau
open PySem PySem.Spec PyProof.Rows L2
def dIsName : He.DefD := ⟨("is_name", none), "is_name", "is_name", defArgs sIsName, defBody sIsName, defScope sIsName, [], []⟩
def dIsListing : He.DefD := ⟨("is_listing", none), "is_listing", "is_listing", defArgs sIsListing, defBody sIsListing, defScope sIsListing, [], []⟩
def dBadNames : He.DefD := ⟨("bad_names", none), "bad_names", "bad_names", defArgs sBadNames, defBody sBadNames, defScope sBadNames, [], []⟩
def dIsPair : He.DefD := ⟨("is_pair", none), "is_pair", "is_pair", defArgs sIsPair, defBody sIsPair, defScope sIsPair, [], []⟩
def dBadPairs : He.DefD := ⟨("bad_pairs", none), "bad_pairs", "bad_pairs", defArgs sBadPairs, defBody sBadPairs, defScope sBadPairs, [], []⟩
def dPairsOf : He.DefD := ⟨("pairs_of", none), "pairs_of", "pairs_of", defArgs sPairsOf, defBody sPairsOf, defScope sPairsOf, [], []⟩
def dBesideAll : He.DefD := ⟨("beside_all", none), "beside_all", "beside_all", defArgs sBesideAll, defBody sBesideAll, defScope sBesideAll, [], []⟩
def dShrunk : He.DefD := ⟨("shrunk", none), "shrunk", "shrunk", defArgs sShrunk, defBody sShrunk, defScope sShrunk, [], []⟩
def dTurned : He.DefD := ⟨("turned", none), "turned", "turned", defArgs sTurned, defBody sTurned, defScope sTurned, [], []⟩
def dBehind : He.DefD := ⟨("behind", none), "behind", "behind", defArgs sBehind, defBody sBehind, defScope sBehind, [], []⟩
def dNeedClosed : He.DefD := ⟨("need_closed", none), "need_closed", "need_closed", defArgs sNeedClosed, defBody sNeedClosed, defScope sNeedClosed, [], []⟩
def dCore : He.DefD := ⟨("core", none), "core", "core", defArgs sCore, defBody sCore, defScope sCore, [], []⟩
def dTurns : He.DefD := ⟨("turns", none), "turns", "turns", defArgs sTurns, defBody sTurns, defScope sTurns, [], []⟩
def dNamed : He.DefD := ⟨("named", none), "named", "named", defArgs sNamed, defBody sNamed, defScope sNamed, [], []⟩
def dTimesOf : He.DefD := ⟨("times_of", none), "times_of", "times_of", defArgs sTimesOf, defBody sTimesOf, defScope sTimesOf, [], []⟩
def dNeedSomething : He.DefD := ⟨("need_something", none), "need_something", "need_something", defArgs sNeedSomething, defBody sNeedSomething, defScope sNeedSomething, [], []⟩
def dRoot : He.DefD := ⟨("root", none), "root", "root", defArgs sRoot, defBody sRoot, defScope sRoot, [], []⟩
def dCountWalks : He.DefD := ⟨("count_walks", none), "count_walks", "count_walks", defArgs sCountWalks, defBody sCountWalks, defScope sCountWalks, [], []⟩
def dShrunkWalks : He.DefD := ⟨("shrunk_walks", none), "shrunk_walks", "shrunk_walks", defArgs sShrunkWalks, defBody sShrunkWalks, defScope sShrunkWalks, [], []⟩
def dAllRings : He.DefD := ⟨("all_rings", none), "all_rings", "all_rings", defArgs sAllRings, defBody sAllRings, defScope sAllRings, [], []⟩
def dFirstThree : He.DefD := ⟨("first_three", none), "first_three", "first_three", defArgs sFirstThree, defBody sFirstThree, defScope sFirstThree, [], []⟩
def dLawPen : He.DefD := ⟨("_law_pen", none), "_law_pen", "_law_pen", defArgs sLawPen, defBody sLawPen, defScope sLawPen, [], []⟩
def dLawDraw : He.DefD := ⟨("_law_draw", none), "_law_draw", "_law_draw", defArgs sLawDraw, defBody sLawDraw, defScope sLawDraw, [], []⟩
def dLawPick : He.DefD := ⟨("_law_pick", none), "_law_pick", "_law_pick", defArgs sLawPick, defBody sLawPick, defScope sLawPick, [], []⟩
def dLawShuffled : He.DefD := ⟨("_law_shuffled", none), "_law_shuffled", "_law_shuffled", defArgs sLawShuffled, defBody sLawShuffled, defScope sLawShuffled, [], []⟩
def dLawNames : He.DefD := ⟨("_law_names", none), "_law_names", "_law_names", defArgs sLawNames, defBody sLawNames, defScope sLawNames, [], []⟩
def dLawNear : He.DefD := ⟨("_law_near", none), "_law_near", "_law_near", defArgs sLawNear, defBody sLawNear, defScope sLawNear, [], []⟩
def dLawMayDoor : He.DefD := ⟨("_law_may_door", none), "_law_may_door", "_law_may_door", defArgs sLawMayDoor, defBody sLawMayDoor, defScope sLawMayDoor, [], []⟩
def dLawWithDoors : He.DefD := ⟨("_law_with_doors", none), "_law_with_doors", "_law_with_doors", defArgs sLawWithDoors, defBody sLawWithDoors, defScope sLawWithDoors, [], []⟩
def dLawDrawnPairs : He.DefD := ⟨("_law_drawn_pairs", none), "_law_drawn_pairs", "_law_drawn_pairs", defArgs sLawDrawnPairs, defBody sLawDrawnPairs, defScope sLawDrawnPairs, [], []⟩
def dLawYard : He.DefD := ⟨("_law_yard", none), "_law_yard", "_law_yard", defArgs sLawYard, defBody sLawYard, defScope sLawYard, [], []⟩
def dLawHanded : He.DefD := ⟨("_law_handed", none), "_law_handed", "_law_handed", defArgs sLawHanded, defBody sLawHanded, defScope sLawHanded, [], []⟩
def dLawEither : He.DefD := ⟨("_law_either", none), "_law_either", "_law_either", defArgs sLawEither, defBody sLawEither, defScope sLawEither, [], []⟩
def dLawReach : He.DefD := ⟨("_law_reach", none), "_law_reach", "_law_reach", defArgs sLawReach, defBody sLawReach, defScope sLawReach, [], []⟩
def dLawHouse : He.DefD := ⟨("_law_house", none), "_law_house", "_law_house", defArgs sLawHouse, defBody sLawHouse, defScope sLawHouse, [], []⟩
def dLawIsSplit : He.DefD := ⟨("_law_is_split", none), "_law_is_split", "_law_is_split", defArgs sLawIsSplit, defBody sLawIsSplit, defScope sLawIsSplit, [], []⟩
def dLaw : He.DefD := ⟨("law", none), "law", "law", defArgs sLaw, defBody sLaw, defScope sLaw, [], []⟩
def dHoInit : He.DefD := ⟨("House", some "__init__"), "__init__", "House.__init__", defArgs sHoInit, defBody sHoInit, defScope sHoInit, [], []⟩
def dHoRooms : He.DefD := ⟨("House", some "rooms"), "rooms", "House.rooms", defArgs sHoRooms, defBody sHoRooms, defScope sHoRooms, [], []⟩
def dHoNeedRoom : He.DefD := ⟨("House", some "need_room"), "need_room", "House.need_room", defArgs sHoNeedRoom, defBody sHoNeedRoom, defScope sHoNeedRoom, [], []⟩
def fnL : List He.DefD := [dIsName, dIsListing, dBadNames, dIsPair, dBadPairs, dPairsOf, dBesideAll, dShrunk, dTurned, dBehind, dNeedClosed, dCore, dTurns, dNamed, dTimesOf, dNeedSomething, dRoot, dCountWalks, dShrunkWalks, dAllRings, dFirstThree, dLawPen, dLawDraw, dLawPick, dLawShuffled, dLawNames, dLawNear, dLawMayDoor, dLawWithDoors, dLawDrawnPairs, dLawYard, dLawHanded, dLawEither, dLawReach, dLawHouse, dLawIsSplit, dLaw, dHoInit, dHoRooms, dHoNeedRoom]
def faL : List He.Fa := [.glo "is_name", .glo "is_listing", .glo "bad_names", .glo "is_pair", .glo "bad_pairs", .glo "pairs_of", .glo "beside_all", .glo "shrunk", .glo "turned", .glo "behind", .glo "need_closed", .glo "core", .glo "turns", .glo "named", .glo "times_of", .glo "need_something", .glo "root", .glo "count_walks", .glo "shrunk_walks", .glo "all_rings", .glo "first_three", .glo "_law_pen", .glo "_law_draw", .glo "_law_pick", .glo "_law_shuffled", .glo "_law_names", .glo "_law_near", .glo "_law_may_door", .glo "_law_with_doors", .glo "_law_drawn_pairs", .glo "_law_yard", .glo "_law_handed", .glo "_law_either", .glo "_law_reach", .glo "_law_house", .glo "_law_is_split", .glo "law", .glo "House", .free "isinstance", .free "len", .free "all", .free "sorted", .free "tuple", .free "list", .free "min", .free "max", .free "abs", .free "range", .free "sum", .free "int", .free "dict", .free "str", .int "MOST_LETTERS" 8, .int "MOST_RINGS" 2000, .str "LETTERS" "abcdefghijklmnopqrstuvwxyz", .cls "House", .mkr "House", .noat "House" "own_rooms", .noat "House" "own_doors", .noat "House" "near", .meth "House" "rooms", .meth "House" "need_room"]
abbrev RW : PySem.W.OpenRow := PySem.W.OpenLaw.row PySem.Challenge.rw_tautropes_k22_whole_rings_of_powers_and
abbrev hkT : PySem.W.Hook := He.hookD 4 faL fnL
def obT (s : PySem.W.SharedT) : He.AlD := He.obsDG 4 faL fnL (HandSHeadRun.getT s)
theorem obT_eq (s : PySem.W.SharedT) : obT s = hkT.obs s.abs := He.obsDG_eq (HandSHeadRun.getT_eq s)
def loA : List PySem.Str := ["_wall", "NoRoom", "NoDoor", "Three", "Apart", "NotClosed", "Nothing", "TooMany", "LETTERS", "MOST_LETTERS", "is_name", "is_listing", "bad_names", "is_pair", "bad_pairs", "pairs_of", "beside_all", "shrunk", "turned", "behind", "need_closed", "core", "turns", "named", "times_of", "need_something", "root", "MOST_RINGS", "count_walks", "shrunk_walks"]
def loB : List PySem.Str := ["all_rings", "first_three", "House", "_law_pen", "_law_draw", "_law_pick", "_law_shuffled", "_law_names", "_law_near", "_law_may_door", "_law_with_doors", "_law_drawn_pairs", "_law_yard", "_law_handed", "_law_either", "_law_reach", "_law_house", "_law_is_split"]
def loT : List PySem.Str := loA ++ loB
theorem runT (w : World) : HandSHeadRun.RunEq RW (PySem.W.view RW.prog [55]) hkT obT 6000 loT w := by
  intro os
  kernel_rfl
end Tau
set_option maxHeartbeats 2000000
namespace Tau
open PySem PySem.Spec PyProof.Rows L2
/-! d.items() of a locked dict whose keys are tuples -/
def ItT (d : Addr) (o : Obj) (kvs : List (List Key × V)) : It :=
  ⟨fun i H => H d = some (.frz o (.dT kvs)) ∧ i < kvs.length,
   fun i H x H' => ∃ (T q : Addr) (k : List Key) (v : V), kvs[i]? = some (k, v) ∧ H q = some (.tup (k.map kV)) ∧ x = .ref T ∧ H T = none ∧ H' = upd H T (.tup [.ref q, v]),
   fun i H => H d = some (.frz o (.dT kvs)) ∧ kvs.length ≤ i⟩
theorem frz_entries {X : Cx} {pins : List (Addr × Obj)} {σ : L2.St} {H : Hp} {s : Shared} {d : Addr} {o : Obj} {kvs : List (List Key × V)} (I : Inv X pins σ H s) (h : H d = some (.frz o (.dT kvs))) :
    (d == sysModules) = false ∧ ∃ (es : Array DictEntry) (ep : Nat), o.data = .dict es ep ∧ s.heap.DictRaw d es ep ∧ es.size = kvs.length ∧
      ∀ (i : Nat) (hi : i < es.size) (k : List Key) (v : V), kvs[i]? = some (k, v) → ∃ q : Addr, es[i].key = .ref q ∧ H q = some (.tup (k.map kV)) ∧ RelV v es[i].val := by
  obtain ⟨here, _, nosys, xs, rel, ob, es, ep, at_, exact_, data_, list_, _⟩ := I.hok d _ h
  rw [here] at at_
  cases at_
  have hsz : es.size = kvs.length := by
    have e1 := congrArg List.length list_
    rw [List.length_map, Array.length_toList] at e1
    rw [e1]
    exact (Paired.length rel).symm
  refine ⟨nosys, es, ep, data_, ⟨_, here, exact_, data_⟩, hsz, fun i hi k v e => ?_⟩
  obtain ⟨y, hy, ek, eq, ev⟩ := paired_get rel e
  have e2 : es[i]? = some (entryOfKey (tupleKind (mixKind X.prog X.w)) y) := by
    rw [entry_at list_ i, hy]
    rfl
  have e3 : es[i] = entryOfKey (tupleKind (mixKind X.prog X.w)) y := by
    rw [Array.getElem?_eq_getElem hi] at e2
    exact Option.some.inj e2
  refine ⟨y.2.1, by rw [e3]; rfl, eq, ?_⟩
  rw [e3]
  exact ev
theorem turn_T {P : Program} {w : World} {K : PySem.W.Frag} {d : Addr} {o : Obj} {es : Array DictEntry} {ep : Nat} {kvs : List (List Key × V)} {elts : List Expr} {kk : Nat} {tpos : Pos} (it : Addr) (hod : o.data = .dict es ep) :
    Turn P w K (.Tuple elts kk tpos) (ItT d o kvs) [it] it (fun i h => ∃ a b, IsItemIter h it d i es.size ep a b) where
  mem := by simp
  obj := fun i h st b hb => by
    obtain ⟨_, _, here⟩ := st
    rw [List.mem_singleton.mp hb]
    exact ⟨_, here, fun v z => nomatch z⟩
  keep := fun i h h' st k => by
    obtain ⟨a, b, here⟩ := st
    exact ⟨a, b, k it (List.mem_singleton.mpr rfl) _ here⟩
  item := by
    intro X hP hw hK hc i pins s σ H E I hf st hg
    subst hP hw hK
    obtain ⟨hd, hi⟩ := hg
    obtain ⟨_, es', ep', data_, raw, hsz, ent⟩ := frz_entries I hd
    obtain ⟨rfl, rfl⟩ := dict_ep hod data_
    obtain ⟨a, b, here⟩ := st
    have hlt := Heap.lt_size here
    have hi' : i < es'.size := by omega
    obtain ⟨q, ek, eq, ev⟩ := ent i hi' kvs[i].1 kvs[i].2 (by rw [List.getElem?_eq_getElem hi])
    refine wpAny_pyNext_items_item_raw here raw hi' fun h' out hT hz hk => ⟨_, rfl, ?_⟩
    refine wpAny_letOwnedTupleGo_items (s := { s with heap := h' }) out fun h2 here2 sb => ?_
    have new : ObjOk X.prog X.w (upd H s.heap.objs.size (.tup [.ref q, kvs[i].2])) h2 s.heap.objs.size (.tup [.ref q, kvs[i].2]) := by
      refine ⟨by show 2 ≤ sizeLine; decide, [es'[i].key, es'[i].val], .cons ek (.cons ev .nil), ⟨_, (sb.2 _ (Nat.ne_of_gt hlt)).trans hT, rfl, _, rfl⟩⟩
    have I2 := I.turnedNew (h' := h2) (t' := s.toks) (ch := [it]) (fun b ob hb e => (sb.2 b fun z => hb (List.mem_singleton.mpr z)).trans (hk b ob (fun z => hb (List.mem_singleton.mpr z)) e)) hf (Nat.le_refl _) new
    refine ⟨.ref s.heap.objs.size, _, I2, rfl, ⟨_, q, _, _, by rw [List.getElem?_eq_getElem hi], eq, rfl, I.hok.fresh (Nat.le_refl _), rfl⟩, ⟨_, _, here2⟩, fun b hb => ?_⟩
    rw [List.mem_singleton.mp hb, upd_ne (Nat.ne_of_lt hlt)]
    exact (hf it (List.mem_singleton.mpr rfl)).1
  done := by
    intro X hP hw hK hc i pins s σ H E I hf st hg
    subst hP hw hK
    obtain ⟨hd, hi⟩ := hg
    obtain ⟨_, es', ep', data_, raw, hsz, _⟩ := frz_entries I hd
    obtain ⟨rfl, rfl⟩ := dict_ep hod data_
    obtain ⟨a, b, here⟩ := st
    obtain ⟨f0, f1, f2, f3, f4, f5⟩ := hf it (List.mem_singleton.mpr rfl)
    exact wpAny_pyNext_items_end_raw (I.ok.hd hc) here raw (by omega) fun h' eb => ⟨rfl, I.turned (t' := s.toks) (fun b ob hb e => eb b ob hb e) f0 f1 f3 f4 f5⟩
  self := fun A i s Q E st h => by
    obtain ⟨_, _, here⟩ := st
    exact PySem.W.kcp_self here h
def iItT (td : TE) : TI := fun σ H R => td σ H fun x H1 => ∃ d o kvs, x = .ref d ∧ H1 d = some (.frz o (.dT kvs)) ∧ R (ItT d o kvs) H1
theorem pi_itT {X : Cx} {e : Expr} {td : TE} {apos cpos : Pos} {elts : List Expr} {kk : Nat} {tpos : Pos} (he : PE X e td) (hbase : attributeBase e "items" X.env (eval e X.env) = eval e X.env := by rfl) (hline : (apos.endLine == cpos.line) = true := by rfl) :
    PI X (.Tuple elts kk tpos) (.Call (.Attribute e "items" apos) [] [] cpos) (iItT td) := by
  refine ⟨fun pins s σ H R I h => ?_⟩
  refine wpAny_Call_method (T := "dict") (id := "dict.items") hbase rfl hline F.plainAttrs_dict F.slot_dict_items F.type_dict_items (thn (he.run pins s σ H _ I h) fun u s1 got => ?_)
  obtain ⟨x, H1, I1, rx, d, o, kvs, rfl, hd, q⟩ := got
  cases rx
  obtain ⟨nosys, es, ep, data_, raw, hsz, _⟩ := frz_entries I1 hd
  have exact_ : o.ExactDict := by
    obtain ⟨_, _, _, _, _, ob, _, _, at_, ex, _⟩ := I1.hok d _ hd
    obtain ⟨at2, _⟩ := I1.hok d _ hd
    rw [at2] at at_
    cases at_
    exact ex
  refine ⟨raw.typeIs, ?_, ?_⟩
  · intro a ea
    cases ea
    obtain ⟨o2, at2, ex2, d2⟩ := raw
    exact ⟨o2, at2, ex2.2.1⟩
  have I2 : Inv X pins σ H1 { s1 with heap := s1.heap.push { cls := .type "dict_items", data := .fields #[.ref d] } } := I1.kept (t' := s1.toks) fun b ob q => Heap.get?_push_of_some _ q
  have last : wpAny (model X.prog X.w) X.A (pyIter (.ref s1.heap.objs.size)) (PIE X pins σ (.Tuple elts kk tpos) R) X.xe { s1 with heap := s1.heap.push { cls := .type "dict_items", data := .fields #[.ref d] } } :=
    wpAny_pyIter_items_raw (d := d) ⟨_, Heap.get?_push_size _ rfl, rfl, rfl⟩ (raw.at fun _ q => Heap.get?_push_of_some _ q) (pi_one (tk := s1.toks) I2 _ (turn_T _ data_) ⟨.none, .none, Heap.get?_push_size _ rfl⟩ q)
  show wpAny _ _ (callWith cpos (.builtin "dict.items") [.ref d] [] []) _ X.xe s1
  exact method_meetsIn F.slot_dict_items F.entry_dict_items rfl (PySem.evalArgs_none ⟨rfl, raw.typeIs, F.args_dict_items_1 _, _, meets_dict_items_raw d nosys, ⟨es, ep, raw⟩, last⟩)
/-- the loop over such items -/
theorem for_itT {d : Addr} {o : Obj} {kvs : List (List Key × V)} {g : TG} {tb : TS} {D : Ends} {σ : L2.St} {H : Hp} (Pv : Nat → L2.St → Hp → Prop) (h0 : Pv 0 σ H) (hl : ∀ i σ H, Pv i σ H → H d = some (.frz o (.dT kvs)))
    (hs : ∀ i σ H k v q T, kvs[i]? = some (k, v) → H q = some (.tup (k.map kV)) → H T = none → Pv i σ H → g (.ref T) σ (upd H T (.tup [.ref q, v])) fun σ2 H2 => tb { D with nx := Pv (i + 1), ct := Pv (i + 1), bk := D.nx } σ2 H2)
    (hd : ∀ σ H, Pv kvs.length σ H → D.nx σ H) :
    ∃ W : Nat → Nat → L2.St → Hp → Prop, (∃ m, W 0 m σ H) ∧ ∀ i m σ H, W i m σ H → ((ItT d o kvs).stop i H ∧ D.nx σ H) ∨
      ((ItT d o kvs).go i H ∧ ∃ N : L2.St → Hp → Prop, (∀ σ' H', N σ' H' → ∃ m', m' < m ∧ W (i + 1) m' σ' H') ∧ ∀ x H', (ItT d o kvs).yld i H x H' → g x σ H' fun σ2 H2 => tb { D with nx := N, ct := N, bk := D.nx } σ2 H2) := by
  refine ⟨fun i m σ H => i + m = kvs.length ∧ Pv i σ H, ⟨kvs.length, by omega, h0⟩, fun i m σ H ⟨hm, p⟩ => ?_⟩
  have here := hl i σ H p
  by_cases lt : i < kvs.length
  · refine .inr ⟨⟨here, lt⟩, Pv (i + 1), fun σ' H' p' => ⟨m - 1, by omega, by omega, p'⟩, fun x H' y => ?_⟩
    obtain ⟨T, q, k, v, e, eq, rfl, nT, rfl⟩ := y
    exact hs i σ H k v q T e eq nT p
  · have e : i = kvs.length := by omega
    subst e
    exact .inl ⟨⟨here, Nat.le_refl _⟩, hd σ H p⟩
end Tau
set_option maxHeartbeats 2000000
namespace Tau
open PySem PySem.Spec PyProof.Rows L2
/-! a dict comprehension whose keys are tuples of ints and texts -/
theorem set_T {X : Cx} {pins : List (Addr × Obj)} {σ : L2.St} {H : Hp} {s : Shared} {E : Value → Shared → Prop} {D b : Addr} {kvs : List (List Key × V)} {k : List Key} {v : V} {r : Value} {Q : Unit → Shared → Prop} (hu : X.A.units < cLine) (I : Inv X pins σ H s)
    (hD : H D = some (.dT kvs)) (hb : H b = some (.tup (k.map kV))) (hz : kvs.length < sizeLine) (rv : RelV v r) (h : ∀ s', Inv X pins σ (upd H D (.dT (putK kvs k v))) s' → Q () s') :
    wpAny (model X.prog X.w) X.A (dictSet D (.ref b) r) Q E s := by
  obtain ⟨zl, nosys, xs, rel, dd⟩ := dt_of I.hok hD
  have e1 : kvs.length = xs.length := Paired.length rel
  have e2 := length_putK kvs k v
  refine wpAny_dictSet_heap (knd := tupleKind (mixKind X.prog X.w)) hu (key_of I.hok hb) dd (fun h' dd' same => h _ ?_) (by omega)
  obtain ⟨ob, es, ep, g1, g2, g3, g4, _, g5⟩ := dd'
  refine d_write I (by rw [hD]; trivial) same ⟨ob, g1⟩ ⟨by omega, nosys, _, (rel.put k hb rv).keeps fun c ys ec => ?_, ob, es, ep, g1, g2, g3, g4, g5⟩
  exact (upd_ne (ne_of ec hD (fun z => nomatch z))).trans ec
def tDcT (wi : TI) (g : TG) (tk tv : TE) (vs : List Nat) : TE := fun σ H Q => wi σ H fun J H1 => ∀ D, H1 D = none → ∃ W : Nat → Nat → Hp → Prop, (∃ m, W 0 m (upd H1 D (.dT []))) ∧ ∀ i m H2, W i m H2 →
  (J.stop i H2 ∧ Q (.ref D) H2) ∨ (J.go i H2 ∧ ∃ Nx : Hp → Prop, (∀ H', Nx H' → ∃ m', m' < m ∧ W (i + 1) m' H') ∧ ∀ x H', J.yld i H2 x H' → g x (wipe σ vs) H' fun σ2 H3 => wipe σ2 vs = wipe σ vs ∧
    tk σ2 H3 fun y H4 => tv σ2 H4 fun z H5 => ∃ kvs k b, y = .ref b ∧ H5 b = some (.tup (k.map kV)) ∧ H5 D = some (.dT kvs) ∧ kvs.length < sizeLine ∧ Nx (upd H5 D (.dT (putK kvs k z))))
theorem dcT_core {X : Cx} {pins : List (Addr × Obj)} {s : Shared} {σ : L2.St} {H : Hp} {Q : VK} {kx vx tg iter : Expr} {scope : Scope} {own : List (Str × Nat)} {pos pos' : Pos} {wi : TI} {g : TG} {tk tv : TE} {use : Option (Value → Sem Unit)} {Qf : Value → Shared → Prop}
    (hu : X.A.units < cLine) (hc : X.calm = true) (hN : X.N.Nodup) (I : Inv X pins σ H s) (hi : PI X tg iter wi) (ok : BlkOk X.N X.env.scope scope own)
    (hg : ∀ (s : Shared) (H : Hp) (C : Addr) (cl : List (Str × Addr)) (fp : List Addr), PG (X.blk s H scope (compEnvC scope cl C X.env) fp) tg g)
    (hk : ∀ (s : Shared) (H : Hp) (C : Addr) (cl : List (Str × Addr)) (fp : List Addr), PE (X.blk s H scope (compEnvC scope cl C X.env) fp) kx tk)
    (he : ∀ (s : Shared) (H : Hp) (C : Addr) (cl : List (Str × Addr)) (fp : List Addr), PE (X.blk s H scope (compEnvC scope cl C X.env) fp) vx tv) (hs : ∀ x, foldedSetIterable iter X.env x = pure x)
    (h : tDcT wi g tk tv (own.map (·.2)) σ H Q)
    (hRR : ∀ D C s' m H', Inv X pins σ H' s' → Q (.ref D) H' → s'.heap.Ns C m → FpOk X pins H' C → compPost (model X.prog X.w) X.A X.xe use Qf (.ref D) C (.ok .next) s') :
    wpAny (model X.prog X.w) X.A (comprehension (.DictComp kx vx [⟨tg, iter, [], 0⟩] scope pos) scope X.env pos' newDict false (eval iter X.env) use) Qf X.xe s := by
  have caught : ∀ y ∈ scope.names, y.2 = .free → ∃ c, X.env.cells.lookup y.1 = some c := fun y hy e => I.ok.has _ ((ok.free y hy e).imp id id)
  refine wpAny_comprehension_free (use := use) rfl hs (closure_ok caught) ok.kind (fun y hy e => by rw [ok.uniq y hy, e])
    (thn (hi.run pins s σ H _ I h) fun xv s1 hx => thn hx fun itv s2 ⟨it, fp, tn, J, H2, ev, I2, T, st2, f2, q⟩ => ?_)
  subst ev
  refine wpAny_newObj_type (newEnv_comp ?_)
  generalize hD : s2.heap.objs.size = D
  obtain ⟨W, ⟨m0, w0⟩, turn⟩ := q D (I2.hok.fresh (Nat.le_of_eq hD))
  generalize hs3 : ({ s2 with heap := s2.heap.push { cls := .type "dict", data := .dict #[] } } : Shared) = s3
  have h3 : s3.heap = s2.heap.push { cls := .type "dict", data := .dict #[] } := by rw [← hs3]
  have grown : ∀ b o, s2.heap.get? b = some o → s3.heap.get? b = some o := fun b o e => by rw [h3]; exact Heap.get?_push_of_some _ e
  have I3 : Inv X pins σ (upd H2 D (.dT [])) s3 := by
    subst hs3
    refine I2.laid (t' := s2.toks) (fun b o e => Heap.get?_push_of_some _ e) (Nat.le_of_eq hD) ?_
    subst hD
    exact dt_empty s2.heap I2.big
  have f3 : ∀ b ∈ fp, FpOk X pins (upd H2 D (.dT [])) b ∧ b < s3.heap.objs.size := fun b hb => by
    obtain ⟨o, e, _⟩ := T.obj _ _ st2 b hb
    have lt := Heap.lt_size e
    refine ⟨⟨?_, (f2 b hb).2⟩, Heap.lt_size (grown b o e)⟩
    rw [upd_ne (by rw [← hD]; exact Nat.ne_of_lt lt)]
    exact (f2 b hb).1
  have I4 := block_start I3 ok hN f3
  generalize hcl : cellsFrom (s3.heap.objs.size + 1) scope.names (cloFrom X.env.cells scope.names []) = cl at I4
  have pg := hg s3 (upd H2 D (.dT [])) s3.heap.objs.size cl fp
  have pk := hk s3 (upd H2 D (.dT [])) s3.heap.objs.size cl fp
  have pe := he s3 (upd H2 D (.dT [])) s3.heap.objs.size cl fp
  show codeAny _ _ (.compStart (.DictComp kx vx [⟨tg, iter, [], 0⟩] scope pos) 0 (.ref it) (.ref D) (compEnvC scope cl s3.heap.objs.size X.env)) (compPost (model X.prog X.w) X.A X.xe use Qf (.ref D) s3.heap.objs.size) { s3 with heap := pushCells (s3.heap.push { cls := .type "dict", data := .dict #[] }) scope.names }
  generalize hce : compEnvC scope cl s3.heap.objs.size X.env = ce at I4 pg pk pe ⊢
  have cL : ce.locals = s3.heap.objs.size := by subst hce; rfl
  generalize hH3 : upd H2 D (.dT []) = H3 at I3 I4 pg pk pe w0 f3
  generalize hs4 : ({ s3 with heap := pushCells (s3.heap.push { cls := .type "dict", data := .dict #[] }) scope.names } : Shared) = s4 at I4 ⊢
  have st4 : tn 0 s4.heap := T.keep _ _ _ st2 fun b _ o e => by subst hs4; exact pushCells_keeps _ _ _ _ (Heap.get?_push_of_some _ (grown b o e))
  have fpX : ∀ {σ' : L2.St} {H' : Hp} {s' : Shared}, Inv (X.blk s3 H3 scope ce fp) [] σ' H' s' → (∀ b ∈ fp, H' b = none) → ∀ b ∈ fp, FpOk (X.blk s3 H3 scope ce fp) [] H' b := fun I' hn b hb =>
    ⟨hn b hb, (I'.ok.exf b hb).1, I'.ok.exfs b hb, .inl hb, fun x c e => (I'.ok.exf b hb).2 x c e, fun p hp => absurd (show p ∈ ([] : List (Addr × Obj)) ++ [] from hp) (by simp)⟩
  have loop : codeAny (model X.prog X.w) X.A (.compLoop (.DictComp kx vx [⟨tg, iter, [], 0⟩] scope pos) 0 (.ref it) (.ref D) ce) (compPost (model X.prog X.w) X.A X.xe use Qf (.ref D) s3.heap.objs.size) s4 := by
    refine compLoop_anyD (fun n s' => ∃ i H', Inv (X.blk s3 H3 scope ce fp) [] (wipe σ (own.map (·.2))) H' s' ∧ tn i s'.heap ∧ (∀ b ∈ fp, H' b = none) ∧ W i n H') (fun n s5 ⟨i, H5, I5, st5, n5, w5⟩ => ?_) m0 ⟨0, H3, I4, st4, fun b hb => (f3 b hb).1.1, w0⟩
    rcases turn i n H5 w5 with ⟨stop, qq⟩ | ⟨go, Nx, hNx, step⟩
    · refine thnF (T.done (X.blk s3 H3 scope ce fp) rfl rfl rfl hc i [] s5 _ H5 (fun _ _ => False) I5 (fpX I5 n5) st5 stop) fun r s6 ⟨hr, I6⟩ => ?_
      subst hr
      have I7 : Inv X pins σ H5 s6 := I3.call' (ch := fp) I6.os I6.base I6.hok I6.bare fun b hb => by
        obtain ⟨⟨_, a1, a2, a3, a4, a5⟩, _⟩ := f3 b hb
        exact ⟨a3, a1, a4, a5⟩
      have nC : H5 s3.heap.objs.size = none := by
        rw [← cL]
        exact I6.free
      obtain ⟨m, hn, _⟩ := I6.loc
      rw [show (X.blk s3 H3 scope ce fp).env.locals = s3.heap.objs.size from cL] at hn
      exact hRR D s3.heap.objs.size s6 m H5 I7 qq hn (I3.fpOk (b := s3.heap.objs.size) (Nat.le_refl _) nC)
    · refine thnF (T.item (X.blk s3 H3 scope ce fp) rfl rfl rfl hc i [] s5 _ H5 (fun _ _ => False) I5 (fpX I5 n5) st5 go) fun r s6 ⟨u, hr, h6⟩ => ?_
      subst hr
      refine thnF h6 fun _ s7 ⟨x, H7, I7, r7, y7, st7, n7⟩ => ?_
      have I8 := I7.pinned (fpX I7 n7) (T.obj _ _ st7)
      refine thnF (pg.run _ s7 _ H7 x u _ I8 r7 (step x H7 y7)) fun _ s9 ⟨σ9, H9, I9, hw9, q9⟩ => ?_
      refine wpAny_tests_nil ?_
      simp only [if_true]
      refine thnF (pk.run _ s9 σ9 H9 _ I9 q9) fun z s10 ⟨yk, H10, I10, r10, q10⟩ => ?_
      refine thnF (pe.run _ s10 σ9 H10 _ I10 q10) fun z2 s11 ⟨yv, H11, I11, r11, kvs, k, b, ek, hb11, hD11, hz11, nx⟩ => ?_
      subst ek
      cases r10
      refine set_T (X := X.blk s3 H3 scope ce fp) hu I11 hD11 hb11 hz11 r11 fun s12 I12 => ?_
      obtain ⟨m', hm, w'⟩ := hNx _ nx
      have pin : ∀ b ∈ fp, ∀ o, s7.heap.get? b = some o → s12.heap.get? b = some o ∧ (upd H11 D (.dT (putK kvs k yv))) b = none := fun b hb o e => by
        have z := I12.pin (b, o) (List.mem_append_right _ (List.mem_append_right _ (mem_pinsAt hb e)))
        exact ⟨z.1, z.2.1⟩
      refine ⟨m', hm, i + 1, _, (I12.unpinned (pins := [])).weak (by rw [← hw9, wipe_length]) (fun j v e => ?_), T.keep _ _ _ st7 fun b hb o e => (pin b hb o e).1, fun b hb => ?_, w'⟩
      · rw [← hw9] at e
        exact (wipe_some e).1
      · obtain ⟨o, e, _⟩ := T.obj _ _ st7 b hb
        exact (pin b hb o e).2
  exact codeAny_compStart_dict loop (T.self X.A 0 _ _ _ st4 loop)
theorem pe_dcT {X : Cx} {kx vx tg iter : Expr} {scope : Scope} {own : List (Str × Nat)} {pos : Pos} {wi : TI} {g : TG} {tk tv : TE} (hu : X.A.units < cLine) (hc : X.calm = true) (hN : X.N.Nodup) (hi : PI X tg iter wi) (ok : BlkOk X.N X.env.scope scope own)
    (hg : ∀ (s : Shared) (H : Hp) (C : Addr) (cl : List (Str × Addr)) (fp : List Addr), PG (X.blk s H scope (compEnvC scope cl C X.env) fp) tg g)
    (hk : ∀ (s : Shared) (H : Hp) (C : Addr) (cl : List (Str × Addr)) (fp : List Addr), PE (X.blk s H scope (compEnvC scope cl C X.env) fp) kx tk)
    (he : ∀ (s : Shared) (H : Hp) (C : Addr) (cl : List (Str × Addr)) (fp : List Addr), PE (X.blk s H scope (compEnvC scope cl C X.env) fp) vx tv) (hs : ∀ x, foldedSetIterable iter X.env x = pure x := by intro _; rfl) :
    PE X (.DictComp kx vx [⟨tg, iter, [], 0⟩] scope pos) (tDcT wi g tk tv (own.map (·.2))) := by
  refine ⟨fun pins s σ H Q I h => ?_⟩
  rw [arm_eval_DictComp]
  refine dcT_core hu hc hN I hi ok hg hk he hs h fun D C s' m H' I' q hn f => ⟨m, hn, fun h'' sb => ?_⟩
  obtain ⟨f0, f1, f2, f3, f4, f5⟩ := f
  exact ⟨.ref D, H', I'.turned (t' := s'.toks) (fun b o hb e => (sb.2 b hb).trans e) f0 f1 f3 f4 f5, rfl, q⟩
theorem sw_trueD {kx vx : Expr} {gs : List Comprehension} {scope : Scope} {pos py : Pos} {y : Str} {l : Nat} {env : Env} (hk : env.scope.kind = .function) (hy : env.scope.names.lookup y = some .local) (hl : (py.line == pos.line) = true)
    (ha : (scope.names.any fun (n, k) => n == y && (k == .local || k == .cell)) = false) : swapsWith (.DictComp kx vx gs scope pos) (some (.Name y py)) l env = pure true := by
  have ky : env.kindOf y = some .local := hy
  have hb : env.blockKind = .function := by unfold Env.blockKind; rw [hk]; rfl
  unfold swapsWith
  simp only [hb, ky, ha, Expr.pos, hl]
  rfl
/-- name = {..} on one line, the name a local -/
theorem ps_setDcT {X : Cx} {i : Nat} {y : Str} {py : Pos} {kx vx tg iter : Expr} {scope : Scope} {own : List (Str × Nat)} {pos spos : Pos} {wi : TI} {g : TG} {tk tv : TE} (hu : X.A.units < cLine) (hc : X.calm = true) (hN : X.N.Nodup) (hy : X.N[i]? = some y) (hyl : X.env.scope.names.lookup y = some .local)
    (hsw : swapsWith (.DictComp kx vx [⟨tg, iter, [], 0⟩] scope pos) (some (.Name y py)) spos.line X.env = pure true) (hi : PI X tg iter wi) (ok : BlkOk X.N X.env.scope scope own)
    (hg : ∀ (s : Shared) (H : Hp) (C : Addr) (cl : List (Str × Addr)) (fp : List Addr), PG (X.blk s H scope (compEnvC scope cl C X.env) fp) tg g)
    (hk : ∀ (s : Shared) (H : Hp) (C : Addr) (cl : List (Str × Addr)) (fp : List Addr), PE (X.blk s H scope (compEnvC scope cl C X.env) fp) kx tk)
    (he : ∀ (s : Shared) (H : Hp) (C : Addr) (cl : List (Str × Addr)) (fp : List Addr), PE (X.blk s H scope (compEnvC scope cl C X.env) fp) vx tv) (hs : ∀ x, foldedSetIterable iter X.env x = pure x := by intro _; rfl) :
    PS X (.Assign [.Name y py] (.DictComp kx vx [⟨tg, iter, [], 0⟩] scope pos) spos) (tAsg (tDcT wi g tk tv (own.map (·.2))) (gName i)) := by
  refine ⟨fun pins s σ H D I h => ?_⟩
  rw [exec_Assign_Name_used _ _ _ _ hsw]
  refine wpAny_bind (wpAny_standAt (wpAny_bind ?_))
  show wpAny _ X.A (do let _ ← comprehension (.DictComp kx vx [⟨tg, iter, [], 0⟩] scope pos) scope X.env (firstIterPos [⟨tg, iter, [], 0⟩] pos) newDict false (eval iter X.env) (some (assign (.Name y py) X.env))) _ _ s
  have h : tDcT wi g tk tv (own.map (·.2)) σ H (fun x H1 => gName i x σ H1 D.nx) := h
  refine wpAny_bind (thn (dcT_core (Qf := fun _ s' => SP X pins D .next s') hu hc hN I hi ok hg hk he hs h fun L C s' m H' I' q hn f => ?_) fun _ s' hq => wpAny_pure (wpAny_pure hq))
  show wpAny _ _ (assign (.Name y py) X.env (.ref L)) _ _ _
  refine wpAny_assign_Name (store_ok2 (v := V.ref L) I' hN hy (.inl hyl) rfl (fun s2 I2 ⟨a, sb, ha⟩ => ?_) (.inr hyl))
  obtain ⟨f0, f1, f2, f3, f4, f5⟩ := f
  have haC : C ≠ a := by
    rcases ha with z | z
    · rw [z]; exact f1
    · exact fun e => f4 y a z e.symm
  refine ⟨m, hn.sameBut sb haC, fun h3 sb3 => ?_⟩
  exact ⟨_, H', I2.turned (t' := s2.toks) (fun b o hb e => (sb3.2 b hb).trans e) f0 f1 f3 f4 f5, q⟩
/-- over a list that stays -/
theorem dcT_list {K : PySem.W.Frag} {a : Addr} {xs : List V} {g : TG} {tk tv : TE} {vs : List Nat} {σ : L2.St} {H1 : Hp} {D : Addr} {Qd : Hp → Prop} (Pv : Nat → Hp → Prop) (h0 : Pv 0 (upd H1 D (.dT []))) (hl : ∀ i H, Pv i H → SqL K H a xs)
    (hs : ∀ i x H, xs[i]? = some x → Pv i H → g x (wipe σ vs) H fun σ2 H3 => wipe σ2 vs = wipe σ vs ∧
      tk σ2 H3 fun y H4 => tv σ2 H4 fun z H5 => ∃ kvs k b, y = .ref b ∧ H5 b = some (.tup (k.map kV)) ∧ H5 D = some (.dT kvs) ∧ kvs.length < sizeLine ∧ Pv (i + 1) (upd H5 D (.dT (putK kvs k z)))) (hd : ∀ H, Pv xs.length H → Qd H) :
    ∃ W : Nat → Nat → Hp → Prop, (∃ m, W 0 m (upd H1 D (.dT []))) ∧ ∀ i m H2, W i m H2 →
      ((Itl K a).stop i H2 ∧ Qd H2) ∨ ((Itl K a).go i H2 ∧ ∃ Nx : Hp → Prop, (∀ H', Nx H' → ∃ m', m' < m ∧ W (i + 1) m' H') ∧ ∀ x H', (Itl K a).yld i H2 x H' → g x (wipe σ vs) H' fun σ2 H3 => wipe σ2 vs = wipe σ vs ∧
        tk σ2 H3 fun y H4 => tv σ2 H4 fun z H5 => ∃ kvs k b, y = .ref b ∧ H5 b = some (.tup (k.map kV)) ∧ H5 D = some (.dT kvs) ∧ kvs.length < sizeLine ∧ Nx (upd H5 D (.dT (putK kvs k z)))) := by
  refine ⟨fun i m H2 => i + m = xs.length ∧ Pv i H2, ⟨xs.length, by omega, h0⟩, fun i m H2 ⟨hm, p⟩ => ?_⟩
  have here := hl i H2 p
  by_cases lt : i < xs.length
  · refine .inr ⟨⟨xs, xs[i], here, List.getElem?_eq_getElem lt⟩, Pv (i + 1), fun H' p' => ⟨m - 1, by omega, by omega, p'⟩, fun x H' y => ?_⟩
    obtain ⟨rfl, y⟩ := y
    exact hs i x _ (y xs here) p
  · have e : i = xs.length := by omega
    subst e
    exact .inl ⟨⟨xs, here, Nat.le_refl _⟩, hd H2 p⟩
end Tau
set_option maxHeartbeats 2000000
namespace Tau
open PySem PySem.Spec PyProof.Rows L2
/-! sorted(x) of anything whose items are texts or tuples of texts, any number of them -/
section
variable {X : Cx} {pins : List (Addr × Obj)} {σ : L2.St} {H : Hp} {s : Shared}
theorem each_vals {δ : Type} : ∀ {bs : List (V × δ)} {us : List Value}, Vals (bs.map (·.1)) us → PySem.W.EachIs (fun u b => RelV b.1 u) us bs
  | [], _, r => by
    cases r
    exact .nil
  | b :: bs, _, r => by
    rw [List.map_cons] at r
    cases r with
    | cons a t => exact .cons a (each_vals t)
theorem vals_each {δ : Type} {bs : List (V × δ)} {us : List Value} (h : PySem.W.EachIs (fun u b => RelV b.1 u) us bs) : Vals (bs.map (·.1)) us := by
  induction h with
  | nil => exact .nil
  | cons a _ ih => exact .cons a ih
theorem each_mem {α β : Type} {R S : α → β → Prop} : ∀ {as : List α} {bs : List β}, PySem.W.EachIs R as bs → (∀ a b, b ∈ bs → R a b → S a b) → PySem.W.EachIs S as bs
  | _, _, .nil, _ => .nil
  | _, _, .cons h t, f => .cons (f _ _ (List.mem_cons_self ..) h) (each_mem t fun a b hb r => f a b (List.mem_cons_of_mem _ hb) r)
theorem vals_of_get : ∀ {xs : List V} {us : List Value}, xs.length = us.length → (∀ (i : Nat) (x : V), xs[i]? = some x → ∃ u, us[i]? = some u ∧ RelV x u) → Vals xs us
  | [], [], _, _ => .nil
  | [], _ :: _, e, _ => by cases e
  | _ :: _, [], e, _ => by cases e
  | x :: xs, u :: us, e, h => by
    obtain ⟨u', e1, r⟩ := h 0 x rfl
    have e2 : u = u' := Option.some.inj e1
    subst e2
    exact .cons r (vals_of_get (Nat.succ.inj e) fun i y ey => h (i + 1) y ey)
theorem sorted_core {δ : Type} {enc : δ → PyData} {r : Addr} {bs : List (V × δ)} {Q : VK} (I : Inv X pins σ H s) (hu : X.A.units + 64 < cLine) (hL : bs.length ≤ sizeLine)
    (hcoll : ∀ R : List Value → Shared → Prop, (∀ us s', Inv X pins σ H s' → Vals (bs.map (·.1)) us → R us s') → wpAny (model X.prog X.w) X.A.in1 (collect (.ref r)) R X.xe s)
    (hread : ∀ us s', Inv X pins σ H s' → Vals (bs.map (·.1)) us → PySem.W.EachIs (fun u (b : V × δ) => Reads s'.heap u (enc b.2) []) us bs)
    (hal : PySem.W.AllAlike (bs.map fun b => enc b.2)) (hk : PySem.W.Sortable (bs.map fun b => enc b.2)) (hdep : ∀ b ∈ bs, (enc b.2).depth ≤ 8)
    (h : ∀ (ys : List (V × δ)) (p : Addr), ys.Perm bs → H p = none → Q (.ref p) (upd H p (.lst (ys.map (·.1))))) :
    wpAny (model X.prog X.w) X.A (call (.builtin "sorted") [.ref r]) (EP X pins σ Q) X.xe s := by
  refine Calls.call_function_entry kind_sorted plain_sorted entry_sorted (args_sorted1 _) ?_
  unfold Builtin.«sorted»
  refine wpAny_bind (m := checkCount "sorted" 1 1 _) (wpAny_pure ?_)
  refine wpAny_bind (hcoll _ fun us s1 I1 rv => ?_)
  have hlen : us.length = bs.length := by
    have e := rv.length
    rw [List.length_map] at e
    exact e.symm
  refine wpAny_bind (wpAny_newList ?_ (by omega))
  have at_ : (s1.heap.push (seqObj "list" us.toArray 0)).get? s1.heap.objs.size = some (seqObj "list" us.toArray 0) := Heap.get?_push_size _ rfl
  show wpAny _ _ _ _ _ { s1 with heap := s1.heap.push (seqObj "list" us.toArray 0) }
  have er := (hread us s1 I1 rv).mono (R' := fun u (b : V × δ) => ∃ as, Reads (s1.heap.push (seqObj "list" us.toArray 0)) u (enc b.2) as ∧ s1.heap.objs.size ∉ as) fun u b q =>
    ⟨[], PyProof.Rows.Reads.keeps (fun _ _ e => Heap.get?_push_of_some _ e) q, List.not_mem_nil⟩
  refine wpAny_bind (wpAny_holding (PySem.W.list_sort_data (enc := fun b : V × δ => enc b.2) (R := fun u (b : V × δ) => RelV b.1 u) (s := { s1 with heap := s1.heap.push (seqObj "list" us.toArray 0) }) at_ (each_vals rv) er hal hk hL (fun b hb => ?_) fun out lo eo => ?_))
  · have e := hdep b hb
    show X.A.units + 1 + 1 + (enc b.2).depth < cLine
    omega
  · have pm : (bs.mergeSort (PySem.W.dataLe false fun b : V × δ => enc b.2)).Perm bs := List.mergeSort_perm _ _
    obtain ⟨ep, put⟩ := PyProof.Rows.sortedHeap_at (vs := us) (out := out.toArray) at_
    refine wpAny_pure ⟨_, rfl, .ref s1.heap.objs.size, upd H s1.heap.objs.size (.lst ((bs.mergeSort (PySem.W.dataLe false fun b : V × δ => enc b.2)).map (·.1))), ?_, rfl, h _ _ pm (I1.hok.fresh (Nat.le_refl _))⟩
    refine I1.laid (t' := s1.toks) (fun b u e => ?_) (Nat.le_refl _) ⟨?_, out, ep, vals_each eo, put⟩
    · have lt := Heap.lt_size e
      rw [PyProof.Rows.sortedHeap_old (Nat.ne_of_lt lt) (by rw [size_push']; exact Nat.lt_succ_of_lt lt)]
      exact Heap.get?_push_of_some _ e
    · rw [List.length_map, pm.length_eq]
      exact hL
theorem reads_words : ∀ {xs : List Str} {us : List Value} {h : Heap}, Vals (xs.map V.str) us → ReadsAll h us (xs.map PyData.str) []
  | [], _, _, r => by
    cases r
    exact .nil
  | x :: xs, _, h, r => by
    rw [List.map_cons] at r
    cases r with
    | cons a t =>
      obtain ⟨tk, rfl⟩ := a
      exact .cons (as := []) (bs := []) (.str x tk) (reads_words t)
theorem reads_tuple {a : Addr} {xs : List Str} (I : Inv X pins σ H s) (h : SqT X.K H a (xs.map V.str)) : Reads s.heap (.ref a) (.tuple (xs.map PyData.str)) [] := by
  obtain ⟨its, rv, ⟨o, e1, e2, n, e3⟩, _⟩ := I.tuple h
  exact .tuple e1 e2 e3 (by rw [List.toList_toArray]; exact reads_words rv)
theorem words_alike : ∀ xs ys : List Str, PySem.W.alikeAll (xs.map PyData.str) (ys.map PyData.str) = true
  | [], _ => by simp [PySem.W.alikeAll]
  | _ :: _, [] => by simp [PySem.W.alikeAll]
  | x :: xs, y :: ys => by
    rw [List.map_cons, List.map_cons, PySem.W.alikeAll, words_alike xs ys]
    simp [PySem.W.alike]
theorem words_depth : ∀ xs : List Str, PyData.depthAll (xs.map PyData.str) = 0
  | [] => by simp [PyData.depthAll]
  | x :: xs => by
    rw [List.map_cons, PyData.depthAll, words_depth xs]
    simp [PyData.depth]
theorem tuple_depth (xs : List Str) : (PyData.tuple (xs.map PyData.str)).depth ≤ 8 := by
  rw [PyData.depth, words_depth xs]
  omega
theorem collect_seq {a : Addr} {vs : List V} (I : Inv X pins σ H s) (h : SqL X.K H a vs ∨ SqT X.K H a vs) (R : List Value → Shared → Prop) (q : ∀ us s', Inv X pins σ H s' → Vals vs us → R us s') :
    wpAny (model X.prog X.w) X.A.in1 (collect (.ref a)) R X.xe s := by
  rcases h with h | h
  · obtain ⟨its, rv, ⟨o, n, e1, e2, e3, e4⟩, hz⟩ := I.list h
    refine wpAny_collect_seq a (.inl rfl) e1 e2 e4 (fun h' k => ?_) (by rw [List.size_toArray, ← rv.length]; exact hz)
    rw [List.toList_toArray]
    exact q _ _ (I.kept (t' := s.toks) k) rv
  · obtain ⟨its, rv, ⟨o, e1, e2, n, e3⟩, hz⟩ := I.tuple h
    refine wpAny_collect_seq a (.inr rfl) e1 e2 e3 (fun h' k => ?_) (by rw [List.size_toArray, ← rv.length]; exact hz)
    rw [List.toList_toArray]
    exact q _ _ (I.kept (t' := s.toks) k) rv
end
section
variable {X : Cx}
/-- sorted(list or tuple of texts) -/
def rSrtS (K : PySem.W.Frag) : List V → Hp → VK → Prop := fun xs H Q => ∃ (a : Addr) (ss : List Str), xs = [.ref a] ∧ (SqL K H a (ss.map V.str) ∨ SqT K H a (ss.map V.str)) ∧ ss.length ≤ 1000 ∧
  ∀ (ys : List Str) (p : Addr), ys.Perm ss → H p = none → Q (.ref p) (upd H p (.lst (ys.map V.str)))
theorem cr_srtS (hu : X.A.units + 64 < cLine) : CallR X (.builtin "sorted") (rSrtS X.K) := by
  intro pins s σ H xs us Q I r h
  obtain ⟨a, ss, rfl, hs, hz, q⟩ := h
  obtain ⟨u, rfl, ru⟩ := vals1 r
  cases ru
  have e1 : ((ss.map fun x => (V.str x, x)).map (·.1)) = ss.map V.str := by
    rw [List.map_map]
    rfl
  refine sorted_core (δ := Str) (enc := PyData.str) (bs := ss.map fun x => (V.str x, x)) I hu (by rw [List.length_map]; exact Nat.le_trans hz (by decide)) (fun R k => ?_) (fun us s' I' rv => ?_) (fun d hd d' hd' => ?_) (.inr fun d hd => ?_) (fun b hb => ?_) fun ys p pm hp => ?_
  · rw [e1] at k
    exact collect_seq I hs R k
  · refine each_mem (each_vals rv) fun u b hb ru => ?_
    obtain ⟨x, _, rfl⟩ := List.mem_map.mp hb
    obtain ⟨t, rfl⟩ := ru
    exact .str x t
  · obtain ⟨b, _, rfl⟩ := List.mem_map.mp hd
    obtain ⟨b', _, rfl⟩ := List.mem_map.mp hd'
    rfl
  · obtain ⟨b, _, rfl⟩ := List.mem_map.mp hd
    exact ⟨(fun z => nomatch z), (fun _ z => nomatch z)⟩
  · show 0 ≤ 8
    omega
  · have e2 : ys.map (·.1) = (ys.map (·.2)).map V.str := by
      rw [List.map_map]
      refine List.map_congr_left fun y hy => ?_
      obtain ⟨x, _, rfl⟩ := List.mem_map.mp (pm.mem_iff.mp hy)
      rfl
    rw [e2]
    refine q _ p ?_ hp
    have e3 := pm.map (·.2)
    rw [List.map_map, show ((fun x : V × Str => x.2) ∘ fun x : Str => (V.str x, x)) = id from rfl, List.map_id] at e3
    exact e3
/-- a tuple of texts -/
def TupS (_ : PySem.W.Frag) (H : Hp) (v : V) (xs : List Str) : Prop := ∃ a, v = .ref a ∧ H a = some (.tup (xs.map V.str))
theorem TupS.sq {K : PySem.W.Frag} {H : Hp} {v : V} {xs : List Str} (h : TupS K H v xs) : ∃ a, v = .ref a ∧ SqT K H a (xs.map V.str) := by
  obtain ⟨a, e, h⟩ := h
  exact ⟨a, e, .inl (.inl h)⟩
/-- sorted(list of tuples of texts) -/
def rSrtW (K : PySem.W.Frag) : List V → Hp → VK → Prop := fun xs H Q => ∃ (a : Addr) (bs : List (V × List Str)), xs = [.ref a] ∧ SqL K H a (bs.map (·.1)) ∧ bs.length ≤ 100000 ∧ (∀ b ∈ bs, TupS K H b.1 b.2 ∧ b.2 ≠ []) ∧
  ∀ (ys : List (V × List Str)) (p : Addr), ys.Perm bs → H p = none → Q (.ref p) (upd H p (.lst (ys.map (·.1))))
theorem tuples_alike (bs : List (V × List Str)) : PySem.W.AllAlike (bs.map fun b => PyData.tuple (b.2.map PyData.str)) := by
  intro d hd d' hd'
  obtain ⟨b, _, rfl⟩ := List.mem_map.mp hd
  obtain ⟨b', _, rfl⟩ := List.mem_map.mp hd'
  show PySem.W.alikeAll _ _ = true
  exact words_alike _ _
theorem tuples_sortable {bs : List (V × List Str)} (h : ∀ b ∈ bs, b.2 ≠ []) : PySem.W.Sortable (bs.map fun b => PyData.tuple (b.2.map PyData.str)) := .inl fun d hd => by
  obtain ⟨b, hb, rfl⟩ := List.mem_map.mp hd
  cases e : b.2 with
  | nil => exact absurd e (h b hb)
  | cons x r => exact ⟨_, _, rfl⟩
theorem reads_each {pins : List (Addr × Obj)} {σ : L2.St} {H : Hp} {s : Shared} {bs : List (V × List Str)} {us : List Value} (I : Inv X pins σ H s) (rv : Vals (bs.map (·.1)) us) (h : ∀ b ∈ bs, TupS X.K H b.1 b.2) :
    PySem.W.EachIs (fun u (b : V × List Str) => Reads s.heap u (PyData.tuple (b.2.map PyData.str)) []) us bs := by
  refine each_mem (each_vals rv) fun u b hb ru => ?_
  obtain ⟨q, e, hq⟩ := h b hb
  rw [e] at ru
  cases ru
  exact reads_tuple I (.inl (.inl hq))
theorem cr_srtW (hu : X.A.units + 64 < cLine) : CallR X (.builtin "sorted") (rSrtW X.K) := by
  intro pins s σ H xs us Q I r h
  obtain ⟨a, bs, rfl, hs, hz, hb, q⟩ := h
  obtain ⟨u, rfl, ru⟩ := vals1 r
  cases ru
  exact sorted_core (δ := List Str) (enc := fun xs => PyData.tuple (xs.map PyData.str)) I hu (Nat.le_trans hz (by decide)) (fun R k => collect_seq I (.inl hs) R k) (fun us s' I' rv => reads_each I' rv fun b m => (hb b m).1)
    (tuples_alike bs) (tuples_sortable fun b m => (hb b m).2) (fun b _ => tuple_depth b.2) q
/-- sorted(dict whose keys are tuples of texts) -/
def rSrtD : List V → Hp → VK → Prop := fun xs H Q => ∃ (a : Addr) (kvs : List (List Key × V)) (ks : List (List Str)), xs = [.ref a] ∧ H a = some (.dT kvs) ∧ kvs.map (·.1) = ks.map (fun k => k.map Sum.inr) ∧ (∀ k ∈ ks, k ≠ []) ∧
  ∀ (ys : List (V × List Str)) (p : Addr), (ys.map (·.2)).Perm ks → (∀ y ∈ ys, ∃ q, y.1 = .ref q ∧ H q = some (.tup (y.2.map V.str))) → H p = none → Q (.ref p) (upd H p (.lst (ys.map (·.1))))
theorem dict_rows {pins : List (Addr × Obj)} {σ : L2.St} {H : Hp} {s : Shared} {a : Addr} {kvs : List (List Key × V)} (I : Inv X pins σ H s) (h : H a = some (.dT kvs)) :
    (a == sysModules) = false ∧ kvs.length ≤ sizeLine ∧ ∃ (es : Array DictEntry) (ep : Nat), s.heap.DictRaw a es ep ∧ es.size = kvs.length ∧
      ∀ (i : Nat) (hi : i < es.size) (k : List Key) (v : V), kvs[i]? = some (k, v) → ∃ q : Addr, es[i].key = .ref q ∧ H q = some (.tup (k.map kV)) := by
  obtain ⟨z, nosys, xs, rel, ob, es, ep, at_, exact_, data_, list_, _⟩ := I.hok a _ h
  have hsz : es.size = kvs.length := by
    have e1 := congrArg List.length list_
    rw [List.length_map, Array.length_toList] at e1
    rw [e1]
    exact (Paired.length rel).symm
  refine ⟨nosys, z, es, ep, ⟨_, at_, exact_, data_⟩, hsz, fun i hi k v e => ?_⟩
  obtain ⟨y, hy, ek, eq, ev⟩ := paired_get rel e
  have e2 : es[i]? = some (entryOfKey (tupleKind (mixKind X.prog X.w)) y) := by
    rw [entry_at list_ i, hy]
    rfl
  rw [Array.getElem?_eq_getElem hi] at e2
  refine ⟨y.2.1, by rw [Option.some.inj e2]; rfl, eq⟩
theorem cr_srtD (hc : X.calm = true) (hu : X.A.units + 64 < cLine) : CallR X (.builtin "sorted") rSrtD := by
  intro pins s σ H xs us Q I r h
  obtain ⟨a, kvs, ks, rfl, hd, hks, hne, q⟩ := h
  obtain ⟨u, rfl, ru⟩ := vals1 r
  cases ru
  obtain ⟨nosys, hz, es, ep, raw, hsz, row⟩ := dict_rows I hd
  have hlen : ks.length = kvs.length := by
    have e := congrArg List.length hks
    rw [List.length_map, List.length_map] at e
    exact e.symm
  have kat : ∀ (i : Nat) (k : List Str), ks[i]? = some k → ∃ v, kvs[i]? = some (k.map Sum.inr, v) := fun i k e => by
    have e2 : (kvs.map (·.1))[i]? = (ks.map fun k => k.map Sum.inr)[i]? := by rw [hks]
    rw [List.getElem?_map, List.getElem?_map, e] at e2
    cases e3 : kvs[i]? with
    | none =>
      rw [e3] at e2
      cases e2
    | some p =>
      rw [e3] at e2
      have e4 : p.1 = k.map Sum.inr := Option.some.inj e2
      exact ⟨p.2, by rw [← e4]⟩
  have vw : ∀ k : List Str, (k.map (Sum.inr : Str → Key)).map kV = k.map V.str := fun k => by
    rw [List.map_map]
    rfl
  -- where each key stands
  have adr : ∀ i : Fin ks.length, ∃ q0 : Addr, (∃ hi : i.1 < es.size, es[i.1].key = .ref q0) ∧ H q0 = some (.tup (ks[i].map V.str)) := fun i => by
    obtain ⟨v, e⟩ := kat i.1 ks[i] (List.getElem?_eq_getElem i.2)
    have hi : i.1 < es.size := by have := i.2; omega
    obtain ⟨q0, e1, e2⟩ := row i.1 hi _ v e
    exact ⟨q0, ⟨hi, e1⟩, by rw [e2, vw]⟩
  let f : Fin ks.length → V × List Str := fun i => (.ref (adr i).choose, ks[i])
  let bs : List (V × List Str) := (List.finRange ks.length).map f
  have fb : ∀ b ∈ bs, ∃ q0, b.1 = .ref q0 ∧ H q0 = some (.tup (b.2.map V.str)) := fun b hb => by
    obtain ⟨i, _, rfl⟩ := List.mem_map.mp hb
    exact ⟨_, rfl, (adr i).choose_spec.2⟩
  have b2 : bs.map (·.2) = ks := by
    show ((List.finRange ks.length).map f).map (·.2) = ks
    rw [List.map_map]
    refine List.ext_getElem (by simp) fun i h1 h2 => ?_
    rw [List.getElem_map, List.getElem_finRange]
    rfl
  have bl : bs.length = ks.length := by
    show ((List.finRange ks.length).map f).length = _
    rw [List.length_map, List.length_finRange]
  have bv : ∀ acc : Array Value, ItemsOf (fun i v => ∃ hi : i < es.size, v = es[i].key) acc es.size → Vals (bs.map (·.1)) acc.toList := fun acc hacc => by
    have e0 : acc.toList.length = es.size := by
      rw [Array.length_toList]
      exact hacc.1
    refine vals_of_get (by rw [List.length_map, bl]; omega) fun i x e => ?_
    rw [List.getElem?_map] at e
    obtain ⟨b, eb, rfl⟩ := Option.map_eq_some_iff.mp e
    have eb2 : ((List.finRange ks.length).map f)[i]? = some b := eb
    rw [List.getElem?_map] at eb2
    obtain ⟨j, ej, rfl⟩ := Option.map_eq_some_iff.mp eb2
    have hj : j.1 = i := by
      obtain ⟨hl, ej2⟩ := List.getElem?_eq_some_iff.mp ej
      rw [← ej2, List.getElem_finRange]
      rfl
    subst hj
    obtain ⟨hi, ek⟩ := (adr j).choose_spec.1
    have hs : j.1 < acc.size := by rw [hacc.1]; exact hi
    obtain ⟨hi2, e3⟩ := hacc.2 j.1 acc[j.1] (Array.getElem?_eq_getElem hs)
    refine ⟨acc[j.1], by rw [Array.getElem?_toList]; exact Array.getElem?_eq_getElem hs, ?_⟩
    show acc[j.1] = Value.ref (adr j).choose
    rw [e3, ek]
  refine sorted_core (δ := List Str) (enc := fun xs => PyData.tuple (xs.map PyData.str)) (bs := bs) I hu (by rw [bl, hlen]; exact hz) (fun R k => ?_) (fun us s' I' rv => reads_each I' rv fun b m => ?_)
    (tuples_alike bs) (tuples_sortable fun b m => hne _ (by rw [← b2]; exact List.mem_map.mpr ⟨b, m, rfl⟩)) (fun b _ => tuple_depth b.2) fun ys p pm hp => q ys p ?_ (fun y m => fb y (pm.mem_iff.mp m)) hp
  · refine PySem.W.kdu_collect (A := X.A.in1) (KdlSrc.rawDict (es := es) (ep := ep) nosys) (I.ok.hd hc) raw (by rw [hsz]; exact hz) fun h' tk acc keep hacc => ?_
    exact k _ _ (I.kept (t' := tk) keep) (bv acc hacc)
  · obtain ⟨q0, e1, e2⟩ := fb b m
    exact ⟨q0, e1, e2⟩
  · have e := pm.map (·.2)
    rw [b2] at e
    exact e
end
end Tau
set_option maxHeartbeats 2000000
namespace Tau
open PySem PySem.Spec PyProof.Rows L2
/-! the order of tuples of texts; min of a list of such -/
def wlt (xs ys : List Str) : Bool := PySem.W.dataLt (.tuple (xs.map PyData.str)) (.tuple (ys.map PyData.str))
theorem toks_inj : ∀ xs ys : List Str, PySem.W.keyToksAll (xs.map PyData.str) = PySem.W.keyToksAll (ys.map PyData.str) → xs = ys
  | [], [], _ => rfl
  | [], y :: ys, h => by
    rw [List.map_nil, List.map_cons, PySem.W.keyToksAll, PySem.W.keyToksAll] at h
    have e := (List.cons.inj h).1
    cases e
  | x :: xs, [], h => by
    rw [List.map_nil, List.map_cons, PySem.W.keyToksAll, PySem.W.keyToksAll] at h
    have e := (List.cons.inj h).1
    cases e
  | x :: xs, y :: ys, h => by
    rw [List.map_cons, List.map_cons, PySem.W.keyToksAll, PySem.W.keyToksAll, PySem.W.keyToks, PySem.W.keyToks] at h
    have e := (List.cons.inj h).2
    obtain ⟨e1, e2⟩ := List.cons.inj (show (Sum.inr x.cps.toList : Int ⊕ List Nat) :: PySem.W.keyToksAll (xs.map PyData.str) = Sum.inr y.cps.toList :: PySem.W.keyToksAll (ys.map PyData.str) from e)
    rw [PySem.W.str_of_cps (Sum.inr.inj e1), toks_inj xs ys e2]
theorem wlt_total {a b : List Str} (h1 : wlt a b = false) (h2 : wlt b a = false) : a = b := by
  unfold wlt at h1 h2
  rw [PySem.W.dataLt_tuple] at h1 h2
  exact toks_inj a b (PyProof.Rows.lex_total _ _ h1 h2)
theorem wlt_trans {a b c : List Str} (h1 : wlt a b = true) (h2 : wlt b c = true) : wlt a c = true := by
  unfold wlt at h1 h2 ⊢
  rw [PySem.W.dataLt_tuple] at h1 h2 ⊢
  exact PyProof.Rows.lex_trans _ _ _ h1 h2
theorem wlt_irrefl (a : List Str) : wlt a a = false := by
  unfold wlt
  rw [PySem.W.dataLt_tuple]
  exact PyProof.Rows.lex_irrefl _
def minW (x : List Str) (xs : List (List Str)) : List Str := xs.foldl (fun a y => if wlt y a = true then y else a) x
theorem minW_data (x : List Str) : ∀ xs : List (List Str), PySem.W.minD (.tuple (x.map PyData.str)) (xs.map fun y => PyData.tuple (y.map PyData.str)) = .tuple ((minW x xs).map PyData.str) := by
  intro xs
  induction xs generalizing x with
  | nil => rfl
  | cons y ys ih =>
    show PySem.W.minD (if PySem.W.dataLt (.tuple (y.map PyData.str)) (.tuple (x.map PyData.str)) = true then (.tuple (y.map PyData.str)) else (.tuple (x.map PyData.str))) (ys.map fun y => PyData.tuple (y.map PyData.str)) = .tuple ((minW (if wlt y x = true then y else x) ys).map PyData.str)
    by_cases h : wlt y x = true
    · rw [if_pos h, if_pos (show PySem.W.dataLt (.tuple (y.map PyData.str)) (.tuple (x.map PyData.str)) = true from h)]
      exact ih y
    · rw [if_neg h, if_neg (show ¬ PySem.W.dataLt (.tuple (y.map PyData.str)) (.tuple (x.map PyData.str)) = true from h)]
      exact ih x
theorem minW_least : ∀ (xs : List (List Str)) (x : List Str), minW x xs ∈ x :: xs ∧ ∀ y ∈ x :: xs, wlt y (minW x xs) = false
  | [], x => ⟨List.mem_singleton.mpr rfl, fun y hy => by rw [List.mem_singleton.mp hy]; exact wlt_irrefl x⟩
  | y :: ys, x => by
    show minW (if wlt y x = true then y else x) ys ∈ x :: y :: ys ∧ ∀ z ∈ x :: y :: ys, wlt z (minW (if wlt y x = true then y else x) ys) = false
    by_cases h : wlt y x = true
    · rw [if_pos h]
      obtain ⟨m, l⟩ := minW_least ys y
      refine ⟨List.mem_cons_of_mem _ m, fun z hz => ?_⟩
      rcases List.mem_cons.mp hz with rfl | hz
      · cases e : wlt z (minW y ys) with
        | false => rfl
        | true =>
          have := wlt_trans h e
          rw [l y (List.mem_cons_self ..)] at this
          cases this
      · exact l z hz
    · rw [if_neg h]
      obtain ⟨m, l⟩ := minW_least ys x
      refine ⟨?_, fun z hz => ?_⟩
      · rcases List.mem_cons.mp m with e | m
        · rw [e]
          exact List.mem_cons_self ..
        · exact List.mem_cons_of_mem _ (List.mem_cons_of_mem _ m)
      · rcases List.mem_cons.mp hz with rfl | hz
        · exact l z (List.mem_cons_self ..)
        · rcases List.mem_cons.mp hz with rfl | hz
          · cases e : wlt z (minW x ys) with
            | false => rfl
            | true =>
              have nyx : wlt z x = false := by
                cases q : wlt z x with
                | false => rfl
                | true => exact absurd q h
              -- the least is not above x, and z is below it
              cases e2 : wlt x z with
              | true =>
                have := wlt_trans e2 e
                rw [l x (List.mem_cons_self ..)] at this
                cases this
              | false =>
                have := wlt_total nyx e2
                subst this
                rw [l z (List.mem_cons_self ..)] at e
                cases e
          · exact l z (List.mem_cons_of_mem _ hz)
theorem minW_of {m : List Str} {x : List Str} {xs : List (List Str)} (hm : m ∈ x :: xs) (hl : ∀ y ∈ x :: xs, wlt y m = false) : minW x xs = m := by
  obtain ⟨a, b⟩ := minW_least xs x
  exact wlt_total (hl _ a) (b m hm)
section
variable {X : Cx}
def rMinW (K : PySem.W.Frag) : List V → Hp → VK → Prop := fun vs H Q => ∃ (a : Addr) (b : V × List Str) (bs : List (V × List Str)), vs = [.ref a] ∧ SqL K H a ((b :: bs).map (·.1)) ∧ (∀ c ∈ b :: bs, TupS K H c.1 c.2) ∧
  ∀ v, TupS K H v (minW b.2 (bs.map (·.2))) → Q v H
theorem readsAll_of {pins : List (Addr × Obj)} {σ : L2.St} {H : Hp} {s : Shared} (I : Inv X pins σ H s) : ∀ {bs : List (V × List Str)} {us : List Value}, Vals (bs.map (·.1)) us → (∀ b ∈ bs, TupS X.K H b.1 b.2) → ReadsAll s.heap us (bs.map fun b => PyData.tuple (b.2.map PyData.str)) []
  | [], _, r, _ => by
    cases r
    exact .nil
  | b :: bs, _, r, h => by
    rw [List.map_cons] at r
    cases r with
    | cons a t =>
      obtain ⟨q, e, hq⟩ := h b (List.mem_cons_self ..)
      rw [e] at a
      cases a
      exact .cons (as := []) (bs := []) (reads_tuple I (.inl (.inl hq))) (readsAll_of I t fun c m => h c (List.mem_cons_of_mem _ m))
theorem tuples_depthAll : ∀ bs : List (V × List Str), PyData.depthAll (bs.map fun b => PyData.tuple (b.2.map PyData.str)) ≤ 8
  | [] => by simp [PyData.depthAll]
  | b :: bs => by
    rw [List.map_cons, PyData.depthAll]
    have h1 := tuples_depthAll bs
    have h2 := tuple_depth b.2
    omega
theorem cr_minW (hc : X.calm = true) (hu : X.A.units + 64 < cLine) : CallR X (.builtin "min") (rMinW X.K) := by
  intro pins s σ H vs us Q I r h
  obtain ⟨a, b, bs, rfl, hs, hb, q⟩ := h
  obtain ⟨u, rfl, ru⟩ := vals1 r
  cases ru
  obtain ⟨its, rv, hl, hz⟩ := I.list hs
  have rd := readsAll_of I rv hb
  have dp := tuples_depthAll (b :: bs)
  refine PySem.W.min_list_data (I.ok.hd hc) hl.isList (by rw [List.toList_toArray]; exact rd) ⟨tuples_alike (b :: bs), fun d hd => by obtain ⟨c, _, rfl⟩ := List.mem_map.mp (show d ∈ (b :: bs).map (fun b => PyData.tuple (b.2.map PyData.str)) from hd); intro z; cases z⟩ (by show X.A.units + 1 + PyData.depthAll ((b :: bs).map fun b => PyData.tuple (b.2.map PyData.str)) < cLine; omega) fun i v h' tk as hi hr hk => ?_
  have hi2 : its[i]? = some v := by rw [← List.getElem?_toArray]; exact hi
  have hlt : i < (b :: bs).length := by
    have e := rv.length
    rw [List.length_map] at e
    rw [e]
    exact (List.getElem?_eq_some_iff.mp hi2).1
  obtain ⟨u, eu, ru⟩ := rv.get (i := i) (x := ((b :: bs)[i]).1) (by rw [List.getElem?_map, List.getElem?_eq_getElem hlt]; rfl)
  rw [hi2] at eu
  cases eu
  obtain ⟨p, e1, e2⟩ := hb _ (List.getElem_mem hlt)
  rw [e1] at ru
  cases ru
  have r2 := PyProof.Rows.Reads.keeps hk (reads_tuple I (.inl (.inl e2)))
  have same := (PySem.Reads.unique hr _ _ r2).1
  refine ⟨.ref p, H, I.kept (t' := tk) hk, rfl, q _ ⟨p, rfl, ?_⟩⟩
  have e3 : minW b.2 (bs.map (·.2)) = ((b :: bs)[i]).2 := by
    have e4 := minW_data b.2 (bs.map (·.2))
    rw [List.map_map] at e4
    have e5 : PyData.tuple ((minW b.2 (bs.map (·.2))).map PyData.str) = PyData.tuple ((((b :: bs)[i]).2).map PyData.str) := e4.symm.trans same
    have e6 : (minW b.2 (bs.map (·.2))).map PyData.str = (((b :: bs)[i]).2).map PyData.str := PyData.tuple.inj e5
    exact (List.map_inj_right (fun x y e => PyData.str.inj e)).mp e6
  rw [e3]
  exact e2
end
end Tau
set_option maxHeartbeats 2000000
namespace Tau
open PySem PySem.Spec PyProof.Rows L2
/-! t[::-1] of a tuple -/
theorem rev_places (n : Nat) : Builtin.Slice.slicePlaces ((n : Int) - 1) (-1) (-1) = n := by
  unfold Builtin.Slice.slicePlaces
  have h1 : ¬ ((-1 : Int) > 0) := by decide
  simp only [h1, if_false]
  split
  · rw [show (- -1 : Int) = 1 by decide, Int.ediv_one]
    omega
  · omega
theorem pick_congr {α β : Type} {f g : α → Option β} : ∀ l : List α, (∀ x ∈ l, f x = g x) → l.filterMap f = l.filterMap g
  | [], _ => rfl
  | x :: l, h => by
    rw [List.filterMap_cons, List.filterMap_cons, h x (List.mem_cons_self ..), pick_congr l fun y hy => h y (List.mem_cons_of_mem _ hy)]
theorem rev_pick (xs : Array Value) : ((List.range xs.size).filterMap fun (k : Nat) => xs[((xs.size : Int) - 1 + (k : Int) * -1).toNat]?).toArray = xs.toList.reverse.toArray := by
  have e : (List.range xs.size).filterMap (fun (k : Nat) => xs[((xs.size : Int) - 1 + (k : Int) * -1).toNat]?) = xs.toList.reverse := by
    refine List.ext_getElem? fun i => ?_
    have e2 : (List.range xs.size).filterMap (fun (k : Nat) => xs[((xs.size : Int) - 1 + (k : Int) * -1).toNat]?) = ((List.range xs.size).map fun k => xs.size - 1 - k).filterMap (fun j => xs[j]?) := by
      rw [List.filterMap_map]
      refine pick_congr _ fun k hk => ?_
      have := List.mem_range.mp hk
      rw [show ((xs.size : Int) - 1 + (k : Int) * -1).toNat = xs.size - 1 - k by omega]
      rfl
    rw [e2, PySem.W.krv_range, List.filterMap_reverse, PySem.W.krv_all]
  rw [e]
theorem item_rev {prog : Program} {w : World} {A : Around} {E : Value → Shared → Prop} {s : Shared} {t sl : Addr} {items : Array Value} {Q : Value → Shared → Prop} {vs : Value} (ht : IsTup s.heap t items) (hs : s.heap.IsSliceOf sl .none .none vs) (ps : IsPart vs (some (-1)))
    (h : Q (.ref s.heap.objs.size) { s with heap := s.heap.push { cls := .type "tuple", data := .seq items.toList.reverse.toArray } }) (hsz : items.size ≤ sizeLine) : wpAny (model prog w) A (getItem (.ref t) (.ref sl)) Q E s := by
  obtain ⟨ob, at_, cls_, data_⟩ := id hs
  have isS : s.TypeIs (.ref sl) "slice" := ⟨ob, at_, cls_⟩
  have fits : sizeOk (.seq items.toList.reverse.toArray) := by
    show items.toList.reverse.toArray.size ≤ sizeLine
    rw [List.size_toArray, List.length_reverse, Array.length_toList]
    exact hsz
  unfold getItem
  try with_reducible refine wpAny_holding ?_
  first | refine wpAny_bind (wpAny_pure ?_) | skip
  refine wpAny_bind (wpAny_sequenceKey ht.typeIs (by decide) (wpAny_bind (wpAny_callSpecial?_slot (name := Str.ofString "__getitem__") ht.typeIs PyProof.Rows.slot_tuple_getitem
    (wpAny_call_entry PyProof.Rows.slot_tuple_getitem ht.typeIs entry_tuple_getitem ?_ (args_tuple_getitem _ _)))))
  show wpAny _ _ (Builtin.Tuple.tupleItemsOf (.ref t) >>= _) _ _ s
  refine wpAny_bind (tupleItemsOf_ ht (wpAny_bind (wpAny_typeOf isS ?_)))
  rw [if_pos (by decide)]
  have parts : ∀ {R : Int × Int × Nat → Shared → Prop}, R ((items.size : Int) - 1, -1, items.size) s → wpAny (model prog w) A.in1 (Builtin.Slice.sliceApplied (.ref sl) (pure (items.size : Int))) R E s := fun {R} q => by
    unfold Builtin.Slice.sliceApplied Builtin.Slice.sliceFields
    refine wpAny_bind (wpAny_bind (wpAny_field at_ data_ (x := .none) rfl (wpAny_bind (wpAny_field at_ data_ (x := .none) rfl (wpAny_bind (wpAny_field at_ data_ (x := vs) rfl (wpAny_pure ?_)))))))
    refine wpAny_bind (HT.slicePart_ ps ?_)
    show wpAny _ _ (if ((-1 : Int) == 0) = true then _ else _) _ _ s
    rw [if_neg (by decide)]
    refine wpAny_bind (slicePart_none (wpAny_bind (slicePart_none (wpAny_bind (wpAny_pure ?_)))))
    show wpAny _ _ (pure ((items.size : Int) - 1, (-1 : Int), Builtin.Slice.slicePlaces ((items.size : Int) - 1) (-1) (-1))) _ _ s
    rw [rev_places]
    exact wpAny_pure q
  refine wpAny_bind (parts ?_)
  have no : ¬ (((((items.size : Int) - 1) == 0) && ((-1 : Int) == 1) && (items.size == items.size)) = true) := by simp
  show wpAny _ _ (if ((((items.size : Int) - 1) == 0) && ((-1 : Int) == 1) && (items.size == items.size)) = true then _ else _) _ _ s
  rw [if_neg no, rev_pick]
  first
    | exact wpAny_bind (m := Builtin.Tuple.tupleExact _) (wpAny_newObj_type (wpAny_pure ⟨_, rfl, wpAny_pure h⟩) fits)
    | exact wpAny_bind (m := Builtin.Tuple.tupleExact _) (wpAny_newObj_type (wpAny_bind (wpAny_pure (wpAny_pure ⟨_, rfl, wpAny_pure h⟩))) fits)
    | exact wpAny_bind (wpAny_bind (m := Builtin.Tuple.tupleExact _) (wpAny_newObj_type (wpAny_pure (wpAny_pure ⟨_, rfl, wpAny_pure h⟩)) fits))
    | exact wpAny_bind (wpAny_bind (m := Builtin.Tuple.tupleExact _) (wpAny_newObj_type (wpAny_pure ⟨_, rfl, wpAny_pure h⟩) fits))
section
variable {X : Cx}
def tRevT (K : PySem.W.Frag) (te : TE) : TE := fun σ H Q => te σ H fun x H1 => ∃ a xs, x = .ref a ∧ SqT K H1 a xs ∧ ∀ p, H1 p = none → Q (.ref p) (upd H1 p (.tup xs.reverse))
theorem pe_revT {e : Expr} {te : TE} {k : Nat} {p1 p2 p3 pos : Pos} (he : PE X e te) : PE X (.Subscript e (.Slice none none (some (.UnaryOp .USub (.Constant (.int 1) k p1) p2)) p3) pos) (tRevT X.K te) := by
  refine ⟨fun pins s σ H Q I h => Subscript_ (thn (he.run pins s σ H _ I h) fun v s1 ⟨x, H1, I1, r1, a, xs, ex, hx, q⟩ => ?_)⟩
  subst ex
  cases r1
  have step : PO X (some (.UnaryOp .USub (.Constant (.int 1) k p1) p2)) (tPart (tUn (rU fun i => .int (-i)) (tC (.int 1)))) := po_some (pe_un un_neg pe_int)
  refine wpAny_Slice (thn (po_none.run pins s1 σ H1 (fun o H2 => o = none ∧ H2 = H1) I1 ⟨rfl, rfl⟩) fun vl s2 ⟨_, _, I2, pl, el, e2⟩ => ?_)
  subst el e2
  refine thn (po_none.run pins s2 σ _ (fun o H3 => o = none ∧ H3 = _) I2 ⟨rfl, rfl⟩) fun vu s3 ⟨_, _, I3, pu, eu, e3⟩ => ?_
  subst eu e3
  refine thn (step.run pins s3 σ _ (fun o H4 => o = some (-1) ∧ H4 = _) I3 ⟨1, rfl, -1, rfl, rfl, rfl⟩) fun vs s4 ⟨_, _, I4, ps, eo, e4⟩ => ?_
  subst eo e4
  have I5 := I4.kept (h' := s4.heap.push { cls := .type "slice", data := .fields #[vl, vu, vs] }) (t' := s4.toks) fun b ob q => Heap.get?_push_of_some _ q
  obtain ⟨its, r, ht, hz⟩ := I5.tuple hx
  show wpAny (model X.prog X.w) X.A (subscriptTail e (.Slice none none (some (.UnaryOp .USub (.Constant (.int 1) k p1) p2)) p3) (.ref a) (.ref s4.heap.objs.size)) (EP X pins σ Q) X.xe { s4 with heap := s4.heap.push { cls := .type "slice", data := .fields #[vl, vu, vs] } }
  refine tail_any (ops := [.ref a, .ref s4.heap.objs.size]) ht.typeIs PyProof.Rows.slot_tuple_getitem.lookup ?_ (by with_unfolding_all rfl)
  cases pl
  cases pu
  refine item_rev ht (Heap.IsSliceOf.new _ .none .none vs) ps ⟨.ref _, _, I5.laid (t' := s4.toks) (o := .tup xs.reverse) (fun b ob q => Heap.get?_push_of_some _ q) (Nat.le_refl _) ?_, rfl, q _ (I5.hok.fresh (Nat.le_refl _))⟩ (by rw [List.size_toArray, ← r.length]; exact hz)
  exact ⟨by rw [List.length_reverse]; exact hz, its.reverse, r.reverse, IsTup.new _ _⟩
/-! a dict against an empty one; d.update(e) -/
def rNeEmp : R2 := fun x y H Q => ∃ a b ks, x = .ref a ∧ y = .ref b ∧ H a = some (.dK ks) ∧ H b = some (.dK []) ∧ Q (.bl (!ks.isEmpty)) H
theorem op_neEmp (hu : X.A.units < cLine) : OpR X (compareOp .NotEq) rNeEmp := by
  intro pins s σ H x y v u Q I rx ry h
  obtain ⟨a, b, ks, rfl, rfl, ea, eb, q⟩ := h
  cases rx
  cases ry
  obtain ⟨_, ya, va, ra, da⟩ := dk_of I.hok ea
  obtain ⟨_, yb, vb, rb, db⟩ := dk_of I.hok eb
  have lb : vb.length = 0 := rb.length.symm
  have la : va.length = ks.length := ra.length.symm
  refine PySem.W.keq_ne (knd := mixKind X.prog X.w) (r := true) ya yb da db hu (fun e => ?_) ⟨.bl (!ks.isEmpty), H, I, ?_, q⟩
  · have e0 : ks = [] := List.eq_nil_of_length_eq_zero (by omega)
    subst e0
    exact hits_all rb ra fun p hp => absurd hp List.not_mem_nil
  · show Value.bool _ = Value.bool _
    rw [lb, la]
    cases ks <;> simp
def rUpdD : V → List V → Hp → VK → Prop := fun x xs H Q => ∃ (d o : Addr) (ks ms : List (Key × V)), x = .ref d ∧ xs = [.ref o] ∧ d ≠ o ∧ H d = some (.dK ks) ∧ H o = some (.dK ms) ∧ ks.length + ms.length ≤ sizeLine ∧ Q .non (upd H d (.dK (mergeK ks ms)))
theorem mt_updD : MtR X "dict.update" rUpdD := by
  intro pins s σ H x xs v us Q I rx rxs h
  obtain ⟨d, o, ks, ms, rfl, rfl, ne, hd, ho, hz, q⟩ := h
  cases rx
  obtain ⟨u, rfl, ru⟩ := vals1 rxs
  cases ru
  obtain ⟨_, yd, vd, rd, dd⟩ := dk_of I.hok hd
  obtain ⟨_, yo, vo, ro, dov⟩ := dk_of I.hok ho
  have l1 := length_mergeK ms ks
  refine call_meetsIn F.slot_dict_update dd.typeIs F.entry_dict_update (F.args_dict_update_2 _ _) (meets_dict_update (mixKind X.prog X.w) d o ne yo) ⟨vd, vo, dd, dov, by rw [← rd.length, ← ro.length]; exact hz, fun h' d1 _ same => ?_⟩
  have there : ∃ z, h'.get? d = some z := let ⟨z, _, _, hz, _⟩ := d1; ⟨z, hz⟩
  exact ⟨.non, _, d_write I (by rw [hd]; trivial) same there (dk_new (by omega) yd (KV.merge ro rd) d1), rfl, q⟩
/-! a tuple display whose object is known (its methods may be called) -/
def tTupZ (t : TA) : TE := fun σ H Q => t σ H fun xs H1 => xs.length ≤ sizeLine ∧ ∀ p o, H1 p = none → o.dict = none → Q (.ref p) (upd H1 p (.frz o (.tup xs)))
theorem pe_tupZ {es : List Expr} {t : TA} {x1 : Nat} {pos : Pos} (h : PA X es t) : PE X (.Tuple es x1 pos) (tTupZ t) := by
  refine ⟨fun pins s σ H Q I hq => wpAny_Tuple_spliced (thn (h.run pos pins s σ H _ I hq) fun us s1 ⟨xs, H1, I1, r, z, q⟩ => ⟨by rw [← r.length]; exact z, ?_⟩)⟩
  have free := I1.hok.fresh (Nat.le_refl s1.heap.objs.size)
  have at_ : (s1.heap.push { cls := .type "tuple", data := .seq us.toArray }).get? s1.heap.objs.size = some { cls := .type "tuple", data := .seq us.toArray } := Heap.get?_push_size _ rfl
  refine ⟨.ref s1.heap.objs.size, _, I1.laid (t' := s1.toks) (o := .frz { cls := .type "tuple", data := .seq us.toArray } (.tup xs)) (fun b u e => Heap.get?_push_of_some _ e) (Nat.le_refl _) ?_, rfl, q _ _ free rfl⟩
  exact ⟨at_, z, us, r, ⟨_, at_, rfl, _, rfl⟩⟩
/-- t.index(e), t such a tuple of texts -/
def tIxZ (to te : TE) : TE := fun σ H Q => to σ H fun x H1 => ∃ (p : Addr) (o : Obj) (ys : List Str), x = .ref p ∧ H1 p = some (.frz o (.tup (ys.map V.str))) ∧ o.dict = none ∧
  te σ H1 fun y H2 => ∃ (z : Str) (j : Nat), y = .str z ∧ ys[j]? = some z ∧ (∀ m, m < j → ys[m]? ≠ some z) ∧ H2 p = some (.frz o (.tup (ys.map V.str))) ∧ Q (.int (j : Nat)) H2
theorem pe_ixZ {o e : Expr} {to te : TE} {apos cpos : Pos} (ho : PE X o to) (he : PE X e te)
    (hbase : attributeBase o "index" X.env (eval o X.env) = eval o X.env := by rfl)
    (hfew : ((backTo cpos (starEach [e] X.env)).all (fun x => !x.1) && (backToKw cpos (keywordEach [] X.env)).all (fun x => x.1.isSome) && decide (([e] : List Expr).length + ([] : List Keyword).length + (if ([] : List Keyword).isEmpty then 0 else 1) < 30)) = true := by rfl)
    (hline : (apos.endLine == cpos.line) = true := by rfl) (hs : starEach [e] X.env = (false, eval e X.env) :: starEach [] X.env := by rfl) (hplain : (backTo cpos (starEach [] X.env)).any (·.1) = false := by rfl) :
    PE X (.Call (.Attribute o "index" apos) [e] [] cpos) (tIxZ to te) := by
  refine ⟨fun pins s σ H Q I h => wpAny_Call_method_late hbase hfew hline rfl (thn (ho.run pins s σ H _ I h) fun v s1 ⟨x, H1, I1, r1, p, ob, ys, ex, hp, nod, q1⟩ => ?_)⟩
  subst ex
  cases r1
  obtain ⟨at_, hz, its, rv, ob2, at2, cls_, n, data_⟩ := I1.hok p _ hp
  rw [at_] at at2
  cases at2
  refine ⟨"tuple", "tuple.index", F.plainAttrs_tuple, F.slot_tuple_index, F.type_tuple_index, ⟨_, at_, cls_⟩, fun a e => by cases e; exact ⟨_, at_, nod⟩, ?_⟩
  have pa : PA X [e] (tCons te tNil) := pa_cons (hs := hs) he pa_nil
  have hA := pa.run cpos pins s1 σ H1 (fun vs H2 => match vs with
    | [y] => ∃ (z : Str) (j : Nat), y = .str z ∧ ys[j]? = some z ∧ (∀ m, m < j → ys[m]? ≠ some z) ∧ H2 p = some (.frz ob (.tup (ys.map V.str))) ∧ Q (.int (j : Nat)) H2
    | _ => False) I1 q1
  rw [hs] at hA ⊢
  refine Calls.callWith_builtin (by show (false || (backTo cpos (starEach [] X.env)).any (·.1)) = false; rw [hplain] <;> rfl) (Calls.evalArgs_plain ?_)
  refine thn hA fun us s2 ⟨vs, H2, I2, r2, got⟩ => ?_
  cases r2 with
  | nil => exact got.elim
  | cons ra rt =>
    cases rt with
    | cons _ _ => exact got.elim
    | nil =>
      obtain ⟨z, j, e2, e3, e4, hp2, q2⟩ := got
      exact mt_tup_index pins s2 σ H2 (.ref p) [_] (.ref p) [_] Q I2 rfl (.cons ra .nil) ⟨p, ys, z, j, rfl, by rw [e2], .inl (.inr ⟨ob, hp2⟩), e3, e4, q2⟩
end
end Tau
set_option maxHeartbeats 2000000
namespace Tau
open PySem PySem.Spec PyProof.Rows L2
/-! == and != of plain data, whatever signs its texts hold -/
def rEqP (K : PySem.W.Frag) : R2 := fun x y H Q => ∃ d e, Dp K H x d ∧ Dp K H y e ∧ d.plain = true ∧ e.plain = true ∧ d.depth ≤ 64 ∧ Q (.bl (PyData.eqv d e)) H
def rNeT (K : PySem.W.Frag) : R2 := fun x y H Q => ∃ ds es, Dp K H x (.tuple ds) ∧ Dp K H y (.tuple es) ∧ PyData.plainAll ds = true ∧ PyData.plainAll es = true ∧ (PyData.tuple ds).depth ≤ 64 ∧ Q (.bl (!PyData.eqvAll ds es)) H
def rNeL (K : PySem.W.Frag) : R2 := fun x y H Q => ∃ ds es, Dp K H x (.list ds) ∧ Dp K H y (.list es) ∧ PyData.plainAll ds = true ∧ PyData.plainAll es = true ∧ (PyData.list ds).depth ≤ 64 ∧ Q (.bl (!PyData.eqvAll ds es)) H
section
variable {X : Cx}
theorem room64 {A : Around} {m n : Nat} (hu : A.units + 64 < cLine) (h : m ≤ 64) : A.units + min m n < cLine := by
  have := Nat.min_le_left m n
  omega
theorem op_eqP (hu : X.A.units + 64 < cLine) : OpR X (compareOp .Eq) (rEqP X.K) := by
  intro pins s σ H x y v u Q I rx ry h
  obtain ⟨d, e, hd, he, pd, pe, dep, q⟩ := h
  obtain ⟨as, r1⟩ := Dp.reads I d x v hd rx
  obtain ⟨bs, r2⟩ := Dp.reads I e y u he ry
  exact SeqAt.rcAt_plain r1 r2 pd pe (room64 hu dep) X.prog X.w X.xe (EP X pins σ Q) ⟨.bl _, H, I, rfl, q⟩
theorem op_neT (hu : X.A.units + 64 < cLine) : OpR X (compareOp .NotEq) (rNeT X.K) := by
  intro pins s σ H x y v u Q I rx ry h
  obtain ⟨ds, es, hd, he, pd, pe, dep, q⟩ := h
  obtain ⟨as, r1⟩ := Dp.reads I _ x v hd rx
  obtain ⟨bs, r2⟩ := Dp.reads I _ y u he ry
  cases r1 with
  | tuple a1 a2 a3 a4 =>
    cases r2 with
    | tuple b1 b2 b3 b4 =>
      have n1 := SeqAt.ReadsAll.length _ _ _ a4
      have n2 := SeqAt.ReadsAll.length _ _ _ b4
      rw [Array.length_toList] at n1 n2
      have room : X.A.units + min (PyData.tuple ds).depth (PyData.tuple es).depth < cLine := room64 hu dep
      have each : ∀ j (j1 : j < _) (j2 : j < _), SeqAt.EqAt X.A.in1 s _ _ (SeqAt.pairEq ds es j) := fun j j1 j2 =>
        SeqAt.eqAt_plainAll ds es X.A.in1 s _ _ _ _ a4 b4 pd pe (SeqAt.room_in room) j j1 j2
      have fin := SeqAt.RcNeAt.tuples ⟨_, a1, a2, _, a3⟩ ⟨_, b1, b2, _, b3⟩ (SeqAt.room_here room) (fun j j1 j2 => by
        have := each j (by rw [Array.length_toList]; exact j1) (by rw [Array.length_toList]; exact j2)
        rw [Array.getElem_toList, Array.getElem_toList] at this
        exact this)
      rw [n1, n2, SeqAt.eqvAll_eq] at fin
      exact fin X.prog X.w X.xe (EP X pins σ Q) ⟨.bl _, H, I, rfl, q⟩
theorem op_neL (hu : X.A.units + 64 < cLine) : OpR X (compareOp .NotEq) (rNeL X.K) := by
  intro pins s σ H x y v u Q I rx ry h
  obtain ⟨ds, es, hd, he, pd, pe, dep, q⟩ := h
  obtain ⟨as, r1⟩ := Dp.reads I _ x v hd rx
  obtain ⟨bs, r2⟩ := Dp.reads I _ y u he ry
  cases r1 with
  | @list l ob vs n _ _ a1 a2 a3 a4 =>
    cases r2 with
    | @list l' ob' vs' n' _ _ b1 b2 b3 b4 =>
      have n1 := SeqAt.ReadsAll.length _ _ _ a4
      have n2 := SeqAt.ReadsAll.length _ _ _ b4
      rw [Array.length_toList] at n1 n2
      have room : X.A.units + min (PyData.list ds).depth (PyData.list es).depth < cLine := room64 hu dep
      by_cases same : vs.size = vs'.size
      · have fin := SeqAt.RcNeAt.lists ⟨_, a1, a2, _, a3⟩ ⟨_, b1, b2, _, b3⟩ same (SeqAt.room_here room) (fun j j1 j2 => by
          have := SeqAt.eqAt_plainAll ds es X.A.in1 s _ _ _ _ a4 b4 pd pe (SeqAt.room_in room) j (by rw [Array.length_toList]; exact j1) (by rw [Array.length_toList]; exact j2)
          rw [Array.getElem_toList, Array.getElem_toList] at this
          exact this)
        rw [n1, SeqAt.eqvAll_same_length (by omega)] at fin
        exact fin X.prog X.w X.xe (EP X pins σ Q) ⟨.bl _, H, I, rfl, q⟩
      · have fin := SeqAt.RcNeAt.lists_lengths (A := X.A) ⟨_, a1, a2, _, a3⟩ ⟨_, b1, b2, _, b3⟩ (by simpa using same) (SeqAt.room_here room)
        refine fin X.prog X.w X.xe (EP X pins σ Q) ⟨.bl _, H, I, ?_, q⟩
        rw [SeqAt.eqvAll_other_length (by omega)]
        rfl
end
end Tau
set_option maxHeartbeats 4000000
namespace Tau
open PySem PySem.Spec PyProof.Rows L2
/-! a tuple, once: the very tuple -/
theorem once_tuple (l : Addr) (items : Array Value) (n : Nat) (dd : Option Addr) (sl : Array (Option Value)) (u : Tok) :
    Meets (Builtin.«tuple.__mul__» ⟨[.ref l, .int 1 u], []⟩) (fun _ R s => s.heap.get? l = some { cls := .type "tuple", dict := dd, data := .seq items n, slots := sl } ∧ R (.ok (.ret (Value.ref l))) s) :=
  .of_wp fun prog w A R s h => by
    obtain ⟨hp, g, d, tk, os⟩ := s
    obtain ⟨hl, h⟩ := h
    have f1 := AutoSeq1.idx_int
    wp_walk using wpAny_loadPart' hl
    repeat (first
      | (refine wpAny_ite_false (decide_eq_false (by decide)) ?_; wp_walk using wpAny_loadPart' hl)
      | (refine wpAny_ite_true (decide_eq_true (by simp)) ?_; wp_walk using wpAny_loadPart' hl))
    all_goals first | exact ⟨_, rfl, h⟩ | skip
def rRep1 (K : PySem.W.Frag) : R2 := fun x y H Q => ∃ l xs, x = .ref l ∧ y = .int 1 ∧ SqT K H l xs ∧ Q (.ref l) H
section
variable {X : Cx}
theorem op_rep1 : OpR X (binaryOp .Mult) (rRep1 X.K) := by
  intro pins s σ H x y v u Q I rx ry h
  obtain ⟨l, xs, rfl, rfl, hT, q⟩ := h
  cases rx
  obtain ⟨t, rfl⟩ := ry
  obtain ⟨its, r, ⟨⟨cls, dd, data, sl⟩, ho, hc, n, hd⟩, hs⟩ := I.tuple hT
  simp only at hc hd
  subst hc hd
  exact wpAny_binaryOp_repeat_ref (T := "tuple") (U := "int") (by decide) ⟨_, ho, rfl⟩ (fun s' => typeIs_int s' 1 t) noFill_tuple_mul F.fills_int_mul F.slot_int_rmul repeat_tuple F.slot_int_index.lookup
    (call_meets F.slot_int_rmul (typeIs_int s 1 t) F.entry_int_rmul (F.args_int_rmul_2 _ _) (int_rmul_tuple 1 t l its.toArray n dd sl)
      ⟨ho, rfl, ⟨_, ho, rfl⟩, call_meets F.slot_tuple_mul ⟨_, ho, rfl⟩ F.entry_tuple_mul (F.args_tuple_mul_2 _ _) (once_tuple l its.toArray n dd sl t) ⟨ho, ⟨.ref l, H, I, rfl, q⟩⟩⟩)
theorem op_repA : OpR X (binaryOp .Mult) (fun x y H Q => rRep1 X.K x y H Q ∨ rRepT X.K x y H Q) := OpR.or op_rep1 op_repT
end
end Tau
set_option maxHeartbeats 2000000
namespace Tau
open PySem PySem.Spec PyProof.Rows L2
/-! what a reading comes to, with what stays known. p: the dicts that may be changed meanwhile (the pen) -/
def Kp (p : Addr → Prop) (H H' : Hp) : Prop := ∀ a o, H a = some o → H' a = some o ∨ (p a ∧ ∃ k k', o = .dK k ∧ H' a = some (.dK k'))
abbrev no : Addr → Prop := fun _ => False
section
variable {p : Addr → Prop} {H H1 H2 H' : Hp}
theorem Kp.refl (p : Addr → Prop) (H : Hp) : Kp p H H := fun _ _ h => .inl h
theorem Kp.trans (a : Kp p H H1) (b : Kp p H1 H2) : Kp p H H2 := fun x o h => by
  rcases a x o h with h1 | ⟨h0, k, k', rfl, h1⟩
  · exact b x o h1
  · rcases b x _ h1 with h2 | ⟨_, _, k2, _, h2⟩
    · exact .inr ⟨h0, k, k', rfl, h2⟩
    · exact .inr ⟨h0, k, k2, rfl, h2⟩
theorem Kp.new {q : Addr} {o : HO} (h : H q = none) : Kp p H (upd H q o) := fun a u e => .inl (by rw [upd_ne (ne_of_none e h)]; exact e)
theorem Kp.mut {q : Addr} {o : HO} (e : Kp p H H') (h : H q = none) : Kp p H (upd H' q o) := fun a u ha => by
  have n := ne_of_none ha h
  rcases e a u ha with h1 | ⟨h0, k, k', h2, h1⟩
  · exact .inl (by rw [upd_ne n]; exact h1)
  · exact .inr ⟨h0, k, k', h2, by rw [upd_ne n]; exact h1⟩
theorem Kp.any (e : Kp no H H') : Kp p H H' := fun a o h => (e a o h).imp id fun z => z.1.elim
theorem Kp.at (e : Kp no H H') {a : Addr} {o : HO} (h : H a = some o) : H' a = some o := (e a o h).resolve_right fun z => z.1
theorem Kp.of (e : ∀ a o, H a = some o → H' a = some o) : Kp p H H' := fun a o h => .inl (e a o h)
theorem Kp.dk (e : Kp p H H') {a : Addr} {k : List (Key × V)} (n : ¬ p a) (h : H a = some (.dK k)) : H' a = some (.dK k) := (e a _ h).resolve_right fun z => n z.1
theorem Kp.lst (e : Kp p H H') {a : Addr} {xs : List V} (h : H a = some (.lst xs)) : H' a = some (.lst xs) := (e a _ h).resolve_right fun ⟨_, _, _, z, _⟩ => by cases z
theorem Kp.tup (e : Kp p H H') {a : Addr} {xs : List V} (h : H a = some (.tup xs)) : H' a = some (.tup xs) := (e a _ h).resolve_right fun ⟨_, _, _, z, _⟩ => by cases z
theorem Kp.frz (e : Kp p H H') {a : Addr} {o : Obj} {u : HO} (h : H a = some (.frz o u)) : H' a = some (.frz o u) := (e a _ h).resolve_right fun ⟨_, _, _, z, _⟩ => by cases z
theorem Kp.dt (e : Kp p H H') {a : Addr} {k : List (List Key × V)} (h : H a = some (.dT k)) : H' a = some (.dT k) := (e a _ h).resolve_right fun ⟨_, _, _, z, _⟩ => by cases z
theorem Kp.ins (e : Kp p H H') {a C dx : Addr} {fs : List (Str × V)} (h : H a = some (.ins C dx fs)) : H' a = some (.ins C dx fs) := (e a _ h).resolve_right fun ⟨_, _, _, z, _⟩ => by cases z
theorem Kp.free (e : Kp p H H') {q : Addr} (h : H' q = none) : H q = none := by
  cases h1 : H q with
  | none => rfl
  | some o =>
    rcases e q o h1 with h2 | ⟨_, _, _, _, h2⟩
    · rw [h2] at h
      cases h
    · rw [h2] at h
      cases h
variable {K : PySem.W.Frag}
theorem Kp.sl (e : Kp p H H') {a : Addr} {xs : List V} (h : SqL K H a xs) : SqL K H' a xs := by
  rcases h with (h | ⟨o, h⟩) | h
  · exact .inl (.inl (e.lst h))
  · exact .inl (.inr ⟨o, e.frz h⟩)
  · exact .inr h
theorem Kp.st (e : Kp p H H') {a : Addr} {xs : List V} (h : SqT K H a xs) : SqT K H' a xs := by
  rcases h with (h | ⟨o, h⟩) | h
  · exact .inl (.inl (e.tup h))
  · exact .inl (.inr ⟨o, e.frz h⟩)
  · exact .inr h
theorem Kp.tupS (e : Kp p H H') {v : V} {xs : List Str} (h : TupS K H v xs) : TupS K H' v xs := by
  obtain ⟨a, e1, h1⟩ := h
  exact ⟨a, e1, e.tup h1⟩
end
/-! what a value is, in words that stay -/
class Stay (p : Addr → Prop) (P : Hp → V → Prop) : Prop where
  stay : ∀ {H H' : Hp} {v : V}, Kp p H H' → P H v → P H' v
def IsV (x : V) : Hp → V → Prop := fun _ v => v = x
def TupP (K : PySem.W.Frag) (xs : List Str) : Hp → V → Prop := fun H v => TupS K H v xs
/-- a list of texts | a list or tuple of texts | a list of tuples of texts -/
def LstP (K : PySem.W.Frag) (xs : List Str) : Hp → V → Prop := fun H v => ∃ a, v = .ref a ∧ SqL K H a (xs.map V.str)
def SeqP (K : PySem.W.Frag) (xs : List Str) : Hp → V → Prop := fun H v => ∃ a, v = .ref a ∧ (SqL K H a (xs.map V.str) ∨ SqT K H a (xs.map V.str))
def LstW (K : PySem.W.Frag) (ws : List (List Str)) : Hp → V → Prop := fun H v => ∃ (a : Addr) (bs : List (V × List Str)), v = .ref a ∧ SqL K H a (bs.map (·.1)) ∧ (∀ b ∈ bs, TupS K H b.1 b.2) ∧ bs.map (·.2) = ws
instance {p : Addr → Prop} {x : V} : Stay p (IsV x) := ⟨fun _ h => h⟩
instance {p : Addr → Prop} {K : PySem.W.Frag} {xs : List Str} : Stay p (TupP K xs) := ⟨fun e h => e.tupS h⟩
instance {p : Addr → Prop} {K : PySem.W.Frag} {xs : List Str} : Stay p (LstP K xs) := ⟨fun e ⟨a, e1, h⟩ => ⟨a, e1, e.sl h⟩⟩
instance {p : Addr → Prop} {K : PySem.W.Frag} {xs : List Str} : Stay p (SeqP K xs) := ⟨fun e ⟨a, e1, h⟩ => ⟨a, e1, h.imp e.sl e.st⟩⟩
instance {p : Addr → Prop} {K : PySem.W.Frag} {ws : List (List Str)} : Stay p (LstW K ws) := ⟨fun e ⟨a, bs, e1, h, hb, e2⟩ => ⟨a, bs, e1, e.sl h, fun b m => e.tupS (hb b m), e2⟩⟩
/-- the reading te comes to a value of which P holds, leaving what is known -/
def EvP (p : Addr → Prop) (te : TE) (σ : L2.St) (H : Hp) (P : Hp → V → Prop) : Prop := ∀ H1, Kp p H H1 → ∀ Q : VK, (∀ v H2, Kp p H1 H2 → P H2 v → Q v H2) → te σ H1 Q
def EvB (p : Addr → Prop) (tt : TT) (σ : L2.St) (H : Hp) (b : Bool) : Prop := ∀ H1, Kp p H H1 → ∀ Q : Bool → Hp → Prop, (∀ H2, Kp p H1 H2 → Q b H2) → tt σ H1 Q
def EvOp (p : Addr → Prop) (to : TO) (σ : L2.St) (H : Hp) (o : Option Int) : Prop := ∀ H1, Kp p H H1 → ∀ Q : Option Int → Hp → Prop, (∀ H2, Kp p H1 H2 → Q o H2) → to σ H1 Q
/-- arguments: each with its word -/
inductive ArgsP : List (Hp → V → Prop) → Hp → List V → Prop
  | nil {H : Hp} : ArgsP [] H []
  | cons {P : Hp → V → Prop} {Ps : List (Hp → V → Prop)} {H : Hp} {v : V} {vs : List V} : P H v → ArgsP Ps H vs → ArgsP (P :: Ps) H (v :: vs)
def EvA (p : Addr → Prop) (ta : TA) (σ : L2.St) (H : Hp) (Ps : List (Hp → V → Prop)) : Prop := ∀ H1, Kp p H H1 → ∀ Q : List V → Hp → Prop, (∀ vs H2, Kp p H1 H2 → ArgsP Ps H2 vs → Q vs H2) → ta σ H1 Q
section
variable {p : Addr → Prop} {K : PySem.W.Frag} {σ : L2.St} {H H' : Hp} {ta tb tc te : TE} {tt tu : TT} {P R S : Hp → V → Prop} {x y v : V}
theorem EvP.up (h : EvP p te σ H P) (e : Kp p H H') : EvP p te σ H' P := fun H1 a Q q => h H1 (e.trans a) Q q
theorem EvB.up {b : Bool} (h : EvB p tt σ H b) (e : Kp p H H') : EvB p tt σ H' b := fun H1 a Q q => h H1 (e.trans a) Q q
theorem EvP.imp (h : EvP p te σ H P) (f : ∀ H' v, Kp p H H' → P H' v → R H' v) : EvP p te σ H R := fun H1 a Q q => h H1 a Q fun v H2 e2 hv => q v H2 e2 (f H2 v (a.trans e2) hv)
theorem EvP.val (h : EvP p te σ H (IsV x)) (e : x = y) : EvP p te σ H (IsV y) := by
  rw [← e]
  exact h
theorem ev_var [Stay p P] {i : Nat} (h : σ[i]? = some (some v)) (hp : P H v) : EvP p (tVar i) σ H P := fun H1 e Q q => ⟨v, h, q v H1 (Kp.refl p H1) (Stay.stay e hp)⟩
theorem ev_val {i : Nat} (h : σ[i]? = some (some v)) : EvP p (tVar i) σ H (IsV v) := ev_var (P := IsV v) h rfl
theorem ev_c : EvP p (tC v) σ H (IsV v) := fun H1 _ Q q => q v H1 (Kp.refl p H1) rfl
theorem ev_op [Stay p P] {r : R2} (ha : EvP p ta σ H P) (hb : EvP p tb σ H R) (hr : ∀ H1 x y, Kp p H H1 → P H1 x → R H1 y → ∀ Q : VK, (∀ v H2, Kp p H1 H2 → S H2 v → Q v H2) → r x y H1 Q) : EvP p (tOp r ta tb) σ H S := fun H1 e Q q =>
  ha H1 e _ fun x H2 e2 hx => hb H2 (e.trans e2) _ fun y H3 e3 hy => hr H3 x y ((e.trans e2).trans e3) (Stay.stay e3 hx) hy Q fun v H4 e4 hv => q v H4 ((e2.trans e3).trans e4) hv
theorem ev_I0 {g : Int → Int → V} {i j : Int} (ha : EvP p ta σ H (IsV (.int i))) (hb : EvP p tb σ H (IsV (.int j))) : EvP p (tOp (rI0 g) ta tb) σ H (IsV (g i j)) :=
  ev_op ha hb fun H1 x y _ hx hy Q q => ⟨i, j, hx, hy, q _ H1 (Kp.refl p H1) rfl⟩
theorem ev_I {C : Int → Int → Prop} {g : Int → Int → V} {i j : Int} (ha : EvP p ta σ H (IsV (.int i))) (hb : EvP p tb σ H (IsV (.int j))) (hc : C i j) : EvP p (tOp (rI C g) ta tb) σ H (IsV (g i j)) :=
  ev_op ha hb fun H1 x y _ hx hy Q q => ⟨i, j, hx, hy, hc, q _ H1 (Kp.refl p H1) rfl⟩
theorem ev_neg {i : Int} (ha : EvP p ta σ H (IsV (.int i))) : EvP p (tUn (rU fun i => .int (-i)) ta) σ H (IsV (.int (-i))) := fun H1 e Q q =>
  ha H1 e _ fun x H2 e2 hx => ⟨i, hx, q _ H2 e2 rfl⟩
theorem ev_eq (ha : EvP p ta σ H (IsV x)) (hb : EvP p tb σ H (IsV y)) (h : scal x y = true) : EvP p (tOp rEq ta tb) σ H (IsV (.bl (decide (x = y)))) :=
  ev_op ha hb fun H1 x' y' _ hx hy Q q => by
    have e1 : x' = x := hx
    have e2 : y' = y := hy
    subst e1 e2
    exact ⟨h, q _ H1 (Kp.refl p H1) rfl⟩
theorem ev_ne (ha : EvP p ta σ H (IsV x)) (hb : EvP p tb σ H (IsV y)) (h : scal x y = true) : EvP p (tOp rNe ta tb) σ H (IsV (.bl (!decide (x = y)))) :=
  ev_op ha hb fun H1 x' y' _ hx hy Q q => by
    have e1 : x' = x := hx
    have e2 : y' = y := hy
    subst e1 e2
    exact ⟨h, q _ H1 (Kp.refl p H1) rfl⟩
/-- an item of a tuple, of a list -/
theorem ev_ixT {xs : List Str} {i : Int} {s : Str} (ha : EvP p ta σ H (TupP K xs)) (hb : EvP p tb σ H (IsV (.int i))) (h : atI xs i = some s) : EvP p (tOp (rIxT K) ta tb) σ H (IsV (.str s)) :=
  ev_op ha hb fun H1 x' y' _ hx hy Q q => by
    obtain ⟨a, rfl, hs⟩ := hx.sq
    refine ⟨a, _, i, .str s, rfl, hy, hs, ?_, q _ H1 (Kp.refl p H1) rfl⟩
    unfold atI at h ⊢
    rw [List.length_map]
    obtain ⟨j, hj, hx⟩ := Option.bind_eq_some_iff.mp h
    rw [hj]
    show (xs.map V.str)[j]? = some (V.str s)
    rw [List.getElem?_map, hx]
    rfl
theorem ev_ixL {xs : List Str} {i : Int} {s : Str} (ha : EvP p ta σ H (LstP K xs)) (hb : EvP p tb σ H (IsV (.int i))) (h : atI xs i = some s) : EvP p (tOp (rIxL K) ta tb) σ H (IsV (.str s)) :=
  ev_op ha hb fun H1 x' y' _ hx hy Q q => by
    obtain ⟨a, rfl, hs⟩ := hx
    refine ⟨a, _, i, .str s, rfl, hy, hs, ?_, q _ H1 (Kp.refl p H1) rfl⟩
    unfold atI at h ⊢
    rw [List.length_map]
    obtain ⟨j, hj, hx⟩ := Option.bind_eq_some_iff.mp h
    rw [hj]
    show (xs.map V.str)[j]? = some (V.str s)
    rw [List.getElem?_map, hx]
    rfl
/-- len -/
def lenR (K : PySem.W.Frag) : List V → Hp → VK → Prop := fun xs H Q => ∃ p ys, xs = [.ref p] ∧ (SqL K H p ys ∨ SqT K H p ys) ∧ Q (.int ys.length) H
theorem ev_len1 {xs : List Str} (ha : EvP p ta σ H (SeqP K xs)) : EvP p (tCB (lenR K) (tCons ta tNil)) σ H (IsV (.int (xs.length : Int))) := fun H1 e Q q =>
  ha H1 e _ fun x H2 e2 hx => by
    obtain ⟨a, rfl, hs⟩ := hx
    exact ⟨a, xs.map V.str, rfl, hs, q _ H2 e2 (by rw [List.length_map]; rfl)⟩
theorem ev_lenT {xs : List Str} (ha : EvP p ta σ H (TupP K xs)) : EvP p (tCB (lenR K) (tCons ta tNil)) σ H (IsV (.int (xs.length : Int))) :=
  ev_len1 (ha.imp fun _ _ _ ⟨a, e, h⟩ => ⟨a, e, .inr (.inl (.inl h))⟩)
theorem ev_lenL {xs : List Str} (ha : EvP p ta σ H (LstP K xs)) : EvP p (tCB (lenR K) (tCons ta tNil)) σ H (IsV (.int (xs.length : Int))) :=
  ev_len1 (ha.imp fun _ _ _ ⟨a, e, h⟩ => ⟨a, e, .inl h⟩)
/-- t + u, t[i:j], (x,) -/
theorem ev_cat {xs ys : List Str} (ha : EvP p ta σ H (TupP K xs)) (hb : EvP p tb σ H (TupP K ys)) (hz : xs.length + ys.length ≤ 100000) : EvP p (tOp (rCatA K) ta tb) σ H (TupP K (xs ++ ys)) :=
  ev_op ha hb fun H1 x' y' _ hx hy Q q => by
    obtain ⟨a, rfl, hs⟩ := hx
    obtain ⟨b, rfl, ht⟩ := hy
    refine ⟨a, b, _, _, rfl, rfl, .inl (.inl hs), .inl (.inl ht), ?_, fun e => q _ H1 (Kp.refl p H1) ?_, fun _ e => q _ H1 (Kp.refl p H1) ?_, fun _ _ z hz => q _ _ (Kp.new hz) ?_⟩
    · rw [List.length_map, List.length_map]
      exact Nat.le_trans hz (by decide)
    · have e0 : xs = [] := List.map_eq_nil_iff.mp e
      subst e0
      exact ⟨b, rfl, ht⟩
    · have e0 : ys = [] := List.map_eq_nil_iff.mp e
      subst e0
      rw [List.append_nil]
      exact ⟨a, rfl, hs⟩
    · refine ⟨z, rfl, ?_⟩
      rw [List.map_append]
      exact upd_same
theorem eo_none : EvOp p tNoPart σ H none := fun H1 _ Q q => q H1 (Kp.refl p H1)
theorem eo_some {i : Int} (h : EvP p te σ H (IsV (.int i))) : EvOp p (tPart te) σ H (some i) := fun H1 e Q q => h H1 e _ fun x H2 e2 hx => ⟨i, hx, q H2 e2⟩
def cutW {α : Type} (xs : List α) (lo hi : Option Int) : List α := (xs.drop (HT.sIx xs.length 0 lo)).take (HT.sIx xs.length xs.length hi - HT.sIx xs.length 0 lo)
theorem cutW_map (xs : List Str) (lo hi : Option Int) : cutV (xs.map V.str) lo hi = (cutW xs lo hi).map V.str := by
  unfold cutV cutW
  rw [List.length_map, List.map_take, List.map_drop]
theorem cutW_all {α : Type} {xs : List α} {lo hi : Option Int} (h : HT.sIx xs.length 0 lo = 0 ∧ HT.sIx xs.length xs.length hi = xs.length) : cutW xs lo hi = xs := by
  unfold cutW
  rw [h.1, h.2, List.drop_zero, Nat.sub_zero, List.take_length]
theorem ev_slT {xs : List Str} {tl th : TO} {lo hi : Option Int} (ha : EvP p ta σ H (TupP K xs)) (hl : EvOp p tl σ H lo) (hh : EvOp p th σ H hi) : EvP p (tSl (rSlA K) ta tl th) σ H (TupP K (cutW xs lo hi)) := fun H1 e Q q =>
  ha H1 e _ fun x H2 e2 hx => hl H2 (e.trans e2) _ fun H3 e3 => hh H3 ((e.trans e2).trans e3) _ fun H4 e4 => by
    obtain ⟨a, rfl, hs⟩ := hx
    have hs4 := (e3.trans e4).tup hs
    refine ⟨a, _, rfl, .inl (.inl hs4), fun w => q _ H4 ((e2.trans e3).trans e4) ?_, fun w z hz => q _ _ (((e2.trans e3).trans e4).trans (Kp.new hz)) ?_⟩
    · rw [List.length_map] at w
      rw [cutW_all w]
      exact ⟨a, rfl, hs4⟩
    · refine ⟨z, rfl, ?_⟩
      rw [cutW_map]
      exact upd_same
theorem ev_tup1 {s : Str} (ha : EvP p ta σ H (IsV (.str s))) : EvP p (tTup (tCons ta tNil)) σ H (TupP K [s]) := fun H1 e Q q =>
  ha H1 e _ fun x H2 e2 hx => by
    have ex : x = .str s := hx
    subst ex
    exact ⟨by show 1 ≤ sizeLine; decide, fun z hz => q _ _ (e2.trans (Kp.new hz)) ⟨z, rfl, upd_same⟩⟩
theorem ev_tup2 {s t : Str} (ha : EvP p ta σ H (IsV (.str s))) (hb : EvP p tb σ H (IsV (.str t))) : EvP p (tTup (tCons ta (tCons tb tNil))) σ H (TupP K [s, t]) := fun H1 e Q q =>
  ha H1 e _ fun x H2 e2 hx => hb H2 (e.trans e2) _ fun y H3 e3 hy => by
    have ex : x = .str s := hx
    have ey : y = .str t := hy
    subst ex ey
    exact ⟨by show 2 ≤ sizeLine; decide, fun z hz => q _ _ ((e2.trans e3).trans (Kp.new hz)) ⟨z, rfl, upd_same⟩⟩
theorem ev_revT {xs : List Str} (ha : EvP p ta σ H (TupP K xs)) : EvP p (tRevT K ta) σ H (TupP K xs.reverse) := fun H1 e Q q =>
  ha H1 e _ fun x H2 e2 hx => by
    obtain ⟨a, rfl, hs⟩ := hx
    refine ⟨a, _, rfl, .inl (.inl hs), fun z hz => q _ _ (e2.trans (Kp.new hz)) ⟨z, rfl, ?_⟩⟩
    rw [← List.map_reverse]
    exact upd_same
/-- == of tuples of texts -/
theorem words_eqv : ∀ xs ys : List Str, PyData.eqvAll (xs.map PyData.str) (ys.map PyData.str) = decide (xs = ys)
  | [], [] => by simp [PyData.eqvAll]
  | [], _ :: _ => by simp [PyData.eqvAll]
  | _ :: _, [] => by simp [PyData.eqvAll]
  | x :: xs, y :: ys => by
    rw [List.map_cons, List.map_cons, PyData.eqvAll, words_eqv xs ys, PyData.eqv]
    by_cases e : x = y
    · subst e
      simp
    · have e2 : (x == y) = false := beq_eq_false_iff_ne.mpr e
      simp [e, e2]
theorem words_plain : ∀ xs : List Str, PyData.plainAll (xs.map PyData.str) = true
  | [] => rfl
  | x :: xs => by
    rw [List.map_cons, PyData.plainAll, words_plain xs]
    rfl
theorem dp_words (K : PySem.W.Frag) (H : Hp) : ∀ xs : List Str, DpAll K H (xs.map V.str) (xs.map PyData.str)
  | [] => .nil
  | x :: xs => .cons (.str x) (dp_words K H xs)
theorem dp_tup {K : PySem.W.Frag} {H : Hp} {v : V} {xs : List Str} (h : TupS K H v xs) : Dp K H v (.tuple (xs.map PyData.str)) := by
  obtain ⟨a, rfl, hs⟩ := h.sq
  exact .tup hs (dp_words K H xs)
theorem ev_eqT {xs ys : List Str} (ha : EvP p ta σ H (TupP K xs)) (hb : EvP p tb σ H (TupP K ys)) : EvP p (tOp (rEqP K) ta tb) σ H (IsV (.bl (decide (xs = ys)))) :=
  ev_op ha hb fun H1 x' y' _ hx hy Q q => ⟨_, _, dp_tup hx, dp_tup hy, words_plain xs, words_plain ys, Nat.le_trans (tuple_depth xs) (by decide), q _ H1 (Kp.refl p H1) (by
    show V.bl _ = V.bl _
    rw [PyData.eqv, words_eqv])⟩
theorem ev_neT {xs ys : List Str} (ha : EvP p ta σ H (TupP K xs)) (hb : EvP p tb σ H (TupP K ys)) : EvP p (tOp (rNeT K) ta tb) σ H (IsV (.bl (!decide (xs = ys)))) :=
  ev_op ha hb fun H1 x' y' _ hx hy Q q => ⟨_, _, dp_tup hx, dp_tup hy, words_plain xs, words_plain ys, Nat.le_trans (tuple_depth xs) (by decide), q _ H1 (Kp.refl p H1) (by
    show V.bl _ = V.bl _
    rw [words_eqv])⟩
/-! tests -/
theorem eb_test {b : Bool} (h : EvP p te σ H (IsV (.bl b))) : EvB p (tTest te) σ H b := fun H1 e Q q => h H1 e _ fun x H2 e2 hx => ⟨b, hx, q H2 e2⟩
theorem eb_B {b : Bool} (h : EvP p te σ H (IsV (.bl b))) : EvB p (tB te) σ H b := fun H1 e Q q => h H1 e _ fun x H2 e2 hx => ⟨b, hx, q H2 e2⟩
theorem eb_not {b : Bool} (h : EvB p tt σ H b) : EvB p (tNot tt) σ H (!b) := fun H1 e Q q => h H1 e _ fun H2 e2 => q H2 e2
theorem eb_and {a b : Bool} (h1 : EvB p tt σ H a) (h2 : a = true → EvB p tu σ H b) : EvB p (tAnd tt tu) σ H (a && b) := fun H1 e Q q => h1 H1 e _ fun H2 e2 => by
  cases a with
  | true => exact h2 rfl H2 (e.trans e2) Q fun H3 e3 => q H3 (e2.trans e3)
  | false => exact q H2 e2
theorem eb_or {a b : Bool} (h1 : EvB p tt σ H a) (h2 : a = false → EvB p tu σ H b) : EvB p (tOr tt tu) σ H (a || b) := fun H1 e Q q => h1 H1 e _ fun H2 e2 => by
  cases a with
  | true => exact q H2 e2
  | false => exact h2 rfl H2 (e.trans e2) Q fun H3 e3 => q H3 (e2.trans e3)
theorem eb_is {a b : Bool} (h : EvB p tt σ H a) (e : a = b) : EvB p tt σ H b := by
  rw [← e]
  exact h
theorem ev_and {a b : Bool} (h1 : EvP p ta σ H (IsV (.bl a))) (h2 : a = true → EvP p tb σ H (IsV (.bl b))) : EvP p (tAndV ta tb) σ H (IsV (.bl (a && b))) := fun H1 e Q q =>
  h1 H1 e _ fun x H2 e2 hx => ⟨a, hx, by
    cases a with
    | true => exact h2 rfl H2 (e.trans e2) Q fun v H3 e3 hv => q v H3 (e2.trans e3) hv
    | false => exact q _ H2 e2 rfl⟩
theorem ev_or {a b : Bool} (h1 : EvP p ta σ H (IsV (.bl a))) (h2 : a = false → EvP p tb σ H (IsV (.bl b))) : EvP p (tOrV ta tb) σ H (IsV (.bl (a || b))) := fun H1 e Q q =>
  h1 H1 e _ fun x H2 e2 hx => ⟨a, hx, by
    cases a with
    | true => exact q _ H2 e2 rfl
    | false => exact h2 rfl H2 (e.trans e2) Q fun v H3 e3 hv => q v H3 (e2.trans e3) hv⟩
theorem ev_if {b : Bool} (h : EvB p tt σ H b) (h1 : b = true → EvP p ta σ H P) (h2 : b = false → EvP p tb σ H P) : EvP p (tIf tt ta tb) σ H P := fun H1 e Q q => h H1 e _ fun H2 e2 => by
  cases b with
  | true => exact h1 rfl H2 (e.trans e2) Q fun v H3 e3 hv => q v H3 (e2.trans e3) hv
  | false => exact h2 rfl H2 (e.trans e2) Q fun v H3 e3 hv => q v H3 (e2.trans e3) hv
/-! calls -/
theorem ea_nil : EvA p tNil σ H [] := fun H1 _ Q q => q [] H1 (Kp.refl p H1) .nil
theorem ea_cons [Stay p P] {tr : TA} {Ps : List (Hp → V → Prop)} (h : EvP p ta σ H P) (hr : EvA p tr σ H Ps) : EvA p (tCons ta tr) σ H (P :: Ps) := fun H1 e Q q =>
  h H1 e _ fun x H2 e2 hx => hr H2 (e.trans e2) _ fun vs H3 e3 hv => q _ H3 (e2.trans e3) (.cons (Stay.stay e3 hx) hv)
theorem ev_call {sp : Sp} {E : XK} {tr : TA} {Ps : List (Hp → V → Prop)} (h : EvA p tr σ H Ps) (hs : ∀ H1 vs, Kp p H H1 → ArgsP Ps H1 vs → ∀ Q : VK, (∀ v H2, Kp p H1 H2 → P H2 v → Q v H2) → sp vs H1 Q E) : EvP p (tCall sp [] E tr) σ H P := fun H1 e Q q =>
  h H1 e _ fun vs H2 e2 hv => by
    show sp (vs ++ []) H2 Q E
    rw [List.append_nil]
    exact hs H2 vs (e.trans e2) hv Q fun v H3 e3 h3 => q v H3 (e2.trans e3) h3
theorem ev_cb {r : List V → Hp → VK → Prop} {tr : TA} {Ps : List (Hp → V → Prop)} (h : EvA p tr σ H Ps) (hs : ∀ H1 vs, Kp p H H1 → ArgsP Ps H1 vs → ∀ Q : VK, (∀ v H2, Kp p H1 H2 → P H2 v → Q v H2) → r vs H1 Q) : EvP p (tCB r tr) σ H P := fun H1 e Q q =>
  h H1 e _ fun vs H2 e2 hv => hs H2 vs (e.trans e2) hv Q fun v H3 e3 h3 => q v H3 (e2.trans e3) h3
theorem args1 {vs : List V} (h : ArgsP [P] H vs) : ∃ v, vs = [v] ∧ P H v := by
  cases h with
  | cons a b =>
    cases b
    exact ⟨_, rfl, a⟩
theorem args2 {vs : List V} (h : ArgsP [P, R] H vs) : ∃ v w, vs = [v, w] ∧ P H v ∧ R H w := by
  cases h with
  | cons a b =>
    obtain ⟨w, rfl, hw⟩ := args1 b
    exact ⟨_, w, rfl, a, hw⟩
theorem args3 {vs : List V} (h : ArgsP [P, R, S] H vs) : ∃ u v w, vs = [u, v, w] ∧ P H u ∧ R H v ∧ S H w := by
  cases h with
  | cons a b =>
    obtain ⟨v, w, rfl, hv, hw⟩ := args2 b
    exact ⟨_, v, w, rfl, a, hv, hw⟩
/-! statements -/
variable {D : Ends} {tu' tw tz : TS} {g : TG}
theorem s_set {i : Nat} (h : EvP p te σ H P) (k : ∀ v H1, Kp p H H1 → P H1 v → D.nx (σ.set i (some v)) H1) : tAsg te (gName i) D σ H := h H (Kp.refl p H) _ k
theorem q_set {i : Nat} (h : EvP p te σ H P) (k : ∀ v H1, Kp p H H1 → P H1 v → tz D (σ.set i (some v)) H1) : tSeq (tAsg te (gName i)) tz D σ H := h H (Kp.refl p H) _ k
theorem s_setV {i : Nat} (h : EvP p te σ H (IsV x)) (k : ∀ H1, Kp p H H1 → D.nx (σ.set i (some x)) H1) : tAsg te (gName i) D σ H := h H (Kp.refl p H) _ fun v H1 e hv => by
  have ev : v = x := hv
  subst ev
  exact k H1 e
theorem q_setV {i : Nat} (h : EvP p te σ H (IsV x)) (k : ∀ H1, Kp p H H1 → tz D (σ.set i (some x)) H1) : tSeq (tAsg te (gName i)) tz D σ H := s_setV (D := { D with nx := tz D }) h k
theorem s_ret (h : EvP p te σ H P) (k : ∀ v H1, Kp p H H1 → P H1 v → D.rt v H1) : tRet te D σ H := h H (Kp.refl p H) _ k
theorem s_retV (h : EvP p te σ H (IsV x)) (k : ∀ H1, Kp p H H1 → D.rt x H1) : tRet te D σ H := h H (Kp.refl p H) _ fun v H1 e hv => by
  have ev : v = x := hv
  subst ev
  exact k H1 e
theorem s_drop (h : EvP p te σ H P) (k : ∀ v H1, Kp p H H1 → P H1 v → D.nx σ H1) : tDrop te D σ H := h H (Kp.refl p H) _ k
theorem q_drop (h : EvP p te σ H P) (k : ∀ v H1, Kp p H H1 → P H1 v → tz D σ H1) : tSeq (tDrop te) tz D σ H := h H (Kp.refl p H) _ k
theorem s_if {b : Bool} (h : EvB p tt σ H b) (h1 : b = true → ∀ H1, Kp p H H1 → tu' D σ H1) (h2 : b = false → ∀ H1, Kp p H H1 → tw D σ H1) : tIfS tt tu' tw D σ H := h H (Kp.refl p H) _ fun H1 e => by
  cases b with
  | true => exact h1 rfl H1 e
  | false => exact h2 rfl H1 e
theorem q_if {b : Bool} (h : EvB p tt σ H b) (h1 : b = true → ∀ H1, Kp p H H1 → tu' { D with nx := tz D } σ H1) (h2 : b = false → ∀ H1, Kp p H H1 → tw { D with nx := tz D } σ H1) : tSeq (tIfS tt tu' tw) tz D σ H := s_if (D := { D with nx := tz D }) h h1 h2
/-- the test fails, nothing else -/
theorem q_ifF (h : EvB p tt σ H false) (k : ∀ H1, Kp p H H1 → tz D σ H1) : tSeq (tIfS tt tu' tNext) tz D σ H := q_if h (fun z => nomatch z) fun _ H1 e => k H1 e
theorem s_ifF (h : EvB p tt σ H false) (k : ∀ H1, Kp p H H1 → D.nx σ H1) : tIfS tt tu' tNext D σ H := s_if h (fun z => nomatch z) fun _ H1 e => k H1 e
end
end Tau
set_option maxHeartbeats 2000000
namespace Tau
open PySem PySem.Spec PyProof.Rows L2
/-! what the top leaves, what a def may be called for -/
structure TopF (K : PySem.W.Frag) (mg : Str → Option Value) (C : Addr) : Prop where
  z_isinstance : mg "isinstance" = none
  z_len : mg "len" = none
  z_all : mg "all" = none
  z_sorted : mg "sorted" = none
  z_tuple : mg "tuple" = none
  z_list : mg "list" = none
  z_min : mg "min" = none
  z_max : mg "max" = none
  z_abs : mg "abs" = none
  z_range : mg "range" = none
  z_sum : mg "sum" = none
  z_int : mg "int" = none
  z_dict : mg "dict" = none
  z_str : mg "str" = none
  letters : ∃ t, mg "LETTERS" = some (.str "abcdefghijklmnopqrstuvwxyz" t)
  mostL : ∃ t, mg "MOST_LETTERS" = some (.int 8 t)
  mostR : ∃ t, mg "MOST_RINGS" = some (.int 2000 t)
  mgC : mg "House" = some (.ref C)
  cl : Cls K C
  nR : NoAttr K C "own_rooms"
  nD : NoAttr K C "own_doors"
  nN : NoAttr K C "near"
structure Can (P : Program) (w : World) (K : PySem.W.Frag) (mg : Str → Option Value) (base : Heap) (x : Str) (k : Nat) (ps : List Str) (sp : Sp) : Prop where
  ex : ∃ (f : Addr) (fd : FuncData), FnOk P w K mg base CX0 k f fd ps sp ∧ mg x = some (.ref f) ∧ PySem.W.keepIn K (.ref f) = true ∧ Binds K fd ps []
structure CanM (P : Program) (w : World) (K : PySem.W.Frag) (mg : Str → Option Value) (base : Heap) (C : Addr) (m : Str) (k : Nat) (ps : List Str) (sp : Sp) : Prop where
  ex : ∃ (f : Addr) (fd : FuncData), FnOk P w K mg base CX0 k f fd ps sp ∧ Meth K C m f ∧ Binds K fd ps []
structure CanC (P : Program) (w : World) (K : PySem.W.Frag) (mg : Str → Option Value) (base : Heap) (x : Str) (C : Addr) (k : Nat) (ps : List Str) (sp : Sp) : Prop where
  ex : ∃ (f : Addr) (fd : FuncData), FnOk P w K mg base CX0 k f fd ps sp ∧ Mk K C f ∧ mg x = some (.ref C) ∧ Binds K fd ps []
section
variable {P : Program} {w : World} {K : PySem.W.Frag} {mg : Str → Option Value} {base : Heap}
/-- THE RULE of a def, nothing raised -/
theorem def_ok {x qual : Str} {st : Stmt} {f : Addr} {fd : FuncData} {N ps : List Str} {k : Nat} {sp : Sp} (F : DefIs K x qual st f fd) (S : FnScope N ps (defScope st)) (len : ∀ vs H Q E, sp vs H Q E → vs.length = ps.length)
    (hbody : ∀ (cdv : Value) (A : Around) (outer : List Env) (s : Shared) (H : Hp) (vs : List V) (Q : VK) (E : XK), Room k (A.deeper (envOfC qual (defScope st) s.heap.objs.size f cdv)) → sp vs H Q E →
      ∃ t, PSs (cxOf CX0 P w K mg base N qual (defScope st) f cdv A outer s H E).nox (defBody st) t ∧ t { nx := fun _ H' => Q .non H', rt := Q } (start N vs) H) : FnOk P w K mg base CX0 (k + 1) f fd ps sp :=
  FunD.ok F S len fun cdv A outer s H vs Q E hr hs => by
    obtain ⟨t, h, q⟩ := hbody cdv A outer s H vs Q E hr hs
    exact ⟨t, h.nox, q⟩
theorem can_of {x : Str} {st : Stmt} {f : Addr} {fd : FuncData} {ps : List Str} {k : Nat} {sp : Sp} (F : DefIs K x x st f fd) (g : mg x = some (.ref f))
    (hb : ∀ (kV doc pm : Value) (an : Option Addr) (cdv ct : Value) (us : List Value), us.length = ps.length → bindArgs (PySem.W.fnOf x x (defArgs st) (defBody st) (defScope st) .none kV doc pm an cdv ct) ⟨us, []⟩ = pure (ps.zip us))
    (G : FnOk P w K mg base CX0 k f fd ps sp) : Can P w K mg base x k ps sp := ⟨f, fd, G, g, F.kp, FunD.bindsN F hb⟩
end
section
variable {X : Cx} {x : Str} {k : Nat} {ps : List Str} {sp : Sp} {e : Expr} {es : List Expr} {t : TA} {p pos apos : Pos}
theorem pe_fn (C : Can X.prog X.w X.K X.mg X.base x k ps sp) {j : Nat} (hr : Room j X.A) (hg : Gl X x) (ha : PA X (e :: es) t) (hj : k ≤ j := by decide)
    (hdb : (x == ("__debug__" : Str)) = false := by decide) (he : starEach (e :: es) X.env = (false, eval e X.env) :: starEach es X.env := by rfl) (hpl : (backTo pos (starEach es X.env)).any (·.1) = false := by rfl) : PE X (.Call (.Name x p) (e :: es) [] pos) (tCall sp [] E0 t) := by
  obtain ⟨f, fd, G, hm, hk, hb⟩ := C.ex
  exact pe_call G (hr.mono hj) hg hm hk hb .nil pass0 ha hdb he hpl
variable {C : Addr} {m : Str} {o : Expr} {ta : TE}
theorem pe_mt {pl : Sem Bool} (M : CanM X.prog X.w X.K X.mg X.base C m k ps sp) (c : Cls X.K C) {j : Nat} (hr : Room j X.A) (he : PE X o ta) (ha : PA X (e :: es) t) (hj : k ≤ j := by decide)
    (hst : starEach (e :: es) X.env = (false, eval e X.env) :: starEach es X.env := by rfl) (hpl : (backTo pos (starEach es X.env)).any (·.1) = false := by rfl)
    (ht : eval (.Call (.Attribute o m apos) (e :: es) [] pos) X.env = (do
      let ov ← eval o X.env
      standAt apos.atName
      let (f, first) ← holding [ov] (getMethod ov m pl)
      callWith pos f first (backTo pos (starEach (e :: es) X.env)) (backToKw pos (keywordEach [] X.env))) := by rfl) :
    PE X (.Call (.Attribute o m apos) (e :: es) [] pos) (tMeth C m sp [] E0 ta t) := by
  obtain ⟨f, fd, G, hm, hb⟩ := M.ex
  exact pe_meth he c hm G (hr.mono hj) hb .nil pass0 ha hst hpl ht
theorem pe_mt0 {pl : Sem Bool} (M : CanM X.prog X.w X.K X.mg X.base C m k ps sp) (c : Cls X.K C) {j : Nat} (hr : Room j X.A) (he : PE X o ta) (hj : k ≤ j := by decide)
    (ht : eval (.Call (.Attribute o m apos) [] [] pos) X.env = (do
      let ov ← eval o X.env
      standAt apos.atName
      let (f, first) ← holding [ov] (getMethod ov m pl)
      callWith pos f first (backTo pos (starEach [] X.env)) (backToKw pos (keywordEach [] X.env))) := by rfl) :
    PE X (.Call (.Attribute o m apos) [] [] pos) (tMeth C m sp [] E0 ta tNil) := by
  obtain ⟨f, fd, G, hm, hb⟩ := M.ex
  exact pe_meth0 he c hm G (hr.mono hj) hb .nil pass0 ht
theorem pe_mk (M : CanC X.prog X.w X.K X.mg X.base x C k ps sp) {j : Nat} (hr : Room j X.A) (hg : Gl X x) (ha : PA X (e :: es) t) (hj : k + 1 ≤ j := by decide)
    (hdb : (x == ("__debug__" : Str)) = false := by decide) (he : starEach (e :: es) X.env = (false, eval e X.env) :: starEach es X.env := by rfl) (hpl : (backTo pos (starEach es X.env)).any (·.1) = false := by rfl) : PE X (.Call (.Name x p) (e :: es) [] pos) (tMake C sp [] E0 t) := by
  obtain ⟨f, fd, G, mk, hm, hb⟩ := M.ex
  exact pe_make mk G (hr.mono hj) hg hm hb .nil pass0 ha hdb he hpl
end
end Tau
set_option maxHeartbeats 2000000
namespace Tau
open PySem PySem.Spec PyProof.Rows L2
/-! lists of things told one by one; comprehensions -/
section
variable {p : Addr → Prop} {H H' : Hp} {Ps : List (Hp → V → Prop)} {vs : List V}
theorem ArgsP.up (hP : ∀ P ∈ Ps, Stay p P) (e : Kp p H H') (h : ArgsP Ps H vs) : ArgsP Ps H' vs := by
  induction h with
  | nil => exact .nil
  | cons a b ih => exact .cons ((hP _ (List.mem_cons_self ..)).stay e a) (ih (fun P m => hP P (List.mem_cons_of_mem _ m)) e)
theorem ArgsP.len (h : ArgsP Ps H vs) : vs.length = Ps.length := by
  induction h with
  | nil => rfl
  | cons a b ih => simp [ih]
theorem ArgsP.snoc {P : Hp → V → Prop} {v : V} (h : ArgsP Ps H vs) (hv : P H v) : ArgsP (Ps ++ [P]) H (vs ++ [v]) := by
  induction h with
  | nil => exact .cons hv .nil
  | cons a b ih => exact .cons a (ih hv)
theorem ArgsP.get {i : Nat} {P : Hp → V → Prop} (h : ArgsP Ps H vs) (hi : Ps[i]? = some P) : ∃ v, vs[i]? = some v ∧ P H v := by
  induction h generalizing i with
  | nil => simp at hi
  | cons a b ih =>
    cases i with
    | zero =>
      obtain rfl : _ = P := Option.some.inj hi
      exact ⟨_, rfl, a⟩
    | succ j => exact ih (by simpa using hi)
/-- .. of values that are just these -/
theorem ArgsP.vals {α : Type} {f : α → V} {l : List α} (h : ArgsP (l.map fun a => IsV (f a)) H vs) : vs = l.map f := by
  induction l generalizing vs with
  | nil =>
    cases h
    rfl
  | cons a l ih =>
    rw [List.map_cons] at h
    cases h with
    | cons h1 h2 =>
      have e : _ = f a := h1
      rw [List.map_cons, ← ih h2, e]
theorem ArgsP.words {K : PySem.W.Frag} {l : List (List Str)} (h : ArgsP (l.map (TupP K)) H vs) : ∃ bs : List (V × List Str), vs = bs.map (·.1) ∧ (∀ b ∈ bs, TupS K H b.1 b.2) ∧ bs.map (·.2) = l := by
  induction l generalizing vs with
  | nil =>
    cases h
    exact ⟨[], rfl, fun _ m => absurd m List.not_mem_nil, rfl⟩
  | cons a l ih =>
    rw [List.map_cons] at h
    cases h with
    | cons h1 h2 =>
      obtain ⟨bs, e1, e2, e3⟩ := ih h2
      refine ⟨(_, a) :: bs, by rw [List.map_cons, ← e1], fun b m => ?_, by rw [List.map_cons, e3]⟩
      rcases List.mem_cons.mp m with rfl | m
      · exact h1
      · exact e2 b m
end
/-! words that lean on tuples alone -/
def Kf (H H' : Hp) : Prop := (∀ a xs, H a = some (.tup xs) → H' a = some (.tup xs)) ∧ ∀ a o xs, H a = some (.frz o (.tup xs)) → H' a = some (.frz o (.tup xs))
theorem Kp.firm {p : Addr → Prop} {H H' : Hp} (e : Kp p H H') : Kf H H' := ⟨fun _ _ h => e.tup h, fun _ _ _ h => e.frz h⟩
theorem Kf.put {H : Hp} {D : Addr} {o u : HO} (h : H D = some u) (h1 : ∀ xs, u ≠ .tup xs) (h2 : ∀ ob xs, u ≠ .frz ob (.tup xs)) : Kf H (upd H D o) :=
  ⟨fun a xs e => by rw [upd_ne (ne_of e h fun z => h1 xs z.symm)]; exact e, fun a ob xs e => by rw [upd_ne (ne_of e h fun z => h2 ob xs z.symm)]; exact e⟩
theorem Kf.lst {H : Hp} {D : Addr} {o : HO} {xs : List V} (h : H D = some (.lst xs)) : Kf H (upd H D o) := Kf.put h (fun _ z => nomatch z) (fun _ _ z => nomatch z)
theorem Kf.dk {H : Hp} {D : Addr} {o : HO} {xs : List (Key × V)} (h : H D = some (.dK xs)) : Kf H (upd H D o) := Kf.put h (fun _ z => nomatch z) (fun _ _ z => nomatch z)
theorem Kf.dt {H : Hp} {D : Addr} {o : HO} {xs : List (List Key × V)} (h : H D = some (.dT xs)) : Kf H (upd H D o) := Kf.put h (fun _ z => nomatch z) (fun _ _ z => nomatch z)
theorem Kf.trans {H H1 H2 : Hp} (a : Kf H H1) (b : Kf H1 H2) : Kf H H2 := ⟨fun x xs h => b.1 x xs (a.1 x xs h), fun x o xs h => b.2 x o xs (a.2 x o xs h)⟩
class Firm (P : Hp → V → Prop) : Prop where
  firm : ∀ {H H' : Hp} {v : V}, Kf H H' → P H v → P H' v
theorem Kf.tupS {K : PySem.W.Frag} {H H' : Hp} (e : Kf H H') {v : V} {xs : List Str} (h : TupS K H v xs) : TupS K H' v xs := by
  obtain ⟨a, e1, h⟩ := h
  exact ⟨a, e1, e.1 _ _ h⟩
instance {x : V} : Firm (IsV x) := ⟨fun _ h => h⟩
instance {K : PySem.W.Frag} {xs : List Str} : Firm (TupP K xs) := ⟨fun e h => e.tupS h⟩
theorem ArgsP.keep {H H' : Hp} {Ps : List (Hp → V → Prop)} {vs : List V} (hP : ∀ P ∈ Ps, Firm P) (e : Kf H H') (h : ArgsP Ps H vs) : ArgsP Ps H' vs := by
  induction h with
  | nil => exact .nil
  | cons a b ih => exact .cons ((hP _ (List.mem_cons_self ..)).firm e a) (ih (fun P m => hP P (List.mem_cons_of_mem _ m)) e)
/-- a list that stands in the heap, its items told one by one -/
def LstOf (Ps : List (Hp → V → Prop)) : Hp → V → Prop := fun H v => ∃ a vs, v = .ref a ∧ H a = some (.lst vs) ∧ ArgsP Ps H vs
instance {α : Type} {p : Addr → Prop} {l : List α} {R : α → Hp → V → Prop} [h : ∀ k, Stay p (R k)] : Stay p (LstOf (l.map R)) := ⟨fun e ⟨a, vs, e1, h1, h2⟩ => ⟨a, vs, e1, e.lst h1, h2.up (fun P m => by
  obtain ⟨k, _, rfl⟩ := List.mem_map.mp m
  exact h k) e⟩⟩
/-- sources -/
def VL (K : PySem.W.Frag) (xs : List V) : Hp → V → Prop := fun H v => ∃ a, v = .ref a ∧ SqL K H a xs
def VT (K : PySem.W.Frag) (xs : List V) : Hp → V → Prop := fun H v => ∃ a, v = .ref a ∧ SqT K H a xs
instance {p : Addr → Prop} {K : PySem.W.Frag} {xs : List V} : Stay p (VL K xs) := ⟨fun e ⟨a, e1, h⟩ => ⟨a, e1, e.sl h⟩⟩
instance {p : Addr → Prop} {K : PySem.W.Frag} {xs : List V} : Stay p (VT K xs) := ⟨fun e ⟨a, e1, h⟩ => ⟨a, e1, e.st h⟩⟩
section
variable {p : Addr → Prop} {K : PySem.W.Frag} {σ : L2.St} {H : Hp} {tl te : TE} {tt : TT} {j : Nat} {vs : List Nat}
theorem range_snoc {α : Type} (n : Nat) (f : Nat → Bool) (R : Nat → α) : ((List.range (n + 1)).filter f).map R = ((List.range n).filter f).map R ++ (if f n = true then [R n] else []) := by
  rw [List.range_succ, List.filter_append, List.map_append]
  congr 1
  by_cases h : f n = true
  · simp [h]
  · simp [h]
theorem all_firm {f : Nat → Bool} {R : Nat → Hp → V → Prop} (hR : ∀ i, Firm (R i)) (i : Nat) : ∀ P ∈ ((List.range i).filter f).map R, Firm P := fun P m => by
  obtain ⟨k, _, rfl⟩ := List.mem_map.mp m
  exact hR k
/-- the state of a comprehension: the new list at D holds what the first i turns gave -/
def LcAt (p : Addr → Prop) (f : Nat → Bool) (R : Nat → Hp → V → Prop) (H : Hp) (D : Addr) (i : Nat) (H' : Hp) : Prop := H D = none ∧ Kp p H H' ∧ ∃ acc, H' D = some (.lst acc) ∧ acc.length ≤ i ∧ ArgsP (((List.range i).filter f).map R) H' acc
theorem lc_start {f : Nat → Bool} {R : Nat → Hp → V → Prop} {D : Addr} (h : H D = none) : LcAt p f R H D 0 (upd H D (.lst [])) := ⟨h, Kp.new h, [], upd_same, Nat.le_refl _, .nil⟩
theorem lc_step {f : Nat → Bool} {R : Nat → Hp → V → Prop} {D : Addr} {i : Nat} {H' : Hp} {σ2 : L2.St} (hR : ∀ i, Firm (R i)) (hi : i < 100000) (h : LcAt p f R H D i H') (ht : EvB p tt σ2 H (f i)) (he : f i = true → EvP p te σ2 H (R i)) :
    tt σ2 H' fun b H3 => if b = true then te σ2 H3 fun y H4 => ∃ acc, H4 D = some (.lst acc) ∧ acc.length < sizeLine ∧ LcAt p f R H D (i + 1) (upd H4 D (.lst (acc ++ [y]))) else LcAt p f R H D (i + 1) H3 := by
  obtain ⟨h0, h1, acc, h2, h3, h4⟩ := h
  have all := all_firm (f := f) hR i
  have sn := range_snoc i f R
  refine ht H' h1 _ fun H3 e3 => ?_
  cases hf : f i with
  | false =>
    rw [hf] at sn
    refine iteF ⟨h0, h1.trans e3, acc, e3.lst h2, by omega, ?_⟩
    rw [sn]
    simpa using h4.keep all e3.firm
  | true =>
    rw [hf] at sn
    refine iteT (he hf H3 (h1.trans e3) _ fun y H4 e4 hy => ⟨acc, e4.lst (e3.lst h2), Nat.lt_of_le_of_lt h3 (Nat.lt_trans hi (by decide)), h0, ((h1.trans e3).trans e4).mut h0, acc ++ [y], upd_same, by rw [List.length_append]; simp; omega, ?_⟩)
    rw [sn]
    have base : ArgsP (((List.range i).filter f).map R ++ [R i]) H4 (acc ++ [y]) := (h4.keep all (e3.trans e4).firm).snoc hy
    refine base.keep (fun P m => ?_) (Kf.lst (e4.lst (e3.lst h2)))
    rcases List.mem_append.mp m with m | m
    · exact all P m
    · rw [List.mem_singleton.mp m]
      exact hR i
variable {f : Nat → Bool} {R : Nat → Hp → V → Prop}
/-- [e for x in a list] -/
theorem ev_lcL {xs : List V} (hR : ∀ i, Firm (R i)) (hw : ∀ x, wipe ((wipe σ vs).set j (some x)) vs = wipe σ vs) (hz : xs.length ≤ 100000) (hl : EvP p tl σ H (VL K xs))
    (ht : ∀ (i : Nat) (x : V), xs[i]? = some x → ∀ H1, Kp p H H1 → EvB p tt ((wipe σ vs).set j (some x)) H1 (f i)) (he : ∀ (i : Nat) (x : V), xs[i]? = some x → f i = true → ∀ H1, Kp p H H1 → EvP p te ((wipe σ vs).set j (some x)) H1 (R i)) :
    EvP p (tLc (iList K tl) (gName j) tt te vs) σ H (LstOf (((List.range xs.length).filter f).map R)) := fun H1 e Q q =>
  hl H1 e _ fun v H2 e2 ⟨a, ea, hs⟩ => ⟨a, ea, ⟨xs, hs⟩, fun D hD => lc_list (xs := xs) (LcAt p f R H2 D) (lc_start hD) (fun i H' _ h => h.2.1.sl hs)
    (fun i x H' hx h => ⟨hw x, lc_step hR (by have := (List.getElem?_eq_some_iff.mp hx).1; omega) h (ht i x hx H2 (e.trans e2)) fun hf => he i x hx hf H2 (e.trans e2)⟩)
    fun H' ⟨_, h1, acc, h2, _, h4⟩ => q _ H' (e2.trans h1) ⟨D, acc, rfl, h2, h4⟩⟩
/-- .. in a tuple -/
theorem ev_lcT {xs : List V} (hR : ∀ i, Firm (R i)) (hw : ∀ x, wipe ((wipe σ vs).set j (some x)) vs = wipe σ vs) (hz : xs.length ≤ 100000) (hl : EvP p tl σ H (VT K xs))
    (ht : ∀ (i : Nat) (x : V), xs[i]? = some x → ∀ H1, Kp p H H1 → EvB p tt ((wipe σ vs).set j (some x)) H1 (f i)) (he : ∀ (i : Nat) (x : V), xs[i]? = some x → f i = true → ∀ H1, Kp p H H1 → EvP p te ((wipe σ vs).set j (some x)) H1 (R i)) :
    EvP p (tLc (iTup K tl) (gName j) tt te vs) σ H (LstOf (((List.range xs.length).filter f).map R)) := fun H1 e Q q =>
  hl H1 e _ fun v H2 e2 ⟨a, ea, hs⟩ => ⟨a, ea, ⟨xs, hs⟩, fun D hD => lc_it (walk_tup (K := K) (a := a) (xs := xs)) (LcAt p f R H2 D) (lc_start hD) (fun i H' _ h => h.2.1.st hs)
    (fun i x H' H'' hi h y => by
      obtain ⟨rfl, hx⟩ := y
      exact ⟨hw x, lc_step hR (by omega) h (ht i x hx H2 (e.trans e2)) fun hf => he i x hx hf H2 (e.trans e2)⟩)
    fun H' ⟨_, h1, acc, h2, _, h4⟩ => q _ H' (e2.trans h1) ⟨D, acc, rfl, h2, h4⟩⟩
/-- .. in range(n), range(m, n) -/
theorem ev_lcR1 {ta : TA} {n : Nat} (hR : ∀ i, Firm (R i)) (hw : ∀ x, wipe ((wipe σ vs).set j (some x)) vs = wipe σ vs) (hz : n ≤ 100000) (hl : EvA p ta σ H [IsV (.int (n : Int))])
    (ht : ∀ (i : Nat), i < n → ∀ H1, Kp p H H1 → EvB p tt ((wipe σ vs).set j (some (.int (i : Int)))) H1 (f i)) (he : ∀ (i : Nat), i < n → f i = true → ∀ H1, Kp p H H1 → EvP p te ((wipe σ vs).set j (some (.int (i : Int)))) H1 (R i)) :
    EvP p (tLc (iRng1 ta) (gName j) tt te vs) σ H (LstOf (((List.range n).filter f).map R)) := fun H1 e Q q =>
  hl H1 e _ fun us H2 e2 ha => by
    obtain ⟨v, rfl, ev⟩ := args1 ha
    have ev : v = .int (n : Int) := ev
    subst ev
    refine ⟨(n : Int), rfl, by omega, by omega, fun D hD => ?_⟩
    refine lc_it (walk_range (lo := 0) (n := (n : Int).toNat)) (LcAt p f R H2 D) (lc_start hD) (fun _ _ _ _ => trivial) (fun i x H' H'' hi h y => ?_) fun H' h => ?_
    · obtain ⟨rfl, ex⟩ := y
      have ex : x = .int (i : Int) := by
        rw [ex]
        show V.int ((0 : Int) + (i : Int)) = V.int (i : Int)
        rw [show (0 : Int) + (i : Int) = (i : Int) by omega]
      subst ex
      exact ⟨hw _, lc_step hR (by omega) h (ht i (by omega) H2 (e.trans e2)) fun hf => he i (by omega) hf H2 (e.trans e2)⟩
    · rw [Int.toNat_natCast] at h
      obtain ⟨_, h1, acc, h2, _, h4⟩ := h
      exact q _ H' (e2.trans h1) ⟨D, acc, rfl, h2, h4⟩
theorem ev_lcR2 {ta : TA} {m n : Nat} (hR : ∀ i, Firm (R i)) (hw : ∀ x, wipe ((wipe σ vs).set j (some x)) vs = wipe σ vs) (hm : m ≤ 100000) (hz : n ≤ 100000) (hl : EvA p ta σ H [IsV (.int (m : Int)), IsV (.int (n : Int))])
    (ht : ∀ (i : Nat), m + i < n → ∀ H1, Kp p H H1 → EvB p tt ((wipe σ vs).set j (some (.int ((m + i : Nat) : Int)))) H1 (f i)) (he : ∀ (i : Nat), m + i < n → f i = true → ∀ H1, Kp p H H1 → EvP p te ((wipe σ vs).set j (some (.int ((m + i : Nat) : Int)))) H1 (R i)) :
    EvP p (tLc (iRng2 ta) (gName j) tt te vs) σ H (LstOf (((List.range (n - m)).filter f).map R)) := fun H1 e Q q =>
  hl H1 e _ fun us H2 e2 ha => by
    obtain ⟨v, w, rfl, ev, ew⟩ := args2 ha
    have ev : v = .int (m : Int) := ev
    have ew : w = .int (n : Int) := ew
    subst ev ew
    refine ⟨(m : Int), (n : Int), rfl, ⟨by omega, by omega, by omega, by omega⟩, fun D hD => ?_⟩
    have en : ((n : Int) - (m : Int)).toNat = n - m := by omega
    rw [en]
    refine lc_it (walk_range (lo := (m : Int)) (n := n - m)) (LcAt p f R H2 D) (lc_start hD) (fun _ _ _ _ => trivial) (fun i x H' H'' hi h y => ?_) fun H' h => ?_
    · obtain ⟨rfl, ex⟩ := y
      have ex : x = .int ((m + i : Nat) : Int) := by
        rw [ex]
        show V.int ((m : Int) + (i : Int)) = V.int ((m + i : Nat) : Int)
        rw [show (m : Int) + (i : Int) = ((m + i : Nat) : Int) by omega]
      subst ex
      exact ⟨hw _, lc_step hR (by omega) h (ht i (by omega) H2 (e.trans e2)) fun hf => he i (by omega) hf H2 (e.trans e2)⟩
    · obtain ⟨_, h1, acc, h2, _, h4⟩ := h
      exact q _ H' (e2.trans h1) ⟨D, acc, rfl, h2, h4⟩
/-- .. in a text -/
theorem ev_lcS {z : Str} (hR : ∀ i, Firm (R i)) (hw : ∀ x, wipe ((wipe σ vs).set j (some x)) vs = wipe σ vs) (hz : z.length ≤ 100000) (hl : EvP p tl σ H (IsV (.str z)))
    (ht : ∀ (i c : Nat), z.cps[i]? = some c → ∀ H1, Kp p H H1 → EvB p tt ((wipe σ vs).set j (some (.str ⟨#[c]⟩))) H1 (f i)) (he : ∀ (i c : Nat), z.cps[i]? = some c → f i = true → ∀ H1, Kp p H H1 → EvP p te ((wipe σ vs).set j (some (.str ⟨#[c]⟩))) H1 (R i)) :
    EvP p (tLc (iStr tl) (gName j) tt te vs) σ H (LstOf (((List.range z.cps.size).filter f).map R)) := fun H1 e Q q =>
  hl H1 e _ fun v H2 e2 ev => ⟨z, ev, fun D hD => lc_it (walk_str (z := z)) (LcAt p f R H2 D) (lc_start hD) (fun _ _ _ _ => trivial)
    (fun i x H' H'' hi h y => by
      obtain ⟨rfl, c, hc, rfl⟩ := y
      have hz' : z.cps.size ≤ 100000 := hz
      exact ⟨hw _, lc_step hR (by omega) h (ht i c hc H2 (e.trans e2)) fun hf => he i c hc hf H2 (e.trans e2)⟩)
    fun H' ⟨_, h1, acc, h2, _, h4⟩ => q _ H' (e2.trans h1) ⟨D, acc, rfl, h2, h4⟩⟩
theorem eb_yes : EvB p tYes σ H true := fun H1 _ Q q => q H1 (Kp.refl p H1)
end
end Tau
set_option maxHeartbeats 2000000
namespace Tau
open PySem PySem.Spec PyProof.Rows L2
/-! loops; things that are lists or tuples -/
def iSeq (K : PySem.W.Frag) (tl : TE) : TI := fun σ H R => tl σ H fun x H1 => ∃ a xs, x = .ref a ∧ ((SqL K H1 a xs ∧ R (Itl K a) H1) ∨ (SqT K H1 a xs ∧ R (Itt K a) H1))
theorem pi_seq {X : Cx} {tg l : Expr} {tl : TE} (hl : PE X l tl) : PI X tg l (iSeq X.K tl) := by
  refine ⟨fun pins s σ H R I h => thn (hl.run pins s σ H _ I h) fun v s1 ⟨x, H1, I1, r1, a, xs, e, q⟩ => ?_⟩
  subst e
  cases r1
  rcases q with ⟨hq, q⟩ | ⟨hq, q⟩
  · obtain ⟨its, rv, pl, hz⟩ := I1.list hq
    exact wpAny_pyIter_list pl.isList (pi_one (tk := s1.toks) I1 _ (turn_list a _) ⟨_, Heap.get?_push_size _ rfl, rfl, rfl⟩ q)
  · obtain ⟨its, rv, pl, hz⟩ := I1.tuple hq
    exact wpAny_pyIter_tuple (show s1.heap.IsTuple a its.toArray from pl) (pi_one (tk := s1.toks) I1 _ (turn_tuple a _) ⟨_, Heap.get?_push_size _ rfl, rfl, rfl⟩ q)
section
variable {p : Addr → Prop} {K : PySem.W.Frag} {σ : L2.St} {H : Hp} {tl te : TE} {tt : TT} {tu tz : TS} {D : Ends} {j : Nat} {vs : List Nat} {a : Addr} {xs : List V} {g : TG}
theorem s_forL {H0 : Hp} (hs : SqL K H0 a xs) (e0 : Kp p H0 H) (hl : EvP p tl σ H (IsV (.ref a))) (Pv : Nat → L2.St → Hp → Prop) (h0 : ∀ H1, Kp p H H1 → Pv 0 σ H1) (hk : ∀ i σ' H', Pv i σ' H' → Kp p H0 H')
    (ht : ∀ i x σ' H', xs[i]? = some x → Pv i σ' H' → g x σ' H' fun σ2 H2 => tu { D with nx := Pv (i + 1), ct := Pv (i + 1), bk := D.nx } σ2 H2) (hd : ∀ σ' H', Pv xs.length σ' H' → D.nx σ' H') : tFor (iList K tl) g tu D σ H :=
  hl H (Kp.refl p H) _ fun x H1 e ex => ⟨a, ex, ⟨xs, (e0.trans e).sl hs⟩, for_list Pv (h0 H1 e) (fun i σ' H' _ h => (hk i σ' H' h).sl hs) ht hd⟩
theorem s_forT {H0 : Hp} (hs : SqT K H0 a xs) (e0 : Kp p H0 H) (hl : EvP p tl σ H (IsV (.ref a))) (Pv : Nat → L2.St → Hp → Prop) (h0 : ∀ H1, Kp p H H1 → Pv 0 σ H1) (hk : ∀ i σ' H', Pv i σ' H' → Kp p H0 H')
    (ht : ∀ i x σ' H', xs[i]? = some x → Pv i σ' H' → g x σ' H' fun σ2 H2 => tu { D with nx := Pv (i + 1), ct := Pv (i + 1), bk := D.nx } σ2 H2) (hd : ∀ σ' H', Pv xs.length σ' H' → D.nx σ' H') : tFor (iTup K tl) g tu D σ H :=
  hl H (Kp.refl p H) _ fun x H1 e ex => ⟨a, ex, ⟨xs, (e0.trans e).st hs⟩, for_tup Pv (h0 H1 e) (fun i σ' H' _ h => (hk i σ' H' h).st hs) ht hd⟩
theorem s_forQ {H0 : Hp} (hs : SqL K H0 a xs ∨ SqT K H0 a xs) (e0 : Kp p H0 H) (hl : EvP p tl σ H (IsV (.ref a))) (Pv : Nat → L2.St → Hp → Prop) (h0 : ∀ H1, Kp p H H1 → Pv 0 σ H1) (hk : ∀ i σ' H', Pv i σ' H' → Kp p H0 H')
    (ht : ∀ i x σ' H', xs[i]? = some x → Pv i σ' H' → g x σ' H' fun σ2 H2 => tu { D with nx := Pv (i + 1), ct := Pv (i + 1), bk := D.nx } σ2 H2) (hd : ∀ σ' H', Pv xs.length σ' H' → D.nx σ' H') : tFor (iSeq K tl) g tu D σ H :=
  hl H (Kp.refl p H) _ fun x H1 e ex => ⟨a, xs, ex, by
    rcases hs with hs | hs
    · exact .inl ⟨(e0.trans e).sl hs, for_list Pv (h0 H1 e) (fun i σ' H' _ h => (hk i σ' H' h).sl hs) ht hd⟩
    · exact .inr ⟨(e0.trans e).st hs, for_tup Pv (h0 H1 e) (fun i σ' H' _ h => (hk i σ' H' h).st hs) ht hd⟩⟩
theorem q_forL {H0 : Hp} (hs : SqL K H0 a xs) (e0 : Kp p H0 H) (hl : EvP p tl σ H (IsV (.ref a))) (Pv : Nat → L2.St → Hp → Prop) (h0 : ∀ H1, Kp p H H1 → Pv 0 σ H1) (hk : ∀ i σ' H', Pv i σ' H' → Kp p H0 H')
    (ht : ∀ i x σ' H', xs[i]? = some x → Pv i σ' H' → g x σ' H' fun σ2 H2 => tu { D with nx := Pv (i + 1), ct := Pv (i + 1), bk := tz D } σ2 H2) (hd : ∀ σ' H', Pv xs.length σ' H' → tz D σ' H') : tSeq (tFor (iList K tl) g tu) tz D σ H :=
  s_forL (D := { D with nx := tz D }) hs e0 hl Pv h0 hk ht hd
theorem q_forT {H0 : Hp} (hs : SqT K H0 a xs) (e0 : Kp p H0 H) (hl : EvP p tl σ H (IsV (.ref a))) (Pv : Nat → L2.St → Hp → Prop) (h0 : ∀ H1, Kp p H H1 → Pv 0 σ H1) (hk : ∀ i σ' H', Pv i σ' H' → Kp p H0 H')
    (ht : ∀ i x σ' H', xs[i]? = some x → Pv i σ' H' → g x σ' H' fun σ2 H2 => tu { D with nx := Pv (i + 1), ct := Pv (i + 1), bk := tz D } σ2 H2) (hd : ∀ σ' H', Pv xs.length σ' H' → tz D σ' H') : tSeq (tFor (iTup K tl) g tu) tz D σ H :=
  s_forT (D := { D with nx := tz D }) hs e0 hl Pv h0 hk ht hd
theorem q_forQ {H0 : Hp} (hs : SqL K H0 a xs ∨ SqT K H0 a xs) (e0 : Kp p H0 H) (hl : EvP p tl σ H (IsV (.ref a))) (Pv : Nat → L2.St → Hp → Prop) (h0 : ∀ H1, Kp p H H1 → Pv 0 σ H1) (hk : ∀ i σ' H', Pv i σ' H' → Kp p H0 H')
    (ht : ∀ i x σ' H', xs[i]? = some x → Pv i σ' H' → g x σ' H' fun σ2 H2 => tu { D with nx := Pv (i + 1), ct := Pv (i + 1), bk := tz D } σ2 H2) (hd : ∀ σ' H', Pv xs.length σ' H' → tz D σ' H') : tSeq (tFor (iSeq K tl) g tu) tz D σ H :=
  s_forQ (D := { D with nx := tz D }) hs e0 hl Pv h0 hk ht hd
/-- over range(n), range(m, n) -/
theorem s_forR1 {ta : TA} {n : Nat} (hz : n ≤ 100000) (hl : EvA p ta σ H [IsV (.int (n : Int))]) (Pv : Nat → L2.St → Hp → Prop) (h0 : ∀ H1, Kp p H H1 → Pv 0 σ H1)
    (ht : ∀ (i : Nat) σ' H', i < n → Pv i σ' H' → g (.int (i : Int)) σ' H' fun σ2 H2 => tu { D with nx := Pv (i + 1), ct := Pv (i + 1), bk := D.nx } σ2 H2) (hd : ∀ σ' H', Pv n σ' H' → D.nx σ' H') : tFor (iRng1 ta) g tu D σ H :=
  hl H (Kp.refl p H) _ fun us H1 e hv => by
    obtain ⟨v, rfl, ev⟩ := args1 hv
    have ev : v = .int (n : Int) := ev
    subst ev
    refine ⟨(n : Int), rfl, by omega, by omega, for_range (lo := 0) (n := (n : Int).toNat) Pv (h0 H1 e) (fun i σ' H' hi h => ?_) fun σ' H' h => hd σ' H' ?_⟩
    · rw [show (0 : Int) + (i : Int) = (i : Int) by omega]
      exact ht i σ' H' (by omega) h
    · rw [Int.toNat_natCast] at h
      exact h
theorem s_forR2 {ta : TA} {m n : Nat} (hm : m ≤ 100000) (hz : n ≤ 100000) (hl : EvA p ta σ H [IsV (.int (m : Int)), IsV (.int (n : Int))]) (Pv : Nat → L2.St → Hp → Prop) (h0 : ∀ H1, Kp p H H1 → Pv 0 σ H1)
    (ht : ∀ (i : Nat) σ' H', m + i < n → Pv i σ' H' → g (.int ((m + i : Nat) : Int)) σ' H' fun σ2 H2 => tu { D with nx := Pv (i + 1), ct := Pv (i + 1), bk := D.nx } σ2 H2) (hd : ∀ σ' H', Pv (n - m) σ' H' → D.nx σ' H') : tFor (iRng2 ta) g tu D σ H :=
  hl H (Kp.refl p H) _ fun us H1 e hv => by
    obtain ⟨v, w, rfl, ev, ew⟩ := args2 hv
    have ev : v = .int (m : Int) := ev
    have ew : w = .int (n : Int) := ew
    subst ev ew
    refine ⟨(m : Int), (n : Int), rfl, ⟨by omega, by omega, by omega, by omega⟩, for_range (lo := (m : Int)) (n := ((n : Int) - (m : Int)).toNat) Pv (h0 H1 e) (fun i σ' H' hi h => ?_) fun σ' H' h => hd σ' H' ?_⟩
    · rw [show (m : Int) + (i : Int) = ((m + i : Nat) : Int) by omega]
      exact ht i σ' H' (by omega) h
    · rw [show ((n : Int) - (m : Int)).toNat = n - m by omega] at h
      exact h
theorem q_forR1 {ta : TA} {n : Nat} (hz : n ≤ 100000) (hl : EvA p ta σ H [IsV (.int (n : Int))]) (Pv : Nat → L2.St → Hp → Prop) (h0 : ∀ H1, Kp p H H1 → Pv 0 σ H1)
    (ht : ∀ (i : Nat) σ' H', i < n → Pv i σ' H' → g (.int (i : Int)) σ' H' fun σ2 H2 => tu { D with nx := Pv (i + 1), ct := Pv (i + 1), bk := tz D } σ2 H2) (hd : ∀ σ' H', Pv n σ' H' → tz D σ' H') : tSeq (tFor (iRng1 ta) g tu) tz D σ H :=
  s_forR1 (D := { D with nx := tz D }) hz hl Pv h0 ht hd
theorem q_forR2 {ta : TA} {m n : Nat} (hm : m ≤ 100000) (hz : n ≤ 100000) (hl : EvA p ta σ H [IsV (.int (m : Int)), IsV (.int (n : Int))]) (Pv : Nat → L2.St → Hp → Prop) (h0 : ∀ H1, Kp p H H1 → Pv 0 σ H1)
    (ht : ∀ (i : Nat) σ' H', m + i < n → Pv i σ' H' → g (.int ((m + i : Nat) : Int)) σ' H' fun σ2 H2 => tu { D with nx := Pv (i + 1), ct := Pv (i + 1), bk := tz D } σ2 H2) (hd : ∀ σ' H', Pv (n - m) σ' H' → tz D σ' H') : tSeq (tFor (iRng2 ta) g tu) tz D σ H :=
  s_forR2 (D := { D with nx := tz D }) hm hz hl Pv h0 ht hd
/-! a comprehension over a thing that is a list or a tuple -/
variable {f : Nat → Bool} {R : Nat → Hp → V → Prop}
def VQ (K : PySem.W.Frag) (xs : List V) : Hp → V → Prop := fun H v => ∃ a, v = .ref a ∧ (SqL K H a xs ∨ SqT K H a xs)
instance {p : Addr → Prop} {K : PySem.W.Frag} {xs : List V} : Stay p (VQ K xs) := ⟨fun e ⟨a, e1, h⟩ => ⟨a, e1, h.imp e.sl e.st⟩⟩
theorem ev_lcQ {xs : List V} (hR : ∀ i, Firm (R i)) (hw : ∀ x, wipe ((wipe σ vs).set j (some x)) vs = wipe σ vs) (hz : xs.length ≤ 100000) (hl : EvP p tl σ H (VQ K xs))
    (ht : ∀ (i : Nat) (x : V), xs[i]? = some x → ∀ H1, Kp p H H1 → EvB p tt ((wipe σ vs).set j (some x)) H1 (f i)) (he : ∀ (i : Nat) (x : V), xs[i]? = some x → f i = true → ∀ H1, Kp p H H1 → EvP p te ((wipe σ vs).set j (some x)) H1 (R i)) :
    EvP p (tLc (iSeq K tl) (gName j) tt te vs) σ H (LstOf (((List.range xs.length).filter f).map R)) := fun H1 e Q q =>
  hl H1 e _ fun v H2 e2 ⟨a, ea, hs⟩ => ⟨a, xs, ea, by
    have turn : ∀ (D : Addr) (i : Nat) (x : V) (H' : Hp), xs[i]? = some x → LcAt p f R H2 D i H' → wipe ((wipe σ vs).set j (some x)) vs = wipe σ vs ∧ tt ((wipe σ vs).set j (some x)) H' fun b H3 => if b = true then te ((wipe σ vs).set j (some x)) H3 fun y H4 => ∃ acc, H4 D = some (.lst acc) ∧ acc.length < sizeLine ∧ LcAt p f R H2 D (i + 1) (upd H4 D (.lst (acc ++ [y]))) else LcAt p f R H2 D (i + 1) H3 :=
      fun D i x H' hx h => ⟨hw x, lc_step hR (by have := (List.getElem?_eq_some_iff.mp hx).1; omega) h (ht i x hx H2 (e.trans e2)) fun hf => he i x hx hf H2 (e.trans e2)⟩
    rcases hs with hs | hs
    · exact .inl ⟨hs, fun D hD => lc_list (xs := xs) (LcAt p f R H2 D) (lc_start hD) (fun i H' _ h => h.2.1.sl hs) (turn D) fun H' ⟨_, h1, acc, h2, _, h4⟩ => q _ H' (e2.trans h1) ⟨D, acc, rfl, h2, h4⟩⟩
    · exact .inr ⟨hs, fun D hD => lc_it (walk_tup (K := K) (a := a) (xs := xs)) (LcAt p f R H2 D) (lc_start hD) (fun i H' _ h => h.2.1.st hs)
        (fun i x H' H'' hi h y => by
          obtain ⟨rfl, hx⟩ := y
          exact turn D i x _ hx h) fun H' ⟨_, h1, acc, h2, _, h4⟩ => q _ H' (e2.trans h1) ⟨D, acc, rfl, h2, h4⟩⟩⟩
/-! calls of what Gives -/
def Gives (Ps : List (Hp → V → Prop)) (C : Prop) (R : Hp → V → Prop) (vs : List V) (H : Hp) (Q : VK) : Prop := C ∧ ArgsP Ps H vs ∧ ∀ v H', Kp no H H' → R H' v → Q v H'
theorem ev_fn {sp : Sp} {E : XK} {ta : TA} {Ps : List (Hp → V → Prop)} {C : Prop} {S : Hp → V → Prop} (hs : ∀ vs H Q, Gives Ps C S vs H Q → sp vs H Q E) (ha : EvA p ta σ H Ps) (hc : C) : EvP p (tCall sp [] E ta) σ H S :=
  ev_call ha fun H1 vs _ hv Q q => hs vs H1 Q ⟨hc, hv, fun v H' e h => q v H' e.any h⟩
theorem ev_mt {sp : Sp} {E : XK} {to : TE} {ta : TA} {C : Addr} {m : Str} {Ps : List (Hp → V → Prop)} {Cd : Prop} {S : Hp → V → Prop} {x : V} (hs : ∀ vs H Q, Gives (IsV x :: Ps) Cd S vs H Q → sp vs H Q E)
    (ho : EvP p to σ H (IsV x)) (hi : ∀ H1, Kp p H H1 → ∃ a dx fs, x = .ref a ∧ H1 a = some (.ins C dx fs) ∧ fs.lookup m = none) (ha : EvA p ta σ H Ps) (hc : Cd) : EvP p (tMeth C m sp [] E to ta) σ H S := fun H1 e Q q =>
  ho H1 e _ fun y H2 e2 hy => by
    have ey : y = x := hy
    subst ey
    obtain ⟨a, dx, fs, e1, h1, h2⟩ := hi H2 (e.trans e2)
    refine ⟨a, dx, fs, e1, h1, h2, ha H2 (e.trans e2) _ fun vs H3 e3 hv => ?_⟩
    rw [List.append_nil]
    exact hs _ H3 Q ⟨hc, .cons rfl hv, fun v H' e4 h => q v H' ((e2.trans e3).trans e4.any) h⟩
end
end Tau
set_option maxHeartbeats 2000000
namespace Tau
open PySem PySem.Spec PyProof.Rows L2
/-! dicts, fields, sorted, tuple(..), list(..) -/
section
variable {p : Addr → Prop} {K : PySem.W.Frag} {σ : L2.St} {H : Hp} {td ty tx tv te to : TE} {tz : TS} {D : Ends} {a d : Addr} {y v : V} {P : Hp → V → Prop}
theorem ev_din {o : Option V} (hy : EvP p ty σ H (IsV y)) (hd : EvP p td σ H (IsV (.ref a))) (hg : ∀ H1, Kp p H H1 → DGet H1 a y o) : EvP p (tDIn ty td) σ H (IsV (.bl o.isSome)) := fun H1 e Q q =>
  hy H1 e _ fun y' H2 e2 h2 => hd H2 (e.trans e2) _ fun x' H3 e3 h3 => by
    have e1 : y' = y := h2
    subst e1
    exact ⟨a, o, h3, hg H3 ((e.trans e2).trans e3), q _ H3 (e2.trans e3) rfl⟩
theorem ev_dnotin {o : Option V} (hy : EvP p ty σ H (IsV y)) (hd : EvP p td σ H (IsV (.ref a))) (hg : ∀ H1, Kp p H H1 → DGet H1 a y o) : EvP p (tDNotIn ty td) σ H (IsV (.bl (!o.isSome))) := fun H1 e Q q =>
  hy H1 e _ fun y' H2 e2 h2 => hd H2 (e.trans e2) _ fun x' H3 e3 h3 => by
    have e1 : y' = y := h2
    subst e1
    exact ⟨a, o, h3, hg H3 ((e.trans e2).trans e3), q _ H3 (e2.trans e3) rfl⟩
/-- the key any value of which P holds (a tuple): what the dict holds there is told by the value -/
theorem ev_dinP [Stay p P] {b : Bool} (hy : EvP p ty σ H P) (hd : EvP p td σ H (IsV (.ref a))) (hg : ∀ H1 y, Kp p H H1 → P H1 y → ∃ o, DGet H1 a y o ∧ o.isSome = b) : EvP p (tDIn ty td) σ H (IsV (.bl b)) := fun H1 e Q q =>
  hy H1 e _ fun y' H2 e2 h2 => hd H2 (e.trans e2) _ fun x' H3 e3 h3 => by
    obtain ⟨o, g, eb⟩ := hg H3 y' ((e.trans e2).trans e3) (Stay.stay e3 h2)
    exact ⟨a, o, h3, g, q _ H3 (e2.trans e3) (by rw [eb]; rfl)⟩
theorem ev_dget (hd : EvP p td σ H (IsV (.ref a))) (hy : EvP p ty σ H (IsV y)) (hg : ∀ H1, Kp p H H1 → DGet H1 a y (some v)) : EvP p (tDGet td ty) σ H (IsV v) := fun H1 e Q q =>
  hd H1 e _ fun x' H2 e2 h2 => hy H2 (e.trans e2) _ fun y' H3 e3 h3 => by
    have e1 : y' = y := h3
    subst e1
    exact ⟨a, v, h2, hg H3 ((e.trans e2).trans e3), q _ H3 (e2.trans e3) rfl⟩
theorem ev_dget2 {o : Option V} (hd : EvP p td σ H (IsV (.ref a))) (hy : EvP p ty σ H (IsV y)) (hx : EvP p tx σ H (IsV v)) (hi : ∀ H1, Kp p H H1 → IsD H1 a) (hg : ∀ H1, Kp p H H1 → DGet H1 a y o) : EvP p (tDGet2 td ty tx) σ H (IsV (o.getD v)) := fun H1 e Q q =>
  hd H1 e _ fun x' H2 e2 h2 => ⟨a, h2, hi H2 (e.trans e2), hy H2 (e.trans e2) _ fun y' H3 e3 h3 => hx H3 ((e.trans e2).trans e3) _ fun z H4 e4 h4 => by
    have e1 : y' = y := h3
    have e2' : z = v := h4
    subst e1 e2'
    exact ⟨o, hg H4 (((e.trans e2).trans e3).trans e4), q _ H4 ((e2.trans e3).trans e4) rfl⟩⟩
theorem ev_fld {x : V} {C dx : Addr} {f : Str} {fs : List (Str × V)} (h : EvP p te σ H (IsV x)) (hi : ∀ H1, Kp p H H1 → ∃ a, x = .ref a ∧ H1 a = some (.ins C dx fs)) (c : Cls K C) (n : NoAttr K C f) (l : fs.lookup f = some v) : EvP p (tFld K te f) σ H (IsV v) := fun H1 e Q q =>
  h H1 e _ fun x' H2 e2 h2 => by
    obtain ⟨a, ea, ha⟩ := hi H2 (e.trans e2)
    have e1 : x' = x := h2
    subst e1
    exact ⟨a, C, dx, fs, v, ea, ha, c, n, l, q v H2 e2 rfl⟩
/-- sorted of texts; tuple, list of a thing -/
def SortP (ss : List Str) : Hp → V → Prop := fun H v => ∃ (a : Addr) (ys : List Str), v = .ref a ∧ ys.Perm ss ∧ H a = some (.lst (ys.map V.str))
instance {ss : List Str} : Stay p (SortP ss) := ⟨fun e ⟨a, ys, e1, h1, h2⟩ => ⟨a, ys, e1, h1, e.lst h2⟩⟩
theorem ev_srtS {ss : List Str} (h : EvP p te σ H (VQ K (ss.map V.str))) (hz : ss.length ≤ 1000) : EvP p (tCB (rSrtS K) (tCons te tNil)) σ H (SortP ss) := fun H1 e Q q =>
  h H1 e _ fun x H2 e2 ⟨a, ea, hs⟩ => ⟨a, ss, by rw [ea], hs, hz, fun ys z pm hz => q _ _ (e2.trans (Kp.new hz)) ⟨z, ys, rfl, pm, upd_same⟩⟩
def tupR (K : PySem.W.Frag) : List V → Hp → VK → Prop := fun xs H Q => ∃ p ys, xs = [.ref p] ∧ ((SqL K H p ys ∧ ∀ l, H l = none → Q (.ref l) (upd H l (.tup ys))) ∨ (SqT K H p ys ∧ Q (.ref p) H))
theorem ev_tupL {xs : List Str} (h : EvP p te σ H (LstP K xs)) : EvP p (tCB (tupR K) (tCons te tNil)) σ H (TupP K xs) := fun H1 e Q q =>
  h H1 e _ fun x H2 e2 ⟨a, ea, hs⟩ => ⟨a, _, by rw [ea], .inl ⟨hs, fun z hz => q _ _ (e2.trans (Kp.new hz)) ⟨z, rfl, upd_same⟩⟩⟩
theorem crK {X : Cx} {K : PySem.W.Frag} {v : Value} {r : PySem.W.Frag → List V → Hp → VK → Prop} (h : CallR X v (r X.K)) (hK : X.K = K) : CallR X v (r K) := by
  subst hK
  exact h
theorem opK {X : Cx} {K : PySem.W.Frag} {o : Value → Value → Sem Value} {r : PySem.W.Frag → R2} (h : OpR X o (r X.K)) (hK : X.K = K) : OpR X o (r K) := by
  subst hK
  exact h
theorem ixK {X : Cx} {K : PySem.W.Frag} {r : PySem.W.Frag → R2} (h : IxR X (r X.K)) (hK : X.K = K) : IxR X (r K) := by
  subst hK
  exact h
theorem slK {X : Cx} {K : PySem.W.Frag} {r : PySem.W.Frag → V → Option Int → Option Int → Hp → VK → Prop} (h : L2.SlR X (r X.K)) (hK : X.K = K) : L2.SlR X (r K) := by
  subst hK
  exact h
theorem pg_tupK {X : Cx} {K : PySem.W.Frag} {es : List Expr} {k : Nat} {t : TGs} {n : Nat} {pos : Pos} (hK : X.K = K) (hc : X.calm = true) (h : PGs X es t)
    (hn : (assignEach es X.env).length = n := by rfl) (hst : (assignEach es X.env).findIdx? (·.1) = none := by rfl) : PG X (.Tuple es k pos) (gTup K n t) := by
  subst hK
  exact pg_tup hc h hn hst
theorem pi_listK {X : Cx} {K : PySem.W.Frag} {tg l : Expr} {tl : TE} (hK : X.K = K) (hl : PE X l tl) : PI X tg l (iList K tl) := by
  subst hK
  exact pi_list hl
theorem pi_tupK {X : Cx} {K : PySem.W.Frag} {tg l : Expr} {tl : TE} (hK : X.K = K) (hl : PE X l tl) : PI X tg l (iTup K tl) := by
  subst hK
  exact pi_tup hl
theorem pe_fldK {X : Cx} {K : PySem.W.Frag} {e : Expr} {ta : TE} {f : Str} {pos : Pos} (hK : X.K = K) (he : PE X e ta) (hb : attributeBase e f X.env (eval e X.env) = eval e X.env) : PE X (.Attribute e f pos) (tFld K ta f) := by
  subst hK
  exact pe_fld he hb
/-- tuple * k -/
def rRepA (K : PySem.W.Frag) : R2 := fun x y H Q => rRep1 K x y H Q ∨ rRepT K x y H Q
/-- tuple(sorted(x)) -/
def PermT (K : PySem.W.Frag) (ss : List Str) : Hp → V → Prop := fun H v => ∃ ys : List Str, ys.Perm ss ∧ TupS K H v ys
instance {ss : List Str} : Stay p (PermT K ss) := ⟨fun e ⟨ys, h1, h2⟩ => ⟨ys, h1, e.tupS h2⟩⟩
instance {ss : List Str} : Firm (PermT K ss) := ⟨fun e ⟨ys, h1, h2⟩ => ⟨ys, h1, e.tupS h2⟩⟩
theorem ev_tupSort {ss : List Str} (h : EvP p te σ H (SortP ss)) : EvP p (tCB (tupR K) (tCons te tNil)) σ H (PermT K ss) := fun H1 e Q q =>
  h H1 e _ fun x H2 e2 ⟨a, ys, ea, pm, hs⟩ => ⟨a, _, by rw [ea], .inl ⟨.inl (.inl hs), fun z hz => q _ _ (e2.trans (Kp.new hz)) ⟨ys, pm, z, rfl, upd_same⟩⟩⟩
def lstR (K : PySem.W.Frag) : List V → Hp → VK → Prop := fun xs H Q => ∃ p ys, xs = [.ref p] ∧ (SqL K H p ys ∨ SqT K H p ys) ∧ ∀ l, H l = none → Q (.ref l) (upd H l (.lst ys))
/-- a list that stands in the heap, of just these -/
def NewL (xs : List V) : Hp → V → Prop := fun H v => ∃ a, v = .ref a ∧ H a = some (.lst xs)
instance {xs : List V} : Stay p (NewL xs) := ⟨fun e ⟨a, e1, h⟩ => ⟨a, e1, e.lst h⟩⟩
theorem ev_listOf {xs : List V} (h : EvP p te σ H (VQ K xs)) : EvP p (tCB (lstR K) (tCons te tNil)) σ H (NewL xs) := fun H1 e Q q =>
  h H1 e _ fun x H2 e2 ⟨a, ea, hs⟩ => ⟨a, _, by rw [ea], hs, fun z hz => q _ _ (e2.trans (Kp.new hz)) ⟨z, rfl, upd_same⟩⟩
theorem ev_lst0 : EvP p (tLst tNil) σ H (NewL []) := fun H1 e Q q => ⟨Nat.zero_le _, fun z hz => q _ _ (Kp.new hz) ⟨z, rfl, upd_same⟩⟩
theorem ev_dnewK : EvP p tDNewK σ H (fun H v => ∃ a, v = .ref a ∧ H a = some (.dK [])) := fun H1 e Q q z hz => q _ _ (Kp.new hz) ⟨z, rfl, upd_same⟩
/-- a new list at its place -/
theorem q_lst0 {i : Nat} (k : ∀ z, H z = none → tz D (σ.set i (some (.ref z))) (upd H z (.lst []))) : tSeq (tAsg (tLst tNil) (gName i)) tz D σ H := ⟨Nat.zero_le _, fun z hz => k z hz⟩
theorem q_dnewK {i : Nat} (k : ∀ z, H z = none → tz D (σ.set i (some (.ref z))) (upd H z (.dK []))) : tSeq (tAsg tDNewK (gName i)) tz D σ H := fun z hz => k z hz
theorem q_dnewT {i : Nat} (k : ∀ z, H z = none → tz D (σ.set i (some (.ref z))) (upd H z (.dT []))) : tSeq (tAsg tDNewT (gName i)) tz D σ H := fun z hz => k z hz
/-- d[k] = v -/
theorem s_dputK {k : Key} {kvs : List (Key × V)} (hv : EvP p tv σ H (IsV v)) (hd : EvP p td σ H (IsV (.ref a))) (hy : EvP p ty σ H (IsV (kV k))) (hh : ∀ H1, Kp p H H1 → H1 a = some (.dK kvs)) (hz : kvs.length < 100000)
    (kk : ∀ H1, Kp p H H1 → D.nx σ (upd H1 a (.dK (putK kvs k v)))) : sDPut td ty tv D σ H :=
  hv H (Kp.refl p H) _ fun v' H1 e1 h1 => hd H1 e1 _ fun x H2 e2 h2 => hy H2 (e1.trans e2) _ fun y' H3 e3 h3 => by
    have ev : v' = v := h1
    have ey : y' = kV k := h3
    subst ev ey
    exact ⟨a, _, h2, DPut.k (hh H3 ((e1.trans e2).trans e3)) (Nat.lt_trans hz (by decide)), kk H3 ((e1.trans e2).trans e3)⟩
theorem s_dputT [Stay p P] {kvs : List (List Key × V)} (hv : EvP p tv σ H (IsV v)) (hd : EvP p td σ H (IsV (.ref a))) (hy : EvP p ty σ H P) (hh : ∀ H1, Kp p H H1 → H1 a = some (.dT kvs)) (hz : kvs.length < 100000)
    (hp : ∀ H1 y, Kp p H H1 → P H1 y → ∃ (b : Addr) (k : List Key), y = .ref b ∧ H1 b = some (.tup (k.map kV)) ∧ D.nx σ (upd H1 a (.dT (putK kvs k v)))) : sDPut td ty tv D σ H :=
  hv H (Kp.refl p H) _ fun v' H1 e1 h1 => hd H1 e1 _ fun x H2 e2 h2 => hy H2 (e1.trans e2) _ fun y' H3 e3 h3 => by
    have ev : v' = v := h1
    subst ev
    obtain ⟨b, k, ey, hb, kk⟩ := hp H3 y' ((e1.trans e2).trans e3) h3
    subst ey
    exact ⟨a, _, h2, DPut.t (hh H3 ((e1.trans e2).trans e3)) hb (Nat.lt_trans hz (by decide)), kk⟩
/-- xs.append(e) -/
theorem s_app {xs : List V} (ho : EvP p to σ H (IsV (.ref a))) (hv : EvP p te σ H P) (hh : ∀ H1, Kp p H H1 → H1 a = some (.lst xs)) (hz : xs.length < 100000) (k : ∀ v H1, Kp p H H1 → P H1 v → D.nx σ (upd H1 a (.lst (xs ++ [v])))) :
    tDrop (tBM K "list" rAppend to (tCons te tNil)) D σ H :=
  ho H (Kp.refl p H) _ fun x H1 e1 h1 => by
    have ex : x = .ref a := h1
    subst ex
    exact ⟨.inl ⟨rfl, xs, .inl (.inl (hh H1 e1))⟩, hv H1 e1 _ fun v H2 e2 h2 => ⟨a, xs, v, rfl, rfl, hh H2 (e1.trans e2), Nat.lt_trans hz (by decide), k v H2 (e1.trans e2) h2⟩⟩
theorem q_app {xs : List V} (ho : EvP p to σ H (IsV (.ref a))) (hv : EvP p te σ H P) (hh : ∀ H1, Kp p H H1 → H1 a = some (.lst xs)) (hz : xs.length < 100000) (k : ∀ v H1, Kp p H H1 → P H1 v → tz D σ (upd H1 a (.lst (xs ++ [v])))) :
    tSeq (tDrop (tBM K "list" rAppend to (tCons te tNil))) tz D σ H := s_app (D := { D with nx := tz D }) ho hv hh hz k
end
end Tau
set_option maxHeartbeats 4000000
namespace Tau
open PySem PySem.Spec PyProof.Rows L2
/-! is_listing, is_name, bad_names -/
/-- a name: one to eight small letters -/
def NameOk (x : Str) : Prop := 1 ≤ x.length ∧ x.length ≤ 8 ∧ ∀ c ∈ x.cps.toList, 97 ≤ c ∧ c ≤ 122
/-- at a stands a list or a tuple of these -/
def SeqH (H : Hp) (a : Addr) (xs : List V) : Prop := H a = some (.lst xs) ∨ H a = some (.tup xs) ∨ ∃ o, H a = some (.frz o (.tup xs))
theorem SeqH.sq {K : PySem.W.Frag} {H : Hp} {a : Addr} {xs : List V} (h : SeqH H a xs) : SqL K H a xs ∨ SqT K H a xs := by
  rcases h with h | h | ⟨o, h⟩
  · exact .inl (.inl (.inl h))
  · exact .inr (.inl (.inl h))
  · exact .inr (.inl (.inr ⟨o, h⟩))
theorem Kp.sh {p : Addr → Prop} {H H' : Hp} {a : Addr} {xs : List V} (e : Kp p H H') (h : SeqH H a xs) : SeqH H' a xs := by
  rcases h with h | h | ⟨o, h⟩
  · exact .inl (e.lst h)
  · exact .inr (.inl (e.tup h))
  · exact .inr (.inr ⟨o, e.frz h⟩)
def ListingP : Hp → V → Prop := fun H v => ∃ a xs, v = .ref a ∧ SeqH H a xs
instance {p : Addr → Prop} : Stay p ListingP := ⟨fun e ⟨a, xs, e1, h⟩ => ⟨a, xs, e1, e.sh h⟩⟩
theorem kit_seq1 (K : PySem.W.Frag) : PySem.W.kitAny K (.type "list") [.type "list", .type "tuple"] = some true := by
  rw [PySem.W.kitAny, kit_ty (r := true) (by decide +kernel)]
theorem kit_seq2 (K : PySem.W.Frag) : PySem.W.kitAny K (.type "tuple") [.type "list", .type "tuple"] = some true := by
  rw [PySem.W.kitAny, kit_ty (r := false) (by decide +kernel)]
  show PySem.W.kitAny K (.type "tuple") [.type "tuple"] = some true
  rw [PySem.W.kitAny, kit_ty (r := true) (by decide +kernel)]
theorem kit_str (K : PySem.W.Frag) : PySem.W.kitOne K (.type "str") (.type "str") = some true := kit_ty (by decide +kernel)
section
variable {P : Program} {w : World} {K : PySem.W.Frag} {mg : Str → Option Value} {base : Heap} {C : Addr}
def spIsListing : Sp := fun vs H Q _ => Gives [ListingP] True (IsV (.bl true)) vs H Q
theorem scIsListing : FnScope ["thing"] ["thing"] (defScope sIsListing) := ⟨rfl, rfl, rfl, by decide +kernel, rfl, by decide +kernel, by decide +kernel⟩
theorem ok_is_listing {f : Addr} {fd : FuncData} (F : DefIs K "is_listing" "is_listing" sIsListing f fd) (T : TopF K mg C) : FnOk P w K mg base CX0 1 f fd ["thing"] spIsListing := by
  refine def_ok F scIsListing (fun vs H Q E h => ?_) (fun cdv A outer s H vs Q E hr h => ?_)
  · obtain ⟨_, ha, _⟩ := h
    obtain ⟨v, rfl, _⟩ := args1 ha
    rfl
  · obtain ⟨_, ha, q⟩ := h
    obtain ⟨v, rfl, a, xs, rfl, hs⟩ := args1 ha
    refine ⟨_, (pss_one (ps_ret (pe_callB (id := "isinstance") call_isiT (by rfl) T.z_isinstance (by decide +kernel) (pa_cons (pv 0) (pa_cons (pe_tup (pa_cons (pe_bltn (v := .ty "list") (u := .type "list") rfl T.z_list (by decide +kernel) rfl) (pa_cons (pe_bltn (v := .ty "tuple") (u := .type "tuple") rfl T.z_tuple (by decide +kernel) rfl) pa_nil))) pa_nil))))), ?_⟩
    refine ⟨.ref a, rfl, (by show 2 ≤ sizeLine; decide), fun z hz => ?_⟩
    have k := Kp.new (p := no) (o := .tup [.ty "list", .ty "tuple"]) hz
    rcases k.sh hs with h | h | ⟨o, h⟩
    · exact ⟨.ref a, z, _, .type "list", [.type "list", .type "tuple"], true, rfl, upd_same, .cons (.ty _) (.cons (.ty _) .nil), .base (.lst h), kit_seq1 _, q _ _ k rfl⟩
    · exact ⟨.ref a, z, _, .type "tuple", [.type "list", .type "tuple"], true, rfl, upd_same, .cons (.ty _) (.cons (.ty _) .nil), .base (.tup h), kit_seq2 _, q _ _ k rfl⟩
    · exact ⟨.ref a, z, _, .type "tuple", [.type "list", .type "tuple"], true, rfl, upd_same, .cons (.ty _) (.cons (.ty _) .nil), .fTuple h, kit_seq2 _, q _ _ k rfl⟩
/-! is_name -/
theorem name_line {x : Str} (h : NameOk x) : x.length ≤ sizeLine := Nat.le_trans h.2.1 (by decide)
theorem letter_in {c : Nat} (h : 97 ≤ c ∧ c ≤ 122) : c ∈ (("abcdefghijklmnopqrstuvwxyz" : Str)).cps.toList := by
  have e : (("abcdefghijklmnopqrstuvwxyz" : Str)).cps.toList = [97, 98, 99, 100, 101, 102, 103, 104, 105, 106, 107, 108, 109, 110, 111, 112, 113, 114, 115, 116, 117, 118, 119, 120, 121, 122] := by decide +kernel
  rw [e]
  obtain ⟨h1, h2⟩ := h
  simp only [List.mem_cons, List.not_mem_nil, or_false]
  omega
def spIsName : Sp := fun vs H Q _ => ∃ x, Gives [IsV (.str x)] (NameOk x) (IsV (.bl true)) vs H Q
theorem scIsName : FnScope ["thing", "sign"] ["thing"] (defScope sIsName) := ⟨rfl, rfl, rfl, by decide +kernel, rfl, by decide +kernel, by decide +kernel⟩
theorem ok_is_name {f : Addr} {fd : FuncData} (F : DefIs K "is_name" "is_name" sIsName f fd) (T : TopF K mg C) : FnOk P w K mg base CX0 1 f fd ["thing"] spIsName := by
  refine def_ok F scIsName (fun vs H Q E h => ?_) (fun cdv A outer s H vs Q E hr h => ?_)
  · obtain ⟨_, _, ha, _⟩ := h
    obtain ⟨v, rfl, _⟩ := args1 ha
    rfl
  · obtain ⟨x, hx, ha, q⟩ := h
    obtain ⟨v, rfl, ev⟩ := args1 ha
    have ev : v = .str x := ev
    subst ev
    obtain ⟨_, hLetters⟩ := T.letters
    obtain ⟨_, hMostL⟩ := T.mostL
    refine ⟨_, (pss_cons (ps_if (PW.pt (pw_or (pt_not (pt_val (pe_callB (id := "isinstance") call_isi (by rfl) T.z_isinstance (by decide +kernel) (pa_cons (pv 0) (pa_cons (pe_bltn (v := .ty "str") (u := .type "str") rfl T.z_str (by decide +kernel) rfl) pa_nil))))) (pw_or1 (pt_not (pt_chain op_le op_le pe_int (pe_callB (id := "len") call_len_str (by rfl) T.z_len (by decide +kernel) (pa_cons (pv 0) pa_nil)) (pe_glob (v := .int 8) rfl hMostL ⟨_, rfl⟩))))))
        (pss_one (ps_ret pe_bl))
        pss_nil)
      (pss_one (ps_ret (pe_callB (id := "all") (cr_all rfl) (by rfl) T.z_all (by decide +kernel) (pa_cons (pe_lc (own := [("sign", 1)]) rfl scIsName.nd (pi_str (pv 0)) (blkOk_by (own := [("sign", 1)]) (N := ["thing", "sign"]) (sc := defScope sIsName) (by decide +kernel)) (fun _ _ _ _ _ => (pg_name (i := 1) scIsName.nd rfl (.inl rfl))) (fun _ _ _ _ _ => pts_nil) (fun _ _ _ _ _ => (pe_cmpR op_in_sign (pv 1) (pe_glob (v := .str "abcdefghijklmnopqrstuvwxyz") rfl hLetters ⟨_, rfl⟩) (by rfl)))) pa_nil))))), ?_⟩
    refine q_ifF (p := no) ?_ fun H1 e1 => ?_
    · refine eb_is (a := false || !true) (eb_or (eb_is (a := !true) (eb_not (eb_B ?_)) rfl) fun _ => eb_not (eb_test ?_)) rfl
      · exact fun H1 e Q q => ⟨.str x, rfl, .str x, .ty "str", .type "str", .type "str", true, rfl, .ty _, .base (.str x), kit_str _, q _ H1 (Kp.refl no H1) rfl⟩
      · refine fun H1 e Q q => ⟨.str x, rfl, x, rfl, name_line hx, 1, _, rfl, rfl, true, ?_, iteT ⟨_, 8, rfl, rfl, q _ H1 (Kp.refl no H1) ?_⟩⟩
        · show V.bl (decide ((1 : Int) ≤ (x.length : Int))) = V.bl true
          rw [decide_eq_true (by have := hx.1; omega)]
        · show V.bl (decide ((x.length : Int) ≤ 8)) = V.bl true
          rw [decide_eq_true (by have := hx.2.1; omega)]
    · refine s_retV (p := no) (x := .bl true) (ev_cb (ea_cons (P := LstOf (((List.range x.cps.size).filter fun _ => true).map fun _ => IsV (.bl true))) (ev_lcS (z := x) (fun _ => inferInstance) (fun _ => rfl) (Nat.le_trans hx.2.1 (by decide)) (ev_val rfl) (fun _ _ _ _ _ => eb_yes) fun i c hc _ H2 e2 => ?_) ea_nil) fun H2 vs e2 hv Q q => ?_) fun H2 e2 => q _ H2 (e1.trans e2) rfl
      · have hc2 : c ∈ x.cps.toList := by
          rw [← Array.getElem?_toList] at hc
          exact List.mem_of_getElem? hc
        exact ev_op (P := IsV (.str ⟨#[c]⟩)) (R := IsV (.str "abcdefghijklmnopqrstuvwxyz")) (ev_val rfl) ev_c fun H3 u v _ hu hv Q q => ⟨c, _, hu, hv, q _ H3 (Kp.refl no H3) (by
          show V.bl _ = V.bl true
          rw [decide_eq_true (letter_in (hx.2.2 c hc2))])⟩
      · obtain ⟨v, rfl, a, ys, rfl, hs, hy⟩ := args1 hv
        have ey := hy.vals (f := fun _ : Nat => V.bl true)
        subst ey
        refine ⟨a, ((List.range x.cps.size).filter fun _ => true).map fun _ => true, rfl, .inl (.inl ?_), q _ H2 (Kp.refl no H2) ?_⟩
        · rw [List.map_map]
          exact hs
        · show V.bl _ = V.bl true
          rw [List.all_map]
          congr 1
          exact List.all_eq_true.mpr fun _ _ => rfl
end
end Tau
set_option maxHeartbeats 4000000
namespace Tau
open PySem PySem.Spec PyProof.Rows L2
/-! bad_names, is_pair, bad_pairs, pairs_of -/
/-- at v stands a list or a tuple of these -/
def SqP (xs : List V) : Hp → V → Prop := fun H v => ∃ a, v = .ref a ∧ SeqH H a xs
instance {p : Addr → Prop} {xs : List V} : Stay p (SqP xs) := ⟨fun e ⟨a, e1, h⟩ => ⟨a, e1, e.sh h⟩⟩
theorem SqP.listing {xs : List V} {H : Hp} {v : V} (h : SqP xs H v) : ListingP H v := by
  obtain ⟨a, e, h⟩ := h
  exact ⟨a, xs, e, h⟩
section
variable {p : Addr → Prop} {σ : L2.St} {H : Hp} {te : TE}
theorem ev_listing {xs : List V} (h : EvP p te σ H (SqP xs)) : EvP p (tCall spIsListing [] E0 (tCons te tNil)) σ H (IsV (.bl true)) :=
  ev_fn (Ps := [ListingP]) (C := True) (fun vs H Q g => g) (ea_cons (h.imp fun _ _ _ g => g.listing) ea_nil) trivial
theorem ev_name {x : Str} (h : EvP p te σ H (IsV (.str x))) (hx : NameOk x) : EvP p (tCall spIsName [] E0 (tCons te tNil)) σ H (IsV (.bl true)) :=
  ev_fn (Ps := [IsV (.str x)]) (C := NameOk x) (fun vs H Q g => ⟨x, g⟩) (ea_cons h ea_nil) hx
theorem ev_lenQ {K : PySem.W.Frag} {xs : List V} (ha : EvP p te σ H (VQ K xs)) : EvP p (tCB (lenR K) (tCons te tNil)) σ H (IsV (.int (xs.length : Int))) := fun H1 e Q q =>
  ha H1 e _ fun x H2 e2 ⟨a, ea, hs⟩ => ⟨a, xs, by rw [ea], hs, q _ H2 e2 rfl⟩
end
section
variable {p : Addr → Prop} {K : PySem.W.Frag} {σ : L2.St} {H : Hp} {ta tb te : TE}
theorem ev_all {α : Type} {l : List α} (h : EvP p te σ H (LstOf (l.map fun _ => IsV (.bl true)))) : EvP p (tCB (rAll K) (tCons te tNil)) σ H (IsV (.bl true)) := fun H1 e Q q =>
  h H1 e _ fun x H2 e2 ⟨a, ys, ex, hs, hy⟩ => by
    have ey := hy.vals (f := fun _ : α => V.bl true)
    subst ey
    refine ⟨a, l.map fun _ => true, by rw [ex], .inl (.inl ?_), q _ H2 e2 ?_⟩
    · rw [List.map_map]
      exact hs
    · show V.bl _ = V.bl true
      rw [List.all_map]
      congr 1
      exact List.all_eq_true.mpr fun _ _ => rfl
theorem inV_words (s : Str) : ∀ ss : List Str, inV (.str s) (ss.map V.str) = decide (s ∈ ss)
  | [] => by simp [inV]
  | t :: ss => by
    have ih := inV_words s ss
    unfold inV at ih ⊢
    rw [List.map_cons, List.any_cons, ih]
    by_cases e : t = s
    · subst e
      simp [eqV]
    · have e2 : s ≠ t := fun z => e z.symm
      simp [eqV, e, e2]
theorem flat_words (ss : List Str) : (ss.map V.str).all flatV = true := by
  rw [List.all_map]
  exact List.all_eq_true.mpr fun _ _ => rfl
theorem ev_inQ {s : Str} {ss : List Str} (ha : EvP p ta σ H (IsV (.str s))) (hb : EvP p tb σ H (VQ K (ss.map V.str))) : EvP p (tOp (rIn K false) ta tb) σ H (IsV (.bl (decide (s ∈ ss)))) :=
  ev_op ha hb fun H1 x' y' _ hx ⟨a, ea, hs⟩ Q q => by
    have ex : x' = .str s := hx
    subst ex
    refine ⟨a, _, ea, hs, rfl, flat_words ss, q _ H1 (Kp.refl p H1) ?_⟩
    show V.bl (if false = true then _ else inV (.str s) (ss.map V.str)) = _
    rw [if_neg (by decide), inV_words]
theorem ev_ixQ {xs : List V} {i : Int} {v : V} (ha : EvP p ta σ H (VQ K xs)) (hb : EvP p tb σ H (IsV (.int i))) (h : atI xs i = some v) : EvP p (tOp (rIx K) ta tb) σ H (IsV v) :=
  ev_op ha hb fun H1 x' y' _ ⟨a, ea, hs⟩ hy Q q => by
    have ey : y' = .int i := hy
    subst ea ey
    rcases hs with hs | hs
    · exact .inl ⟨a, xs, i, v, rfl, rfl, hs, h, q _ H1 (Kp.refl p H1) rfl⟩
    · exact .inr (.inl ⟨a, xs, i, v, rfl, rfl, hs, h, q _ H1 (Kp.refl p H1) rfl⟩)
theorem tup_vq {xs : List Str} {H : Hp} {v : V} (h : TupS K H v xs) : VQ K (xs.map V.str) H v := by
  obtain ⟨a, e, h⟩ := h.sq
  exact ⟨a, e, .inr h⟩
end
theorem sq_vq {K : PySem.W.Frag} {xs : List V} {H : Hp} {v : V} (h : SqP xs H v) : VQ K xs H v := by
  obtain ⟨a, e, h⟩ := h
  exact ⟨a, e, h.sq⟩
theorem valV_fresh {kvs : List (Key × V)} {xs : List Str} {x : Str} (h : kvs.map (·.1) = xs.map Sum.inr) (hx : x ∉ xs) : valV kvs (Sum.inr x) = none := by
  cases e : valV kvs (Sum.inr x) with
  | none => rfl
  | some v =>
    have m := valV_in e
    rw [h] at m
    obtain ⟨y, hy, ey⟩ := List.mem_map.mp m
    rw [Sum.inr.inj ey] at hy
    exact absurd hy hx
theorem nodup_take {α : Type} {xs : List α} (h : xs.Nodup) {i : Nat} (hi : i < xs.length) : xs[i] ∉ xs.take i := fun m => by
  obtain ⟨j, hj, e⟩ := List.mem_take_iff_getElem.mp m
  have hj2 : j < i := by omega
  have := (List.getElem_inj h).mp e
  omega
section
variable {P : Program} {w : World} {K : PySem.W.Frag} {mg : Str → Option Value} {base : Heap} {C : Addr}
def spBadNames : Sp := fun vs H Q _ => ∃ xs, Gives [SqP (xs.map V.str)] (xs ≠ [] ∧ xs.Nodup ∧ xs.length ≤ 1000 ∧ ∀ x ∈ xs, NameOk x) (NewL []) vs H Q
theorem scBadNames : FnScope ["things", "found", "thing"] ["things"] (defScope sBadNames) := ⟨rfl, rfl, rfl, by decide +kernel, rfl, by decide +kernel, by decide +kernel⟩
theorem ok_bad_names {f : Addr} {fd : FuncData} (F : DefIs K "bad_names" "bad_names" sBadNames f fd) (T : TopF K mg C) (C_IsListing : Can P w K mg base "is_listing" 1 ["thing"] spIsListing) (C_IsName : Can P w K mg base "is_name" 1 ["thing"] spIsName) :
    FnOk P w K mg base CX0 2 f fd ["things"] spBadNames := by
  refine def_ok F scBadNames (fun vs H Q E h => ?_) (fun cdv A outer s H vs Q E hr h => ?_)
  · obtain ⟨_, _, ha, _⟩ := h
    obtain ⟨v, rfl, _⟩ := args1 ha
    rfl
  · obtain ⟨xs, ⟨hne, hnd, hlen, hok⟩, ha, q⟩ := h
    obtain ⟨v, rfl, a, rfl, hs⟩ := args1 ha
    have hu := hu_of hr
    refine ⟨_, (pss_cons (ps_if (pt_not (pt_val (pe_fn C_IsListing hr rfl (pa_cons (pv 0) pa_nil))))
        (pss_one (ps_ret (pe_lst (pa_cons (pv 0) pa_nil))))
        pss_nil)
      (pss_cons (ps_if (pt_cmpR op_eq (pe_callB (id := "len") (crK (r := lenR) (K := K) call_len_seq rfl) (by rfl) T.z_len (by decide +kernel) (pa_cons (pv 0) pa_nil)) pe_int (nomark _))
        (pss_one (ps_ret (pe_lst (pa_cons (pe_tup pa_nil) pa_nil))))
        pss_nil)
      (pss_cons (ps_set (i := 1) scBadNames.nd rfl (.inl rfl) pe_dnewK)
      (pss_cons (ps_for PassesOwn.never rfl (pi_seq (pv 0)) (pg_name (i := 2) scBadNames.nd rfl (.inl rfl))
        (pss_cons (ps_if (PW.pt (pw_or (pt_not (pt_val (pe_fn C_IsName hr rfl (pa_cons (pv 2) pa_nil)))) (pw_or1 (pt_cmp (pc_din hu (pv 2) (pv 1))))))
          (pss_one (ps_ret (pe_lst (pa_cons (pv 2) pa_nil))))
          pss_nil)
        (pss_one (ps_dput hu (pv 1) (pv 2) pe_bl rfl))))
      (pss_one (ps_ret (pe_lst pa_nil))))))), ?_⟩
    have arg : ∀ {σ : L2.St} {H' : Hp}, σ[0]? = some (some (.ref a)) → Kp no H H' → EvP no (tVar 0) σ H' (SqP (xs.map V.str)) := fun h0 e => ev_var h0 ⟨a, rfl, e.sh hs⟩
    refine q_ifF (eb_is (a := !true) (eb_not (eb_B (ev_listing (arg rfl (Kp.refl no H))))) rfl) fun H1 e1 => ?_
    refine q_ifF (eb_is (eb_test (ev_eq (ev_lenQ ((arg rfl e1).imp fun _ _ _ g => sq_vq g)) ev_c rfl)) ?_) fun H2 e2 => ?_
    · rw [List.length_map]
      refine decide_eq_false fun z => ?_
      have z2 : (xs.length : Int) = 0 := V.int.inj z
      exact hne (List.eq_nil_of_length_eq_zero (by omega))
    refine q_dnewK fun d hd => ?_
    have e3 : Kp no H (upd H2 d (.dK [])) := (e1.trans e2).trans (Kp.new hd)
    have d0 : H d = none := (e1.trans e2).free hd
    refine q_forQ (p := no) (a := a) (xs := xs.map V.str) (H0 := H) hs.sq e3 (ev_val rfl) (fun i σ H' => ∃ y, σ = [some (.ref a), some (.ref d), y] ∧ Kp no H H' ∧ ∃ kvs, H' d = some (.dK kvs) ∧ kvs.map (·.1) = (xs.take i).map Sum.inr) (fun H4 e4 => ?_) (fun i σ' H' h => ?_) (fun i x σ' H' hx h => ?_) (fun σ' H' h => ?_)
    · exact ⟨none, rfl, e3.trans e4, [], e4.at upd_same, rfl⟩
    · obtain ⟨_, _, e, _⟩ := h
      exact e
    · obtain ⟨y, rfl, e4, kvs, hD, hk⟩ := h
      have hi : i < xs.length := by
        have := (List.getElem?_eq_some_iff.mp hx).1
        rw [List.length_map] at this
        exact this
      have ex : x = .str xs[i] := by
        rw [List.getElem?_map, List.getElem?_eq_getElem hi] at hx
        exact (Option.some.inj hx).symm
      subst ex
      have fresh : valV kvs (Sum.inr xs[i]) = none := valV_fresh hk (nodup_take hnd hi)
      show tSeq _ _ _ [some (.ref a), some (.ref d), some (.str xs[i])] H'
      refine q_ifF (p := no) (eb_is (a := !true || (none : Option V).isSome) (eb_or (eb_not (eb_B (ev_name (ev_val rfl) (hok _ (List.getElem_mem hi))))) fun _ => eb_B (ev_din (y := kV (Sum.inr xs[i])) (ev_val rfl) (ev_val rfl) fun H5 e5 => ?_)) rfl) fun H5 e5 => ?_
      · rw [← fresh]
        exact DGet.k (e5.at hD)
      · refine s_dputK (p := no) (k := Sum.inr xs[i]) (kvs := kvs) ev_c (ev_val rfl) (ev_val rfl) (fun H6 e6 => (e5.trans e6).at hD) ?_ fun H6 e6 => ⟨some (.str xs[i]), rfl, ((e4.trans e5).trans e6).mut d0, _, upd_same, ?_⟩
        · have e := congrArg List.length hk
          rw [List.length_map, List.length_map, List.length_take] at e
          omega
        · rw [putK_new _ fresh, List.map_append, hk, ← List.take_append_getElem hi, List.map_append]
          rfl
    · obtain ⟨y, rfl, e4, _⟩ := h
      exact s_ret (p := no) ev_lst0 fun v H5 e5 hv => q v H5 (e4.trans e5) hv
def spIsPair (K : PySem.W.Frag) : Sp := fun vs H Q _ => ∃ rooms s t, Gives [TupP K rooms, SqP [.str s, .str t]] (NameOk s ∧ NameOk t ∧ s ∈ rooms ∧ t ∈ rooms ∧ s ≠ t) (IsV (.bl true)) vs H Q
theorem scIsPair : FnScope ["names", "thing", "one"] ["names", "thing"] (defScope sIsPair) := ⟨rfl, rfl, rfl, by decide +kernel, rfl, by decide +kernel, by decide +kernel⟩
theorem ok_is_pair {f : Addr} {fd : FuncData} (F : DefIs K "is_pair" "is_pair" sIsPair f fd) (T : TopF K mg C) (C_IsListing : Can P w K mg base "is_listing" 1 ["thing"] spIsListing) (C_IsName : Can P w K mg base "is_name" 1 ["thing"] spIsName) :
    FnOk P w K mg base CX0 2 f fd ["names", "thing"] (spIsPair K) := by
  refine def_ok F scIsPair (fun vs H Q E h => ?_) (fun cdv A outer s H vs Q E hr h => ?_)
  · obtain ⟨_, _, _, _, ha, _⟩ := h
    obtain ⟨v, w, rfl, _, _⟩ := args2 ha
    rfl
  · obtain ⟨rooms, s, t, ⟨hs, ht, ms, mt, hne⟩, ha, q⟩ := h
    obtain ⟨nv, v, rfl, hn, hv⟩ := args2 ha
    refine ⟨_, (pss_cons (ps_if (PW.pt (pw_or (pt_not (pt_val (pe_fn C_IsListing hr rfl (pa_cons (pv 1) pa_nil)))) (pw_or (pt_cmpR op_ne (pe_callB (id := "len") (crK (r := lenR) (K := K) call_len_seq rfl) (by rfl) T.z_len (by decide +kernel) (pa_cons (pv 1) pa_nil)) pe_int (nomark _)) (pw_or1 (pt_not (pt_val (pe_callB (id := "all") (cr_all rfl) (by rfl) T.z_all (by decide +kernel) (pa_cons (pe_lc (own := [("one", 2)]) rfl scIsPair.nd (pi_seq (pv 1)) (blkOk_by (own := [("one", 2)]) (N := ["names", "thing", "one"]) (sc := defScope sIsPair) (by decide +kernel)) (fun _ _ _ _ _ => (pg_name (i := 2) scIsPair.nd rfl (.inl rfl))) (fun _ _ _ _ _ => pts_nil) (fun _ _ _ _ _ => (pe_fn C_IsName hr rfl (pa_cons (pv 2) pa_nil)))) pa_nil))))))))
        (pss_one (ps_ret pe_bl))
        pss_nil)
      (pss_one (ps_ret (pe_and (pe_cmpR (opK (r := (fun K => rIn K false)) (K := K) op_in_seq rfl) (pe_ix (ixK (r := rIx) (K := K) ix_seq rfl) (pv 1) pe_int (fun _ _ => rfl)) (pv 0) (by rfl)) (pe_and (pe_cmpR (opK (r := (fun K => rIn K false)) (K := K) op_in_seq rfl) (pe_ix (ixK (r := rIx) (K := K) ix_seq rfl) (pv 1) pe_int (fun _ _ => rfl)) (pv 0) (by rfl)) (pe_one (pe_cmpR op_ne (pe_ix (ixK (r := rIx) (K := K) ix_seq rfl) (pv 1) pe_int (fun _ _ => rfl)) (pe_ix (ixK (r := rIx) (K := K) ix_seq rfl) (pv 1) pe_int (fun _ _ => rfl)) (nomark _)))))))), ?_⟩
    have arg : ∀ {σ : L2.St} {H' : Hp}, σ[1]? = some (some v) → Kp no H H' → EvP no (tVar 1) σ H' (VQ K [.str s, .str t]) := fun h0 e => ev_var h0 (sq_vq (Stay.stay e hv))
    have nm : ∀ {σ : L2.St} {H' : Hp}, σ[0]? = some (some nv) → Kp no H H' → EvP no (tVar 0) σ H' (VQ K (rooms.map V.str)) := fun h0 e => ev_var h0 (tup_vq (e.tupS hn))
    refine q_ifF (p := no) (eb_is (a := !true || (!decide (V.int 2 = V.int 2) || !true)) (eb_or (eb_not (eb_B (ev_listing (ev_var (P := SqP _) rfl hv)))) fun _ => eb_or (eb_test (ev_ne (ev_lenQ (arg rfl (Kp.refl no H))) ev_c rfl)) fun _ => eb_not (eb_B ?_)) rfl) fun H1 e1 => ?_
    · refine ev_all (l := (List.range [V.str s, V.str t].length).filter fun _ => true) (ev_lcQ (fun _ => inferInstance) (fun _ => rfl) (by show 2 ≤ 100000; decide) (arg rfl (Kp.refl no H)) (fun _ _ _ _ _ => eb_yes) fun i x hx _ H1 e1 => ?_)
      match i, hx with
      | 0, hx =>
        obtain rfl : V.str s = x := Option.some.inj hx
        exact ev_name (ev_val rfl) hs
      | 1, hx =>
        obtain rfl : V.str t = x := Option.some.inj hx
        exact ev_name (ev_val rfl) ht
    · have g0 : ∀ {H'}, Kp no H H' → EvP no (tOp (rIx K) (tVar 1) (tC (.int 0))) [some nv, some v, none] H' (IsV (.str s)) := fun e => ev_ixQ (arg rfl e) ev_c (atI_nat (j := 0) rfl)
      have g1 : ∀ {H'}, Kp no H H' → EvP no (tOp (rIx K) (tVar 1) (tC (.int 1))) [some nv, some v, none] H' (IsV (.str t)) := fun e => ev_ixQ (arg rfl e) ev_c (atI_nat (j := 1) rfl)
      refine s_retV (p := no) (x := .bl true) (EvP.val (ev_and (ev_inQ (g0 e1) (nm rfl e1)) fun _ => ev_and (ev_inQ (g1 e1) (nm rfl e1)) fun _ => ev_ne (g0 e1) (g1 e1) rfl) ?_) fun H2 e2 => q _ H2 (e1.trans e2) rfl
      rw [decide_eq_true ms, decide_eq_true mt, decide_eq_false fun z => hne (V.str.inj z)]
      rfl
end
end Tau
set_option maxHeartbeats 4000000
namespace Tau
open PySem PySem.Spec PyProof.Rows L2
/-! bad_pairs, pairs_of -/
def pw (x : Str × Str) : List Str := [x.1, x.2]
def PairsP (ps : List (Str × Str)) : Hp → V → Prop := LstOf (ps.map fun x => SqP ((pw x).map V.str))
instance {p : Addr → Prop} {ps : List (Str × Str)} : Stay p (PairsP ps) := ⟨fun e h => by
  unfold PairsP at h ⊢
  exact Stay.stay e h⟩
structure Pairs (rooms : List Str) (ps : List (Str × Str)) : Prop where
  ok : ∀ x ∈ ps, NameOk x.1 ∧ NameOk x.2 ∧ x.1 ∈ rooms ∧ x.2 ∈ rooms ∧ x.1 ≠ x.2
  dif : ps.Pairwise fun a b => ¬ (pw a).Perm (pw b)
theorem PairsP.seq {ps : List (Str × Str)} {H : Hp} {v : V} (h : PairsP ps H v) : ∃ (a : Addr) (vs : List V), v = .ref a ∧ H a = some (.lst vs) ∧ vs.length = ps.length ∧ ∀ (i : Nat) (hi : i < ps.length), ∃ x, vs[i]? = some x ∧ SqP [.str ps[i].1, .str ps[i].2] H x := by
  obtain ⟨a, vs, e, h1, h2⟩ := h
  refine ⟨a, vs, e, h1, by rw [h2.len, List.length_map], fun i hi => h2.get ?_⟩
  rw [List.getElem?_map, List.getElem?_eq_getElem hi]
  rfl
def kW (ys : List Str) : List Key := ys.map Sum.inr
theorem kW_V (ys : List Str) : (kW ys).map kV = ys.map V.str := by
  unfold kW
  rw [List.map_map]
  rfl
theorem kW_inj {a b : List Str} (h : kW a = kW b) : a = b := List.map_inj_right (fun _ _ e => Sum.inr.inj e) |>.mp h
section
variable {p : Addr → Prop} {K : PySem.W.Frag} {σ : L2.St} {H : Hp} {te : TE}
theorem ev_srtQ {ss : List Str} {xs : List V} (h : EvP p te σ H (VQ K xs)) (e : xs = ss.map V.str) (hz : ss.length ≤ 1000) : EvP p (tCB (rSrtS K) (tCons te tNil)) σ H (SortP ss) := ev_srtS (by rw [← e]; exact h) hz
end
section
variable {P : Program} {w : World} {K : PySem.W.Frag} {mg : Str → Option Value} {base : Heap} {C : Addr}
def spBadPairs (K : PySem.W.Frag) : Sp := fun vs H Q _ => ∃ rooms ps, Gives [TupP K rooms, PairsP ps] (Pairs rooms ps ∧ ps.length ≤ 1000) (NewL []) vs H Q
theorem scBadPairs : FnScope ["names", "things", "found", "thing"] ["names", "things"] (defScope sBadPairs) := ⟨rfl, rfl, rfl, by decide +kernel, rfl, by decide +kernel, by decide +kernel⟩
theorem ok_bad_pairs {f : Addr} {fd : FuncData} (F : DefIs K "bad_pairs" "bad_pairs" sBadPairs f fd) (T : TopF K mg C) (C_IsListing : Can P w K mg base "is_listing" 1 ["thing"] spIsListing) (C_IsPair : Can P w K mg base "is_pair" 2 ["names", "thing"] (spIsPair K)) :
    FnOk P w K mg base CX0 3 f fd ["names", "things"] (spBadPairs K) := by
  refine def_ok F scBadPairs (fun vs H Q E h => ?_) (fun cdv A outer s H vs Q E hr h => ?_)
  · obtain ⟨_, _, _, ha, _⟩ := h
    obtain ⟨v, w, rfl, _⟩ := args2 ha
    rfl
  · obtain ⟨rooms, ps, ⟨hp, hlen⟩, ha, q⟩ := h
    obtain ⟨nv, v, rfl, hn, hv⟩ := args2 ha
    obtain ⟨a, vs, rfl, hs, hvl, hit⟩ := hv.seq
    have hu := hu_of hr
    refine ⟨_, (pss_cons (ps_if (pt_not (pt_val (pe_fn C_IsListing hr rfl (pa_cons (pv 1) pa_nil))))
        (pss_one (ps_ret (pe_lst (pa_cons (pv 1) pa_nil))))
        pss_nil)
      (pss_cons (ps_set (i := 2) scBadPairs.nd rfl (.inl rfl) pe_dnewT)
      (pss_cons (ps_for PassesOwn.never rfl (pi_listK (K := K) rfl (pv 1)) (pg_name (i := 3) scBadPairs.nd rfl (.inl rfl))
        (pss_cons (ps_if (PW.pt (pw_or (pt_not (pt_val (pe_fn C_IsPair hr rfl (pa_cons (pv 0) (pa_cons (pv 3) pa_nil))))) (pw_or1 (pt_cmp (pc_din hu (pe_callTy (T := "tuple") (crK (r := tupR) (K := K) call_tuple_of rfl) (by rfl) T.z_tuple (by decide +kernel) (pa_cons (pe_callB (id := "sorted") (crK (r := rSrtS) (K := K) (cr_srtS (by exact hr.units)) rfl) (by rfl) T.z_sorted (by decide +kernel) (pa_cons (pv 3) pa_nil)) pa_nil)) (pv 2))))))
          (pss_one (ps_ret (pe_lst (pa_cons (pv 3) pa_nil))))
          pss_nil)
        (pss_one (ps_dput hu (pv 2) (pe_callTy (T := "tuple") (crK (r := tupR) (K := K) call_tuple_of rfl) (by rfl) T.z_tuple (by decide +kernel) (pa_cons (pe_callB (id := "sorted") (crK (r := rSrtS) (K := K) (cr_srtS (by exact hr.units)) rfl) (by rfl) T.z_sorted (by decide +kernel) (pa_cons (pv 3) pa_nil)) pa_nil)) pe_bl rfl))))
      (pss_one (ps_ret (pe_lst pa_nil)))))), ?_⟩
    refine q_ifF (p := no) (eb_is (a := !true) (eb_not (eb_B (ev_fn (sp := spIsListing) (Ps := [ListingP]) (C := True) (fun vs H Q g => g) (ea_cons (ev_var (P := ListingP) rfl ⟨a, vs, rfl, .inl hs⟩) ea_nil) trivial))) rfl) fun H1 e1 => ?_
    refine q_dnewT fun d hd => ?_
    have d0 : H d = none := e1.free hd
    have e2 : Kp no H (upd H1 d (.dT [])) := e1.trans (Kp.new hd)
    refine q_forL (p := no) (a := a) (xs := vs) (H0 := H) (.inl (.inl hs)) e2 (ev_val rfl) (fun i σ H' => ∃ y, σ = [some nv, some (.ref a), some (.ref d), y] ∧ Kp no H H' ∧ ∃ kvs, H' d = some (.dT kvs) ∧ ∃ ks : List (List Str), kvs.map (·.1) = ks.map kW ∧ ks.length = i ∧ ∀ k ∈ ks, ∃ (j : Nat) (h : j < ps.length), j < i ∧ k.Perm (pw ps[j])) (fun H3 e3 => ?_) (fun i σ' H' h => ?_) (fun i x σ' H' hx h => ?_) (fun σ' H' h => ?_)
    · exact ⟨none, rfl, e2.trans e3, [], e3.at upd_same, [], rfl, rfl, fun k m => absurd m List.not_mem_nil⟩
    · obtain ⟨_, _, e, _⟩ := h
      exact e
    · obtain ⟨y, rfl, e4, kvs, hD, ks, hk, hkl, hkp⟩ := h
      have hi : i < ps.length := by
        have := (List.getElem?_eq_some_iff.mp hx).1
        omega
      obtain ⟨x', hx', hX⟩ := hit i hi
      have ex : x' = x := Option.some.inj (hx'.symm.trans hx)
      subst ex
      obtain ⟨o1, o2, o3, o4, o5⟩ := hp.ok _ (List.getElem_mem hi)
      have fresh : ∀ ys : List Str, ys.Perm (pw ps[i]) → valV kvs (kW ys) = none := fun ys pm => by
        cases e : valV kvs (kW ys) with
        | none => rfl
        | some v =>
          have m := valV_in e
          rw [hk] at m
          obtain ⟨z, hz, ez⟩ := List.mem_map.mp m
          have ez := kW_inj ez
          subst ez
          obtain ⟨j, hj, hji, pj⟩ := hkp _ hz
          exact absurd (pj.symm.trans pm) (List.pairwise_iff_getElem.mp hp.dif j i hj hi hji)
      show tSeq _ _ _ [some nv, some (.ref a), some (.ref d), some x'] H'
      have sorted : ∀ H5, Kp no H' H5 → EvP no (tCB (tupR K) (tCons (tCB (rSrtS K) (tCons (tVar 3) tNil)) tNil)) [some nv, some (.ref a), some (.ref d), some x'] H5 (PermT K (pw ps[i])) := fun H5 e5 =>
        ev_tupSort (ev_srtQ (ss := pw ps[i]) (xs := [.str ps[i].1, .str ps[i].2]) (ev_var (P := VQ K _) rfl (sq_vq (Stay.stay (e4.trans e5) hX))) rfl (by show 2 ≤ 1000; decide))
      refine q_ifF (p := no) (eb_is (a := !true || false) (eb_or (eb_not (eb_B (ev_fn (sp := spIsPair K) (Ps := [TupP K rooms, SqP [.str ps[i].1, .str ps[i].2]]) (C := NameOk ps[i].1 ∧ NameOk ps[i].2 ∧ ps[i].1 ∈ rooms ∧ ps[i].2 ∈ rooms ∧ ps[i].1 ≠ ps[i].2) (fun vs H Q g => ⟨rooms, _, _, g⟩) (ea_cons (ev_var (P := TupP K rooms) rfl (e4.tupS hn)) (ea_cons (ev_var (P := SqP _) rfl (Stay.stay e4 hX)) ea_nil)) ⟨o1, o2, o3, o4, o5⟩))) fun _ => eb_B (ev_dinP (a := d) (P := PermT K (pw ps[i])) (sorted H' (Kp.refl no H')) (ev_val rfl) fun H5 y' e5 hy => ?_)) rfl) fun H5 e5 => ?_
      · obtain ⟨ys, pm, b, rfl, hb⟩ := hy
        refine ⟨none, ?_, rfl⟩
        rw [← fresh ys pm]
        exact DGet.t (e5.dt hD) (by rw [kW_V]; exact hb)
      · refine s_dputT (p := no) (a := d) (P := PermT K (pw ps[i])) (kvs := kvs) ev_c (ev_val rfl) (sorted H5 e5) (fun H6 e6 => (e5.trans e6).dt hD) ?_ fun H6 y' e6 hy => ?_
        · have e := congrArg List.length hk
          rw [List.length_map, List.length_map] at e
          omega
        · obtain ⟨ys, pm, b, rfl, hb⟩ := hy
          refine ⟨b, kW ys, rfl, by rw [kW_V]; exact hb, some x', rfl, ((e4.trans e5).trans e6).mut d0, _, upd_same, ks ++ [ys], ?_, by rw [List.length_append, hkl]; rfl, fun k m => ?_⟩
          · rw [putK_new _ (fresh ys pm), List.map_append, hk, List.map_append]
            rfl
          · rcases List.mem_append.mp m with m | m
            · obtain ⟨j, hj, hji, pj⟩ := hkp k m
              exact ⟨j, hj, by omega, pj⟩
            · rw [List.mem_singleton.mp m]
              exact ⟨i, hi, by omega, pm⟩
    · obtain ⟨y, rfl, e4, _⟩ := h
      exact s_ret (p := no) ev_lst0 fun v H5 e5 hv => q v H5 (e4.trans e5) hv
end
end Tau
set_option maxHeartbeats 4000000
namespace Tau
open PySem PySem.Spec PyProof.Rows L2
/-! pairs_of, beside_all -/
/-- the same pairs, each either way round -/
inductive Like : List (Str × Str) → List (Str × Str) → Prop
  | nil : Like [] []
  | same {a b : Str} {qs ps : List (Str × Str)} : Like qs ps → Like ((a, b) :: qs) ((a, b) :: ps)
  | swap {a b : Str} {qs ps : List (Str × Str)} : Like qs ps → Like ((b, a) :: qs) ((a, b) :: ps)
def LikeP (qs ps : List (Str × Str)) : Prop := ∃ rs, qs.Perm rs ∧ Like rs ps
def nbs1 (x : Str) (q : Str × Str) : List Str := (if q.1 = x then [q.2] else []) ++ if q.2 = x then [q.1] else []
/-- whom x stands beside, by these pairs -/
def nbs (qs : List (Str × Str)) (x : Str) : List Str := qs.flatMap (nbs1 x)
theorem nbs1_swap (x a b : Str) : (nbs1 x (b, a)).Perm (nbs1 x (a, b)) := List.perm_append_comm
theorem Like.nbs {qs ps : List (Str × Str)} (h : Like qs ps) (x : Str) : (nbs qs x).Perm (nbs ps x) := by
  induction h with
  | nil => exact .refl _
  | same _ ih => exact List.Perm.append (.refl _) ih
  | swap _ ih => exact List.Perm.append (nbs1_swap x _ _) ih
theorem LikeP.nbs {qs ps : List (Str × Str)} (h : LikeP qs ps) (x : Str) : (nbs qs x).Perm (nbs ps x) := by
  obtain ⟨rs, h1, h2⟩ := h
  exact (List.Perm.flatMap_right _ h1).trans (h2.nbs x)
theorem Like.len {qs ps : List (Str × Str)} (h : Like qs ps) : qs.length = ps.length := by
  induction h with
  | nil => rfl
  | same _ ih => simp [ih]
  | swap _ ih => simp [ih]
theorem Like.mem {qs ps : List (Str × Str)} (h : Like qs ps) : ∀ q ∈ qs, q ∈ ps ∨ (q.2, q.1) ∈ ps := by
  induction h with
  | nil => exact fun q m => absurd m List.not_mem_nil
  | same _ ih =>
    intro q m
    rcases List.mem_cons.mp m with rfl | m
    · exact .inl (List.mem_cons_self ..)
    · exact (ih q m).imp (List.mem_cons_of_mem _) (List.mem_cons_of_mem _)
  | swap _ ih =>
    intro q m
    rcases List.mem_cons.mp m with rfl | m
    · exact .inr (List.mem_cons_self ..)
    · exact (ih q m).imp (List.mem_cons_of_mem _) (List.mem_cons_of_mem _)
theorem LikeP.len {qs ps : List (Str × Str)} (h : LikeP qs ps) : qs.length = ps.length := by
  obtain ⟨rs, h1, h2⟩ := h
  rw [h1.length_eq, h2.len]
theorem LikeP.mem {qs ps : List (Str × Str)} (h : LikeP qs ps) : ∀ q ∈ qs, q ∈ ps ∨ (q.2, q.1) ∈ ps := by
  obtain ⟨rs, h1, h2⟩ := h
  exact fun q m => h2.mem q (h1.mem_iff.mp m)
theorem perm_two {ys : List Str} {s t : Str} (h : ys.Perm [s, t]) : ys = [s, t] ∨ ys = [t, s] := by
  match ys, h.length_eq with
  | [u, v], _ =>
    have m : u ∈ [s, t] := h.mem_iff.mp (List.mem_cons_self ..)
    rcases List.mem_cons.mp m with rfl | m
    · have := List.perm_singleton.mp (h.cons_inv)
      exact .inl (by rw [this])
    · have e : u = t := List.mem_singleton.mp m
      subst e
      have := List.perm_singleton.mp ((h.trans (List.Perm.swap _ _ _)).cons_inv)
      exact .inr (by rw [this])
def upw (w : List Str) : Str × Str := (w.headD "", w.tail.headD "")
theorem upw_pw (x : Str × Str) : upw (pw x) = x := rfl
section
variable {p : Addr → Prop} {K : PySem.W.Frag} {σ : L2.St} {H : Hp} {te : TE}
theorem like_of : ∀ {ps : List (Str × Str)} {vs : List V}, ArgsP (ps.map fun x => PermT K (pw x)) H vs → ∃ (qs : List (Str × Str)) (bs : List (V × List Str)), Like qs ps ∧ vs = bs.map (·.1) ∧ (∀ b ∈ bs, TupS K H b.1 b.2) ∧ bs.map (·.2) = qs.map pw
  | [], vs, h => by
    cases h
    exact ⟨[], [], .nil, rfl, fun _ m => absurd m List.not_mem_nil, rfl⟩
  | (a, b) :: ps, vs, h => by
    rw [List.map_cons] at h
    cases h with
    | cons h1 h2 =>
      obtain ⟨qs, bs, l, e1, e2, e3⟩ := like_of h2
      obtain ⟨ys, pm, ht⟩ := h1
      rcases perm_two pm with e | e
      · subst e
        refine ⟨(a, b) :: qs, (_, [a, b]) :: bs, .same l, by rw [List.map_cons, ← e1], fun c m => ?_, by rw [List.map_cons, List.map_cons, e3]; rfl⟩
        rcases List.mem_cons.mp m with rfl | m
        · exact ht
        · exact e2 c m
      · subst e
        refine ⟨(b, a) :: qs, (_, [b, a]) :: bs, .swap l, by rw [List.map_cons, ← e1], fun c m => ?_, by rw [List.map_cons, List.map_cons, e3]; rfl⟩
        rcases List.mem_cons.mp m with rfl | m
        · exact ht
        · exact e2 c m
def DoorsP (K : PySem.W.Frag) (ps : List (Str × Str)) : Hp → V → Prop := fun H v => ∃ qs, LikeP qs ps ∧ LstW K (qs.map pw) H v
instance {ps : List (Str × Str)} : Stay p (DoorsP K ps) := ⟨fun e ⟨qs, h1, h2⟩ => ⟨qs, h1, Stay.stay e h2⟩⟩
end
section
variable {p : Addr → Prop} {K : PySem.W.Frag} {σ : L2.St} {H : Hp} {J : It} {n : Nat} {G : Hp → Prop} {Y : Nat → Hp → V → Hp → Prop}
/-- a dict comprehension over a walk -/
theorem dc_it (w : Walk J n G Y) {g : TG} {tt : TT} {tk tv : TE} {vs : List Nat} {H1 : Hp} {D : Addr} {Qd : Hp → Prop} (Pv : Nat → Hp → Prop) (h0 : Pv 0 (upd H1 D (.dK []))) (hG : ∀ i H, i ≤ n → Pv i H → G H)
    (hs : ∀ i x H H', i < n → Pv i H → Y i H x H' → g x (wipe σ vs) H' fun σ2 H2 => wipe σ2 vs = wipe σ vs ∧ tt σ2 H2 fun b H3 =>
      if b = true then tk σ2 H3 fun y H4 => tv σ2 H4 fun z H5 => ∃ kvs k, y = kV k ∧ H5 D = some (.dK kvs) ∧ kvs.length < sizeLine ∧ Pv (i + 1) (upd H5 D (.dK (putK kvs k z))) else Pv (i + 1) H3) (hd : ∀ H, Pv n H → Qd H) :
    ∃ W : Nat → Nat → Hp → Prop, (∃ m, W 0 m (upd H1 D (.dK []))) ∧ ∀ i m H, W i m H →
      (J.stop i H ∧ Qd H) ∨ (J.go i H ∧ ∃ Nx : Hp → Prop, (∀ H', Nx H' → ∃ m', m' < m ∧ W (i + 1) m' H') ∧ ∀ x H', J.yld i H x H' → g x (wipe σ vs) H' fun σ2 H2 => wipe σ2 vs = wipe σ vs ∧ tt σ2 H2 fun b H3 =>
        if b = true then tk σ2 H3 fun y H4 => tv σ2 H4 fun z H5 => ∃ kvs k, y = kV k ∧ H5 D = some (.dK kvs) ∧ kvs.length < sizeLine ∧ Nx (upd H5 D (.dK (putK kvs k z))) else Nx H3) := by
  refine ⟨fun i m H => m = n - i ∧ i ≤ n ∧ Pv i H, ⟨n, by simp, Nat.zero_le _, h0⟩, ?_⟩
  rintro i m H ⟨rfl, hi, p⟩
  have q := hG i H hi p
  by_cases hlt : i < n
  · refine .inr ⟨w.goes i H hlt q, Pv (i + 1), fun H' p' => ⟨n - (i + 1), by omega, rfl, hlt, p'⟩, fun x H' y => hs i x H H' hlt p (w.yields i H x H' hlt q y)⟩
  · have e : i = n := by omega
    subst e
    exact .inl ⟨w.stops H q, hd H p⟩
end
theorem valV_names {names : List Str} {f : Str → V} {x : Str} (h : x ∈ names) : valV (names.map fun n => ((Sum.inr n : Key), f n)) (Sum.inr x) = some (f x) := by
  induction names with
  | nil => exact absurd h List.not_mem_nil
  | cons n ns ih =>
    rw [List.map_cons]
    by_cases e : n = x
    · subst e
      exact valV_pos rfl
    · rw [valV_neg fun z => e (Sum.inr.inj z)]
      exact ih ((List.mem_cons.mp h).resolve_left fun z => e z.symm)
/-- the dict at d holds, by each name, a list of its own with these -/
structure FoundAt (B : Hp) (names : List Str) (f : Str → List Str) (d : Addr) (ad : Str → Addr) (H : Hp) : Prop where
  dict : H d = some (.dK (names.map fun n => (Sum.inr n, .ref (ad n))))
  lst : ∀ n ∈ names, H (ad n) = some (.lst ((f n).map V.str))
  inj : ∀ m ∈ names, ∀ n ∈ names, ad m = ad n → m = n
  new : ∀ n ∈ names, B (ad n) = none
theorem FoundAt.congr {B : Hp} {names : List Str} {f g : Str → List Str} {d : Addr} {ad : Str → Addr} {H : Hp} (h : FoundAt B names f d ad H) (e : ∀ n ∈ names, f n = g n) : FoundAt B names g d ad H :=
  ⟨h.dict, fun n m => by rw [← e n m]; exact h.lst n m, h.inj, h.new⟩
theorem take_succ_get {α : Type} {xs : List α} {i : Nat} (h : i < xs.length) : xs.take (i + 1) = xs.take i ++ [xs[i]] := by
  rw [List.take_append_getElem h]
theorem FoundAt.snoc {B : Hp} {names : List Str} {f : Str → List Str} {d z : Addr} {ad : Str → Addr} {H : Hp} {x : Str} (h : FoundAt B names f d ad H) (hb : B z = none) (hz : H z = none) (hx : x ∉ names) (e : f x = []) :
    FoundAt B (names ++ [x]) f d (fun n => if n = x then z else ad n) (upd (upd H z (.lst [])) d (.dK (putK (names.map fun n => (Sum.inr n, .ref (ad n))) (Sum.inr x) (.ref z)))) := by
  have fresh : valV (names.map fun n => ((Sum.inr n : Key), V.ref (ad n))) (Sum.inr x) = none := valV_fresh (by rw [List.map_map]; rfl) hx
  have ne : ∀ n ∈ names, n ≠ x := fun n m e => hx (e ▸ m)
  have dz : d ≠ z := fun e => by
    have := h.dict
    rw [e, hz] at this
    cases this
  refine ⟨?_, fun n m => ?_, fun m hm n hn => ?_, fun n m => ?_⟩
  · rw [upd_same, putK_new _ fresh, List.map_append]
    congr 3
    · exact List.map_congr_left fun n m => by rw [if_neg (ne n m)]
    · show [(Sum.inr x, V.ref z)] = [((Sum.inr x : Key), V.ref (if x = x then z else ad x))]
      rw [if_pos rfl]
  · rcases List.mem_append.mp m with m | m
    · show upd _ d _ (if n = x then z else ad n) = _
      rw [if_neg (ne n m)]
      have l := h.lst n m
      have e1 : ad n ≠ d := fun e => by
        rw [e, h.dict] at l
        cases l
      have e2 : ad n ≠ z := fun e => by
        rw [e, hz] at l
        cases l
      rw [upd_ne e1, upd_ne e2]
      exact l
    · rw [List.mem_singleton.mp m]
      show upd _ d _ (if x = x then z else ad x) = _
      rw [if_pos rfl, upd_ne fun e => dz e.symm, upd_same, e]
      rfl
  · have old : ∀ n ∈ names, ad n ≠ z := fun n m e => by
      have l := h.lst n m
      rw [e, hz] at l
      cases l
    show (if m = x then z else ad m) = (if n = x then z else ad n) → m = n
    rcases List.mem_append.mp hm with hm | hm <;> rcases List.mem_append.mp hn with hn | hn
    · rw [if_neg (ne m hm), if_neg (ne n hn)]
      exact h.inj m hm n hn
    · rw [if_neg (ne m hm), if_pos (List.mem_singleton.mp hn)]
      exact fun e => absurd e (old m hm)
    · rw [if_neg (ne n hn), if_pos (List.mem_singleton.mp hm)]
      exact fun e => absurd e.symm (old n hn)
    · rw [List.mem_singleton.mp hm, List.mem_singleton.mp hn]
      exact fun _ => rfl
  · show B (if n = x then z else ad n) = none
    rcases List.mem_append.mp m with m | m
    · rw [if_neg (ne n m)]
      exact h.new n m
    · rw [if_pos (List.mem_singleton.mp m)]
      exact hb
theorem FoundAt.app {B : Hp} {names : List Str} {f : Str → List Str} {d : Addr} {ad : Str → Addr} {H : Hp} {x y : Str} (h : FoundAt B names f d ad H) (hx : x ∈ names) :
    FoundAt B names (fun n => if n = x then f n ++ [y] else f n) d ad (upd H (ad x) (.lst ((f x).map V.str ++ [.str y]))) := by
  have l := h.lst x hx
  have e1 : d ≠ ad x := fun e => by
    rw [← e, h.dict] at l
    cases l
  refine ⟨by rw [upd_ne e1]; exact h.dict, fun n m => ?_, h.inj, h.new⟩
  by_cases e : n = x
  · subst e
    show _ = some (HO.lst ((if n = n then f n ++ [y] else f n).map V.str))
    rw [upd_same, if_pos rfl, List.map_append]
    rfl
  · show _ = some (HO.lst ((if n = x then f n ++ [y] else f n).map V.str))
    rw [if_neg e, upd_ne fun z => e (h.inj n m x hx z)]
    exact h.lst n m
theorem FoundAt.up {B : Hp} {names : List Str} {f : Str → List Str} {d : Addr} {ad : Str → Addr} {H H' : Hp} (h : FoundAt B names f d ad H) (e : Kp no H H') : FoundAt B names f d ad H' :=
  ⟨e.at h.dict, fun n m => e.at (h.lst n m), h.inj, h.new⟩
theorem nbs_snoc (qs : List (Str × Str)) (q : Str × Str) (n : Str) : nbs (qs ++ [q]) n = nbs qs n ++ nbs1 n q := by
  unfold nbs
  rw [List.flatMap_append, List.flatMap_singleton]
theorem nbs_len (qs : List (Str × Str)) (n : Str) : (nbs qs n).length ≤ 2 * qs.length := by
  induction qs with
  | nil => exact Nat.le_refl _
  | cons q qs ih =>
    show (nbs1 n q ++ nbs qs n).length ≤ _
    rw [List.length_append, List.length_cons]
    have : (nbs1 n q).length ≤ 2 := by
      unfold nbs1
      rw [List.length_append]
      have h1 : (if q.1 = n then [q.2] else []).length ≤ 1 := by split <;> simp
      have h2 : (if q.2 = n then [q.1] else []).length ≤ 1 := by split <;> simp
      omega
    omega
theorem Kp.unlock {p : Addr → Prop} {H H' : Hp} {d : Addr} {o : Obj} {u : HO} (h : H d = some u) (e : Kp p (upd H d (.frz o u)) H') : Kp p H (upd H' d u) := fun a v ha => by
  by_cases z : a = d
  · subst z
    rw [h] at ha
    exact .inl (by rw [upd_same]; exact ha)
  · rw [upd_ne z]
    exact e a v (by rw [upd_ne z]; exact ha)
theorem yes_if {σ : L2.St} {H : Hp} {A B : Hp → Prop} (h : A H) : tYes σ H fun b H3 => if b = true then A H3 else B H3 := by
  show if true = true then A H else B H
  rw [if_pos rfl]
  exact h
/-- near: by each name the list of whom it stands beside -/
def NearOf (names : List Str) (nb : Str → List Str) : Hp → V → Prop := fun H v => ∃ (d : Addr) (ad : Str → Addr), v = .ref d ∧ H d = some (.dK (names.map fun n => (Sum.inr n, .ref (ad n)))) ∧ ∀ n ∈ names, H (ad n) = some (.lst ((nb n).map V.str))
theorem NearOf.up {names : List Str} {nb : Str → List Str} {H H' : Hp} {v : V} (e : Kp no H H') (h : NearOf names nb H v) : NearOf names nb H' v := by
  obtain ⟨d, ad, h1, h2, h3⟩ := h
  exact ⟨d, ad, h1, e.at h2, fun n m => e.at (h3 n m)⟩
theorem ev_srtW {p : Addr → Prop} {K : PySem.W.Frag} {σ : L2.St} {H : Hp} {te : TE} {R S : Hp → V → Prop} (h : EvP p te σ H R) (hR : ∀ H1 v, R H1 v → ∃ (a : Addr) (bs : List (V × List Str)), v = .ref a ∧ SqL K H1 a (bs.map (·.1)) ∧ bs.length ≤ 100000 ∧ (∀ b ∈ bs, TupS K H1 b.1 b.2 ∧ b.2 ≠ []) ∧
    ∀ (zs : List (V × List Str)) (z : Addr), zs.Perm bs → H1 z = none → S (upd H1 z (.lst (zs.map (·.1)))) (.ref z)) : EvP p (tCB (rSrtW K) (tCons te tNil)) σ H S := fun H1 e1 Q q =>
  h H1 e1 _ fun v H2 e2 hv => by
    obtain ⟨a, bs, rfl, hs, hl, hb, k⟩ := hR H2 v hv
    exact ⟨a, bs, rfl, hs, hl, hb, fun zs z pm hz => q _ _ (e2.trans (Kp.new hz)) (k zs z pm hz)⟩
section
variable {P : Program} {w : World} {K : PySem.W.Frag} {mg : Str → Option Value} {base : Heap} {C : Addr}
def spPairsOf (K : PySem.W.Frag) : Sp := fun vs H Q _ => ∃ ps, Gives [PairsP ps] (ps.length ≤ 1000) (DoorsP K ps) vs H Q
theorem scPairsOf : FnScope ["things", "thing"] ["things"] (defScope sPairsOf) := ⟨rfl, rfl, rfl, by decide +kernel, rfl, by decide +kernel, by decide +kernel⟩
theorem ok_pairs_of {f : Addr} {fd : FuncData} (F : DefIs K "pairs_of" "pairs_of" sPairsOf f fd) (T : TopF K mg C) :
    FnOk P w K mg base CX0 1 f fd ["things"] (spPairsOf K) := by
  refine def_ok F scPairsOf (fun vs H Q E h => ?_) (fun cdv A outer s H vs Q E hr h => ?_)
  · obtain ⟨_, _, ha, _⟩ := h
    obtain ⟨v, rfl, _⟩ := args1 ha
    rfl
  · obtain ⟨ps, hlen, ha, q⟩ := h
    obtain ⟨v, rfl, hv⟩ := args1 ha
    obtain ⟨a, vs, rfl, hs, hvl, hit⟩ := hv.seq
    refine ⟨_, (pss_one (ps_ret (pe_callB (id := "sorted") (crK (r := rSrtW) (K := K) (cr_srtW (by exact hr.units)) rfl) (by rfl) T.z_sorted (by decide +kernel) (pa_cons (pe_lc (own := [("thing", 1)]) rfl scPairsOf.nd (pi_listK (K := K) rfl (pv 0)) (blkOk_by (own := [("thing", 1)]) (N := ["things", "thing"]) (sc := defScope sPairsOf) (by decide +kernel)) (fun _ _ _ _ _ => (pg_name (i := 1) scPairsOf.nd rfl (.inl rfl))) (fun _ _ _ _ _ => pts_nil) (fun _ _ _ _ _ => (pe_callTy (T := "tuple") (crK (r := tupR) (K := K) call_tuple_of rfl) (by rfl) T.z_tuple (by decide +kernel) (pa_cons (pe_callB (id := "sorted") (crK (r := rSrtS) (K := K) (cr_srtS (by exact hr.units)) rfl) (by rfl) T.z_sorted (by decide +kernel) (pa_cons (pv 1) pa_nil)) pa_nil)))) pa_nil)))), ?_⟩
    refine s_ret (p := no) (P := DoorsP K ps) (ev_srtW (ev_lcL (p := no) (K := K) (xs := vs) (f := fun _ => true) (R := fun i => PermT K (pw (ps[i]?.getD ("", "")))) (fun _ => inferInstance) (fun _ => rfl) (by omega) (ev_var (P := VL K vs) rfl ⟨a, rfl, .inl (.inl hs)⟩) (fun _ _ _ _ _ => eb_yes) fun i x hx _ H2 e2 => ?_) fun H2 v hv => ?_) fun v H1 e1 hv => q v H1 e1 hv
    · have hi : i < ps.length := by
        have := (List.getElem?_eq_some_iff.mp hx).1
        omega
      obtain ⟨x', hx', hX⟩ := hit i hi
      have ex : x' = x := Option.some.inj (hx'.symm.trans hx)
      subst ex
      rw [List.getElem?_eq_getElem hi]
      exact ev_tupSort (ev_srtQ (ss := pw ps[i]) (xs := [.str ps[i].1, .str ps[i].2]) (ev_var (P := VQ K _) rfl (sq_vq (Stay.stay e2 hX))) rfl (by show 2 ≤ 1000; decide))
    · obtain ⟨b, ys, rfl, hb, hy⟩ := hv
      have es : ((List.range vs.length).filter fun _ => true).map (fun i => PermT K (pw (ps[i]?.getD ("", "")))) = ps.map fun x => PermT K (pw x) := by
        rw [List.filter_eq_self.mpr fun _ _ => rfl, hvl]
        apply List.ext_getElem
        · simp
        · intro i h1 h2
          simp at h1 h2
          simp [List.getElem?_eq_getElem h2]
      rw [es] at hy
      obtain ⟨qs, bs, l, e3, ht, e4⟩ := like_of hy
      subst e3
      have bl : bs.length = ps.length := by
        have := congrArg List.length e4
        rw [List.length_map, List.length_map] at this
        rw [this, l.len]
      refine ⟨b, bs, rfl, .inl (.inl hb), by omega, fun c m => ⟨ht c m, ?_⟩, fun zs z pm hz => ?_⟩
      · have : c.2 ∈ bs.map (·.2) := List.mem_map_of_mem m
        rw [e4] at this
        obtain ⟨x, _, ex⟩ := List.mem_map.mp this
        rw [← ex]
        exact List.cons_ne_nil _ _
      · refine ⟨zs.map fun c => upw c.2, ⟨qs, ?_, l⟩, z, zs, rfl, .inl (.inl upd_same), fun c m => (Kp.new (p := no) hz).tupS (ht c (pm.mem_iff.mp m)), ?_⟩
        · have e5 : bs.map (fun c => upw c.2) = qs := by
            rw [show (fun c : V × List Str => upw c.2) = upw ∘ (·.2) from rfl, ← List.map_map, e4, List.map_map]
            exact List.map_id' qs
          rw [← e5]
          exact pm.map _
        · rw [List.map_map]
          refine List.map_congr_left fun c m => ?_
          have : c.2 ∈ bs.map (·.2) := List.mem_map_of_mem (pm.mem_iff.mp m)
          rw [e4] at this
          obtain ⟨x, _, ex⟩ := List.mem_map.mp this
          show c.2 = pw (upw c.2)
          rw [← ex]
          rfl
def spBesideAll (K : PySem.W.Frag) : Sp := fun vs H Q _ => ∃ names qs, Gives [TupP K names, LstW K (qs.map pw)] (names.Nodup ∧ names.length < 64 ∧ qs.length ≤ 500 ∧ ∀ q ∈ qs, q.1 ∈ names ∧ q.2 ∈ names) (fun H v => ∃ nb, (∀ n ∈ names, (nb n).Perm (nbs qs n)) ∧ NearOf names nb H v) vs H Q
theorem scBesideAll : FnScope ["names", "pairs", "found", "one", "other", "name"] ["names", "pairs"] (defScope sBesideAll) := ⟨rfl, rfl, rfl, by decide +kernel, rfl, by decide +kernel, by decide +kernel⟩
theorem ok_beside_all {f : Addr} {fd : FuncData} (F : DefIs K "beside_all" "beside_all" sBesideAll f fd) (T : TopF K mg C) :
    FnOk P w K mg base CX0 1 f fd ["names", "pairs"] (spBesideAll K) := by
  refine def_ok F scBesideAll (fun vs H Q E h => ?_) (fun cdv A outer s H vs Q E hr h => ?_)
  · obtain ⟨_, _, _, ha, _⟩ := h
    obtain ⟨v, w, rfl, _⟩ := args2 ha
    rfl
  · obtain ⟨names, qs, ⟨hnd, hlen, hql, hin⟩, ha, q⟩ := h
    obtain ⟨nv, v, rfl, hn, hv⟩ := args2 ha
    have hu := hu_of hr
    refine ⟨_, (pss_cons (ps_set (i := 2) scBesideAll.nd rfl (.inr rfl) (pe_dc (own := [("name", 5)]) rfl scBesideAll.nd (pi_tupK (K := K) rfl (pv 0)) (blkOk_by (own := [("name", 5)]) (N := ["names", "pairs", "found", "one", "other", "name"]) (sc := defScope sBesideAll) (by decide +kernel)) (fun _ _ _ _ _ => (pg_name (i := 5) scBesideAll.nd rfl (.inl rfl))) (fun _ _ _ _ _ => pts_nil) (fun _ _ _ _ _ => (pv 5)) (fun _ _ _ _ _ => (pe_lst pa_nil))))
      (pss_cons (ps_for PassesOwn.never rfl (pi_listK (K := K) rfl (pv 1)) (pg_tupK (K := K) (n := 2) rfl rfl (pgs_cons (pg_name (i := 3) scBesideAll.nd rfl (.inl rfl)) (pgs_cons (pg_name (i := 4) scBesideAll.nd rfl (.inl rfl)) pgs_nil)))
        (pss_cons (ps_expr (pe_bm PySem.F.plainAttrs_list PySem.F.slot_list_append PySem.F.type_list_append mt_append (pe_dget hu (pv 2) (pv 3) (fun _ _ => rfl)) (pa_cons (pv 4) pa_nil)))
        (pss_one (ps_expr (pe_bm PySem.F.plainAttrs_list PySem.F.slot_list_append PySem.F.type_list_append mt_append (pe_dget hu (pv 2) (pv 4) (fun _ _ => rfl)) (pa_cons (pv 3) pa_nil))))))
      (pss_one (ps_ret (pe_lock (pe_dc (own := [("name", 5)]) rfl scBesideAll.nd (pi_keys (pv 2)) (blkOk_by (own := [("name", 5)]) (N := ["names", "pairs", "found", "one", "other", "name"]) (sc := defScope sBesideAll) (by decide +kernel)) (fun _ _ _ _ _ => (pg_name (i := 5) scBesideAll.nd rfl (.inl rfl))) (fun _ _ _ _ _ => pts_nil) (fun _ _ _ _ _ => (pv 5)) (fun _ _ _ _ _ => (pe_callB (id := "sorted") (crK (r := rSrtS) (K := K) (cr_srtS (by exact hr.units)) rfl) (by rfl) T.z_sorted (by decide +kernel) (pa_cons (pe_dget hu (pv 2) (pv 5) (fun _ _ => rfl)) pa_nil))))))))), ?_⟩
    obtain ⟨na, rfl, hna⟩ := hn
    refine ⟨.ref na, rfl, na, rfl, ⟨_, .inl (.inl hna)⟩, fun D hD => dc_it (walk_tup (K := K) (a := na) (xs := names.map V.str)) (fun i H' => Kp no H H' ∧ ∃ ad, FoundAt H (names.take i) (fun _ => []) D ad H') ?_ (fun i H' _ h => .inl (.inl (h.1.tup hna))) (fun i x H1 H2 hi h y => ?_) fun H1 h => ?_⟩
    · exact ⟨Kp.new hD, fun _ => 0, upd_same, fun _ m => absurd m List.not_mem_nil, fun _ m => absurd m List.not_mem_nil, fun _ m => absurd m List.not_mem_nil⟩
    · obtain ⟨rfl, hx⟩ := y
      obtain ⟨e1, ad, fa⟩ := h
      rw [List.length_map] at hi
      have ex : x = .str names[i] := by
        rw [List.getElem?_map, List.getElem?_eq_getElem hi] at hx
        exact (Option.some.inj hx).symm
      subst ex
      refine ⟨rfl, ?_⟩
      refine yes_if ?_
      refine ⟨.str names[i], rfl, Nat.zero_le _, fun z hz => ⟨(names.take i).map fun n => (Sum.inr n, .ref (ad n)), Sum.inr names[i], rfl, ?_, ?_, ?_⟩⟩
      · exact (Kp.new (p := no) hz).at fa.dict
      · rw [List.length_map, List.length_take]
        exact Nat.lt_of_le_of_lt (Nat.min_le_right _ _) (Nat.lt_trans hlen (by decide))
      · refine ⟨(e1.trans (Kp.new hz)).mut hD, fun n => if n = names[i] then z else ad n, ?_⟩
        rw [take_succ_get hi]
        exact fa.snoc (e1.free hz) hz (nodup_take hnd hi) rfl
    · rw [List.length_map, List.take_length] at h
      obtain ⟨e1, ad, fa⟩ := h
      obtain ⟨va, bs, rfl, hs, hbs, eb⟩ := hv
      have bl : bs.length = qs.length := by
        have := congrArg List.length eb
        rw [List.length_map, List.length_map] at this
        exact this
      refine q_forL (p := no) (a := va) (xs := bs.map (·.1)) (H0 := H) hs e1 (ev_val rfl) (fun i σ' H' => ∃ y z, σ' = [some (.ref na), some (.ref va), some (.ref D), y, z, none] ∧ Kp no H H' ∧ FoundAt H names (nbs (qs.take i)) D ad H') (fun H2 e2 => ?_) (fun i σ' H' h => ?_) (fun i x σ' H' hx h => ?_) (fun σ' H' h => ?_)
      · exact ⟨none, none, rfl, e1.trans e2, fa.up e2⟩
      · obtain ⟨_, _, _, e, _⟩ := h
        exact e
      · obtain ⟨y, z, rfl, e2, fa2⟩ := h
        have hi : i < bs.length := by
          have := (List.getElem?_eq_some_iff.mp hx).1
          rw [List.length_map] at this
          exact this
        have ex : x = bs[i].1 := by
          rw [List.getElem?_map, List.getElem?_eq_getElem hi] at hx
          exact (Option.some.inj hx).symm
        subst ex
        have hiq : i < qs.length := by omega
        have ew : bs[i].2 = pw qs[i] := by
          have := congrArg (fun l => l[i]?) eb
          rw [List.getElem?_map, List.getElem?_map, List.getElem?_eq_getElem hi, List.getElem?_eq_getElem hiq] at this
          exact Option.some.inj this
        obtain ⟨ba, eba, hba⟩ := hbs _ (List.getElem_mem hi)
        rw [ew] at hba
        obtain ⟨m1, m2⟩ := hin _ (List.getElem_mem hiq)
        have tl : (qs.take i).length ≤ 500 := by
          rw [List.length_take]
          omega
        refine ⟨ba, _, eba, .inl (.inl (e2.tup hba)), rfl, _, _, rfl, _, _, rfl, rfl, ?_⟩
        show tSeq _ _ _ [some (.ref na), some (.ref va), some (.ref D), some (.str qs[i].1), some (.str qs[i].2), none] H'
        have g1 : valV (names.map fun n => ((Sum.inr n : Key), V.ref (ad n))) (Sum.inr qs[i].1) = some (.ref (ad qs[i].1)) := valV_names m1
        have g2 : valV (names.map fun n => ((Sum.inr n : Key), V.ref (ad n))) (Sum.inr qs[i].2) = some (.ref (ad qs[i].2)) := valV_names m2
        refine q_app (p := no) (a := ad qs[i].1) (xs := (nbs (qs.take i) qs[i].1).map V.str) (P := IsV (.str qs[i].2)) (ev_dget (a := D) (y := kV (Sum.inr qs[i].1)) (ev_val rfl) (ev_val rfl) fun H3 e3 => ?_) (ev_val rfl) (fun H3 e3 => e3.at (fa2.lst _ m1)) ?_ fun v3 H3 e3 hv3 => ?_
        · rw [← g1]
          exact DGet.k (e3.at fa2.dict)
        · rw [List.length_map]
          have := nbs_len (qs.take i) qs[i].1
          omega
        have ev3 : v3 = .str qs[i].2 := hv3
        subst ev3
        have fa3 := (fa2.up e3).app (y := qs[i].2) m1
        have k3 : Kp no H (upd H3 (ad qs[i].1) (.lst ((nbs (qs.take i) qs[i].1).map V.str ++ [.str qs[i].2]))) := (e2.trans e3).mut (fa2.new _ m1)
        have l3 := fa3.lst _ m2
        refine s_app (p := no) (a := ad qs[i].2) (xs := ((fun n => if n = qs[i].1 then nbs (qs.take i) n ++ [qs[i].2] else nbs (qs.take i) n) qs[i].2).map V.str) (P := IsV (.str qs[i].1)) (ev_dget (a := D) (y := kV (Sum.inr qs[i].2)) (ev_val rfl) (ev_val rfl) fun H4 e4 => ?_) (ev_val rfl) (fun H4 e4 => e4.at l3) ?_ fun v4 H4 e4 hv4 => ?_
        · rw [← g2]
          exact DGet.k (e4.at fa3.dict)
        · rw [List.length_map]
          have := nbs_len (qs.take i) qs[i].2
          show (if _ then _ else _ : List Str).length < _
          split
          · rw [List.length_append, List.length_singleton]
            omega
          · omega
        have ev4 : v4 = .str qs[i].1 := hv4
        subst ev4
        have fa4 := (fa3.up e4).app (y := qs[i].1) m2
        refine ⟨_, _, rfl, (k3.trans e4).mut (fa3.new _ m2), fa4.congr fun n _ => ?_⟩
        rw [take_succ_get hiq, nbs_snoc]
        unfold nbs1
        by_cases c1 : n = qs[i].1
        · by_cases c2 : n = qs[i].2
          · rw [if_pos c2, if_pos c1, if_pos c1.symm, if_pos c2.symm, List.append_assoc]
          · rw [if_neg c2, if_pos c1, if_pos c1.symm, if_neg fun z => c2 z.symm, List.append_nil]
        · by_cases c2 : n = qs[i].2
          · rw [if_pos c2, if_neg c1, if_neg fun z => c1 z.symm, if_pos c2.symm, List.nil_append]
          · rw [if_neg c2, if_neg c1, if_neg fun z => c1 z.symm, if_neg fun z => c2 z.symm, List.append_nil, List.append_nil]
      · obtain ⟨y, z, rfl, e2, fa2⟩ := h
        rw [List.length_map, bl, List.take_length] at fa2
        refine ⟨D, _, fa2.dict, trivial, fun od => ?_⟩
        refine ⟨.ref D, rfl, D, od, rfl, .inl ⟨_, upd_same, fun D2 hD2 => dc_it (walk_keys (o := od)) (fun i H5 => Kp no (upd H' D (.frz od (.dK (names.map fun n => (Sum.inr n, .ref (ad n)))))) H5 ∧ ∃ (ad2 : Str → Addr) (nb : Str → List Str), H5 D2 = some (.dK ((names.take i).map fun n => (Sum.inr n, .ref (ad2 n)))) ∧ ∀ n ∈ names.take i, (nb n).Perm (nbs qs n) ∧ H5 (ad2 n) = some (.lst ((nb n).map V.str))) ?_ (fun i H5 _ h => h.1.frz upd_same) (fun i x H5 H6 hi h y => ?_) fun H5 h => ?_⟩⟩
        · exact ⟨Kp.new hD2, fun _ => 0, fun _ => [], upd_same, fun _ m => absurd m List.not_mem_nil⟩
        · obtain ⟨rfl, k, v, hx, rfl⟩ := y
          obtain ⟨e5, ad2, nb, hd2, hn2⟩ := h
          rw [List.length_map] at hi
          have ek : k = Sum.inr names[i] := by
            rw [List.getElem?_map, List.getElem?_eq_getElem hi] at hx
            exact (Prod.mk.inj (Option.some.inj hx)).1.symm
          subst ek
          have mi := List.getElem_mem hi
          have dn : ad names[i] ≠ D := fun e => by
            have := fa2.lst _ mi
            rw [e, fa2.dict] at this
            cases this
          have li : H6 (ad names[i]) = some (.lst ((nbs qs names[i]).map V.str)) := e5.at (by rw [upd_ne dn]; exact fa2.lst _ mi)
          refine ⟨rfl, ?_⟩
          refine yes_if ?_
          refine ⟨.str names[i], rfl, .ref D, rfl, .str names[i], rfl, D, .ref (ad names[i]), rfl, .inl ⟨_, Sum.inr names[i], .inr ⟨od, e5.frz upd_same⟩, rfl, (valV_names (f := fun n => V.ref (ad n)) mi).symm⟩, ad names[i], nbs qs names[i], rfl, .inl (.inl (.inl li)), Nat.le_trans (nbs_len _ _) (by omega), fun ys z pm hz => ?_⟩
          have fresh : names[i] ∉ names.take i := nodup_take hnd hi
          have ne : ∀ n ∈ names.take i, n ≠ names[i] := fun n m e => fresh (e ▸ m)
          have zD : D2 ≠ z := fun e => by
            rw [← e, hd2] at hz
            cases hz
          refine ⟨(names.take i).map fun n => (Sum.inr n, .ref (ad2 n)), Sum.inr names[i], rfl, (Kp.new (p := no) hz).at hd2, ?_, (e5.trans (Kp.new hz)).mut hD2, fun n => if n = names[i] then z else ad2 n, fun n => if n = names[i] then ys else nb n, ?_, fun n m => ?_⟩
          · rw [List.length_map, List.length_take]
            exact Nat.lt_of_le_of_lt (Nat.min_le_right _ _) (Nat.lt_trans hlen (by decide))
          · rw [upd_same, putK_new _ (valV_fresh (by rw [List.map_map]; rfl) fresh), take_succ_get hi, List.map_append]
            congr 3
            · refine List.map_congr_left fun n m => ?_
              show _ = ((Sum.inr n : Key), V.ref (if n = names[i] then z else ad2 n))
              rw [if_neg (ne n m)]
            · show [((Sum.inr names[i] : Key), V.ref z)] = [((Sum.inr names[i] : Key), V.ref (if names[i] = names[i] then z else ad2 names[i]))]
              rw [if_pos rfl]
          · rw [take_succ_get hi] at m
            rcases List.mem_append.mp m with m | m
            · have l := (hn2 n m).2
              have e1 : ad2 n ≠ D2 := fun e => by
                rw [e, hd2] at l
                cases l
              have e2 : ad2 n ≠ z := fun e => by
                rw [e, hz] at l
                cases l
              show (if n = names[i] then ys else nb n).Perm _ ∧ upd _ D2 _ (if n = names[i] then z else ad2 n) = some (HO.lst ((if n = names[i] then ys else nb n).map V.str))
              rw [if_neg (ne n m), if_neg (ne n m), upd_ne e1, upd_ne e2]
              exact hn2 n m
            · rw [List.mem_singleton.mp m]
              show (if names[i] = names[i] then ys else nb names[i]).Perm _ ∧ upd _ D2 _ (if names[i] = names[i] then z else ad2 names[i]) = some (HO.lst ((if names[i] = names[i] then ys else nb names[i]).map V.str))
              rw [if_pos rfl, if_pos rfl, upd_ne fun e => zD e.symm, upd_same]
              exact ⟨pm, rfl⟩
        · obtain ⟨e5, ad2, nb, hd2, hn2⟩ := h
          rw [List.length_map, List.take_length] at hd2 hn2
          have hDf := e5.frz upd_same
          refine ⟨hDf, q _ _ (e2.trans (Kp.unlock fa2.dict e5)) ⟨nb, fun n m => (hn2 n m).1, D2, ad2, rfl, ?_, fun n m => ?_⟩⟩
          · rw [upd_ne fun e => by rw [e, hDf] at hd2; cases hd2]
            exact hd2
          · have l := (hn2 n m).2
            rw [upd_ne fun e => by rw [e, hDf] at l; cases l]
            exact l
end
end Tau
set_option maxHeartbeats 4000000
namespace Tau
open PySem PySem.Spec PyProof.Rows L2
/-! first_three, House -/
structure NearAt (names : List Str) (nb : Str → List Str) (d : Addr) (ad : Str → Addr) (H : Hp) : Prop where
  dict : H d = some (.dK (names.map fun n => (Sum.inr n, .ref (ad n))))
  lst : ∀ n ∈ names, H (ad n) = some (.lst ((nb n).map V.str))
theorem NearAt.up {names : List Str} {nb : Str → List Str} {d : Addr} {ad : Str → Addr} {H H' : Hp} (h : NearAt names nb d ad H) (e : Kp no H H') : NearAt names nb d ad H' := ⟨e.at h.dict, fun n m => e.at (h.lst n m)⟩
theorem NearOf.at {names : List Str} {nb : Str → List Str} {H : Hp} {v : V} (h : NearOf names nb H v) : ∃ (d : Addr) (ad : Str → Addr), v = .ref d ∧ NearAt names nb d ad H := by
  obtain ⟨d, ad, e, h1, h2⟩ := h
  exact ⟨d, ad, e, h1, h2⟩
theorem NearAt.of {names : List Str} {nb : Str → List Str} {d : Addr} {ad : Str → Addr} {H : Hp} (h : NearAt names nb d ad H) : NearOf names nb H (.ref d) := ⟨d, ad, rfl, h.dict, h.lst⟩
instance {names : List Str} {nb : Str → List Str} : Stay no (NearOf names nb) := ⟨fun e h => h.up e⟩
/-- whom each stands beside: names again, no three each to each -/
structure NbOk (names : List Str) (nb : Str → List Str) : Prop where
  nd : names.Nodup
  small : names.length ≤ 9
  name : ∀ x ∈ names, NameOk x
  inn : ∀ x ∈ names, ∀ y ∈ nb x, y ∈ names
  once : ∀ x ∈ names, (nb x).Nodup
  irr : ∀ x ∈ names, x ∉ nb x
  sym : ∀ x ∈ names, ∀ y ∈ nb x, x ∈ nb y
  tri : ∀ x ∈ names, ∀ y ∈ nb x, ∀ z ∈ nb y, z ∉ nb x
section
variable {names : List Str} {nb : Str → List Str} {d : Addr} {ad : Str → Addr} {σ : L2.St} {H : Hp} {td ty te : TE} {x : Str}
theorem ev_near (hn : NearAt names nb d ad H) (hd : EvP no td σ H (IsV (.ref d))) (hy : EvP no ty σ H (IsV (.str x))) (hx : x ∈ names) : EvP no (tDGet td ty) σ H (IsV (.ref (ad x))) :=
  ev_dget (y := kV (Sum.inr x)) hd hy fun H1 e1 => by
    rw [← valV_names (f := fun n => V.ref (ad n)) hx]
    exact DGet.k (e1.at hn.dict)
theorem ev_nearL {K : PySem.W.Frag} (hn : NearAt names nb d ad H) (hd : EvP no td σ H (IsV (.ref d))) (hy : EvP no ty σ H (IsV (.str x))) (hx : x ∈ names) : EvP no (tDGet td ty) σ H (VQ K ((nb x).map V.str)) :=
  (ev_near hn hd hy hx).imp fun H1 v e1 hv => ⟨ad x, hv, .inl (.inl (.inl (e1.at (hn.lst x hx))))⟩
end
section
variable {p : Addr → Prop} {K : PySem.W.Frag} {σ : L2.St} {H : Hp} {ta tb tc : TE} {P R : Hp → V → Prop}
theorem eb_chainS {x y z : Str} {r : R2} (hr : r = fun x y H Q => ∃ i j : Str, x = .str i ∧ y = .str j ∧ Q (.bl (decide (i.cps.toList < j.cps.toList))) H) (ha : EvP p ta σ H (IsV (.str x))) (hb : EvP p tb σ H (IsV (.str y))) (hc : EvP p tc σ H (IsV (.str z))) :
    ∃ b, EvB p (tTest (tChain r r ta tb tc)) σ H b := by
  subst hr
  by_cases h : x.cps.toList < y.cps.toList
  · refine ⟨decide (y.cps.toList < z.cps.toList), fun H1 e1 Q q => ha H1 e1 _ fun u H2 e2 hu => hb H2 (e1.trans e2) _ fun v H3 e3 hv => ⟨x, y, hu, hv, true, by rw [decide_eq_true h], iteT (hc H3 ((e1.trans e2).trans e3) _ fun w H4 e4 hw => ⟨y, z, hv, hw, _, rfl, q H4 ((e2.trans e3).trans e4)⟩)⟩⟩
  · exact ⟨false, fun H1 e1 Q q => ha H1 e1 _ fun u H2 e2 hu => hb H2 (e1.trans e2) _ fun v H3 e3 hv => ⟨x, y, hu, hv, false, by rw [decide_eq_false h], iteF ⟨_, rfl, q H3 (e2.trans e3)⟩⟩⟩
theorem ev_isNot (ha : EvP p ta σ H (IsV .non)) (hb : EvP p tb σ H (IsV .non)) : EvP p (tOp (fun x y H Q => y = .non ∧ Q (.bl (!decide (x = .non))) H) ta tb) σ H (IsV (.bl false)) :=
  ev_op ha hb fun H1 x y _ hx hy Q q => by
    have ex : x = .non := hx
    have ey : y = .non := hy
    subst ex ey
    exact ⟨rfl, q _ H1 (Kp.refl p H1) rfl⟩
theorem ev_neNil (ha : EvP p ta σ H (NewL [])) (hb : EvP p tb σ H (NewL [])) : EvP p (tOp (rNeL K) ta tb) σ H (IsV (.bl false)) :=
  ev_op ha hb fun H1 x y _ ⟨a, ex, hx⟩ ⟨b, ey, hy⟩ Q q => by
    subst ex ey
    exact ⟨[], [], .lst (.inl (.inl hx)) .nil, .lst (.inl (.inl hy)) .nil, rfl, rfl, by decide, q _ H1 (Kp.refl p H1) rfl⟩
end
section
variable {P : Program} {w : World} {K : PySem.W.Frag} {mg : Str → Option Value} {base : Heap} {C : Addr}
def spFirstThree : Sp := fun vs H Q _ => ∃ names nb, Gives [NearOf names nb] (NbOk names nb) (IsV .non) vs H Q
theorem scFirstThree : FnScope ["near", "one", "other", "third"] ["near"] (defScope sFirstThree) := ⟨rfl, rfl, rfl, by decide +kernel, rfl, by decide +kernel, by decide +kernel⟩
theorem ok_first_three {f : Addr} {fd : FuncData} (F : DefIs K "first_three" "first_three" sFirstThree f fd) (T : TopF K mg C) :
    FnOk P w K mg base CX0 1 f fd ["near"] spFirstThree := by
  refine def_ok F scFirstThree (fun vs H Q E h => ?_) (fun cdv A outer s H vs Q E hr h => ?_)
  · obtain ⟨_, _, _, ha, _⟩ := h
    obtain ⟨v, rfl, _⟩ := args1 ha
    rfl
  · obtain ⟨names, nb, hk, ha, q⟩ := h
    obtain ⟨v, rfl, hv⟩ := args1 ha
    obtain ⟨d, ad, rfl, hN⟩ := hv.at
    have hu := hu_of hr
    refine ⟨_, (pss_cons (ps_for PassesOwn.never rfl (pi_listK (K := K) rfl (pe_callB (id := "sorted") (call_sortedD rfl) (by rfl) T.z_sorted (by decide +kernel) (pa_cons (pv 0) pa_nil))) (pg_name (i := 1) scFirstThree.nd rfl (.inl rfl))
        (pss_one (ps_for PassesOwn.never rfl (pi_listK (K := K) rfl (pe_dget hu (pv 0) (pv 1) (fun _ _ => rfl))) (pg_name (i := 2) scFirstThree.nd rfl (.inl rfl))
          (pss_one (ps_for PassesOwn.never rfl (pi_listK (K := K) rfl (pe_dget hu (pv 0) (pv 2) (fun _ _ => rfl))) (pg_name (i := 3) scFirstThree.nd rfl (.inl rfl))
            (pss_one (ps_if (PW.pt (pw_and (pt_chain op_lt_str op_lt_str (pv 1) (pv 2) (pv 3)) (pw_and1 (pt_cmpR (opK (r := (fun K => rIn K false)) (K := K) op_in_seq rfl) (pv 3) (pe_dget hu (pv 0) (pv 1) (fun _ _ => rfl)) (by rfl)))))
              (pss_one (ps_ret (pe_tup (pa_cons (pv 1) (pa_cons (pv 2) (pa_cons (pv 3) pa_nil))))))
              pss_nil)))))))
      (pss_one (ps_ret pe_non))), ?_⟩
    refine ⟨.ref d, rfl, d, _, names, rfl, .inl hN.dict, by rw [List.map_map]; rfl, Nat.lt_of_le_of_lt hk.small (by decide), fun ys z pm _ hz => ?_⟩
    have e0 : Kp no H (upd H z (.lst (ys.map V.str))) := Kp.new hz
    refine ⟨z, rfl, ⟨_, .inl (.inl upd_same)⟩, for_list (xs := ys.map V.str) (fun i σ' H' => ∃ a b c, σ' = [some (.ref d), a, b, c] ∧ Kp no (upd H z (.lst (ys.map V.str))) H') ⟨none, none, none, rfl, Kp.refl _ _⟩ (fun i σ' H' _ h => ?_) (fun i x σ' H' hx h => ?_) fun σ' H' h => ?_⟩
    · obtain ⟨_, _, _, _, e⟩ := h
      exact .inl (.inl (e.at upd_same))
    · obtain ⟨a, b, c, rfl, e1⟩ := h
      obtain ⟨one, mo, rfl⟩ : ∃ one ∈ names, x = .str one := by
        have := List.mem_of_getElem? hx
        obtain ⟨one, mo, e⟩ := List.mem_map.mp this
        exact ⟨one, pm.mem_iff.mp mo, e.symm⟩
      show tFor _ _ _ _ [some (.ref d), some (.str one), b, c] H'
      have hN1 : NearAt names nb d ad H' := hN.up (e0.trans e1)
      refine s_forL (p := no) (K := K) (a := ad one) (xs := (nb one).map V.str) (H0 := H') (.inl (.inl (hN1.lst one mo))) (Kp.refl _ _) (ev_near hN1 (ev_val rfl) (ev_val rfl) mo) (fun i σ' H2 => ∃ b c, σ' = [some (.ref d), some (.str one), b, c] ∧ Kp no H' H2) (fun H2 e2 => ⟨_, _, rfl, e2⟩) (fun i σ' H2 h => ?_) (fun i x σ' H2 hx h => ?_) fun σ' H2 h => ?_
      · obtain ⟨_, _, _, e⟩ := h
        exact e
      · obtain ⟨b, c, rfl, e2⟩ := h
        obtain ⟨other, moo, rfl⟩ : ∃ other ∈ nb one, x = .str other := by
          obtain ⟨y, my, e⟩ := List.mem_map.mp (List.mem_of_getElem? hx)
          exact ⟨y, my, e.symm⟩
        have mot := hk.inn one mo other moo
        show tFor _ _ _ _ [some (.ref d), some (.str one), some (.str other), c] H2
        have hN2 : NearAt names nb d ad H2 := hN1.up e2
        refine s_forL (p := no) (K := K) (a := ad other) (xs := (nb other).map V.str) (H0 := H2) (.inl (.inl (hN2.lst other mot))) (Kp.refl _ _) (ev_near hN2 (ev_val rfl) (ev_val rfl) mot) (fun i σ' H3 => ∃ c, σ' = [some (.ref d), some (.str one), some (.str other), c] ∧ Kp no H2 H3) (fun H3 e3 => ⟨_, rfl, e3⟩) (fun i σ' H3 h => ?_) (fun i x σ' H3 hx h => ?_) fun σ' H3 h => ?_
        · obtain ⟨_, _, e⟩ := h
          exact e
        · obtain ⟨c, rfl, e3⟩ := h
          obtain ⟨third, mth, rfl⟩ : ∃ third ∈ nb other, x = .str third := by
            obtain ⟨y, my, e⟩ := List.mem_map.mp (List.mem_of_getElem? hx)
            exact ⟨y, my, e.symm⟩
          have hN3 : NearAt names nb d ad H3 := hN2.up e3
          have no3 : third ∉ nb one := hk.tri one mo other moo third mth
          show tIfS _ _ _ _ [some (.ref d), some (.str one), some (.str other), some (.str third)] H3
          obtain ⟨b, hb⟩ := eb_chainS (p := no) (σ := [some (.ref d), some (.str one), some (.str other), some (.str third)]) (H := H3) rfl (ev_val (i := 1) rfl) (ev_val (i := 2) rfl) (ev_val (i := 3) rfl)
          refine s_ifF (p := no) (eb_is (eb_and hb fun _ => eb_test (EvP.val (ev_inQ (K := K) (ss := nb one) (ev_val rfl) (ev_nearL hN3 (ev_val rfl) (ev_val rfl) mo)) (by rw [decide_eq_false no3]))) (by rw [Bool.and_false])) fun H4 e4 => ⟨_, rfl, e3.trans e4⟩
        · obtain ⟨c, rfl, e3⟩ := h
          exact ⟨_, _, rfl, e2.trans e3⟩
      · obtain ⟨b, c, rfl, e2⟩ := h
        exact ⟨_, _, _, rfl, e1.trans e2⟩
    · obtain ⟨_, _, _, rfl, e1⟩ := h
      dsimp only
      refine s_retV (p := no) (x := .non) ev_c fun H2 e2 => ?_
      exact q _ H2 ((e0.trans e1).trans e2) rfl
/-- what stands of a house made -/
structure Plan (rooms : List Str) (ps : List (Str × Str)) : Prop where
  nd : rooms.Nodup
  some : rooms ≠ []
  small : rooms.length ≤ 9
  name : ∀ x ∈ rooms, NameOk x
  pairs : Pairs rooms ps
  few : ps.length ≤ 500
  tri : ∀ x y z, y ∈ nbs ps x → z ∈ nbs ps y → z ∉ nbs ps x
theorem mem_nbs {ps : List (Str × Str)} {x y : Str} : y ∈ nbs ps x ↔ (x, y) ∈ ps ∨ (y, x) ∈ ps := by
  unfold nbs
  rw [List.mem_flatMap]
  constructor
  · rintro ⟨⟨a, b⟩, m, h⟩
    rcases List.mem_append.mp h with h | h
    · split at h
      · rename_i e
        have e : a = x := e
        have := List.mem_singleton.mp h
        subst e this
        exact .inl m
      · exact absurd h List.not_mem_nil
    · split at h
      · rename_i e
        have e : b = x := e
        have := List.mem_singleton.mp h
        subst e this
        exact .inr m
      · exact absurd h List.not_mem_nil
  · rintro (m | m)
    · exact ⟨_, m, List.mem_append.mpr (.inl (by rw [if_pos rfl]; exact List.mem_singleton.mpr rfl))⟩
    · exact ⟨_, m, List.mem_append.mpr (.inr (by rw [if_pos rfl]; exact List.mem_singleton.mpr rfl))⟩
theorem nbs1_pw {p : Str × Str} {x y : Str} (h : y ∈ nbs1 x p) : (pw p).Perm [x, y] := by
  obtain ⟨a, b⟩ := p
  rcases List.mem_append.mp h with h | h
  · split at h
    · rename_i e
      have e : a = x := e
      have := List.mem_singleton.mp h
      subst e this
      exact .refl _
    · exact absurd h List.not_mem_nil
  · split at h
    · rename_i e
      have e : b = x := e
      have := List.mem_singleton.mp h
      subst e this
      exact List.Perm.swap _ _ _
    · exact absurd h List.not_mem_nil
theorem nbs_nodup : ∀ {ps : List (Str × Str)} {x : Str}, (∀ p ∈ ps, p.1 ≠ p.2) → (ps.Pairwise fun a b => ¬ (pw a).Perm (pw b)) → (nbs ps x).Nodup
  | [], _, _, _ => List.nodup_nil
  | (a, b) :: ps, x, h1, h2 => by
    have h2 := List.pairwise_cons.mp h2
    show (nbs1 x (a, b) ++ nbs ps x).Nodup
    rw [List.nodup_append]
    refine ⟨?_, nbs_nodup (fun p m => h1 p (List.mem_cons_of_mem _ m)) h2.2, fun y hy z hz e => ?_⟩
    · have := h1 (a, b) (List.mem_cons_self ..)
      unfold nbs1
      by_cases e1 : a = x
      · have e2 : ¬ b = x := fun e => this (e1.trans e.symm)
        simp [e1, e2]
      · by_cases e2 : b = x <;> simp [e1, e2]
    · subst e
      unfold nbs at hz
      obtain ⟨q, mq, hq⟩ := List.mem_flatMap.mp hz
      exact h2.1 q mq ((nbs1_pw hy).trans (nbs1_pw hq).symm)
theorem Plan.nbOk {rooms names : List Str} {ps : List (Str × Str)} {nb : Str → List Str} (h : Plan rooms ps) (pm : names.Perm rooms) (hn : ∀ n ∈ names, (nb n).Perm (nbs ps n)) : NbOk names nb := by
  have mem : ∀ x ∈ names, ∀ y, y ∈ nb x ↔ y ∈ nbs ps x := fun x m y => (hn x m).mem_iff
  have inn : ∀ x y, y ∈ nbs ps x → x ∈ names ∧ y ∈ names ∧ x ≠ y := fun x y hy => by
    rcases mem_nbs.mp hy with m | m
    · obtain ⟨_, _, a, b, c⟩ := h.pairs.ok _ m
      exact ⟨pm.mem_iff.mpr a, pm.mem_iff.mpr b, c⟩
    · obtain ⟨_, _, a, b, c⟩ := h.pairs.ok _ m
      exact ⟨pm.mem_iff.mpr b, pm.mem_iff.mpr a, fun e => c e.symm⟩
  have sym : ∀ x y, y ∈ nbs ps x → x ∈ nbs ps y := fun x y hy => mem_nbs.mpr (mem_nbs.mp hy).symm
  refine ⟨pm.nodup_iff.mpr h.nd, by rw [pm.length_eq]; exact h.small, fun x m => h.name x (pm.mem_iff.mp m), fun x m y hy => (inn x y ((mem x m y).mp hy)).2.1, fun x m => (hn x m).nodup_iff.mpr (nbs_nodup (fun p m => (h.pairs.ok p m).2.2.2.2) h.pairs.dif),
    fun x m hx => (inn x x ((mem x m x).mp hx)).2.2 rfl, fun x m y hy => ?_, fun x m y hy z hz hz2 => ?_⟩
  · have hy := (mem x m y).mp hy
    exact (mem y (inn x y hy).2.1 x).mpr (sym x y hy)
  · have hy := (mem x m y).mp hy
    exact h.tri x y z hy ((mem y (inn x y hy).2.1 z).mp hz) ((mem x m z).mp hz2)
section
variable {p : Addr → Prop} {σ : L2.St} {H : Hp} {to tv : TE} {tz : TS} {D : Ends} {P : Hp → V → Prop}
theorem s_fld {h dx : Addr} {fs : List (Str × V)} {f : Str} (hv : EvP p tv σ H P) (ho : EvP p to σ H (IsV (.ref h))) (hi : ∀ H1, Kp p H H1 → H1 h = some (.ins C dx fs)) (c : Cls K C) (n : NoAttr K C f) (hz : fs.length < 1000)
    (hP : ∀ H1 H2 v, Kp p H1 H2 → P H1 v → P H2 v) (k : ∀ v H1, Kp p H H1 → P H1 v → D.nx σ (upd H1 h (.ins C dx (putF f v fs)))) : sFld K to tv f D σ H := hv H (Kp.refl p H) _ fun v H1 e1 h1 => ho H1 e1 _ fun x H2 e2 h2 => by
  have ex : x = .ref h := h2
  subst ex
  exact ⟨h, C, dx, fs, rfl, hi H2 (e1.trans e2), c, n, hz, k v H2 (e1.trans e2) (hP _ _ _ e2 h1)⟩
theorem q_fld {h dx : Addr} {fs : List (Str × V)} {f : Str} (hv : EvP p tv σ H P) (ho : EvP p to σ H (IsV (.ref h))) (hi : ∀ H1, Kp p H H1 → H1 h = some (.ins C dx fs)) (c : Cls K C) (n : NoAttr K C f) (hz : fs.length < 1000)
    (hP : ∀ H1 H2 v, Kp p H1 H2 → P H1 v → P H2 v) (k : ∀ v H1, Kp p H H1 → P H1 v → tz D σ (upd H1 h (.ins C dx (putF f v fs)))) : tSeq (sFld K to tv f) tz D σ H := s_fld (D := { D with nx := tz D }) hv ho hi c n hz hP k
theorem ins_tup {h dx : Addr} {fs : List (Str × V)} {o : HO} {v : V} {xs : List Str} (hi : H h = some (.ins C dx fs)) (t : TupS K H v xs) : TupS K (upd H h o) v xs := by
  obtain ⟨a, e, ha⟩ := t
  exact ⟨a, e, by rw [upd_ne fun z => by rw [z, hi] at ha; cases ha]; exact ha⟩
theorem ins_sl {h dx : Addr} {fs : List (Str × V)} {o : HO} {a : Addr} {xs : List V} (hi : H h = some (.ins C dx fs)) (t : SqL K H a xs) : SqL K (upd H h o) a xs := by
  rcases t with (t | ⟨ob, t⟩) | t
  · exact .inl (.inl (by rw [upd_ne fun z => by rw [z, hi] at t; cases t]; exact t))
  · exact .inl (.inr ⟨ob, by rw [upd_ne fun z => by rw [z, hi] at t; cases t]; exact t⟩)
  · exact .inr t
theorem ins_lstW {h dx : Addr} {fs : List (Str × V)} {o : HO} {v : V} {ws : List (List Str)} (hi : H h = some (.ins C dx fs)) (t : LstW K ws H v) : LstW K ws (upd H h o) v := by
  obtain ⟨a, bs, e, h1, h2, h3⟩ := t
  exact ⟨a, bs, e, ins_sl hi h1, fun b m => ins_tup hi (h2 b m), h3⟩
theorem ins_near {h dx : Addr} {fs : List (Str × V)} {o : HO} {v : V} {names : List Str} {nb : Str → List Str} (hi : H h = some (.ins C dx fs)) (t : NearOf names nb H v) : NearOf names nb (upd H h o) v := by
  obtain ⟨d, ad, e, h1, h2⟩ := t
  exact ⟨d, ad, e, by rw [upd_ne fun z => by rw [z, hi] at h1; cases h1]; exact h1, fun n m => by
    have h2 := h2 n m
    rw [upd_ne fun z => by rw [z, hi] at h2; cases h2]
    exact h2⟩
end
theorem put_doors (rv dv : V) : putF "own_doors" dv [(("own_rooms" : Str), rv)] = [(("own_rooms" : Str), rv), ("own_doors", dv)] := by
  show (if _ then _ else _) = _
  rw [if_neg (by decide)]
  rfl
theorem put_near (rv dv nv : V) : putF "near" nv [(("own_rooms" : Str), rv), ("own_doors", dv)] = [(("own_rooms" : Str), rv), ("own_doors", dv), ("near", nv)] := by
  show (if _ then _ else _) = _
  rw [if_neg (by decide)]
  show _ :: (if _ then _ else _) = _
  rw [if_neg (by decide)]
  rfl
theorem Pairs.perm {rooms names : List Str} {ps : List (Str × Str)} (h : Pairs rooms ps) (pm : names.Perm rooms) : Pairs names ps :=
  ⟨fun x m => ⟨(h.ok x m).1, (h.ok x m).2.1, pm.mem_iff.mpr (h.ok x m).2.2.1, pm.mem_iff.mpr (h.ok x m).2.2.2.1, (h.ok x m).2.2.2.2⟩, h.dif⟩
structure HouseAt (K : PySem.W.Frag) (C : Addr) (names : List Str) (nb : Str → List Str) (h : Addr) (H : Hp) : Prop where
  ex : ∃ (dx : Addr) (rv dv nv : V), H h = some (.ins C dx [(("own_rooms" : Str), rv), ("own_doors", dv), ("near", nv)]) ∧ TupP K names H rv ∧ NearOf names nb H nv
theorem HouseAt.up {names : List Str} {nb : Str → List Str} {h : Addr} {H H' : Hp} (a : HouseAt K C names nb h H) (e : Kp no H H') : HouseAt K C names nb h H' := by
  obtain ⟨dx, rv, dv, nv, h1, h2, h3⟩ := a.ex
  exact ⟨dx, rv, dv, nv, e.ins h1, e.tupS h2, h3.up e⟩
def spInit (K : PySem.W.Frag) (C : Addr) : Sp := fun vs H Q _ => ∃ (h dx : Addr) (v1 v2 : V) (rooms : List Str) (ps : List (Str × Str)) (B : Hp), vs = [.ref h, v1, v2] ∧ B h = none ∧ H h = some (.ins C dx []) ∧ Kp no B H ∧ SqP (rooms.map V.str) B v1 ∧ PairsP ps B v2 ∧ Plan rooms ps ∧
  ∀ H', Kp no B H' → (∃ names nb, names.Perm rooms ∧ (∀ n ∈ names, (nb n).Perm (nbs ps n)) ∧ HouseAt K C names nb h H') → Q .non H'
theorem scHoInit : FnScope ["self", "rooms", "doors", "bad", "three"] ["self", "rooms", "doors"] (defScope sHoInit) := ⟨rfl, rfl, rfl, by decide +kernel, rfl, by decide +kernel, by decide +kernel⟩
theorem ok_init {f : Addr} {fd : FuncData} (F : DefIs K "__init__" "House.__init__" sHoInit f fd) (T : TopF K mg C) (C_BadNames : Can P w K mg base "bad_names" 2 ["things"] spBadNames) (C_BadPairs : Can P w K mg base "bad_pairs" 3 ["names", "things"] (spBadPairs K)) (C_PairsOf : Can P w K mg base "pairs_of" 1 ["things"] (spPairsOf K)) (C_BesideAll : Can P w K mg base "beside_all" 1 ["names", "pairs"] (spBesideAll K)) (C_FirstThree : Can P w K mg base "first_three" 1 ["near"] spFirstThree) :
    FnOk P w K mg base CX0 4 f fd ["self", "rooms", "doors"] (spInit K C) := by
  refine def_ok F scHoInit (fun vs H Q E h => ?_) (fun cdv A outer s H vs Q E hr h => ?_)
  · obtain ⟨_, _, _, _, _, _, _, rfl, _⟩ := h
    rfl
  · obtain ⟨h, dx, v1, v2, rooms, ps, B, rfl, hB, hh, e0, hv1, hv2, hp, q⟩ := h
    have hu := hu_of hr
    refine ⟨_, (pss_cons (ps_set (i := 3) scHoInit.nd rfl (.inl rfl) (pe_fn C_BadNames hr rfl (pa_cons (pv 1) pa_nil)))
      (pss_cons (ps_if (pt_cmpR (opK (r := rNeL) (K := K) (op_neL (by exact hr.units)) rfl) (pv 3) (pe_lst pa_nil) (nomark _))
        (pss_one ps_never)
        pss_nil)
      (pss_cons (ps_fld (pv 0) (pe_callTy (T := "tuple") (crK (r := tupR) (K := K) call_tuple_of rfl) (by rfl) T.z_tuple (by decide +kernel) (pa_cons (pe_callB (id := "sorted") (crK (r := rSrtS) (K := K) (cr_srtS (by exact hr.units)) rfl) (by rfl) T.z_sorted (by decide +kernel) (pa_cons (pv 1) pa_nil)) pa_nil)) rfl)
      (pss_cons (ps_set (i := 3) scHoInit.nd rfl (.inl rfl) (pe_fn C_BadPairs hr rfl (pa_cons (pe_fldK (K := K) rfl (pv 0) rfl) (pa_cons (pv 2) pa_nil))))
      (pss_cons (ps_if (pt_cmpR (opK (r := rNeL) (K := K) (op_neL (by exact hr.units)) rfl) (pv 3) (pe_lst pa_nil) (nomark _))
        (pss_one ps_never)
        pss_nil)
      (pss_cons (ps_fld (pv 0) (pe_fn C_PairsOf hr rfl (pa_cons (pv 2) pa_nil)) rfl)
      (pss_cons (ps_fld (pv 0) (pe_fn C_BesideAll hr rfl (pa_cons (pe_fldK (K := K) rfl (pv 0) rfl) (pa_cons (pe_fldK (K := K) rfl (pv 0) rfl) pa_nil))) rfl)
      (pss_cons (ps_set (i := 4) scHoInit.nd rfl (.inl rfl) (pe_fn C_FirstThree hr rfl (pa_cons (pe_fldK (K := K) rfl (pv 0) rfl) pa_nil)))
      (pss_one (ps_if (pt_cmpR op_notN (pv 4) pe_non (nomark _))
        (pss_one ps_never)
        pss_nil)))))))))), ?_⟩
    have few : rooms.length ≤ 1000 := Nat.le_trans hp.small (by decide)
    refine q_set (p := no) (i := 3) (ev_fn (sp := spBadNames) (Ps := [SqP (rooms.map V.str)]) (C := rooms ≠ [] ∧ rooms.Nodup ∧ rooms.length ≤ 1000 ∧ ∀ x ∈ rooms, NameOk x) (fun vs H Q g => ⟨rooms, g⟩) (ea_cons (ev_var (P := SqP _) rfl (Stay.stay e0 hv1)) ea_nil) ⟨hp.some, hp.nd, few, hp.name⟩) fun bad H1 e1 hbad => ?_
    show tSeq _ _ _ [some (.ref h), some v1, some v2, some bad, none] H1
    refine q_ifF (p := no) (eb_test (ev_neNil (ev_var (P := NewL []) rfl hbad) ev_lst0)) fun H2 e2 => ?_
    refine q_fld (p := no) (ev_tupSort (ev_srtS (ev_var (P := VQ K (rooms.map V.str)) rfl (sq_vq (Stay.stay ((e0.trans e1).trans e2) hv1))) few)) (ev_val rfl) (fun H3 e3 => ((e1.trans e2).trans e3).ins hh) T.cl T.nR (by decide) (fun _ _ _ e h => Stay.stay e h) fun rv H3 e3 hrv => ?_
    obtain ⟨names, pm, hrv⟩ := hrv
    have i3 := ((e1.trans e2).trans e3).ins hh
    have k3 := (((e0.trans e1).trans e2).trans e3)
    have k4 : Kp no B (upd H3 h (.ins C dx (putF "own_rooms" rv []))) := k3.mut hB
    have r4 : TupS K (upd H3 h (.ins C dx (putF "own_rooms" rv []))) rv names := ins_tup i3 hrv
    have i4 : upd H3 h (.ins C dx (putF "own_rooms" rv [])) h = some (.ins C dx [(("own_rooms" : Str), rv)]) := upd_same
    generalize upd H3 h (.ins C dx (putF "own_rooms" rv [])) = H4 at k4 r4 i4 ⊢
    have rdR : ∀ {σ : L2.St} {H5 : Hp} {fs : List (Str × V)}, σ[0]? = some (some (.ref h)) → H5 h = some (.ins C dx fs) → fs.lookup ("own_rooms" : Str) = some rv → TupS K H5 rv names → EvP no (tFld K (tVar 0) "own_rooms") σ H5 (TupP K names) := fun h0 hi hl ht =>
      (ev_fld (C := C) (dx := dx) (ev_val h0) (fun H6 e6 => ⟨h, rfl, e6.ins hi⟩) T.cl T.nR hl).imp fun H6 v e6 hv => by
        have ev : v = rv := hv
        subst ev
        exact e6.tupS ht
    refine q_set (p := no) (i := 3) (ev_fn (sp := spBadPairs K) (Ps := [TupP K names, PairsP ps]) (C := Pairs names ps ∧ ps.length ≤ 1000) (fun vs H Q g => ⟨names, ps, g⟩) (ea_cons (rdR rfl i4 rfl r4) (ea_cons (ev_var (P := PairsP ps) rfl (Stay.stay k4 hv2)) ea_nil)) ⟨hp.pairs.perm pm, Nat.le_trans hp.few (by decide)⟩) fun bad2 H5 e5 hbad2 => ?_
    show tSeq _ _ _ [some (.ref h), some v1, some v2, some bad2, none] H5
    refine q_ifF (p := no) (eb_test (ev_neNil (ev_var (P := NewL []) rfl hbad2) ev_lst0)) fun H6 e6 => ?_
    refine q_fld (p := no) (ev_fn (sp := spPairsOf K) (Ps := [PairsP ps]) (C := ps.length ≤ 1000) (fun vs H Q g => ⟨ps, g⟩) (ea_cons (ev_var (P := PairsP ps) rfl (Stay.stay ((k4.trans e5).trans e6) hv2)) ea_nil) (Nat.le_trans hp.few (by decide))) (ev_val rfl) (fun H7 e7 => ((e5.trans e6).trans e7).ins i4) T.cl T.nD (by show 1 < 1000; decide) (fun _ _ _ e h => Stay.stay e h) fun dv H7 e7 hdv => ?_
    obtain ⟨qs, lk, hdv⟩ := hdv
    rw [put_doors]
    have i7 := ((e5.trans e6).trans e7).ins i4
    have k8 : Kp no B (upd H7 h (.ins C dx [(("own_rooms" : Str), rv), ("own_doors", dv)])) := (((k4.trans e5).trans e6).trans e7).mut hB
    have r8 : TupS K (upd H7 h (.ins C dx [(("own_rooms" : Str), rv), ("own_doors", dv)])) rv names := ins_tup i7 (((e5.trans e6).trans e7).tupS r4)
    have d8 : LstW K (qs.map pw) (upd H7 h (.ins C dx [(("own_rooms" : Str), rv), ("own_doors", dv)])) dv := ins_lstW i7 hdv
    have i8 : upd H7 h (.ins C dx [(("own_rooms" : Str), rv), ("own_doors", dv)]) h = some (.ins C dx [(("own_rooms" : Str), rv), ("own_doors", dv)]) := upd_same
    generalize upd H7 h (.ins C dx [(("own_rooms" : Str), rv), ("own_doors", dv)]) = H8 at k8 r8 d8 i8 ⊢
    have nok := hp.pairs.perm pm
    refine q_fld (p := no) (P := fun H v => ∃ nb : Str → List Str, (∀ n ∈ names, (nb n).Perm (nbs qs n)) ∧ NearOf names nb H v) (ev_fn (sp := spBesideAll K) (Ps := [TupP K names, LstW K (qs.map pw)]) (C := names.Nodup ∧ names.length < 64 ∧ qs.length ≤ 500 ∧ ∀ q ∈ qs, q.1 ∈ names ∧ q.2 ∈ names) (fun vs H Q g => ⟨names, qs, g⟩) (ea_cons (rdR rfl i8 rfl r8) (ea_cons ((ev_fld (C := C) (dx := dx) (f := "own_doors") (v := dv) (ev_val rfl) (fun H9 e9 => ⟨h, rfl, e9.ins i8⟩) T.cl T.nD rfl).imp fun H9 v e9 hv => by
        have ev : v = dv := hv
        subst ev
        exact Stay.stay e9 d8) ea_nil)) ⟨pm.nodup_iff.mpr hp.nd, by rw [pm.length_eq]; exact Nat.lt_of_le_of_lt hp.small (by decide), by rw [lk.len]; exact hp.few, fun x m => by
        rcases lk.mem x m with m | m
        · exact ⟨(nok.ok _ m).2.2.1, (nok.ok _ m).2.2.2.1⟩
        · exact ⟨(nok.ok _ m).2.2.2.1, (nok.ok _ m).2.2.1⟩⟩) (ev_val rfl) (fun H9 e9 => e9.ins i8) T.cl T.nN (by show 2 < 1000; decide) (fun _ _ _ e z => z.elim fun nb z => ⟨nb, z.1, z.2.up e⟩) fun nv H9 e9 hnv => ?_
    obtain ⟨nb, hnb, hnv⟩ := hnv
    rw [put_near]
    have i9 := e9.ins i8
    have hnb2 : ∀ n ∈ names, (nb n).Perm (nbs ps n) := fun n m => (hnb n m).trans (lk.nbs n)
    have k10 : Kp no B (upd H9 h (.ins C dx [(("own_rooms" : Str), rv), ("own_doors", dv), ("near", nv)])) := (k8.trans e9).mut hB
    have a10 : HouseAt K C names nb h (upd H9 h (.ins C dx [(("own_rooms" : Str), rv), ("own_doors", dv), ("near", nv)])) := ⟨dx, rv, dv, nv, upd_same, ins_tup i9 (e9.tupS r8), ins_near i9 hnv⟩
    have n10 : NearOf names nb (upd H9 h (.ins C dx [(("own_rooms" : Str), rv), ("own_doors", dv), ("near", nv)])) nv := ins_near i9 hnv
    have i10 : upd H9 h (.ins C dx [(("own_rooms" : Str), rv), ("own_doors", dv), ("near", nv)]) h = some (.ins C dx [(("own_rooms" : Str), rv), ("own_doors", dv), ("near", nv)]) := upd_same
    generalize upd H9 h (.ins C dx [(("own_rooms" : Str), rv), ("own_doors", dv), ("near", nv)]) = H10 at k10 a10 n10 i10 ⊢
    refine q_setV (p := no) (i := 4) (x := .non) (ev_fn (sp := spFirstThree) (Ps := [NearOf names nb]) (C := NbOk names nb) (fun vs H Q g => ⟨names, nb, g⟩) (ea_cons ((ev_fld (C := C) (dx := dx) (f := "near") (v := nv) (ev_val rfl) (fun H11 e11 => ⟨h, rfl, e11.ins i10⟩) T.cl T.nN rfl).imp fun H11 v e11 hv => by
        have ev : v = nv := hv
        subst ev
        exact n10.up e11) ea_nil) (hp.nbOk pm hnb2)) fun H11 e11 => ?_
    show tIfS _ _ _ _ [some (.ref h), some v1, some v2, some bad2, some .non] H11
    refine s_ifF (p := no) (eb_test (ev_isNot (ev_val rfl) ev_c)) fun H12 e12 => ?_
    exact q H12 ((k10.trans e11).trans e12) ⟨names, nb, pm, hnb2, a10.up (e11.trans e12)⟩
end
end Tau
set_option maxHeartbeats 4000000
namespace Tau
open PySem PySem.Spec PyProof.Rows L2
/-! House.rooms, House.need_room, shrunk, turned, behind, need_closed, core, turns, named, times_of, need_something, root -/
def HouseV (K : PySem.W.Frag) (C : Addr) (names : List Str) (nb : Str → List Str) (h : Addr) : Hp → V → Prop := fun H v => v = .ref h ∧ HouseAt K C names nb h H
instance {K : PySem.W.Frag} {C : Addr} {names : List Str} {nb : Str → List Str} {h : Addr} : Stay no (HouseV K C names nb h) := ⟨fun e ⟨e1, a⟩ => ⟨e1, a.up e⟩⟩
theorem atI_neg {α : Type} {xs : List α} {k : Nat} {v : α} (h1 : 1 ≤ k) (h2 : k ≤ xs.length) (e : xs[xs.length - k]? = some v) : atI xs (-(k : Int)) = some v := by
  have e1 : ixN xs.length (-(k : Int)) = some (xs.length - k) := by
    unfold ixN
    rw [if_neg (by omega), if_pos (by omega)]
    congr 1
    omega
  unfold atI
  rw [e1]
  exact e
section
variable {p : Addr → Prop} {K : PySem.W.Frag} {C : Addr} {σ : L2.St} {H : Hp} {te to : TE} {P R : Hp → V → Prop} {ta : TA}
theorem ev_mtH [Stay p P] {sp : Sp} {E : XK} {m : Str} {Ps : List (Hp → V → Prop)} {Cd : Prop} {S : Hp → V → Prop} (hs : ∀ vs H Q, Gives (P :: Ps) Cd S vs H Q → sp vs H Q E)
    (ho : EvP p to σ H P) (hi : ∀ H1 v, P H1 v → ∃ a dx fs, v = .ref a ∧ H1 a = some (.ins C dx fs) ∧ fs.lookup m = none) (ha : EvA p ta σ H Ps) (hc : Cd) : EvP p (tMeth C m sp [] E to ta) σ H S := fun H1 e Q q =>
  ho H1 e _ fun y H2 e2 hy => by
    obtain ⟨a, dx, fs, e1, h1, h2⟩ := hi H2 y hy
    refine ⟨a, dx, fs, e1, h1, h2, ha H2 (e.trans e2) _ fun vs H3 e3 hv => ?_⟩
    rw [List.append_nil]
    exact hs _ H3 Q ⟨hc, .cons (Stay.stay e3 hy) hv, fun v H' e4 h => q v H' ((e2.trans e3).trans e4.any) h⟩
theorem HouseV.ins {names : List Str} {nb : Str → List Str} {h : Addr} {m : Str} (hm : List.lookup m [(("own_rooms" : Str), ()), ("own_doors", ()), ("near", ())] = none) : ∀ H1 v, HouseV K C names nb h H1 v → ∃ a dx fs, v = .ref a ∧ H1 a = some (.ins C dx fs) ∧ fs.lookup m = none := fun H1 v ⟨e, a⟩ => by
  obtain ⟨dx, rv, dv, nv, h1, _, _⟩ := a.ex
  refine ⟨h, dx, _, e, h1, ?_⟩
  unfold List.lookup at hm ⊢
  split at hm
  · cases hm
  · unfold List.lookup at hm ⊢
    split at hm
    · cases hm
    · unfold List.lookup at hm ⊢
      split at hm
      · cases hm
      · rfl
/-- house.near -/
theorem ev_houseNear {names : List Str} {nb : Str → List Str} {h : Addr} {mg : Str → Option Value} (T : TopF K mg C) (ho : EvP no to σ H (HouseV K C names nb h)) : EvP no (tFld K to "near") σ H (NearOf names nb) := fun H1 e1 Q q =>
  ho H1 e1 _ fun x H2 e2 ⟨ex, a⟩ => by
    obtain ⟨dx, rv, dv, nv, h1, h2, h3⟩ := a.ex
    exact ⟨h, C, dx, _, nv, ex, h1, T.cl, T.nN, rfl, q nv H2 e2 h3⟩
theorem ev_houseRooms {names : List Str} {nb : Str → List Str} {h : Addr} {mg : Str → Option Value} (T : TopF K mg C) (ho : EvP no to σ H (HouseV K C names nb h)) : EvP no (tFld K to "own_rooms") σ H (TupP K names) := fun H1 e1 Q q =>
  ho H1 e1 _ fun x H2 e2 ⟨ex, a⟩ => by
    obtain ⟨dx, rv, dv, nv, h1, h2, h3⟩ := a.ex
    exact ⟨h, C, dx, _, rv, ex, h1, T.cl, T.nR, rfl, q rv H2 e2 h2⟩
/-- near[x] -/
theorem ev_nearX {td ty : TE} {names : List Str} {nb : Str → List Str} {x : Str} (hd : EvP no td σ H (NearOf names nb)) (hy : EvP no ty σ H (IsV (.str x))) (hx : x ∈ names) : EvP no (tDGet td ty) σ H (LstP K (nb x)) := fun H1 e1 Q q =>
  hd H1 e1 _ fun v H2 e2 hv => hy H2 (e1.trans e2) _ fun y H3 e3 hy => by
    have ey : y = .str x := hy
    subst ey
    obtain ⟨d, ad, rfl, hN⟩ := (hv.up e3).at
    refine ⟨d, .ref (ad x), rfl, ?_, q _ H3 (e2.trans e3) ⟨ad x, rfl, .inl (.inl (hN.lst x hx))⟩⟩
    rw [← valV_names (f := fun n => V.ref (ad n)) hx]
    exact DGet.k (k := Sum.inr x) hN.dict
/-- x not in near -/
theorem ev_notNear {td ty : TE} {names : List Str} {nb : Str → List Str} {x : Str} (hy : EvP no ty σ H (IsV (.str x))) (hd : EvP no td σ H (NearOf names nb)) (hx : x ∈ names) : EvP no (tDNotIn ty td) σ H (IsV (.bl false)) := fun H1 e1 Q q =>
  hy H1 e1 _ fun y H2 e2 hy => hd H2 (e1.trans e2) _ fun v H3 e3 hv => by
    have ey : y = .str x := hy
    subst ey
    obtain ⟨d, ad, rfl, hN⟩ := hv.at
    refine ⟨d, some (.ref (ad x)), rfl, ?_, q _ H3 (e2.trans e3) rfl⟩
    rw [← valV_names (f := fun n => V.ref (ad n)) hx]
    exact DGet.k (k := Sum.inr x) hN.dict
end
/-- no step back at once -/
def NoBack (w : List Str) : Prop := ∀ (i : Nat) (h : i + 2 < w.length), w[i] ≠ w[i + 2]
section
variable {P : Program} {w : World} {K : PySem.W.Frag} {mg : Str → Option Value} {base : Heap} {C : Addr}
def spRooms (K : PySem.W.Frag) (C : Addr) : Sp := fun vs H Q _ => ∃ names nb h, Gives [HouseV K C names nb h] True (TupP K names) vs H Q
theorem scHoRooms : FnScope ["self"] ["self"] (defScope sHoRooms) := ⟨rfl, rfl, rfl, by decide +kernel, rfl, by decide +kernel, by decide +kernel⟩
theorem ok_rooms {f : Addr} {fd : FuncData} (F : DefIs K "rooms" "House.rooms" sHoRooms f fd) (T : TopF K mg C) : FnOk P w K mg base CX0 1 f fd ["self"] (spRooms K C) := by
  refine def_ok F scHoRooms (fun vs H Q E h => ?_) (fun cdv A outer s H vs Q E hr h => ?_)
  · obtain ⟨_, _, _, _, ha, _⟩ := h
    obtain ⟨v, rfl, _⟩ := args1 ha
    rfl
  · obtain ⟨names, nb, h, _, ha, q⟩ := h
    obtain ⟨v, rfl, hv⟩ := args1 ha
    refine ⟨_, (pss_one (ps_ret (pe_fldK (K := K) rfl (pv 0) rfl))), ?_⟩
    exact s_ret (p := no) (ev_houseRooms T (ev_var (P := HouseV K C names nb h) rfl hv)) fun v H1 e1 hv => q v H1 e1 hv
def spNeed (K : PySem.W.Frag) (C : Addr) : Sp := fun vs H Q _ => ∃ names nb h x, Gives [HouseV K C names nb h, IsV (.str x)] (NameOk x ∧ x ∈ names) (IsV .non) vs H Q
theorem scHoNeedRoom : FnScope ["self", "thing"] ["self", "thing"] (defScope sHoNeedRoom) := ⟨rfl, rfl, rfl, by decide +kernel, rfl, by decide +kernel, by decide +kernel⟩
theorem ok_need_room {f : Addr} {fd : FuncData} (F : DefIs K "need_room" "House.need_room" sHoNeedRoom f fd) (T : TopF K mg C) (C_IsName : Can P w K mg base "is_name" 1 ["thing"] spIsName) : FnOk P w K mg base CX0 2 f fd ["self", "thing"] (spNeed K C) := by
  refine def_ok F scHoNeedRoom (fun vs H Q E h => ?_) (fun cdv A outer s H vs Q E hr h => ?_)
  · obtain ⟨_, _, _, _, _, ha, _⟩ := h
    obtain ⟨v, w, rfl, _⟩ := args2 ha
    rfl
  · obtain ⟨names, nb, h, x, ⟨hx, mx⟩, ha, q⟩ := h
    obtain ⟨v, y, rfl, hv, hy⟩ := args2 ha
    have ey : y = .str x := hy
    subst ey
    have hu := hu_of hr
    refine ⟨_, (pss_one (ps_if (PW.pt (pw_or (pt_not (pt_val (pe_fn C_IsName hr rfl (pa_cons (pv 1) pa_nil)))) (pw_or1 (pt_cmp (pc_dnotin hu (pv 1) (pe_fldK (K := K) rfl (pv 0) rfl))))))
        (pss_one ps_never)
        pss_nil)), ?_⟩
    exact s_ifF (p := no) (eb_is (a := !true || false) (eb_or (eb_not (eb_B (ev_name (ev_val rfl) hx))) fun _ => eb_test (ev_notNear (ev_val rfl) (ev_houseNear T (ev_var (P := HouseV K C names nb h) rfl hv)) mx)) rfl) fun H1 e1 => q _ H1 e1 rfl
def spShrunk (K : PySem.W.Frag) : Sp := fun vs H Q _ => ∃ w, Gives [TupP K w] (NoBack w ∧ w.length ≤ 1000) (TupP K w) vs H Q
theorem scShrunk : FnScope ["walk", "found", "room"] ["walk"] (defScope sShrunk) := ⟨rfl, rfl, rfl, by decide +kernel, rfl, by decide +kernel, by decide +kernel⟩
theorem ok_shrunk {f : Addr} {fd : FuncData} (F : DefIs K "shrunk" "shrunk" sShrunk f fd) (T : TopF K mg C) : FnOk P w K mg base CX0 1 f fd ["walk"] (spShrunk K) := by
  refine def_ok F scShrunk (fun vs H Q E h => ?_) (fun cdv A outer s H vs Q E hr h => ?_)
  · obtain ⟨_, _, ha, _⟩ := h
    obtain ⟨v, rfl, _⟩ := args1 ha
    rfl
  · obtain ⟨w, ⟨hw, hlen⟩, ha, q⟩ := h
    obtain ⟨v, rfl, wa, rfl, hwa⟩ := args1 ha
    refine ⟨_, (pss_cons (ps_set (i := 1) scShrunk.nd rfl (.inl rfl) (pe_lst pa_nil))
      (pss_cons (ps_for PassesOwn.never rfl (pi_tupK (K := K) rfl (pv 0)) (pg_name (i := 2) scShrunk.nd rfl (.inl rfl))
        (pss_one (ps_if (PW.pt (pw_and (pt_cmpR op_ge (pe_callB (id := "len") (crK (r := lenR) (K := K) call_len_seq rfl) (by rfl) T.z_len (by decide +kernel) (pa_cons (pv 1) pa_nil)) pe_int (nomark _)) (pw_and1 (pt_cmpR op_eq (pe_ix (ixK (r := rIxL) (K := K) ix_list rfl) (pv 1) (pe_un un_neg pe_int) (fun _ _ => rfl)) (pv 2) (nomark _)))))
          (pss_one (ps_expr (pe_bm0 PySem.F.plainAttrs_list PySem.F.slot_list_pop PySem.F.type_list_pop mt_pop (pv 1))))
          (pss_one (ps_expr (pe_bm PySem.F.plainAttrs_list PySem.F.slot_list_append PySem.F.type_list_append mt_append (pv 1) (pa_cons (pv 2) pa_nil)))))))
      (pss_one (ps_ret (pe_callTy (T := "tuple") (crK (r := tupR) (K := K) call_tuple_of rfl) (by rfl) T.z_tuple (by decide +kernel) (pa_cons (pv 1) pa_nil)))))), ?_⟩
    refine q_lst0 fun d hd => ?_
    have e0 : Kp no H (upd H d (.lst [])) := Kp.new hd
    refine q_forT (p := no) (K := K) (a := wa) (xs := w.map V.str) (H0 := H) (.inl (.inl hwa)) e0 (ev_val rfl) (fun i σ' H' => ∃ y, σ' = [some (.ref wa), some (.ref d), y] ∧ Kp no H H' ∧ H' d = some (.lst ((w.take i).map V.str))) (fun H1 e1 => ⟨none, rfl, e0.trans e1, e1.at upd_same⟩) (fun i σ' H' h => ?_) (fun i x σ' H' hx h => ?_) fun σ' H' h => ?_
    · obtain ⟨_, _, e, _⟩ := h
      exact e
    · obtain ⟨y, rfl, e1, hD⟩ := h
      have hi : i < w.length := by
        have := (List.getElem?_eq_some_iff.mp hx).1
        rw [List.length_map] at this
        exact this
      have ex : x = .str w[i] := by
        rw [List.getElem?_map, List.getElem?_eq_getElem hi] at hx
        exact (Option.some.inj hx).symm
      subst ex
      show tIfS _ _ _ _ [some (.ref wa), some (.ref d), some (.str w[i])] H'
      have tl : (w.take i).length = i := by rw [List.length_take]; omega
      have fnd : ∀ H2, Kp no H' H2 → LstP K (w.take i) H2 (.ref d) := fun H2 e2 => ⟨d, rfl, .inl (.inl (e2.at hD))⟩
      refine s_if (p := no) (b := false) (eb_is (a := decide ((2 : Int) ≤ ((w.take i).length : Int)) && false) (eb_and (eb_test (ev_I0 (ev_lenL (K := K) (ev_var (P := LstP K (w.take i)) rfl (fnd H' (Kp.refl _ _)))) ev_c)) fun h2 => ?_) (Bool.and_false _)) (fun z => nomatch z) fun _ H2 e2 => ?_
      · have h2 : 2 ≤ i := by
          have := of_decide_eq_true h2
          omega
        refine eb_test (EvP.val (ev_eq (ev_ixL (K := K) (xs := w.take i) (i := -2) (s := w[i - 2]) (ev_var (P := LstP K (w.take i)) rfl (fnd H' (Kp.refl _ _))) (ev_neg ev_c) (atI_neg (k := 2) (by omega) (by omega) ?_)) (ev_val rfl) rfl) ?_)
        · rw [tl, List.getElem?_take, if_pos (by omega), List.getElem?_eq_getElem (by omega)]
        · refine congrArg V.bl (decide_eq_false fun z => ?_)
          have z := V.str.inj z
          have := hw (i - 2) (by omega)
          have e3 : i - 2 + 2 = i := by omega
          simp only [e3] at this
          exact this z
      · refine s_app (p := no) (K := K) (a := d) (xs := (w.take i).map V.str) (P := IsV (.str w[i])) (ev_val rfl) (ev_val rfl) (fun H3 e3 => (e2.trans e3).at hD) (by rw [List.length_map, tl]; omega) fun v H3 e3 hv => ?_
        have ev : v = .str w[i] := hv
        subst ev
        refine ⟨_, rfl, ((e1.trans e2).trans e3).mut hd, ?_⟩
        rw [upd_same, take_succ_get hi, List.map_append]
        rfl
    · obtain ⟨y, rfl, e1, hD⟩ := h
      rw [List.length_map, List.take_length] at hD
      exact s_ret (p := no) (ev_tupL (K := K) (xs := w) (ev_var (P := LstP K w) rfl ⟨d, rfl, .inl (.inl hD)⟩)) fun v H2 e2 hv => q v H2 (e1.trans e2) hv
end
end Tau
set_option maxHeartbeats 4000000
namespace Tau
open PySem PySem.Spec PyProof.Rows L2
/-! turned, behind, need_closed, core, turns, named, times_of, need_something, root -/
theorem cutW_from {α : Type} (xs : List α) (k : Nat) : cutW xs (some (k : Int)) none = xs.drop k := by
  unfold cutW
  rw [HT.sIx_nat, HT.sIx_none]
  by_cases h : k ≤ xs.length
  · rw [Nat.min_eq_left h, List.take_of_length_le (by rw [List.length_drop]; exact Nat.le_refl _)]
  · rw [Nat.min_eq_right (by omega), List.drop_of_length_le (Nat.le_refl _), List.drop_of_length_le (by omega), List.take_nil]
theorem cutW_to {α : Type} (xs : List α) (k : Nat) : cutW xs none (some (k : Int)) = xs.take k := by
  unfold cutW
  rw [HT.sIx_nat, HT.sIx_none, List.drop_zero, Nat.sub_zero]
  by_cases h : k ≤ xs.length
  · rw [Nat.min_eq_left h]
  · rw [Nat.min_eq_right (by omega), List.take_length, List.take_of_length_le (by omega)]
theorem sIx_last (n d : Nat) : HT.sIx n d (some (-1)) = n - 1 := by
  show (if (-1 : Int) < 0 then ((-1 : Int) + (n : Int)).toNat else min (-1 : Int).toNat n) = n - 1
  rw [if_pos (by decide)]
  omega
theorem cutW_kLast {α : Type} (xs : List α) (k : Nat) (h : k ≤ xs.length) : cutW xs (some (k : Int)) (some (-1)) = (xs.drop k).take (xs.length - 1 - k) := by
  unfold cutW
  rw [HT.sIx_nat, sIx_last, Nat.min_eq_left h]
theorem cutW_toLast {α : Type} (xs : List α) : cutW xs none (some (-1)) = xs.dropLast := by
  unfold cutW
  rw [sIx_last, HT.sIx_none, List.drop_zero, Nat.sub_zero, List.dropLast_eq_take]
theorem cutW_mid {α : Type} (xs : List α) (k l : Nat) (hk : k ≤ xs.length) (hl : l ≤ xs.length) : cutW xs (some (k : Int)) (some (l : Int)) = (xs.drop k).take (l - k) := by
  unfold cutW
  rw [HT.sIx_nat, HT.sIx_nat, Nat.min_eq_left hk, Nat.min_eq_left hl]
/-- w[k:-1] + w[:k + 1] -/
def rot (w : List Str) (k : Nat) : List Str := (w.drop k).take (w.length - 1 - k) ++ w.take (k + 1)
def rots (w : List Str) : List (List Str) := (List.range (w.length - 1)).map (rot w)
/-- the least of the turns -/
def nm (w : List Str) : List Str :=
  match rots w with
  | [] => []
  | x :: xs => minW x xs
/-- a closed walk of four to seven steps, no step back at once, all rooms but the last apart -/
structure Ring (w : List Str) : Prop where
  len : 5 ≤ w.length
  small : w.length ≤ 8
  clo : w[0]? = w[w.length - 1]?
  nb : NoBack w
  tl : w[1]? ≠ w[w.length - 2]?
  nd : w.dropLast.Nodup
/-- a tuple of two -/
def Pair2 (P R : Hp → V → Prop) : Hp → V → Prop := fun H v => ∃ (a : Addr) (u z : V), v = .ref a ∧ H a = some (.tup [u, z]) ∧ P H u ∧ R H z
instance {p : Addr → Prop} {P R : Hp → V → Prop} [Stay p P] [Stay p R] : Stay p (Pair2 P R) := ⟨fun e ⟨a, u, z, e1, h, h1, h2⟩ => ⟨a, u, z, e1, e.tup h, Stay.stay e h1, Stay.stay e h2⟩⟩
section
variable {p : Addr → Prop} {K : PySem.W.Frag} {σ : L2.St} {H : Hp} {te ta tb : TE} {tr : TA} {tz : TS} {D : Ends} {P R S : Hp → V → Prop}
theorem ev_pair [Stay p P] (ha : EvP p ta σ H P) (hb : EvP p tb σ H R) (hP : ∀ H1 z v, H1 z = none → P H1 v → ∀ o, P (upd H1 z o) v) (hR : ∀ H1 z v, H1 z = none → R H1 v → ∀ o, R (upd H1 z o) v) :
    EvP p (tTup (tCons ta (tCons tb tNil))) σ H (Pair2 P R) := fun H1 e Q q =>
  ha H1 e _ fun x H2 e2 hx => hb H2 (e.trans e2) _ fun y H3 e3 hy => ⟨by show 2 ≤ sizeLine; decide, fun z hz => q _ _ ((e2.trans e3).trans (Kp.new hz)) ⟨z, x, y, rfl, upd_same, hP _ _ _ hz (Stay.stay e3 hx) _, hR _ _ _ hz hy _⟩⟩
theorem new_tup {H1 : Hp} {z : Addr} {v : V} {xs : List Str} (hz : H1 z = none) (h : TupP K xs H1 v) (o : HO) : TupP K xs (upd H1 z o) v := (Kp.new (p := no) hz).tupS h
/-- i, j = a pair -/
theorem s_unp {i j : Nat} (h : EvP p te σ H (Pair2 P R)) (k : ∀ v w H1, Kp p H H1 → P H1 v → R H1 w → D.nx ((σ.set i (some v)).set j (some w)) H1) : tAsg te (gTup K 2 (gCons (gName i) (gCons (gName j) gNil))) D σ H :=
  h H (Kp.refl p H) _ fun x H1 e ⟨a, u, z, ex, hs, h1, h2⟩ => ⟨a, [u, z], ex, .inl (.inl hs), rfl, u, [z], rfl, z, [], rfl, rfl, k u z H1 e h1 h2⟩
theorem q_unp {i j : Nat} (h : EvP p te σ H (Pair2 P R)) (k : ∀ v w H1, Kp p H H1 → P H1 v → R H1 w → tz D ((σ.set i (some v)).set j (some w)) H1) : tSeq (tAsg te (gTup K 2 (gCons (gName i) (gCons (gName j) gNil)))) tz D σ H := s_unp (D := { D with nx := tz D }) h k
theorem q_par {i j : Nat} (h : EvA p tr σ H [P, R]) (k : ∀ v w H1, Kp p H H1 → P H1 v → R H1 w → tz D ((σ.set i (some v)).set j (some w)) H1) : tSeq (tPar i j tr) tz D σ H :=
  h H (Kp.refl p H) _ fun vs H1 e hv => by
    obtain ⟨v, w, rfl, h1, h2⟩ := args2 hv
    exact ⟨v, w, rfl, k v w H1 e h1 h2⟩
theorem ev_mul {i j : Int} (ha : EvP p ta σ H (IsV (.int i))) (hb : EvP p tb σ H (IsV (.int j))) (h : CMul i j) : EvP p (tOp (rI CMul fun i j => .int (i * j)) ta tb) σ H (IsV (.int (i * j))) := ev_I ha hb h
theorem ev_modN {i j : Int} (ha : EvP p ta σ H (IsV (.int i))) (hb : EvP p tb σ H (IsV (.int j))) (h : j ≠ 0) : EvP p (tOp (rI (fun _ j => j ≠ 0) fun i j => .int (i.fmod j)) ta tb) σ H (IsV (.int (i.fmod j))) := ev_I (C := fun _ j => j ≠ 0) ha hb h
theorem ev_fdN {i j : Int} (ha : EvP p ta σ H (IsV (.int i))) (hb : EvP p tb σ H (IsV (.int j))) (h : CDivN i j) : EvP p (tOp (rI CDivN fun i j => .int (i.fdiv j)) ta tb) σ H (IsV (.int (i.fdiv j))) := ev_I ha hb h
theorem ev_add {i j : Int} (ha : EvP p ta σ H (IsV (.int i))) (hb : EvP p tb σ H (IsV (.int j))) : EvP p (tOp (rI0 fun i j => .int (i + j)) ta tb) σ H (IsV (.int (i + j))) := ev_I0 ha hb
theorem ev_sub {i j : Int} (ha : EvP p ta σ H (IsV (.int i))) (hb : EvP p tb σ H (IsV (.int j))) : EvP p (tOp (rI0 fun i j => .int (i - j)) ta tb) σ H (IsV (.int (i - j))) := ev_I0 ha hb
theorem ev_gt {i j : Int} (ha : EvP p ta σ H (IsV (.int i))) (hb : EvP p tb σ H (IsV (.int j))) : EvP p (tOp (rI0 fun i j => .bl (decide (j < i))) ta tb) σ H (IsV (.bl (decide (j < i)))) := ev_I0 ha hb
theorem ev_ge {i j : Int} (ha : EvP p ta σ H (IsV (.int i))) (hb : EvP p tb σ H (IsV (.int j))) : EvP p (tOp (rI0 fun i j => .bl (decide (j ≤ i))) ta tb) σ H (IsV (.bl (decide (j ≤ i)))) := ev_I0 ha hb
theorem ev_lt {i j : Int} (ha : EvP p ta σ H (IsV (.int i))) (hb : EvP p tb σ H (IsV (.int j))) : EvP p (tOp (rI0 fun i j => .bl (decide (i < j))) ta tb) σ H (IsV (.bl (decide (i < j)))) := ev_I0 ha hb
/-- t * k -/
theorem ev_rep {xs : List Str} {k : Nat} (ha : EvP p ta σ H (TupP K xs)) (hb : EvP p tb σ H (IsV (.int (k : Int)))) (h0 : xs ≠ []) (h1 : 1 ≤ k) (h2 : k ≤ 1000) (h3 : xs.length ≤ 1000) : EvP p (tOp (rRepA K) ta tb) σ H (TupP K (List.replicate k xs).flatten) :=
  ev_op ha hb fun H1 x y _ ⟨a, ex, hs⟩ hy Q q => by
    have ey : y = .int (k : Int) := hy
    subst ex ey
    by_cases hk : k = 1
    · subst hk
      refine .inl ⟨a, _, rfl, rfl, .inl (.inl hs), q _ H1 (Kp.refl p H1) ⟨a, rfl, ?_⟩⟩
      rw [hs]
      simp
    · refine .inr ⟨a, (k : Int), _, rfl, rfl, .inl (.inl hs), fun e => h0 (List.map_eq_nil_iff.mp e), by omega, by omega, by rw [List.length_map]; exact h3, fun z hz => q _ _ (Kp.new hz) ⟨z, rfl, ?_⟩⟩
      rw [upd_same, Int.toNat_natCast]
      congr 2
      rw [List.map_flatten, List.map_replicate]
theorem lstW_of {ws : List (List Str)} {H : Hp} {v : V} (h : LstOf (ws.map (TupP K)) H v) : LstW K ws H v := by
  obtain ⟨a, vs, e, h1, h2⟩ := h
  obtain ⟨bs, e1, e2, e3⟩ := h2.words
  subst e1
  exact ⟨a, bs, e, .inl (.inl h1), e2, e3⟩
theorem ev_minW {x : List Str} {xs : List (List Str)} (h : EvP p te σ H (LstW K (x :: xs))) : EvP p (tCB (rMinW K) (tCons te tNil)) σ H (TupP K (minW x xs)) := fun H1 e Q q =>
  h H1 e _ fun v H2 e2 ⟨a, bs, ev, hs, hb, eb⟩ => by
    subst ev
    match bs, eb with
    | b :: bs, eb =>
      have e1 := (List.cons.inj eb).1
      have e3 := (List.cons.inj eb).2
      exact ⟨a, b, bs, rfl, hs, hb, fun v hv => q v H2 e2 (by rw [← e1, ← e3]; exact hv)⟩
end
section
variable {P : Program} {w : World} {K : PySem.W.Frag} {mg : Str → Option Value} {base : Heap} {C : Addr}
def spTurned (K : PySem.W.Frag) : Sp := fun vs H Q _ => ∃ w, Gives [TupP K w] True (TupP K w.reverse) vs H Q
theorem scTurned : FnScope ["walk"] ["walk"] (defScope sTurned) := ⟨rfl, rfl, rfl, by decide +kernel, rfl, by decide +kernel, by decide +kernel⟩
theorem ok_turned {f : Addr} {fd : FuncData} (F : DefIs K "turned" "turned" sTurned f fd) (T : TopF K mg C) : FnOk P w K mg base CX0 1 f fd ["walk"] (spTurned K) := by
  refine def_ok F scTurned (fun vs H Q E h => ?_) (fun cdv A outer s H vs Q E hr h => ?_)
  · obtain ⟨_, _, ha, _⟩ := h
    obtain ⟨v, rfl, _⟩ := args1 ha
    rfl
  · obtain ⟨w, _, ha, q⟩ := h
    obtain ⟨v, rfl, hv⟩ := args1 ha
    refine ⟨_, (pss_one (ps_ret (pe_revT (pv 0)))), ?_⟩
    exact s_ret (p := no) (ev_revT (K := K) (ev_var (P := TupP K w) rfl hv)) fun v H1 e1 hv => q v H1 e1 hv
def spBehind (K : PySem.W.Frag) : Sp := fun vs H Q _ => ∃ xs ys s, Gives [TupP K xs, TupP K ys] (xs ≠ [] ∧ xs[xs.length - 1]? = some s ∧ ys[0]? = some s ∧ NoBack (xs ++ ys.drop 1) ∧ xs.length + ys.length ≤ 1000) (TupP K (xs ++ ys.drop 1)) vs H Q
theorem scBehind : FnScope ["one", "other"] ["one", "other"] (defScope sBehind) := ⟨rfl, rfl, rfl, by decide +kernel, rfl, by decide +kernel, by decide +kernel⟩
theorem ok_behind {f : Addr} {fd : FuncData} (F : DefIs K "behind" "behind" sBehind f fd) (T : TopF K mg C) (C_Shrunk : Can P w K mg base "shrunk" 1 ["walk"] (spShrunk K)) : FnOk P w K mg base CX0 2 f fd ["one", "other"] (spBehind K) := by
  refine def_ok F scBehind (fun vs H Q E h => ?_) (fun cdv A outer s H vs Q E hr h => ?_)
  · obtain ⟨_, _, _, _, ha, _⟩ := h
    obtain ⟨v, w, rfl, _⟩ := args2 ha
    rfl
  · obtain ⟨xs, ys, z, ⟨h0, h1, h2, h3, h4⟩, ha, q⟩ := h
    obtain ⟨v, u, rfl, hv, hu⟩ := args2 ha
    have hp : 0 < xs.length := by
      cases xs with
      | nil => exact absurd rfl h0
      | cons _ _ => exact Nat.succ_pos _
    refine ⟨_, (pss_cons (ps_if (pt_cmpR op_ne (pe_ix (ixK (r := rIxT) (K := K) ix_tup rfl) (pv 0) (pe_un un_neg pe_int) (fun _ _ => rfl)) (pe_ix (ixK (r := rIxT) (K := K) ix_tup rfl) (pv 1) pe_int (fun _ _ => rfl)) (nomark _))
        (pss_one ps_never)
        pss_nil)
      (pss_one (ps_ret (pe_fn C_Shrunk hr rfl (pa_cons (pe_op (opK (r := rCatA) (K := K) op_catA rfl) (pv 0) (pe_slice (slK (r := rSlA) (K := K) sl_tupA rfl) (pv 1) (po_some pe_int) po_none)) pa_nil))))), ?_⟩
    refine q_ifF (p := no) (eb_test (EvP.val (ev_ne (ev_ixT (K := K) (xs := xs) (ev_var (P := TupP K xs) rfl hv) (ev_neg ev_c) (atI_neg (k := 1) (by omega) (by omega) h1)) (ev_ixT (K := K) (xs := ys) (ev_var (P := TupP K ys) rfl hu) ev_c (atI_nat (j := 0) h2)) rfl) (by simp))) fun H1 e1 => ?_
    refine s_ret (p := no) (ev_fn (sp := spShrunk K) (Ps := [TupP K (xs ++ ys.drop 1)]) (C := NoBack (xs ++ ys.drop 1) ∧ (xs ++ ys.drop 1).length ≤ 1000) (fun vs H Q g => ⟨_, g⟩) (ea_cons (ev_cat (ev_var (P := TupP K xs) rfl (e1.tupS hv)) ?_ (by rw [List.length_drop]; omega)) ea_nil) ⟨h3, by rw [List.length_append, List.length_drop]; omega⟩) fun v H2 e2 hv => q v H2 (e1.trans e2) hv
    have := ev_slT (p := no) (K := K) (σ := [some v, some u]) (H := H1) (xs := ys) (ev_var (i := 1) (P := TupP K ys) rfl (e1.tupS hu)) (eo_some (ev_c (v := .int ((1 : Nat) : Int)))) eo_none
    rw [cutW_from] at this
    exact this
def spNeedClosed (K : PySem.W.Frag) : Sp := fun vs H Q _ => ∃ w, Gives [TupP K w] (Ring w) (IsV .non) vs H Q
theorem scNeedClosed : FnScope ["walk"] ["walk"] (defScope sNeedClosed) := ⟨rfl, rfl, rfl, by decide +kernel, rfl, by decide +kernel, by decide +kernel⟩
theorem Ring.first {w : List Str} (h : Ring w) : ∃ s, w[0]? = some s ∧ w[w.length - 1]? = some s := by
  have := h.len
  exact ⟨w[0], List.getElem?_eq_getElem (by omega), by rw [← h.clo]; exact List.getElem?_eq_getElem (by omega)⟩
theorem ok_need_closed {f : Addr} {fd : FuncData} (F : DefIs K "need_closed" "need_closed" sNeedClosed f fd) (T : TopF K mg C) : FnOk P w K mg base CX0 1 f fd ["walk"] (spNeedClosed K) := by
  refine def_ok F scNeedClosed (fun vs H Q E h => ?_) (fun cdv A outer s H vs Q E hr h => ?_)
  · obtain ⟨_, _, ha, _⟩ := h
    obtain ⟨v, rfl, _⟩ := args1 ha
    rfl
  · obtain ⟨w, hw, ha, q⟩ := h
    obtain ⟨v, rfl, hv⟩ := args1 ha
    obtain ⟨z, h1, h2⟩ := hw.first
    have := hw.len
    refine ⟨_, (pss_one (ps_if (pt_cmpR op_ne (pe_ix (ixK (r := rIxT) (K := K) ix_tup rfl) (pv 0) pe_int (fun _ _ => rfl)) (pe_ix (ixK (r := rIxT) (K := K) ix_tup rfl) (pv 0) (pe_un un_neg pe_int) (fun _ _ => rfl)) (nomark _))
        (pss_one ps_never)
        pss_nil)), ?_⟩
    exact s_ifF (p := no) (eb_test (EvP.val (ev_ne (ev_ixT (K := K) (xs := w) (ev_var (P := TupP K w) rfl hv) ev_c (atI_nat (j := 0) h1)) (ev_ixT (K := K) (xs := w) (ev_var (P := TupP K w) rfl hv) (ev_neg ev_c) (atI_neg (k := 1) (by omega) (by omega) h2)) rfl) (by simp))) fun H1 e1 => q _ H1 e1 rfl
def spCore (K : PySem.W.Frag) : Sp := fun vs H Q _ => ∃ w, Gives [TupP K w] (Ring w) (Pair2 (TupP K (w.take 1)) (TupP K w)) vs H Q
theorem scCore : FnScope ["walk", "small", "at"] ["walk"] (defScope sCore) := ⟨rfl, rfl, rfl, by decide +kernel, rfl, by decide +kernel, by decide +kernel⟩
theorem ok_core {f : Addr} {fd : FuncData} (F : DefIs K "core" "core" sCore f fd) (T : TopF K mg C) (C_Shrunk : Can P w K mg base "shrunk" 1 ["walk"] (spShrunk K)) (C_NeedClosed : Can P w K mg base "need_closed" 1 ["walk"] (spNeedClosed K)) : FnOk P w K mg base CX0 2 f fd ["walk"] (spCore K) := by
  refine def_ok F scCore (fun vs H Q E h => ?_) (fun cdv A outer s H vs Q E hr h => ?_)
  · obtain ⟨_, _, ha, _⟩ := h
    obtain ⟨v, rfl, _⟩ := args1 ha
    rfl
  · obtain ⟨w, hw, ha, q⟩ := h
    obtain ⟨v, rfl, hv⟩ := args1 ha
    have hl := hw.len
    have hs := hw.small
    refine ⟨_, (pss_cons (ps_expr (pe_fn C_NeedClosed hr rfl (pa_cons (pv 0) pa_nil)))
      (pss_cons (ps_par (i := 1) (j := 2)  (by rfl) scCore.nd rfl rfl (by decide) rfl rfl (pa_cons (pe_fn C_Shrunk hr rfl (pa_cons (pv 0) pa_nil)) (pa_cons pe_int pa_nil)) (by rfl))
      (pss_cons (ps_while PassesOwn.never (PW.pt (pw_and (pt_cmpR op_gt (pe_op op_sub (pe_callB (id := "len") (crK (r := lenR) (K := K) call_len_seq rfl) (by rfl) T.z_len (by decide +kernel) (pa_cons (pv 1) pa_nil)) (pe_op op_mul pe_int (pv 2))) pe_int (nomark _)) (pw_and1 (pt_cmpR op_eq (pe_ix (ixK (r := rIxT) (K := K) ix_tup rfl) (pv 1) (pe_op op_add (pv 2) pe_int) (fun _ _ => rfl)) (pe_ix (ixK (r := rIxT) (K := K) ix_tup rfl) (pv 1) (pe_op op_sub (pe_op op_sub (pe_callB (id := "len") (crK (r := lenR) (K := K) call_len_seq rfl) (by rfl) T.z_len (by decide +kernel) (pa_cons (pv 1) pa_nil)) pe_int) (pv 2)) (fun _ _ => rfl)) (nomark _)))))
        (pss_one (ps_aug (i := 2) scCore.nd rfl (.inl rfl) pe_int ip_add)))
      (pss_one (ps_ret (pe_tup (pa_cons (pe_slice (slK (r := rSlA) (K := K) sl_tupA rfl) (pv 1) po_none (po_some (pe_op op_add (pv 2) pe_int))) (pa_cons (pe_slice (slK (r := rSlA) (K := K) sl_tupA rfl) (pv 1) (po_some (pv 2)) (po_some (pe_op op_sub (pe_callB (id := "len") (crK (r := lenR) (K := K) call_len_seq rfl) (by rfl) T.z_len (by decide +kernel) (pa_cons (pv 1) pa_nil)) (pv 2)))) pa_nil)))))))), ?_⟩
    refine q_drop (p := no) (ev_fn (sp := spNeedClosed K) (Ps := [TupP K w]) (C := Ring w) (fun vs H Q g => ⟨w, g⟩) (ea_cons (ev_var (P := TupP K w) rfl hv) ea_nil) hw) fun _ H1 e1 _ => ?_
    refine q_par (p := no) (i := 1) (j := 2) (P := TupP K w) (R := IsV (.int 0)) (ea_cons (ev_fn (sp := spShrunk K) (Ps := [TupP K w]) (C := NoBack w ∧ w.length ≤ 1000) (fun vs H Q g => ⟨w, g⟩) (ea_cons (ev_var (P := TupP K w) rfl (e1.tupS hv)) ea_nil) ⟨hw.nb, by omega⟩) (ea_cons ev_c ea_nil)) fun v1 v2 H2 e2 hv1 hv2 => ?_
    have ev2 : v2 = .int 0 := hv2
    subst ev2
    show tSeq _ _ _ [some v, some v1, some (.int 0)] H2
    have arg : ∀ {H3 : Hp}, Kp no H2 H3 → EvP no (tVar 1) [some v, some v1, some (.int 0)] H3 (TupP K w) := fun e => ev_var rfl (e.tupS hv1)
    have at0 : ∀ {H3 : Hp}, EvP no (tVar 2) [some v, some v1, some (.int 0)] H3 (IsV (.int 0)) := ev_val rfl
    refine ⟨fun m σ H => σ = [some v, some v1, some (.int 0)] ∧ Kp no H2 H, ⟨0, rfl, Kp.refl _ _⟩, fun m σ3 H3 ⟨es, e3⟩ => ?_⟩
    subst es
    refine (eb_is (p := no) (a := decide ((1 : Int) < (w.length : Int) - 2 * 0) && decide (V.str w[1] = V.str w[w.length - 2])) (b := false) (eb_and (eb_test (ev_gt (ev_sub (ev_lenT (arg e3)) (ev_mul ev_c at0 (.inl (by decide)))) ev_c)) fun _ => eb_test (ev_eq (ev_ixT (K := K) (xs := w) (i := 0 + 1) (arg e3) (ev_add at0 ev_c) (atI_nat (j := 1) (List.getElem?_eq_getElem (by omega)))) (ev_ixT (K := K) (xs := w) (i := (w.length : Int) - 2 - 0) (arg e3) (ev_sub (ev_sub (ev_lenT (arg e3)) ev_c) at0) ?_) rfl)) ?_) H3 (Kp.refl _ _) _ fun H4 e4 => ?_
    · rw [show (w.length : Int) - 2 - 0 = ((w.length - 2 : Nat) : Int) by omega]
      exact atI_nat (List.getElem?_eq_getElem (by omega))
    · rw [Bool.and_eq_false_iff]
      refine .inr (decide_eq_false fun z => ?_)
      have z := V.str.inj z
      apply hw.tl
      rw [List.getElem?_eq_getElem (by omega), List.getElem?_eq_getElem (by omega), z]
    · rw [if_neg (by decide)]
      dsimp only
      refine s_ret (p := no) (P := Pair2 (TupP K (w.take 1)) (TupP K w)) (ev_pair ?_ ?_ (fun _ _ _ hz h o => new_tup hz h o) (fun _ _ _ hz h o => new_tup hz h o)) fun v H5 e5 hv => q v H5 ((((e1.trans e2).trans e3).trans e4).trans e5) hv
      · have := ev_slT (p := no) (K := K) (xs := w) (arg (e3.trans e4)) eo_none (eo_some (i := ((1 : Nat) : Int)) (EvP.val (ev_add at0 (ev_c (v := .int 1))) rfl))
        rw [cutW_to] at this
        exact this
      · have := ev_slT (p := no) (K := K) (xs := w) (arg (e3.trans e4)) (eo_some (i := ((0 : Nat) : Int)) at0) (eo_some (i := ((w.length : Nat) : Int)) (EvP.val (ev_sub (ev_lenT (arg (e3.trans e4))) at0) (congrArg V.int (by omega))))
        rw [cutW_mid _ _ _ (Nat.zero_le _) (Nat.le_refl _), List.drop_zero, Nat.sub_zero, List.take_length] at this
        exact this
def spTurns (K : PySem.W.Frag) : Sp := fun vs H Q _ => ∃ w, Gives [TupP K w] (1 ≤ w.length ∧ w.length ≤ 1000) (LstW K (rots w)) vs H Q
theorem scTurns : FnScope ["ring", "at"] ["ring"] (defScope sTurns) := ⟨rfl, rfl, rfl, by decide +kernel, rfl, by decide +kernel, by decide +kernel⟩
theorem ok_turns {f : Addr} {fd : FuncData} (F : DefIs K "turns" "turns" sTurns f fd) (T : TopF K mg C) : FnOk P w K mg base CX0 1 f fd ["ring"] (spTurns K) := by
  refine def_ok F scTurns (fun vs H Q E h => ?_) (fun cdv A outer s H vs Q E hr h => ?_)
  · obtain ⟨_, _, ha, _⟩ := h
    obtain ⟨v, rfl, _⟩ := args1 ha
    rfl
  · obtain ⟨w, ⟨hl, hs⟩, ha, q⟩ := h
    obtain ⟨v, rfl, hv⟩ := args1 ha
    refine ⟨_, (pss_one (ps_ret (pe_lc (own := [("at", 1)]) rfl scTurns.nd (pi_range1 rfl T.z_range (pa_cons (pe_op op_sub (pe_callB (id := "len") (crK (r := lenR) (K := K) call_len_seq rfl) (by rfl) T.z_len (by decide +kernel) (pa_cons (pv 0) pa_nil)) pe_int) pa_nil)) (blkOk_by (own := [("at", 1)]) (N := ["ring", "at"]) (sc := defScope sTurns) (by decide +kernel)) (fun _ _ _ _ _ => (pg_name (i := 1) scTurns.nd rfl (.inl rfl))) (fun _ _ _ _ _ => pts_nil) (fun _ _ _ _ _ => (pe_op (opK (r := rCatA) (K := K) op_catA rfl) (pe_slice (slK (r := rSlA) (K := K) sl_tupA rfl) (pv 0) (po_some (pv 1)) (po_some (pe_un un_neg pe_int))) (pe_slice (slK (r := rSlA) (K := K) sl_tupA rfl) (pv 0) po_none (po_some (pe_op op_add (pv 1) pe_int)))))))), ?_⟩
    have arg : ∀ {σ : L2.St} {H3 : Hp}, σ[0]? = some (some v) → Kp no H H3 → EvP no (tVar 0) σ H3 (TupP K w) := fun h0 e => ev_var h0 (e.tupS hv)
    refine s_ret (p := no) (P := LstW K (rots w)) ((ev_lcR1 (p := no) (n := w.length - 1) (f := fun _ => true) (R := fun i => TupP K (rot w i)) (fun _ => inferInstance) (fun _ => rfl) (by omega) (ea_cons (EvP.val (ev_sub (ev_lenT (arg rfl (Kp.refl _ _))) ev_c) (congrArg V.int (by omega))) ea_nil) (fun _ _ _ _ => eb_yes) fun i hi _ H2 e2 => ?_).imp fun H2 v2 e2 hv2 => ?_) fun v H1 e1 hv => q v H1 e1 hv
    · have h1 := ev_slT (p := no) (K := K) (xs := w) (σ := [some v, some (.int (i : Int))]) (arg rfl e2) (eo_some (i := (i : Int)) (ev_val (i := 1) rfl)) (eo_some (ev_neg (ev_c (v := .int 1))))
      have h2 := ev_slT (p := no) (K := K) (xs := w) (σ := [some v, some (.int (i : Int))]) (arg rfl e2) eo_none (eo_some (i := ((i + 1 : Nat) : Int)) (EvP.val (ev_add (ev_val (i := 1) (v := .int (i : Int)) rfl) (ev_c (v := .int 1))) (congrArg V.int (by omega))))
      rw [cutW_kLast _ _ (by omega)] at h1
      rw [cutW_to] at h2
      exact ev_cat h1 h2 (by rw [List.length_take, List.length_take, List.length_drop]; omega)
    · rw [List.filter_eq_self.mpr fun _ _ => rfl] at hv2
      refine lstW_of (K := K) ?_
      unfold rots
      rw [List.map_map]
      exact hv2
def spNamed (K : PySem.W.Frag) : Sp := fun vs H Q _ => ∃ w, Gives [TupP K w] (Ring w) (TupP K (nm w)) vs H Q
theorem scNamed : FnScope ["walk", "stem", "ring"] ["walk"] (defScope sNamed) := ⟨rfl, rfl, rfl, by decide +kernel, rfl, by decide +kernel, by decide +kernel⟩
theorem ok_named {f : Addr} {fd : FuncData} (F : DefIs K "named" "named" sNamed f fd) (T : TopF K mg C) (C_Core : Can P w K mg base "core" 2 ["walk"] (spCore K)) (C_Turns : Can P w K mg base "turns" 1 ["ring"] (spTurns K)) : FnOk P w K mg base CX0 3 f fd ["walk"] (spNamed K) := by
  refine def_ok F scNamed (fun vs H Q E h => ?_) (fun cdv A outer s H vs Q E hr h => ?_)
  · obtain ⟨_, _, ha, _⟩ := h
    obtain ⟨v, rfl, _⟩ := args1 ha
    rfl
  · obtain ⟨w, hw, ha, q⟩ := h
    obtain ⟨v, rfl, hv⟩ := args1 ha
    have hl := hw.len
    have hs := hw.small
    refine ⟨_, (pss_cons (ps_asg (pe_fn C_Core hr rfl (pa_cons (pv 0) pa_nil)) (pg_tupK (K := K) (n := 2) rfl rfl (pgs_cons (pg_name (i := 1) scNamed.nd rfl (.inl rfl)) (pgs_cons (pg_name (i := 2) scNamed.nd rfl (.inl rfl)) pgs_nil))))
      (pss_one (ps_ret (pe_ifExp (pt_cmpR op_gt (pe_callB (id := "len") (crK (r := lenR) (K := K) call_len_seq rfl) (by rfl) T.z_len (by decide +kernel) (pa_cons (pv 2) pa_nil)) pe_int (nomark _)) (pe_callB (id := "min") (cr_minW rfl (by exact hr.units)) (by rfl) T.z_min (by decide +kernel) (pa_cons (pe_fn C_Turns hr rfl (pa_cons (pv 2) pa_nil)) pa_nil)) (pe_tup pa_nil))))), ?_⟩
    refine q_unp (p := no) (ev_fn (sp := spCore K) (Ps := [TupP K w]) (C := Ring w) (fun vs H Q g => ⟨w, g⟩) (ea_cons (ev_var (P := TupP K w) rfl hv) ea_nil) hw) fun v1 v2 H1 e1 hv1 hv2 => ?_
    show tRet _ _ [some v, some v1, some v2] H1
    refine s_ret (p := no) (P := TupP K (nm w)) (ev_if (b := true) (eb_is (eb_test (ev_gt (ev_lenT (ev_var (P := TupP K w) rfl hv2)) ev_c)) (decide_eq_true (by omega))) (fun _ => ?_) (fun z => nomatch z)) fun v H2 e2 hv => q v H2 (e1.trans e2) hv
    have ht : EvP no (tCall (spTurns K) [] E0 (tCons (tVar 2) tNil)) [some v, some v1, some v2] H1 (LstW K (rots w)) := ev_fn (sp := spTurns K) (Ps := [TupP K w]) (C := 1 ≤ w.length ∧ w.length ≤ 1000) (fun vs H Q g => ⟨w, g⟩) (ea_cons (ev_var (P := TupP K w) rfl hv2) ea_nil) ⟨by omega, by omega⟩
    unfold nm
    cases er : rots w with
    | nil =>
      have := congrArg List.length er
      unfold rots at this
      rw [List.length_map, List.length_range] at this
      have h0 : ([] : List (List Str)).length = 0 := rfl
      omega
    | cons x xs =>
      rw [er] at ht
      exact ev_minW ht
def spTimesOf (K : PySem.W.Frag) : Sp := fun vs H Q _ => ∃ w, Gives [TupP K w] (Ring w) (IsV (.int 1)) vs H Q
theorem Ring.apart {w : List Str} (h : Ring w) {part : Nat} (h1 : 1 ≤ part) (h2 : part < w.length - 1) (hd : (w.length - 1) % part = 0) : w.dropLast ≠ (List.replicate ((w.length - 1) / part) (w.take part)).flatten := fun e => by
  have len := h.len
  have nd := h.nd
  have dl : w.dropLast.length = w.length - 1 := List.length_dropLast
  have k2 : 2 ≤ (w.length - 1) / part := by
    rw [Nat.le_div_iff_mul_le (by omega)]
    have := Nat.div_add_mod (w.length - 1) part
    rw [hd] at this
    have h3 : 1 < (w.length - 1) / part := by
      rcases Nat.lt_or_ge 1 ((w.length - 1) / part) with h | h
      · exact h
      · have := Nat.mul_le_mul_left part h
        omega
    have := Nat.mul_le_mul_left part h3
    omega
  obtain ⟨k, ek⟩ : ∃ k, (w.length - 1) / part = k + 2 := ⟨(w.length - 1) / part - 2, by omega⟩
  rw [ek, List.replicate_succ, List.replicate_succ, List.flatten_cons, List.flatten_cons, ← List.append_assoc] at e
  rw [e] at nd
  have nd := (List.nodup_append.mp (List.nodup_append.mp nd).1)
  have : w.take part ≠ [] := by
    intro z
    have := congrArg List.length z
    rw [List.length_take] at this
    have h0 : ([] : List Str).length = 0 := rfl
    omega
  obtain ⟨x, m⟩ := List.exists_mem_of_ne_nil _ this
  exact nd.2.2 x m x m rfl
theorem Ring.whole {w : List Str} (h : Ring w) : w.dropLast = (List.replicate ((w.length - 1) / (w.length - 1)) (w.take (w.length - 1))).flatten := by
  have := h.len
  rw [Nat.div_self (by omega), List.dropLast_eq_take]
  simp
theorem scTimesOf : FnScope ["ring", "steps", "part"] ["ring"] (defScope sTimesOf) := ⟨rfl, rfl, rfl, by decide +kernel, rfl, by decide +kernel, by decide +kernel⟩
theorem ok_times_of {f : Addr} {fd : FuncData} (F : DefIs K "times_of" "times_of" sTimesOf f fd) (T : TopF K mg C) : FnOk P w K mg base CX0 1 f fd ["ring"] (spTimesOf K) := by
  refine def_ok F scTimesOf (fun vs H Q E h => ?_) (fun cdv A outer s H vs Q E hr h => ?_)
  · obtain ⟨_, _, ha, _⟩ := h
    obtain ⟨v, rfl, _⟩ := args1 ha
    rfl
  · obtain ⟨w, hw, ha, q⟩ := h
    obtain ⟨v, rfl, hv⟩ := args1 ha
    have hl := hw.len
    have hs := hw.small
    refine ⟨_, (pss_cons (ps_set (i := 1) scTimesOf.nd rfl (.inl rfl) (pe_op op_sub (pe_callB (id := "len") (crK (r := lenR) (K := K) call_len_seq rfl) (by rfl) T.z_len (by decide +kernel) (pa_cons (pv 0) pa_nil)) pe_int))
      (pss_cons (ps_for PassesOwn.never rfl (pi_range2 rfl T.z_range (pa_cons pe_int (pa_cons (pe_op op_add (pv 1) pe_int) pa_nil))) (pg_name (i := 2) scTimesOf.nd rfl (.inl rfl))
        (pss_one (ps_if (PW.pt (pw_and (pt_cmpR op_eq (pe_op op_modN (pv 1) (pv 2)) pe_int (nomark _)) (pw_and1 (pt_cmpR (opK (r := rEqP) (K := K) (op_eqP (by exact hr.units)) rfl) (pe_slice (slK (r := rSlA) (K := K) sl_tupA rfl) (pv 0) po_none (po_some (pe_un un_neg pe_int))) (pe_op (opK (r := rRepA) (K := K) op_repA rfl) (pe_slice (slK (r := rSlA) (K := K) sl_tupA rfl) (pv 0) po_none (po_some (pv 2))) (pe_op op_fdivN (pv 1) (pv 2))) (nomark _)))))
          (pss_one (ps_ret (pe_op op_fdivN (pv 1) (pv 2))))
          pss_nil)))
      (pss_one (ps_ret pe_int)))), ?_⟩
    have arg : ∀ {σ : L2.St} {H3 : Hp}, σ[0]? = some (some v) → Kp no H H3 → EvP no (tVar 0) σ H3 (TupP K w) := fun h0 e => ev_var h0 (e.tupS hv)
    refine q_setV (p := no) (i := 1) (x := .int ((w.length - 1 : Nat) : Int)) (EvP.val (ev_sub (ev_lenT (arg rfl (Kp.refl _ _))) ev_c) (congrArg V.int (by omega))) fun H1 e1 => ?_
    show tSeq _ _ _ [some v, some (.int ((w.length - 1 : Nat) : Int)), none] H1
    refine q_forR2 (p := no) (m := 1) (n := w.length) (by omega) (by omega) (ea_cons ev_c (ea_cons (EvP.val (ev_add (ev_val (i := 1) rfl) ev_c) (congrArg V.int (by omega))) ea_nil)) (fun i σ' H' => i < w.length - 1 ∧ ∃ y, σ' = [some v, some (.int ((w.length - 1 : Nat) : Int)), y] ∧ Kp no H H') (fun H2 e2 => ⟨by omega, none, rfl, e1.trans e2⟩) (fun i σ' H' hi h => ?_) fun σ' H' h => ?_
    · obtain ⟨hi2, y, rfl, e2⟩ := h
      show tIfS _ _ _ _ [some v, some (.int ((w.length - 1 : Nat) : Int)), some (.int ((1 + i : Nat) : Int))] H'
      have st : ∀ {H3 : Hp}, EvP no (tVar 1) [some v, some (.int ((w.length - 1 : Nat) : Int)), some (.int ((1 + i : Nat) : Int))] H3 (IsV (.int ((w.length - 1 : Nat) : Int))) := ev_val rfl
      have pt : ∀ {H3 : Hp}, EvP no (tVar 2) [some v, some (.int ((w.length - 1 : Nat) : Int)), some (.int ((1 + i : Nat) : Int))] H3 (IsV (.int ((1 + i : Nat) : Int))) := ev_val rfl
      have md : ∀ {H3 : Hp}, EvP no (tOp (rI (fun _ j => j ≠ 0) fun i j => .int (i.fmod j)) (tVar 1) (tVar 2)) [some v, some (.int ((w.length - 1 : Nat) : Int)), some (.int ((1 + i : Nat) : Int))] H3 (IsV (.int (((w.length - 1) % (1 + i) : Nat) : Int))) := EvP.val (ev_modN st pt (by omega)) (congrArg V.int (by rw [Int.fmod_eq_emod_of_nonneg _ (by omega)]; omega))
      have dv : ∀ {H3 : Hp}, EvP no (tOp (rI CDivN fun i j => .int (i.fdiv j)) (tVar 1) (tVar 2)) [some v, some (.int ((w.length - 1 : Nat) : Int)), some (.int ((1 + i : Nat) : Int))] H3 (IsV (.int (((w.length - 1) / (1 + i) : Nat) : Int))) := EvP.val (ev_fdN st pt ⟨by omega, by omega⟩) (congrArg V.int (by rw [Int.fdiv_eq_ediv_of_nonneg _ (by omega)]; omega))
      refine s_if (p := no) (b := decide (V.int (((w.length - 1) % (1 + i) : Nat) : Int) = V.int 0) && decide (w.dropLast = (List.replicate ((w.length - 1) / (1 + i)) (w.take (1 + i))).flatten)) (eb_and (eb_test (ev_eq md ev_c rfl)) fun h1 => eb_test (ev_eqT ?_ (ev_rep ?_ dv ?_ ?_ ?_ ?_))) (fun hb H3 e3 => ?_) (fun hb H3 e3 => ?_)
      · have h1 := ev_slT (p := no) (K := K) (xs := w) (σ := [some v, some (.int ((w.length - 1 : Nat) : Int)), some (.int ((1 + i : Nat) : Int))]) (arg rfl e2) eo_none (eo_some (ev_neg (ev_c (v := .int 1))))
        rw [cutW_toLast] at h1
        exact h1
      · have h1 := ev_slT (p := no) (K := K) (xs := w) (σ := [some v, some (.int ((w.length - 1 : Nat) : Int)), some (.int ((1 + i : Nat) : Int))]) (arg rfl e2) eo_none (eo_some pt)
        rw [cutW_to] at h1
        exact h1
      · intro z
        have := congrArg List.length z
        rw [List.length_take] at this
        have h0 : ([] : List Str).length = 0 := rfl
        omega
      · rw [Nat.le_div_iff_mul_le (by omega)]
        omega
      · exact Nat.le_trans (Nat.div_le_self _ _) (by omega)
      · rw [List.length_take]
        omega
      · refine s_ret (p := no) (EvP.val dv ?_) fun v H4 e4 hv => q v H4 ((e2.trans e3).trans e4) hv
        have hb := Bool.and_eq_true_iff.mp hb
        have h1 := V.int.inj (of_decide_eq_true hb.1)
        have h2 := of_decide_eq_true hb.2
        by_cases e : 1 + i = w.length - 1
        · rw [e, Nat.div_self (by omega)]
          rfl
        · exact absurd h2 (hw.apart (by omega) (by omega) (by omega))
      · refine ⟨?_, _, rfl, e2.trans e3⟩
        by_cases e : 1 + i = w.length - 1
        · rw [e, Nat.mod_self, decide_eq_true (show V.int ((0 : Nat) : Int) = V.int 0 from rfl), decide_eq_true hw.whole] at hb
          cases hb
        · omega
    · exact absurd h.1 (by omega)
def spNeedSomething (K : PySem.W.Frag) : Sp := fun vs H Q _ => ∃ w, Gives [TupP K w] (Ring w) (IsV .non) vs H Q
theorem scNeedSomething : FnScope ["walk"] ["walk"] (defScope sNeedSomething) := ⟨rfl, rfl, rfl, by decide +kernel, rfl, by decide +kernel, by decide +kernel⟩
theorem ok_need_something {f : Addr} {fd : FuncData} (F : DefIs K "need_something" "need_something" sNeedSomething f fd) (T : TopF K mg C) (C_Shrunk : Can P w K mg base "shrunk" 1 ["walk"] (spShrunk K)) : FnOk P w K mg base CX0 2 f fd ["walk"] (spNeedSomething K) := by
  refine def_ok F scNeedSomething (fun vs H Q E h => ?_) (fun cdv A outer s H vs Q E hr h => ?_)
  · obtain ⟨_, _, ha, _⟩ := h
    obtain ⟨v, rfl, _⟩ := args1 ha
    rfl
  · obtain ⟨w, hw, ha, q⟩ := h
    obtain ⟨v, rfl, hv⟩ := args1 ha
    have hl := hw.len
    have hs := hw.small
    refine ⟨_, (pss_one (ps_if (pt_cmpR op_eq (pe_callB (id := "len") (crK (r := lenR) (K := K) call_len_seq rfl) (by rfl) T.z_len (by decide +kernel) (pa_cons (pe_fn C_Shrunk hr rfl (pa_cons (pv 0) pa_nil)) pa_nil)) pe_int (nomark _))
        (pss_one ps_never)
        pss_nil)), ?_⟩
    exact s_ifF (p := no) (eb_test (EvP.val (ev_eq (ev_lenT (K := K) (xs := w) (ev_fn (sp := spShrunk K) (Ps := [TupP K w]) (C := NoBack w ∧ w.length ≤ 1000) (fun vs H Q g => ⟨w, g⟩) (ea_cons (ev_var (P := TupP K w) rfl hv) ea_nil) ⟨hw.nb, by omega⟩)) ev_c rfl) (congrArg V.bl (decide_eq_false fun z => by
      have := V.int.inj z
      omega)))) fun H1 e1 => q _ H1 e1 rfl
def spRoot (K : PySem.W.Frag) : Sp := fun vs H Q _ => ∃ w, Gives [TupP K w] (Ring w) (Pair2 (TupP K w) (IsV (.int 1))) vs H Q
theorem scRoot : FnScope ["walk", "stem", "ring", "times", "part"] ["walk"] (defScope sRoot) := ⟨rfl, rfl, rfl, by decide +kernel, rfl, by decide +kernel, by decide +kernel⟩
theorem ok_root {f : Addr} {fd : FuncData} (F : DefIs K "root" "root" sRoot f fd) (T : TopF K mg C) (C_Core : Can P w K mg base "core" 2 ["walk"] (spCore K)) (C_NeedSomething : Can P w K mg base "need_something" 2 ["walk"] (spNeedSomething K)) (C_TimesOf : Can P w K mg base "times_of" 1 ["ring"] (spTimesOf K)) (C_Behind : Can P w K mg base "behind" 2 ["one", "other"] (spBehind K)) (C_Turned : Can P w K mg base "turned" 1 ["walk"] (spTurned K)) : FnOk P w K mg base CX0 3 f fd ["walk"] (spRoot K) := by
  refine def_ok F scRoot (fun vs H Q E h => ?_) (fun cdv A outer s H vs Q E hr h => ?_)
  · obtain ⟨_, _, ha, _⟩ := h
    obtain ⟨v, rfl, _⟩ := args1 ha
    rfl
  · obtain ⟨w, hw, ha, q⟩ := h
    obtain ⟨v, rfl, hv⟩ := args1 ha
    have hl := hw.len
    have hs := hw.small
    obtain ⟨z, z1, z2⟩ := hw.first
    have ew : w.take 1 = [z] := by
      cases w with
      | nil => cases z1
      | cons x xs =>
        obtain rfl : x = z := Option.some.inj z1
        rfl
    have ec : w.take 1 ++ w.drop 1 = w := List.take_append_drop 1 w
    refine ⟨_, (pss_cons (ps_asg (pe_fn C_Core hr rfl (pa_cons (pv 0) pa_nil)) (pg_tupK (K := K) (n := 2) rfl rfl (pgs_cons (pg_name (i := 1) scRoot.nd rfl (.inl rfl)) (pgs_cons (pg_name (i := 2) scRoot.nd rfl (.inl rfl)) pgs_nil))))
      (pss_cons (ps_expr (pe_fn C_NeedSomething hr rfl (pa_cons (pv 0) pa_nil)))
      (pss_cons (ps_set (i := 3) scRoot.nd rfl (.inl rfl) (pe_fn C_TimesOf hr rfl (pa_cons (pv 2) pa_nil)))
      (pss_cons (ps_set (i := 4) scRoot.nd rfl (.inl rfl) (pe_slice (slK (r := rSlA) (K := K) sl_tupA rfl) (pv 2) po_none (po_some (pe_op op_add (pe_op op_fdivN (pe_op op_sub (pe_callB (id := "len") (crK (r := lenR) (K := K) call_len_seq rfl) (by rfl) T.z_len (by decide +kernel) (pa_cons (pv 2) pa_nil)) pe_int) (pv 3)) pe_int))))
      (pss_one (ps_ret (pe_tup (pa_cons (pe_fn C_Behind hr rfl (pa_cons (pe_fn C_Behind hr rfl (pa_cons (pv 1) (pa_cons (pv 4) pa_nil))) (pa_cons (pe_fn C_Turned hr rfl (pa_cons (pv 1) pa_nil)) pa_nil))) (pa_cons (pv 3) pa_nil))))))))), ?_⟩
    refine q_unp (p := no) (ev_fn (sp := spCore K) (Ps := [TupP K w]) (C := Ring w) (fun vs H Q g => ⟨w, g⟩) (ea_cons (ev_var (P := TupP K w) rfl hv) ea_nil) hw) fun v1 v2 H1 e1 hv1 hv2 => ?_
    show tSeq _ _ _ [some v, some v1, some v2, none, none] H1
    refine q_drop (p := no) (ev_fn (sp := spNeedSomething K) (Ps := [TupP K w]) (C := Ring w) (fun vs H Q g => ⟨w, g⟩) (ea_cons (ev_var (P := TupP K w) rfl (e1.tupS hv)) ea_nil) hw) fun _ H2 e2 _ => ?_
    refine q_setV (p := no) (i := 3) (x := .int 1) (ev_fn (sp := spTimesOf K) (Ps := [TupP K w]) (C := Ring w) (fun vs H Q g => ⟨w, g⟩) (ea_cons (ev_var (P := TupP K w) rfl (e2.tupS hv2)) ea_nil) hw) fun H3 e3 => ?_
    show tSeq _ _ _ [some v, some v1, some v2, some (.int 1), none] H3
    have rg : ∀ {σ : L2.St} {H4 : Hp}, σ[2]? = some (some v2) → Kp no H1 H4 → EvP no (tVar 2) σ H4 (TupP K w) := fun h0 e => ev_var h0 (e.tupS hv2)
    refine q_set (p := no) (i := 4) (P := TupP K w) ?_ fun v4 H4 e4 hv4 => ?_
    · have h1 := ev_slT (p := no) (K := K) (xs := w) (σ := [some v, some v1, some v2, some (.int 1), none]) (rg rfl (e2.trans e3)) eo_none (eo_some (i := ((w.length : Nat) : Int)) (EvP.val (ev_add (ev_fdN (ev_sub (ev_lenT (rg rfl (e2.trans e3))) (ev_c (v := .int 1))) (ev_val (i := 3) (v := .int 1) rfl) ⟨by decide, by decide⟩) (ev_c (v := .int 1))) (congrArg V.int (by rw [Int.fdiv_one]; omega))))
      rw [cutW_to, List.take_length] at h1
      exact h1
    · show tRet _ _ [some v, some v1, some v2, some (.int 1), some v4] H4
      have e24 : Kp no H1 H4 := (e2.trans e3).trans e4
      have st : EvP no (tVar 1) [some v, some v1, some v2, some (.int 1), some v4] H4 (TupP K [z]) := by
        rw [ew] at hv1
        exact ev_var (P := TupP K [z]) rfl (e24.tupS hv1)
      have b1 : EvP no (tCall (spBehind K) [] E0 (tCons (tVar 1) (tCons (tVar 4) tNil))) [some v, some v1, some v2, some (.int 1), some v4] H4 (TupP K w) := by
        have := ev_fn (p := no) (sp := spBehind K) (E := E0) (Ps := [TupP K [z], TupP K w]) (C := [z] ≠ [] ∧ [z][[z].length - 1]? = some z ∧ w[0]? = some z ∧ NoBack ([z] ++ w.drop 1) ∧ [z].length + w.length ≤ 1000) (S := TupP K ([z] ++ w.drop 1)) (fun vs H Q g => ⟨_, _, z, g⟩) (ea_cons st (ea_cons (ev_var (i := 4) (P := TupP K w) rfl hv4) ea_nil)) ⟨List.cons_ne_nil _ _, rfl, z1, by rw [← ew, ec]; exact hw.nb, by show 1 + w.length ≤ 1000; omega⟩
        rw [← ew, ec] at this
        exact this
      have tn : EvP no (tCall (spTurned K) [] E0 (tCons (tVar 1) tNil)) [some v, some v1, some v2, some (.int 1), some v4] H4 (TupP K [z]) := ev_fn (sp := spTurned K) (E := E0) (Ps := [TupP K [z]]) (C := True) (S := TupP K [z].reverse) (fun vs H Q g => ⟨_, g⟩) (ea_cons st ea_nil) trivial
      have b2 : EvP no (tCall (spBehind K) [] E0 (tCons (tCall (spBehind K) [] E0 (tCons (tVar 1) (tCons (tVar 4) tNil))) (tCons (tCall (spTurned K) [] E0 (tCons (tVar 1) tNil)) tNil))) [some v, some v1, some v2, some (.int 1), some v4] H4 (TupP K w) := by
        have := ev_fn (p := no) (sp := spBehind K) (E := E0) (Ps := [TupP K w, TupP K [z]]) (C := w ≠ [] ∧ w[w.length - 1]? = some z ∧ [z][0]? = some z ∧ NoBack (w ++ [z].drop 1) ∧ w.length + [z].length ≤ 1000) (S := TupP K (w ++ [z].drop 1)) (fun vs H Q g => ⟨_, _, z, g⟩) (ea_cons b1 (ea_cons tn ea_nil)) ⟨fun z => by rw [z] at hl; exact absurd hl (by decide), z2, rfl, by rw [show [z].drop 1 = [] from rfl, List.append_nil]; exact hw.nb, by show w.length + 1 ≤ 1000; omega⟩
        rw [show [z].drop 1 = [] from rfl, List.append_nil] at this
        exact this
      exact s_ret (p := no) (P := Pair2 (TupP K w) (IsV (.int 1))) (ev_pair b2 (ev_val rfl) (fun _ _ _ hz h o => new_tup hz h o) (fun _ _ _ _ h _ => h)) fun v H5 e5 hv => q v H5 ((e1.trans e24).trans e5) hv
end
end Tau
set_option maxHeartbeats 4000000
namespace Tau
open PySem PySem.Spec PyProof.Rows L2
/-! count_walks -/
theorem pw_inj {a b : Str × Str} (h : pw a = pw b) : a = b := by
  have h1 := (List.cons.inj h).1
  have h2 := (List.cons.inj (List.cons.inj h).2).1
  exact Prod.ext h1 h2
def rawT (tbl : List ((Str × Str) × V)) : List (List Key × V) := tbl.map fun e => (kW (pw e.1), e.2)
theorem key_inj {a b : Str × Str} (h : kW (pw a) = kW (pw b)) : a = b := pw_inj (kW_inj h)
theorem rawT_val (k : Str × Str) : ∀ tbl, valV (rawT tbl) (kW (pw k)) = valV tbl k
  | [] => rfl
  | e :: r => by
    show valV ((kW (pw e.1), e.2) :: rawT r) (kW (pw k)) = _
    by_cases h : e.1 = k
    · rw [valV_pos (by rw [← h]), valV_pos h]
    · rw [valV_neg fun z => h (key_inj z), valV_neg h]
      exact rawT_val k r
theorem rawT_put (k : Str × Str) (v : V) (tbl : List ((Str × Str) × V)) : putK (rawT tbl) (kW (pw k)) v = rawT (putK tbl k v) := by
  unfold putK
  have e : ((rawT tbl).any fun kv => decide (kv.1 = kW (pw k))) = tbl.any fun kv => decide (kv.1 = k) := by
    unfold rawT
    rw [List.any_map]
    congr 1
    funext x
    show decide (kW (pw x.1) = kW (pw k)) = decide (x.1 = k)
    by_cases h : x.1 = k
    · rw [decide_eq_true h, decide_eq_true (by rw [h])]
    · rw [decide_eq_false h, decide_eq_false fun z => h (key_inj z)]
  rw [e]
  split
  · unfold rawT
    rw [List.map_map, List.map_map]
    refine List.map_congr_left fun x _ => ?_
    show (if kW (pw x.1) = kW (pw k) then (kW (pw x.1), v) else (kW (pw x.1), x.2)) = (kW (pw (if x.1 = k then (x.1, v) else x).1), (if x.1 = k then (x.1, v) else x).2)
    by_cases h : x.1 = k
    · rw [if_pos (by rw [h]), if_pos h]
    · rw [if_neg fun z => h (key_inj z), if_neg h]
  · unfold rawT
    rw [List.map_append]
    rfl
def vN : V → Nat
  | .int i => i.toNat
  | _ => 0
def sumT (tbl : List ((Str × Str) × V)) (f : Str × Str → Nat) : Nat := (tbl.map fun e => vN e.2 * f e.1).sum
structure Tab (names : List Str) (tbl : List ((Str × Str) × V)) : Prop where
  nd : (tbl.map (·.1)).Nodup
  int : ∀ e ∈ tbl, ∃ m : Nat, e.2 = .int m
  mem : ∀ e ∈ tbl, e.1.1 ∈ names ∧ e.1.2 ∈ names
theorem sum_map_put (k : Str × Str) (x y : V) (f : Str × Str → Nat) : ∀ tbl : List ((Str × Str) × V), (tbl.map (·.1)).Nodup → valV tbl k = some x → sumT (tbl.map fun kv => if kv.1 = k then (kv.1, y) else kv) f + vN x * f k = sumT tbl f + vN y * f k
  | [], _, h => by
    rw [valV_nil] at h
    cases h
  | e :: r, nd, h => by
    rw [List.map_cons] at nd
    have nd := List.nodup_cons.mp nd
    show vN (if e.1 = k then (e.1, y) else e).2 * f (if e.1 = k then (e.1, y) else e).1 + sumT (r.map _) f + vN x * f k = vN e.2 * f e.1 + sumT r f + vN y * f k
    by_cases hk : e.1 = k
    · rw [valV_pos hk] at h
      obtain rfl : e.2 = x := Option.some.inj h
      have rest : r.map (fun kv => if kv.1 = k then (kv.1, y) else kv) = r := by
        refine (List.map_congr_left fun z m => ?_).trans (List.map_id' r)
        exact if_neg fun e2 => nd.1 (by rw [hk, ← e2]; exact List.mem_map_of_mem m)
      rw [if_pos hk, rest, ← hk]
      show vN y * f e.1 + sumT r f + _ = _
      omega
    · rw [valV_neg hk] at h
      have := sum_map_put k x y f r nd.2 h
      rw [if_neg hk]
      omega
theorem sumT_append (a b : List ((Str × Str) × V)) (f : Str × Str → Nat) : sumT (a ++ b) f = sumT a f + sumT b f := by
  unfold sumT
  rw [List.map_append, List.sum_append]
theorem Tab.get {names : List Str} {tbl : List ((Str × Str) × V)} (h : Tab names tbl) (k : Str × Str) (hk : k.1 ∈ names ∧ k.2 ∈ names) : ∃ m : Nat, (valV tbl k).getD (.int 0) = .int m ∧ ∀ x : Nat, Tab names (putK tbl k (.int ((m + x : Nat) : Int))) ∧
    (putK tbl k (.int ((m + x : Nat) : Int))).length ≤ tbl.length + 1 ∧ ∀ f, sumT (putK tbl k (.int ((m + x : Nat) : Int))) f = sumT tbl f + x * f k := by
  cases e : valV tbl k with
  | none =>
    refine ⟨0, rfl, fun x => ⟨⟨?_, fun z m => ?_, fun z m => ?_⟩, length_putK _ _ _, fun f => ?_⟩⟩
    · rw [putK_new _ e, List.map_append]
      rw [List.nodup_append]
      refine ⟨h.nd, List.nodup_cons.mpr ⟨List.not_mem_nil, List.nodup_nil⟩, fun a ha b hb z => ?_⟩
      have hb : b = k := List.mem_singleton.mp hb
      subst hb z
      exact valV_not e ha
    · rw [putK_new _ e] at m
      rcases List.mem_append.mp m with m | m
      · exact h.int z m
      · rw [List.mem_singleton.mp m]
        exact ⟨_, rfl⟩
    · rw [putK_new _ e] at m
      rcases List.mem_append.mp m with m | m
      · exact h.mem z m
      · rw [List.mem_singleton.mp m]
        exact hk
    · rw [putK_new _ e, sumT_append]
      show _ + ((((0 + x : Nat) : Int).toNat * f k) + 0) = _
      rw [Int.toNat_natCast]
      simp
  | some v =>
    have mk := valV_in e
    obtain ⟨e1, me, ek⟩ := List.mem_map.mp mk
    have hv : ∃ m : Nat, v = .int m := by
      unfold valV at e
      obtain ⟨z, hz, ez⟩ := Option.map_eq_some_iff.mp e
      have := h.int z (List.mem_of_find?_eq_some hz)
      rw [ez] at this
      exact this
    obtain ⟨m, rfl⟩ := hv
    have hput : ∀ y, putK tbl k y = tbl.map fun kv => if kv.1 = k then (kv.1, y) else kv := fun y => by
      unfold putK
      rw [if_pos (by rw [valV_any, e]; rfl)]
    refine ⟨m, rfl, fun x => ⟨⟨?_, fun z mz => ?_, fun z mz => ?_⟩, length_putK _ _ _, fun f => ?_⟩⟩
    · rw [hput, List.map_map]
      have : ((fun x : (Str × Str) × V => x.1) ∘ fun kv => if kv.1 = k then (kv.1, V.int ((m + x : Nat) : Int)) else kv) = (·.1) := by
        funext z
        show (if z.1 = k then (z.1, V.int ((m + x : Nat) : Int)) else z).1 = z.1
        split <;> rfl
      rw [this]
      exact h.nd
    · rw [hput] at mz
      obtain ⟨u, mu, rfl⟩ := List.mem_map.mp mz
      by_cases c : u.1 = k
      · rw [if_pos c]
        exact ⟨_, rfl⟩
      · rw [if_neg c]
        exact h.int u mu
    · rw [hput] at mz
      obtain ⟨u, mu, rfl⟩ := List.mem_map.mp mz
      by_cases c : u.1 = k
      · rw [if_pos c]
        exact h.mem u mu
      · rw [if_neg c]
        exact h.mem u mu
    · rw [hput]
      have := sum_map_put k (.int m) (.int ((m + x : Nat) : Int)) f tbl h.nd e
      have e1 : vN (.int ((m + x : Nat) : Int)) = m + x := Int.toNat_natCast _
      have e2 : vN (.int (m : Int)) = m := Int.toNat_natCast _
      rw [e1, e2, Nat.add_mul] at this
      omega
/-- a sum over the walks of j + 1 steps from one, by their last two rooms -/
def Wsum (nb : Str → List Str) (one : Str) : Nat → (Str × Str → Nat) → Nat
  | 0, f => ((nb one).map fun x => f (one, x)).sum
  | j + 1, f => Wsum nb one j fun k => (((nb k.2).filter fun y => decide (y ≠ k.1)).map fun y => f (k.2, y)).sum
section
variable {p : Addr → Prop} {K : PySem.W.Frag} {σ : L2.St} {H : Hp} {td ty tx te : TE} {a d : Addr} {P : Hp → V → Prop} {v r : V}
theorem ev_dget2P [Stay p P] (hd : EvP p td σ H (IsV (.ref a))) (hy : EvP p ty σ H P) (hx : EvP p tx σ H (IsV v)) (hi : ∀ H1, Kp p H H1 → IsD H1 a) (hg : ∀ H1 y, Kp p H H1 → P H1 y → ∃ o, DGet H1 a y o ∧ o.getD v = r) : EvP p (tDGet2 td ty tx) σ H (IsV r) := fun H1 e Q q =>
  hd H1 e _ fun x' H2 e2 h2 => ⟨a, h2, hi H2 (e.trans e2), hy H2 (e.trans e2) _ fun y' H3 e3 h3 => hx H3 ((e.trans e2).trans e3) _ fun z H4 e4 h4 => by
    have e2' : z = v := h4
    subst e2'
    obtain ⟨o, g, eo⟩ := hg H4 y' (((e.trans e2).trans e3).trans e4) (Stay.stay e4 h3)
    exact ⟨o, g, q _ H4 ((e2.trans e3).trans e4) eo⟩⟩
theorem walk_itT {o : Obj} {kvs : List (List Key × V)} : L2.Walk (ItT d o kvs) kvs.length (fun H => H d = some (.frz o (.dT kvs)))
    (fun i H x H' => ∃ (T q : Addr) (k : List Key) (v : V), kvs[i]? = some (k, v) ∧ H q = some (.tup (k.map kV)) ∧ x = .ref T ∧ H T = none ∧ H' = upd H T (.tup [.ref q, v])) :=
  ⟨fun _ _ hi q => ⟨q, hi⟩, fun _ q => ⟨q, Nat.le_refl _⟩, fun _ _ _ _ _ _ y => y⟩
theorem ev_sum {ns : List Int} {te : TE} (h : EvP p te σ H (NewL (ns.map V.int))) : EvP p (tCB (rSum K) (tCons te tNil)) σ H (IsV (.int ns.sum)) := fun H1 e Q q =>
  h H1 e _ fun x H2 e2 ⟨a, ex, hs⟩ => ⟨a, ns, by rw [ex], .inl (.inl hs), q _ H2 e2 rfl⟩
end
theorem nodup_len {α : Type} [DecidableEq α] : ∀ {xs ys : List α}, xs.Nodup → (∀ x ∈ xs, x ∈ ys) → xs.length ≤ ys.length
  | [], _, _, _ => Nat.zero_le _
  | x :: xs, ys, nd, h => by
    have nd := List.nodup_cons.mp nd
    have mx := h x (List.mem_cons_self ..)
    have := nodup_len (xs := xs) (ys := ys.erase x) nd.2 fun y my => by
      have ne : y ≠ x := fun e => nd.1 (e ▸ my)
      exact (List.mem_erase_of_ne ne).mpr (h y (List.mem_cons_of_mem _ my))
    rw [List.length_erase_of_mem mx] at this
    have := List.length_pos_of_mem mx
    rw [List.length_cons]
    omega
theorem NbOk.deg {names : List Str} {nb : Str → List Str} (h : NbOk names nb) {x : Str} (hx : x ∈ names) : (nb x).length ≤ 9 := Nat.le_trans (nodup_len (h.once x hx) (h.inn x hx)) h.small
theorem Tab.small {names : List Str} {tbl : List ((Str × Str) × V)} (h : Tab names tbl) (hn : names.length ≤ 9) : tbl.length ≤ 81 := by
  have := nodup_len (ys := names.flatMap fun a => names.map fun b => (a, b)) h.nd fun k mk => by
    obtain ⟨e, me, rfl⟩ := List.mem_map.mp mk
    obtain ⟨m1, m2⟩ := h.mem e me
    exact List.mem_flatMap.mpr ⟨e.1.1, m1, List.mem_map.mpr ⟨e.1.2, m2, rfl⟩⟩
  rw [List.length_map] at this
  refine Nat.le_trans this ?_
  have all : ∀ xs : List Str, (xs.flatMap fun a => names.map fun b => (a, b)).length = xs.length * names.length := fun xs => by
    induction xs with
    | nil => simp
    | cons x xs ih =>
      rw [List.flatMap_cons, List.length_append, ih, List.length_map, List.length_cons, Nat.add_mul, Nat.one_mul, Nat.add_comm]
  rw [all]
  exact Nat.mul_le_mul hn hn
theorem dt_sl {K : PySem.W.Frag} {H : Hp} {d a : Addr} {kvs : List (List Key × V)} {o : HO} {xs : List V} (hd : H d = some (.dT kvs)) (t : SqL K H a xs) : SqL K (upd H d o) a xs := by
  rcases t with (t | ⟨ob, t⟩) | t
  · exact .inl (.inl (by rw [upd_ne fun z => by rw [z, hd] at t; cases t]; exact t))
  · exact .inl (.inr ⟨ob, by rw [upd_ne fun z => by rw [z, hd] at t; cases t]; exact t⟩)
  · exact .inr t
theorem sumT_first (one : Str) (f : Str × Str → Nat) : ∀ xs : List Str, sumT (xs.map fun x => ((one, x), V.int 1)) f = (xs.map fun x => f (one, x)).sum
  | [] => rfl
  | x :: xs => by
    have := sumT_first one f xs
    unfold sumT at this ⊢
    rw [List.map_cons, List.map_cons, List.map_cons, List.sum_cons, List.sum_cons, this]
    show 1 * f (one, x) + _ = _
    rw [Nat.one_mul]
theorem sumT_cons (e : (Str × Str) × V) (r : List ((Str × Str) × V)) (f : Str × Str → Nat) : sumT (e :: r) f = vN e.2 * f e.1 + sumT r f := by
  unfold sumT
  rw [List.map_cons, List.sum_cons]
theorem sumT_last (other : Str) : ∀ tbl : List ((Str × Str) × V), (((tbl.filter fun e => decide (e.1.2 = other)).map fun e => ((vN e.2 : Nat) : Int)).sum) = ((sumT tbl (fun k => if k.2 = other then 1 else 0) : Nat) : Int)
  | [] => rfl
  | e :: r => by
    have ih := sumT_last other r
    by_cases h : e.1.2 = other
    · rw [List.filter_cons_of_pos (by exact decide_eq_true h), List.map_cons, List.sum_cons, ih, sumT_cons, if_pos h]
      omega
    · rw [List.filter_cons_of_neg (by rw [decide_eq_false h]; decide), ih, sumT_cons, if_neg h]
      omega
section
variable {P : Program} {w : World} {K : PySem.W.Frag} {mg : Str → Option Value} {base : Heap} {C : Addr}
def spCountWalks (K : PySem.W.Frag) (C : Addr) : Sp := fun vs H Q _ => ∃ names nb h one other n, Gives [HouseV K C names nb h, IsV (.str one), IsV (.str other), IsV (.int ((n + 1 : Nat) : Int))] (NbOk names nb ∧ one ∈ names ∧ other ∈ names ∧ n ≤ 6) (IsV (.int ((Wsum nb one n fun k => if k.2 = other then 1 else 0 : Nat) : Int))) vs H Q
theorem scCountWalks : FnScope ["house", "one", "other", "steps", "room", "counts", "step", "found", "here", "many", "later"] ["house", "one", "other", "steps"] (defScope sCountWalks) := ⟨rfl, rfl, rfl, by decide +kernel, rfl, by decide +kernel, by decide +kernel⟩
theorem args4 {P R S U : Hp → V → Prop} {H : Hp} {vs : List V} (h : ArgsP [P, R, S, U] H vs) : ∃ u v w x, vs = [u, v, w, x] ∧ P H u ∧ R H v ∧ S H w ∧ U H x := by
  cases h with
  | cons a b =>
    obtain ⟨u, v, w, rfl, h1, h2, h3⟩ := args3 b
    exact ⟨_, u, v, w, rfl, a, h1, h2, h3⟩
theorem ok_count_walks {f : Addr} {fd : FuncData} (F : DefIs K "count_walks" "count_walks" sCountWalks f fd) (T : TopF K mg C) (CNeed : CanM P w K mg base C "need_room" 2 ["self", "thing"] (spNeed K C)) :
    FnOk P w K mg base CX0 3 f fd ["house", "one", "other", "steps"] (spCountWalks K C) := by
  refine def_ok F scCountWalks (fun vs H Q E h => ?_) (fun cdv A outer s H vs Q E hr h => ?_)
  · obtain ⟨_, _, _, _, _, _, _, ha, _⟩ := h
    obtain ⟨_, _, _, _, rfl, _⟩ := args4 ha
    rfl
  · obtain ⟨names, nb, h, one, other, n, ⟨hk, m1, m2, hn⟩, ha, q⟩ := h
    obtain ⟨hv, v1, v2, v3, rfl, hh, h1, h2, h3⟩ := args4 ha
    obtain rfl : v1 = .str one := h1
    obtain rfl : v2 = .str other := h2
    obtain rfl : v3 = .int ((n + 1 : Nat) : Int) := h3
    have hu := hu_of hr
    refine ⟨_, (pss_cons (ps_expr (pe_mt CNeed T.cl hr (pv 0) (pa_cons (pv 1) pa_nil)))
      (pss_cons (ps_expr (pe_mt CNeed T.cl hr (pv 0) (pa_cons (pv 2) pa_nil)))
      (pss_cons (ps_if (pt_cmpR op_eq (pv 3) pe_int (nomark _))
        (pss_one (ps_ret (pe_callTy (T := "int") call_int1 (by rfl) T.z_int (by decide +kernel) (pa_cons (pe_cmpR op_eq (pv 1) (pv 2) (nomark _)) pa_nil))))
        pss_nil)
      (pss_cons (ps_setDcT (i := 5) hr.units0 (own := [("room", 4)]) rfl scCountWalks.nd rfl rfl (sw_trueD rfl rfl rfl (by decide +kernel)) (pi_listK (K := K) rfl (pe_dget hu (pe_fldK (K := K) rfl (pv 0) rfl) (pv 1) (fun _ _ => rfl))) (blkOk_by (own := [("room", 4)]) (N := ["house", "one", "other", "steps", "room", "counts", "step", "found", "here", "many", "later"]) (sc := defScope sCountWalks) (by decide +kernel)) (fun _ _ _ _ _ => (pg_name (i := 4) scCountWalks.nd rfl (.inl rfl))) (fun _ _ _ _ _ => (pe_tup (pa_cons (pv 1) (pa_cons (pv 4) pa_nil)))) (fun _ _ _ _ _ => pe_int))
      (pss_cons (ps_for PassesOwn.never rfl (pi_range1 rfl T.z_range (pa_cons (pe_op op_sub (pv 3) pe_int) pa_nil)) (pg_name (i := 6) scCountWalks.nd rfl (.inl rfl))
        (pss_cons (ps_set (i := 7) scCountWalks.nd rfl (.inl rfl) pe_dnewT)
        (pss_cons (ps_lock (ps_for PassesOwn.never rfl (pi_itT (pv 5)) (pg_tupK (K := K) (n := 2) rfl rfl (pgs_cons (pg_tupK (K := K) (n := 2) rfl rfl (pgs_cons (pg_name (i := 8) scCountWalks.nd rfl (.inl rfl)) (pgs_cons (pg_name (i := 4) scCountWalks.nd rfl (.inl rfl)) pgs_nil))) (pgs_cons (pg_name (i := 9) scCountWalks.nd rfl (.inl rfl)) pgs_nil)))
          (pss_one (ps_for PassesOwn.never rfl (pi_listK (K := K) rfl (pe_dget hu (pe_fldK (K := K) rfl (pv 0) rfl) (pv 4) (fun _ _ => rfl))) (pg_name (i := 10) scCountWalks.nd rfl (.inl rfl))
            (pss_one (ps_if (pt_cmpR op_ne (pv 10) (pv 8) (nomark _))
              (pss_one (ps_dput hu (pv 7) (pe_tup (pa_cons (pv 4) (pa_cons (pv 10) pa_nil))) (pe_op op_add (pe_dget2 hu (pv 7) (pe_tup (pa_cons (pv 4) (pa_cons (pv 10) pa_nil))) pe_int ⟨rfl, rfl, rfl, rfl⟩) (pv 9)) rfl))
              pss_nil))))))
        (pss_one (ps_set (i := 5) scCountWalks.nd rfl (.inl rfl) (pv 7))))))
      (pss_one (ps_ret (pe_callB (id := "sum") (cr_sum rfl) (by rfl) T.z_sum (by decide +kernel) (pa_cons (pe_lock (pe_lc (own := [("many", 9), ("here", 8), ("room", 4)]) rfl scCountWalks.nd (pi_itT (pv 5)) (blkOk_by (own := [("many", 9), ("here", 8), ("room", 4)]) (N := ["house", "one", "other", "steps", "room", "counts", "step", "found", "here", "many", "later"]) (sc := defScope sCountWalks) (by decide +kernel)) (fun _ _ _ _ _ => (pg_tupK (K := K) (n := 2) rfl rfl (pgs_cons (pg_tupK (K := K) (n := 2) rfl rfl (pgs_cons (pg_name (i := 8) scCountWalks.nd rfl (.inl rfl)) (pgs_cons (pg_name (i := 4) scCountWalks.nd rfl (.inl rfl)) pgs_nil))) (pgs_cons (pg_name (i := 9) scCountWalks.nd rfl (.inl rfl)) pgs_nil)))) (fun _ _ _ _ _ => (pts_one (pt_cmpR op_eq (pv 4) (pv 2) (nomark _)))) (fun _ _ _ _ _ => (pv 9)))) pa_nil))))))))), ?_⟩
    have hHV : ∀ {σ : L2.St} {H' : Hp}, σ[0]? = some (some hv) → Kp no H H' → EvP no (tVar 0) σ H' (HouseV K C names nb h) := fun h0 e => ev_var h0 (Stay.stay e hh)
    have need : ∀ x ∈ names, ∀ {i : Nat} {σ : L2.St} {H' : Hp}, σ[0]? = some (some hv) → σ[i]? = some (some (.str x)) → Kp no H H' → EvP no (tMeth C "need_room" (spNeed K C) [] E0 (tVar 0) (tCons (tVar i) tNil)) σ H' (IsV .non) := fun x m _ _ _ h0 hi e =>
      ev_mtH (Ps := [IsV (.str x)]) (Cd := NameOk x ∧ x ∈ names) (fun vs H Q g => ⟨names, nb, h, x, g⟩) (hHV h0 e) (HouseV.ins (by decide)) (ea_cons (ev_val hi) ea_nil) ⟨hk.name x m, m⟩
    refine q_drop (p := no) (need one m1 rfl rfl (Kp.refl _ _)) fun _ H1 e1 _ => ?_
    refine q_drop (p := no) (need other m2 rfl rfl e1) fun _ H2 e2 _ => ?_
    refine q_ifF (p := no) (eb_test (EvP.val (ev_eq (ev_val (i := 3) rfl) ev_c rfl) (congrArg V.bl (decide_eq_false fun z => by
      have := V.int.inj z
      omega)))) fun H3 e3 => ?_
    have e03 : Kp no H H3 := (e1.trans e2).trans e3
    refine (ev_nearX (ev_houseNear T (hHV rfl e03)) (ev_val rfl) m1) H3 (Kp.refl _ _) _ fun v H4 e4 ⟨a, ea, hs⟩ => ⟨a, ea, ⟨_, hs⟩, fun D hD => dcT_list (K := K) (xs := (nb one).map V.str) (fun i H' => Kp no H4 H' ∧ H' D = some (.dT (rawT (((nb one).take i).map fun x => ((one, x), V.int 1))))) ⟨Kp.new hD, upd_same⟩ (fun i H' h => h.1.sl hs) (fun i x H' hx h => ?_) fun H' h => ?_⟩
    · obtain ⟨e5, hT⟩ := h
      have hi : i < (nb one).length := by
        have := (List.getElem?_eq_some_iff.mp hx).1
        rw [List.length_map] at this
        exact this
      have ex : x = .str (nb one)[i] := by
        rw [List.getElem?_map, List.getElem?_eq_getElem hi] at hx
        exact (Option.some.inj hx).symm
      subst ex
      refine ⟨rfl, .str one, rfl, .str (nb one)[i], rfl, by show 2 ≤ sizeLine; decide, fun z hz => ⟨rawT (((nb one).take i).map fun x => ((one, x), V.int 1)), kW (pw (one, (nb one)[i])), z, rfl, by rw [kW_V]; exact upd_same, (Kp.new (p := no) hz).dt hT, ?_, ((e5.trans (Kp.new hz)).mut hD), ?_⟩⟩
      · unfold rawT
        rw [List.length_map, List.length_map, List.length_take]
        exact Nat.lt_of_le_of_lt (Nat.min_le_right _ _) (Nat.lt_of_le_of_lt (hk.deg m1) (by decide))
      · rw [upd_same, rawT_put, putK_new, take_succ_get hi, List.map_append]
        · rfl
        · cases ev : valV (((nb one).take i).map fun x => ((one, x), V.int 1)) (one, (nb one)[i]) with
          | none => rfl
          | some w =>
            have := valV_in ev
            rw [List.map_map] at this
            obtain ⟨y, my, ey⟩ := List.mem_map.mp this
            have ey : (one, y) = (one, (nb one)[i]) := ey
            have := (Prod.mk.inj ey).2
            subst this
            exact absurd my (nodup_take (hk.once one m1) hi)
    · rw [List.length_map, List.take_length] at h
      obtain ⟨e5, hT⟩ := h
      have hD0 : H D = none := (e03.trans e4).free hD
      refine q_forR1 (p := no) (n := n) (by omega) (ea_cons (EvP.val (ev_sub (ev_val (i := 3) rfl) ev_c) (congrArg V.int (by omega))) ea_nil) (fun j σ' H' => ∃ r4 s6 f7 h8 m9 l10 c, σ' = [some hv, some (.str one), some (.str other), some (.int ((n + 1 : Nat) : Int)), r4, some (.ref c), s6, f7, h8, m9, l10] ∧ H c = none ∧ Kp no H H' ∧ ∃ tbl, H' c = some (.dT (rawT tbl)) ∧ Tab names tbl ∧ ∀ f, sumT tbl f = Wsum nb one j f) (fun H6 e6 => ?_) (fun j σ' H6 hj h => ?_) fun σ' H6 h => ?_
      · refine ⟨_, _, _, _, _, _, D, rfl, hD0, ((e03.trans e4).trans e5).trans e6, _, e6.dt hT, ⟨?_, fun e m => ?_, fun e m => ?_⟩, fun f => sumT_first one f _⟩
        · rw [List.map_map]
          have : ((fun x : (Str × Str) × V => x.1) ∘ fun x => ((one, x), V.int 1)) = fun x => (one, x) := rfl
          rw [this]
          exact List.Pairwise.map _ (fun a b ne e => ne (Prod.mk.inj e).2) (hk.once one m1)
        · obtain ⟨x, _, rfl⟩ := List.mem_map.mp m
          exact ⟨1, rfl⟩
        · obtain ⟨x, mx, rfl⟩ := List.mem_map.mp m
          exact ⟨m1, hk.inn one m1 x mx⟩
      · obtain ⟨r4, s6, f7, h8, m9, l10, c, rfl, hc0, e6, tbl, hc, tb, hsum⟩ := h
        show tSeq _ _ _ [some hv, some (.str one), some (.str other), some (.int ((n + 1 : Nat) : Int)), r4, some (.ref c), some (.int (j : Int)), f7, h8, m9, l10] H6
        refine q_dnewT fun d hd => ?_
        have cd : d ≠ c := fun z => by
          rw [z, hc] at hd
          cases hd
        have hd0 : H d = none := e6.free hd
        show tSeq _ _ _ [some hv, some (.str one), some (.str other), some (.int ((n + 1 : Nat) : Int)), r4, some (.ref c), some (.int (j : Int)), some (.ref d), h8, m9, l10] _
        refine ⟨c, .dT (rawT tbl), by rw [upd_ne fun z => cd z.symm]; exact hc, trivial, fun od => ⟨.ref c, rfl, c, od, rawT tbl, rfl, upd_same, ?_⟩⟩
        have hbd : upd H6 c (.frz od (.dT (rawT tbl))) d = none := by rw [upd_ne cd]; exact hd
        have e0b : Kp no H (upd H6 c (.frz od (.dT (rawT tbl)))) := e6.mut hc0
        have hbc : upd H6 c (.frz od (.dT (rawT tbl))) c = some (.frz od (.dT (rawT tbl))) := upd_same
        have hsw : upd (upd H6 d (.dT [])) c (.frz od (.dT (rawT tbl))) = upd (upd H6 c (.frz od (.dT (rawT tbl)))) d (.dT []) := by
          funext a
          by_cases z : a = c
          · rw [z, upd_same, upd_ne fun z => cd z.symm, upd_same]
          · by_cases y : a = d
            · rw [y, upd_ne cd, upd_same, upd_same]
            · rw [upd_ne z, upd_ne y, upd_ne y, upd_ne z]
        rw [hsw]
        generalize upd H6 c (.frz od (.dT (rawT tbl))) = Hb at hbd e0b hbc ⊢
        refine for_itT (fun i σ' H7 => ∃ r4 h8 m9 l10, σ' = [some hv, some (.str one), some (.str other), some (.int ((n + 1 : Nat) : Int)), r4, some (.ref c), some (.int (j : Int)), some (.ref d), h8, m9, l10] ∧ Kp no Hb H7 ∧ ∃ ft, H7 d = some (.dT (rawT ft)) ∧ Tab names ft ∧ ∀ f, sumT ft f = sumT (tbl.take i) (fun k => (((nb k.2).filter fun y => decide (y ≠ k.1)).map fun y => f (k.2, y)).sum)) ?_ (fun i σ' H7 h => ?_) (fun i σ' H7 k v q T9 hkv hq hT0 h => ?_) fun σ' H7 h => ?_
        · exact ⟨_, _, _, _, rfl, Kp.new hbd, [], upd_same, ⟨List.nodup_nil, fun _ m => absurd m List.not_mem_nil, fun _ m => absurd m List.not_mem_nil⟩, fun f => rfl⟩
        · obtain ⟨_, _, _, _, _, e7, _⟩ := h
          exact e7.frz hbc
        · obtain ⟨r4, h8, m9, l10, rfl, e7, ft, hft, tf, hfs⟩ := h
          have hi : i < tbl.length := by
            have := (List.getElem?_eq_some_iff.mp hkv).1
            unfold rawT at this
            rw [List.length_map] at this
            exact this
          have ekv : (k, v) = (kW (pw tbl[i].1), tbl[i].2) := by
            unfold rawT at hkv
            rw [List.getElem?_map, List.getElem?_eq_getElem hi] at hkv
            exact (Option.some.inj hkv).symm
          obtain ⟨rfl, rfl⟩ := Prod.mk.inj ekv
          rw [kW_V] at hq
          obtain ⟨m, em⟩ := tb.int _ (List.getElem_mem hi)
          obtain ⟨ma, mb⟩ := tb.mem _ (List.getElem_mem hi)
          have evm : vN tbl[i].2 = m := by
            rw [em]
            exact Int.toNat_natCast m
          rw [em]
          have estep : ∀ f, sumT (tbl.take (i + 1)) f = sumT (tbl.take i) f + m * f tbl[i].1 := fun f => by
            rw [take_succ_get hi, sumT_append, sumT_cons, evm]
            rfl
          obtain ⟨ra, rb, erab⟩ : ∃ ra rb, tbl[i].1 = (ra, rb) := ⟨_, _, rfl⟩
          rw [erab] at hq ma mb estep
          refine ⟨T9, [.ref q, .int (m : Int)], rfl, .inl (.inl upd_same), rfl, .ref q, [.int (m : Int)], rfl, ⟨q, [.str ra, .str rb], rfl, .inl (.inl ((Kp.new (p := no) hT0).tup hq)), rfl, .str ra, [.str rb], rfl, .str rb, [], rfl, rfl, .int (m : Int), [], rfl, rfl, ?_⟩⟩
          show tFor _ _ _ _ [some hv, some (.str one), some (.str other), some (.int ((n + 1 : Nat) : Int)), some (.str rb), some (.ref c), some (.int (j : Int)), some (.ref d), some (.str ra), some (.int (m : Int)), l10] _
          have e8 : Kp no Hb (upd H7 T9 (.tup [.ref q, .int (m : Int)])) := e7.trans (Kp.new hT0)
          have hft8 : upd H7 T9 (.tup [.ref q, .int (m : Int)]) d = some (.dT (rawT ft)) := (Kp.new (p := no) hT0).dt hft
          generalize upd H7 T9 (.tup [.ref q, .int (m : Int)]) = H8 at e8 hft8 ⊢
          refine (ev_nearX (x := rb) (ev_houseNear T (hHV rfl (e0b.trans e8))) (ev_val (i := 4) rfl) mb) H8 (Kp.refl _ _) _ fun v9 H9 e9 ⟨la, ela, hla⟩ => ⟨la, ela, ⟨_, hla⟩, ?_⟩
          refine for_list (K := K) (xs := (nb rb).map V.str) (fun y σ' H' => ∃ l10, σ' = [some hv, some (.str one), some (.str other), some (.int ((n + 1 : Nat) : Int)), some (.str rb), some (.ref c), some (.int (j : Int)), some (.ref d), some (.str ra), some (.int (m : Int)), l10] ∧ Kp no Hb H' ∧ SqL K H' la ((nb rb).map V.str) ∧ ∃ ft, H' d = some (.dT (rawT ft)) ∧ Tab names ft ∧
            ∀ f, sumT ft f = sumT (tbl.take i) (fun k => (((nb k.2).filter fun y => decide (y ≠ k.1)).map fun y => f (k.2, y)).sum) + m * ((((nb rb).take y).filter fun y => decide (y ≠ ra)).map fun y => f (rb, y)).sum) ⟨_, rfl, e8.trans e9, hla, ft, e9.dt hft8, tf, fun f => by rw [hfs f]; simp⟩ (fun y σ' H' _ h => ?_) (fun y x σ' H' hx h => ?_) fun σ' H' h => ?_
          · obtain ⟨_, _, _, h, _⟩ := h
            exact h
          · obtain ⟨l10, rfl, e10, hl10, ft, hft, tf, hfs⟩ := h
            have hy : y < (nb rb).length := by
              have := (List.getElem?_eq_some_iff.mp hx).1
              rw [List.length_map] at this
              exact this
            have ex : x = .str (nb rb)[y] := by
              rw [List.getElem?_map, List.getElem?_eq_getElem hy] at hx
              exact (Option.some.inj hx).symm
            subst ex
            have my := List.getElem_mem hy
            generalize hz : (nb rb)[y] = z at my ⊢
            have tk : (nb rb).take (y + 1) = (nb rb).take y ++ [z] := by rw [take_succ_get hy, hz]
            have mz := hk.inn rb mb z my
            show tIfS _ _ _ _ [some hv, some (.str one), some (.str other), some (.int ((n + 1 : Nat) : Int)), some (.str rb), some (.ref c), some (.int (j : Int)), some (.ref d), some (.str ra), some (.int (m : Int)), some (.str z)] H'
            refine s_if (p := no) (b := !decide (V.str z = V.str ra)) (eb_test (ev_ne (ev_val rfl) (ev_val rfl) rfl)) (fun hb H11 e11 => ?_) (fun hb H11 e11 => ?_)
            · have zr : z ≠ ra := fun e => by
                rw [e, decide_eq_true rfl] at hb
                cases hb
              obtain ⟨m0, hm0, hput⟩ := tf.get (rb, z) ⟨mb, mz⟩
              obtain ⟨t1, _, t3⟩ := hput m
              refine s_dputT (p := no) (a := d) (P := TupP K [rb, z]) (kvs := rawT ft) (v := .int ((m0 + m : Nat) : Int)) (EvP.val (ev_add (i := (m0 : Int)) (j := (m : Int)) (ev_dget2P (a := d) (P := TupP K [rb, z]) (v := .int 0) (ev_val (i := 7) rfl) (ev_tup2 (ev_val rfl) (ev_val rfl)) ev_c (fun H12 e12 => .inr ⟨_, .inl ((e11.trans e12).dt hft)⟩) fun H12 y' e12 hy' => ?_) (ev_val rfl)) (congrArg V.int (by omega))) (ev_val (i := 7) rfl) (ev_tup2 (ev_val rfl) (ev_val rfl)) (fun H12 e12 => (e11.trans e12).dt hft) ?_ fun H12 y' e12 hy' => ?_
              · obtain ⟨b, rfl, hb⟩ := hy'
                refine ⟨valV ft (rb, z), ?_, hm0⟩
                rw [← rawT_val]
                exact DGet.t ((e11.trans e12).dt hft) (by rw [kW_V]; exact hb)
              · unfold rawT
                rw [List.length_map]
                exact Nat.lt_of_le_of_lt (tf.small hk.small) (by decide)
              · obtain ⟨b, rfl, hb⟩ := hy'
                refine ⟨b, kW (pw (rb, z)), rfl, by rw [kW_V]; exact hb, _, rfl, ((e10.trans e11).trans e12).mut hbd, dt_sl ((e11.trans e12).dt hft) ((e11.trans e12).sl hl10), _, by rw [upd_same, rawT_put], t1, fun f => ?_⟩
                rw [t3, hfs, tk, List.filter_append, List.filter_cons_of_pos (by exact decide_eq_true zr), List.map_append, List.sum_append]
                show _ = _ + m * (_ + (f (rb, z) + 0))
                rw [Nat.add_zero, Nat.mul_add]
                omega
            · have zr : z = ra := by
                by_cases z2 : V.str z = V.str ra
                · exact V.str.inj z2
                · rw [decide_eq_false z2] at hb
                  cases hb
              refine ⟨_, rfl, e10.trans e11, e11.sl hl10, ft, e11.dt hft, tf, fun f => ?_⟩
              rw [hfs, tk, List.filter_append, List.filter_cons_of_neg (by simp [zr]), List.filter_nil, List.append_nil]
          · rw [List.length_map, List.take_length] at h
            obtain ⟨l10, rfl, e10, _, ft, hft, tf, hfs⟩ := h
            exact ⟨_, _, _, _, rfl, e10, ft, hft, tf, fun f => by rw [hfs, estep]⟩
        · obtain ⟨r4, h8, m9, l10, rfl, e7, ft, hft, tf, hfs⟩ := h
          have hl : (rawT tbl).length = tbl.length := by
            unfold rawT
            rw [List.length_map]
          refine ⟨e7.frz hbc, .ref d, rfl, _, _, _, _, _, _, d, rfl, hd0, (e0b.trans e7).mut hc0, ft, by rw [upd_ne cd]; exact hft, tf, fun f => ?_⟩
          rw [hfs, hl, List.take_length, hsum]
          rfl
      · obtain ⟨r4, s6, f7, h8, m9, l10, c, rfl, hc0, e6, tbl, hc, tb, hsum⟩ := h
        have asInts : ∀ l : List ((Str × Str) × V), (∀ e ∈ l, e ∈ tbl) → l.map (·.2) = (l.map fun e => ((vN e.2 : Nat) : Int)).map V.int := fun l hl => by
          rw [List.map_map]
          refine List.map_congr_left fun e m => ?_
          obtain ⟨k, ek⟩ := tb.int e (hl e m)
          show e.2 = V.int ((vN e.2 : Nat) : Int)
          rw [ek]
          show _ = V.int (((k : Int).toNat : Nat) : Int)
          rw [Int.toNat_natCast]
        refine s_retV (p := no) (EvP.val (ev_sum (K := K) (ns := (tbl.filter fun e => decide (e.1.2 = other)).map fun e => ((vN e.2 : Nat) : Int)) fun H7 e7 Q7 q7 => ?_) (congrArg V.int (by rw [sumT_last, hsum]))) fun H7 e7 => q _ H7 (e6.trans e7) rfl
        have hc7 := e7.dt hc
        refine ⟨c, .dT (rawT tbl), hc7, trivial, fun od => ⟨.ref c, rfl, c, od, rawT tbl, rfl, upd_same, fun D2 hD2 => lc_it walk_itT (fun i H8 => Kp no (upd H7 c (.frz od (.dT (rawT tbl)))) H8 ∧ H8 D2 = some (.lst (((tbl.take i).filter fun e => decide (e.1.2 = other)).map (·.2)))) ⟨Kp.new hD2, upd_same⟩ (fun i H8 _ h => h.1.frz upd_same) (fun i x H8 H9 hi h y => ?_) fun H8 h => ?_⟩⟩
        · obtain ⟨e8, hD8⟩ := h
          obtain ⟨T, q, k, v, hkv, hq, rfl, hT0, rfl⟩ := y
          have hi : i < tbl.length := by
            unfold rawT at hi
            rw [List.length_map] at hi
            exact hi
          have ekv : (k, v) = (kW (pw tbl[i].1), tbl[i].2) := by
            unfold rawT at hkv
            rw [List.getElem?_map, List.getElem?_eq_getElem hi] at hkv
            exact (Option.some.inj hkv).symm
          obtain ⟨rfl, rfl⟩ := Prod.mk.inj ekv
          rw [kW_V] at hq
          refine ⟨T, [.ref q, tbl[i].2], rfl, .inl (.inl upd_same), rfl, .ref q, [tbl[i].2], rfl, ⟨q, [.str tbl[i].1.1, .str tbl[i].1.2], rfl, .inl (.inl ((Kp.new (p := no) hT0).tup hq)), rfl, .str tbl[i].1.1, [.str tbl[i].1.2], rfl, .str tbl[i].1.2, [], rfl, rfl, tbl[i].2, [], rfl, rfl, rfl, ?_⟩⟩
          refine (eb_test (p := no) (b := decide (V.str tbl[i].1.2 = V.str other)) (ev_eq (ev_val rfl) (ev_val rfl) rfl)) _ (Kp.refl no _) _ fun H10 e10 => ?_
          have e810 := (e8.trans (Kp.new (p := no) hT0)).trans e10
          have hD10 := e10.lst ((Kp.new (p := no) hT0).lst hD8)
          by_cases c2 : tbl[i].1.2 = other
          · rw [if_pos (by rw [c2]; exact decide_eq_true rfl)]
            refine ⟨tbl[i].2, rfl, _, hD10, ?_, e810.mut hD2, ?_⟩
            · rw [List.length_map]
              exact Nat.lt_of_le_of_lt (List.length_filter_le _ _) (by rw [List.length_take]; exact Nat.lt_of_le_of_lt (Nat.min_le_right _ _) (Nat.lt_of_le_of_lt (tb.small hk.small) (by decide)))
            · rw [upd_same, take_succ_get hi, List.filter_append, List.filter_cons_of_pos (by exact decide_eq_true c2), List.map_append]
              rfl
          · rw [if_neg (by rw [decide_eq_false fun z => c2 (V.str.inj z)]; decide)]
            refine ⟨e810, ?_⟩
            rw [take_succ_get hi, List.filter_append, List.filter_cons_of_neg (by rw [decide_eq_false c2]; decide), List.filter_nil, List.append_nil]
            exact hD10
        · have hl : (rawT tbl).length = tbl.length := by
            unfold rawT
            rw [List.length_map]
          rw [hl, List.take_length] at h
          obtain ⟨e8, hD8⟩ := h
          have hcf := e8.frz upd_same
          refine ⟨hcf, q7 _ _ (Kp.unlock hc7 e8) ⟨D2, rfl, ?_⟩⟩
          rw [upd_ne (fun z => by rw [z, hcf] at hD8; cases hD8), ← asInts _ (fun e m => (List.mem_filter.mp m).1)]
          exact hD8
end
end Tau
set_option maxHeartbeats 4000000
namespace Tau
open PySem PySem.Spec PyProof.Rows L2
/-! shrunk_walks, all_rings -/
/-- w[-2:-1] -/
def pre2 (w : List Str) : List Str := (w.drop (w.length - 2)).take (w.length - 1 - (w.length - 2))
def lst (w : List Str) : Str := w.getLastD ""
/-- one step on, not back -/
def ext (nb : Str → List Str) (w : List Str) : List (List Str) := ((nb (lst w)).filter fun y => !decide (pre2 w = [y])).map fun y => w ++ [y]
/-- the walks of so many steps from r, none steps back at once -/
def wk (nb : Str → List Str) (r : Str) : Nat → List (List Str)
  | 0 => [[r]]
  | s + 1 => (wk nb r s).flatMap (ext nb)
theorem lst_snoc (w : List Str) (y : Str) : lst (w ++ [y]) = y := by
  unfold lst
  rw [List.getLastD_eq_getLast?, List.getLast?_append]
  rfl
theorem wk_basic {names : List Str} {nb : Str → List Str} (h : NbOk names nb) {r : Str} (hr : r ∈ names) : ∀ (s : Nat), ∀ w ∈ wk nb r s, w.length = s + 1 ∧ lst w ∈ names ∧ w[w.length - 1]? = some (lst w)
  | 0, w, m => by
    rw [List.mem_singleton.mp m]
    exact ⟨rfl, hr, rfl⟩
  | s + 1, w, m => by
    obtain ⟨u, mu, mw⟩ := List.mem_flatMap.mp m
    obtain ⟨l1, l2, l3⟩ := wk_basic h hr s u mu
    obtain ⟨y, my, rfl⟩ := List.mem_map.mp mw
    have my := (List.mem_filter.mp my).1
    rw [lst_snoc]
    refine ⟨by rw [List.length_append, l1]; rfl, h.inn _ l2 y my, ?_⟩
    rw [List.length_append, List.length_singleton, Nat.add_sub_cancel, List.getElem?_append_right (Nat.le_refl _), Nat.sub_self]
    rfl
theorem ext_len {names : List Str} {nb : Str → List Str} (h : NbOk names nb) {w : List Str} (hw : lst w ∈ names) : (ext nb w).length ≤ 9 := by
  unfold ext
  rw [List.length_map]
  exact Nat.le_trans (List.length_filter_le _ _) (h.deg hw)
theorem flat_len {f : List Str → List (List Str)} : ∀ ws : List (List Str), (∀ w ∈ ws, (f w).length ≤ 9) → (ws.flatMap f).length ≤ 9 * ws.length
  | [], _ => Nat.le_refl _
  | w :: ws, h => by
    rw [List.flatMap_cons, List.length_append, List.length_cons]
    have h1 := h w (List.mem_cons_self ..)
    have h2 := flat_len ws fun u m => h u (List.mem_cons_of_mem _ m)
    omega
theorem wk_len {names : List Str} {nb : Str → List Str} (h : NbOk names nb) {r : Str} (hr : r ∈ names) : ∀ s : Nat, (wk nb r s).length ≤ 9 ^ s
  | 0 => Nat.le_refl _
  | s + 1 => by
    have := flat_len (f := ext nb) (wk nb r s) fun w m => ext_len h (wk_basic h hr s w m).2.1
    have ih := wk_len h hr s
    show ((wk nb r s).flatMap (ext nb)).length ≤ 9 ^ (s + 1)
    rw [Nat.pow_succ]
    omega
theorem cutW_pv (w : List Str) : cutW w (some (-2)) (some (-1)) = pre2 w := by
  unfold cutW pre2
  rw [sIx_last]
  have : HT.sIx w.length 0 (some (-2)) = w.length - 2 := by
    show (if (-2 : Int) < 0 then ((-2 : Int) + (w.length : Int)).toNat else min (-2 : Int).toNat w.length) = w.length - 2
    rw [if_pos (by decide)]
    omega
  rw [this]
section
variable {J : It} {n : Nat} {G : Hp → Prop} {Y : Nat → Hp → V → Hp → Prop}
/-- a comprehension of two clauses over a walk, the second clause's loop -/
theorem lc2_it (w : L2.Walk J n G Y) {g : TG} {tt : TT} {wi1 : TI} {g1 : TG} {tt1 : TT} {te : TE} {vs vs1 : List Nat} {σ : L2.St} {H1 : Hp} {D : Addr} {Qd : Hp → Prop} (Pv : Nat → Hp → Prop) (h0 : Pv 0 (upd H1 D (.lst []))) (hG : ∀ i H, i ≤ n → Pv i H → G H)
    (hs : ∀ i x H H', i < n → Pv i H → Y i H x H' → g x (wipe σ vs) H' fun σ2 H2 => wipe σ2 vs = wipe σ vs ∧ tt σ2 H2 fun b H3 =>
      if b = true then wi1 σ2 H3 fun J1 H4 => ∃ W1 : Nat → Nat → Hp → Prop, (∃ m, W1 0 m H4) ∧ ∀ j k H, W1 j k H →
        (J1.stop j H ∧ Pv (i + 1) H) ∨ (J1.go j H ∧ ∃ Nx1 : Hp → Prop, (∀ H', Nx1 H' → ∃ k', k' < k ∧ W1 (j + 1) k' H') ∧ ∀ x H', J1.yld j H x H' → g1 x (wipe σ2 vs1) H' fun σ3 H5 => wipe σ3 vs1 = wipe σ2 vs1 ∧ tt1 σ3 H5 fun b H6 =>
          if b = true then te σ3 H6 fun y H7 => ∃ acc, H7 D = some (.lst acc) ∧ acc.length < sizeLine ∧ Nx1 (upd H7 D (.lst (acc ++ [y]))) else Nx1 H6)
      else Pv (i + 1) H3) (hd : ∀ H, Pv n H → Qd H) :
    ∃ W : Nat → Nat → Hp → Prop, (∃ m, W 0 m (upd H1 D (.lst []))) ∧ ∀ i m H, W i m H →
  (J.stop i H ∧ Qd H) ∨ (J.go i H ∧ ∃ Nx : Hp → Prop, (∀ H', Nx H' → ∃ m', m' < m ∧ W (i + 1) m' H') ∧ ∀ x H', J.yld i H x H' → g x (wipe σ vs) H' fun σ2 H2 => wipe σ2 vs = wipe σ vs ∧ tt σ2 H2 fun b H3 =>
    if b = true then wi1 σ2 H3 fun J1 H4 => ∃ W1 : Nat → Nat → Hp → Prop, (∃ m, W1 0 m H4) ∧ ∀ j k H, W1 j k H →
      (J1.stop j H ∧ Nx H) ∨ (J1.go j H ∧ ∃ Nx1 : Hp → Prop, (∀ H', Nx1 H' → ∃ k', k' < k ∧ W1 (j + 1) k' H') ∧ ∀ x H', J1.yld j H x H' → g1 x (wipe σ2 vs1) H' fun σ3 H5 => wipe σ3 vs1 = wipe σ2 vs1 ∧ tt1 σ3 H5 fun b H6 =>
        if b = true then te σ3 H6 fun y H7 => ∃ acc, H7 D = some (.lst acc) ∧ acc.length < sizeLine ∧ Nx1 (upd H7 D (.lst (acc ++ [y]))) else Nx1 H6)
    else Nx H3) := by
  refine ⟨fun i m H => m = n - i ∧ i ≤ n ∧ Pv i H, ⟨n, by simp, Nat.zero_le _, h0⟩, ?_⟩
  rintro i m H ⟨rfl, hi, p⟩
  have q := hG i H hi p
  by_cases hlt : i < n
  · exact .inr ⟨w.goes i H hlt q, Pv (i + 1), fun H' p' => ⟨n - (i + 1), by omega, rfl, hlt, p'⟩, fun x H' y => hs i x H H' hlt p (w.yields i H x H' hlt q y)⟩
  · have e : i = n := by omega
    subst e
    exact .inl ⟨w.stops H q, hd H p⟩
theorem lc2_in (w : L2.Walk J n G Y) {g1 : TG} {tt1 : TT} {te : TE} {vs1 : List Nat} {σ2 : L2.St} {H4 : Hp} {D : Addr} {Nx : Hp → Prop} (Pv : Nat → Hp → Prop) (h0 : Pv 0 H4) (hG : ∀ i H, i ≤ n → Pv i H → G H)
    (hs : ∀ j x H H', j < n → Pv j H → Y j H x H' → g1 x (wipe σ2 vs1) H' fun σ3 H5 => wipe σ3 vs1 = wipe σ2 vs1 ∧ tt1 σ3 H5 fun b H6 =>
      if b = true then te σ3 H6 fun y H7 => ∃ acc, H7 D = some (.lst acc) ∧ acc.length < sizeLine ∧ Pv (j + 1) (upd H7 D (.lst (acc ++ [y]))) else Pv (j + 1) H6) (hd : ∀ H, Pv n H → Nx H) :
    ∃ W1 : Nat → Nat → Hp → Prop, (∃ m, W1 0 m H4) ∧ ∀ j k H, W1 j k H →
      (J.stop j H ∧ Nx H) ∨ (J.go j H ∧ ∃ Nx1 : Hp → Prop, (∀ H', Nx1 H' → ∃ k', k' < k ∧ W1 (j + 1) k' H') ∧ ∀ x H', J.yld j H x H' → g1 x (wipe σ2 vs1) H' fun σ3 H5 => wipe σ3 vs1 = wipe σ2 vs1 ∧ tt1 σ3 H5 fun b H6 =>
        if b = true then te σ3 H6 fun y H7 => ∃ acc, H7 D = some (.lst acc) ∧ acc.length < sizeLine ∧ Nx1 (upd H7 D (.lst (acc ++ [y]))) else Nx1 H6) := by
  refine ⟨fun i m H => m = n - i ∧ i ≤ n ∧ Pv i H, ⟨n, by simp, Nat.zero_le _, h0⟩, ?_⟩
  rintro i m H ⟨rfl, hi, p⟩
  have q := hG i H hi p
  by_cases hlt : i < n
  · exact .inr ⟨w.goes i H hlt q, Pv (i + 1), fun H' p' => ⟨n - (i + 1), by omega, rfl, hlt, p'⟩, fun x H' y => hs i x H H' hlt p (w.yields i H x H' hlt q y)⟩
  · have e : i = n := by omega
    subst e
    exact .inl ⟨w.stops H q, hd H p⟩
end
theorem HouseAt.near {K : PySem.W.Frag} {C : Addr} {mg : Str → Option Value} (T : TopF K mg C) {names : List Str} {nb : Str → List Str} {h : Addr} {H : Hp} (a : HouseAt K C names nb h H) : ∃ (d : Addr) (ad : Str → Addr), NearAt names nb d ad H ∧
    ∀ {σ : L2.St} {H' : Hp} {to : TE}, Kp no H H' → EvP no to σ H' (IsV (.ref h)) → EvP no (tFld K to "near") σ H' (IsV (.ref d)) := by
  obtain ⟨dx, rv, dv, nv, h1, h2, h3⟩ := a.ex
  obtain ⟨d, ad, rfl, hN⟩ := h3.at
  exact ⟨d, ad, hN, fun e ho => ev_fld (C := C) (dx := dx) ho (fun H1 e1 => ⟨h, rfl, (e.trans e1).ins h1⟩) T.cl T.nN rfl⟩
/-- a list that stands in the heap, of these tuples of texts -/
def NewW (K : PySem.W.Frag) (ws : List (List Str)) (D : Addr) (H : Hp) : Prop := ∃ bs : List (V × List Str), H D = some (.lst (bs.map (·.1))) ∧ (∀ b ∈ bs, TupS K H b.1 b.2) ∧ bs.map (·.2) = ws
theorem NewW.up {K : PySem.W.Frag} {p : Addr → Prop} {ws : List (List Str)} {D : Addr} {H H' : Hp} (h : NewW K ws D H) (e : Kp p H H') : NewW K ws D H' := by
  obtain ⟨bs, h1, h2, h3⟩ := h
  exact ⟨bs, e.lst h1, fun b m => e.tupS (h2 b m), h3⟩
theorem NewW.snoc {K : PySem.W.Frag} {ws : List (List Str)} {D : Addr} {H : Hp} (h : NewW K ws D H) {v : V} {w : List Str} (hv : TupS K H v w) : ∃ acc, H D = some (.lst acc) ∧ acc.length = ws.length ∧ NewW K (ws ++ [w]) D (upd H D (.lst (acc ++ [v]))) := by
  obtain ⟨bs, h1, h2, h3⟩ := h
  have keep : ∀ {x : V} {y : List Str}, TupS K H x y → TupS K (upd H D (.lst (bs.map (·.1) ++ [v]))) x y := fun ⟨a, e, ha⟩ => ⟨a, e, by rw [upd_ne fun z => by rw [z, h1] at ha; cases ha]; exact ha⟩
  refine ⟨_, h1, by rw [← h3, List.length_map, List.length_map], bs ++ [(v, w)], by rw [upd_same, List.map_append]; rfl, fun b m => ?_, by rw [List.map_append, h3]; rfl⟩
  rcases List.mem_append.mp m with m | m
  · exact keep (h2 b m)
  · rw [List.mem_singleton.mp m]
    exact keep hv
theorem NewW.lstW {K : PySem.W.Frag} {ws : List (List Str)} {D : Addr} {H : Hp} (h : NewW K ws D H) : LstW K ws H (.ref D) := by
  obtain ⟨bs, h1, h2, h3⟩ := h
  exact ⟨D, bs, rfl, .inl (.inl h1), h2, h3⟩
theorem flat_take {f : List Str → List (List Str)} {ws : List (List Str)} {i : Nat} (h : i < ws.length) : (ws.take (i + 1)).flatMap f = (ws.take i).flatMap f ++ f ws[i] := by
  rw [take_succ_get h, List.flatMap_append, List.flatMap_singleton]
theorem flat_part {f : List Str → List (List Str)} (ws : List (List Str)) (i : Nat) : ((ws.take i).flatMap f).length ≤ (ws.flatMap f).length := by
  have := List.take_append_drop i ws
  have e : ws.flatMap f = (ws.take i).flatMap f ++ (ws.drop i).flatMap f := by rw [← List.flatMap_append, this]
  rw [e, List.length_append]
  omega
theorem LstW.get {K : PySem.W.Frag} {bs : List (V × List Str)} {ws : List (List Str)} (e : bs.map (·.2) = ws) {i : Nat} {x : V} (hx : (bs.map (·.1))[i]? = some x) : ∃ (h : i < ws.length) (m : (x, ws[i]) ∈ bs), True := by
  subst e
  have hi : i < bs.length := by
    have := (List.getElem?_eq_some_iff.mp hx).1
    rw [List.length_map] at this
    exact this
  rw [List.getElem?_map, List.getElem?_eq_getElem hi] at hx
  have ex := Option.some.inj hx
  refine ⟨by rw [List.length_map]; exact hi, ?_, trivial⟩
  rw [List.getElem_map, ← ex]
  exact List.getElem_mem hi
theorem ev_lstW1 {p : Addr → Prop} {K : PySem.W.Frag} {σ : L2.St} {H : Hp} {te : TE} {w : List Str} (h : EvP p te σ H (TupP K w)) : EvP p (tLst (tCons te tNil)) σ H (LstW K [w]) := fun H1 e Q q =>
  h H1 e _ fun v H2 e2 hv => ⟨by show 1 ≤ sizeLine; decide, fun z hz => q _ _ (e2.trans (Kp.new hz)) ⟨z, [(v, w)], rfl, .inl (.inl upd_same), fun b m => by
    rw [List.mem_singleton.mp m]
    exact (Kp.new (p := no) hz).tupS hv, rfl⟩⟩
section
variable {P : Program} {w : World} {K : PySem.W.Frag} {mg : Str → Option Value} {base : Heap} {C : Addr}
def spShrunkWalks (K : PySem.W.Frag) (C : Addr) : Sp := fun vs H Q _ => ∃ names nb h r s, Gives [HouseV K C names nb h, IsV (.str r), IsV (.int ((s : Nat) : Int))] (NbOk names nb ∧ r ∈ names ∧ s ≤ 7) (LstW K (wk nb r s)) vs H Q
theorem scShrunkWalks : FnScope ["house", "room", "steps", "found", "step", "walk", "later"] ["house", "room", "steps"] (defScope sShrunkWalks) := ⟨rfl, rfl, rfl, by decide +kernel, rfl, by decide +kernel, by decide +kernel⟩
theorem ok_shrunk_walks {f : Addr} {fd : FuncData} (F : DefIs K "shrunk_walks" "shrunk_walks" sShrunkWalks f fd) (T : TopF K mg C) :
    FnOk P w K mg base CX0 1 f fd ["house", "room", "steps"] (spShrunkWalks K C) := by
  refine def_ok F scShrunkWalks (fun vs H Q E h => ?_) (fun cdv A outer s H vs Q E hr h => ?_)
  · obtain ⟨_, _, _, _, _, _, ha, _⟩ := h
    obtain ⟨_, _, _, rfl, _⟩ := args3 ha
    rfl
  · obtain ⟨names, nb, h, r, st, ⟨hk, mr, hst⟩, ha, q⟩ := h
    obtain ⟨hv, v1, v2, rfl, hh, h1, h2⟩ := args3 ha
    obtain rfl : v1 = .str r := h1
    obtain rfl : v2 = .int ((st : Nat) : Int) := h2
    have hu := hu_of hr
    refine ⟨_, (pss_cons (ps_set (i := 3) scShrunkWalks.nd rfl (.inl rfl) (pe_lst (pa_cons (pe_tup (pa_cons (pv 1) pa_nil)) pa_nil)))
      (pss_cons (ps_for PassesOwn.never rfl (pi_range1 rfl T.z_range (pa_cons (pv 2) pa_nil)) (pg_name (i := 4) scShrunkWalks.nd rfl (.inl rfl))
        (pss_one (ps_setLc2 (i := 3) (own := [("walk", 5), ("later", 6)]) rfl scShrunkWalks.nd rfl rfl (sw_true rfl rfl rfl (by decide +kernel)) (pi_listK (K := K) rfl (pv 3)) (blkOk_by (own := [("walk", 5), ("later", 6)]) (N := ["house", "room", "steps", "found", "step", "walk", "later"]) (sc := defScope sShrunkWalks) (by decide +kernel)) (vs1 := [6]) (by decide) (fun _ _ _ _ _ => (pg_name (i := 5) scShrunkWalks.nd rfl (.inl rfl))) (fun _ _ _ _ _ => pts_nil) (fun _ _ _ _ _ => (pi_listK (K := K) rfl (pe_dget hu (pe_fldK (K := K) rfl (pv 0) rfl) (pe_ix (ixK (r := rIxT) (K := K) ix_tup rfl) (pv 5) (pe_un un_neg pe_int) (fun _ _ => rfl)) (fun _ _ => rfl)))) (fun _ _ _ _ _ => (pg_name (i := 6) scShrunkWalks.nd rfl (.inl rfl))) (fun _ _ _ _ _ => (pts_one (pt_cmpR (opK (r := rNeT) (K := K) (op_neT (by exact hr.units)) rfl) (pe_slice (slK (r := rSlA) (K := K) sl_tupA rfl) (pv 5) (po_some (pe_un un_neg pe_int)) (po_some (pe_un un_neg pe_int))) (pe_tup (pa_cons (pv 6) pa_nil)) (nomark _)))) (fun _ _ _ _ _ => (pe_op (opK (r := rCatA) (K := K) op_catA rfl) (pv 5) (pe_tup (pa_cons (pv 6) pa_nil)))))))
      (pss_one (ps_ret (pv 3))))), ?_⟩
    have hHV : ∀ {σ : L2.St} {H' : Hp}, σ[0]? = some (some hv) → Kp no H H' → EvP no (tVar 0) σ H' (HouseV K C names nb h) := fun h0 e => ev_var h0 (Stay.stay e hh)
    refine q_set (p := no) (i := 3) (P := LstW K [[r]]) (ev_lstW1 (ev_tup1 (ev_val (i := 1) rfl))) fun v3 H1 e1 hv3 => ?_
    refine q_forR1 (p := no) (n := st) (by omega) (ea_cons (ev_val (i := 2) rfl) ea_nil) (fun j σ' H' => ∃ v s4 a5 a6, σ' = [some hv, some (.str r), some (.int ((st : Nat) : Int)), some v, s4, a5, a6] ∧ Kp no H H' ∧ LstW K (wk nb r j) H' v) (fun H2 e2 => ⟨_, _, _, _, rfl, e1.trans e2, Stay.stay e2 hv3⟩) (fun j σ' H2 hj h => ?_) fun σ' H2 h => ?_
    · obtain ⟨v, s4, a5, a6, rfl, e2, la, bs, rfl, hla, hbs, eb⟩ := h
      have bas := wk_basic hk mr j
      obtain ⟨nd, ad, hNear, rdNear⟩ := (hh.2.up e2).near T
      have hhv : hv = .ref h := hh.1
      show tAsg _ _ _ [some hv, some (.str r), some (.int ((st : Nat) : Int)), some (.ref la), some (.int (j : Int)), a5, a6] H2
      refine ⟨.ref la, rfl, la, rfl, ⟨_, hla⟩, fun D hD => lc2_it (walk_list (K := K) (a := la) (xs := bs.map (·.1))) (fun i H' => Kp no H2 H' ∧ NewW K (((wk nb r j).take i).flatMap (ext nb)) D H') ⟨Kp.new hD, [], upd_same, fun _ m => absurd m List.not_mem_nil, rfl⟩ (fun i H' _ h => h.1.sl hla) (fun i x H3 H4 hi h y => ?_) fun H' h => ?_⟩
      · obtain ⟨rfl, hx⟩ := y
        obtain ⟨e3, hN⟩ := h
        obtain ⟨hiw, mb, _⟩ := LstW.get (K := K) eb hx
        obtain ⟨lw, ml, gl⟩ := bas _ (List.getElem_mem hiw)
        generalize hwv : (wk nb r j)[i] = wv at mb lw ml gl
        have tx : ∀ {H'}, Kp no H2 H' → TupP K wv H' x := fun e => e.tupS (hbs _ mb)
        refine ⟨rfl, yes_if ?_⟩
        show iList _ _ [some hv, some (.str r), some (.int ((st : Nat) : Int)), some (.ref la), some (.int (j : Int)), some x, none] H4 _
        refine (ev_near (x := lst wv) (hNear.up e3) (rdNear e3 (EvP.val (ev_val (i := 0) rfl) hhv)) (ev_ixT (K := K) (xs := wv) (ev_var (i := 5) (P := TupP K wv) rfl (tx e3)) (ev_neg ev_c) (atI_neg (k := 1) (by omega) (by omega) gl)) ml) H4 (Kp.refl _ _) _ fun v5 H5 e5 ev5 => ⟨ad (lst wv), ev5, ⟨_, .inl (.inl ((hNear.up (e3.trans e5)).lst _ ml))⟩, ?_⟩
        have lists : ∀ {H'}, Kp no H2 H' → SqL K H' (ad (lst wv)) ((nb (lst wv)).map V.str) := fun e => .inl (.inl (e.lst (hNear.lst _ ml)))
        have len1 : ((wk nb r (j + 1)).length) ≤ 9 ^ (j + 1) := wk_len hk mr (j + 1)
        have lenP : 9 ^ (j + 1) ≤ 9 ^ 7 := Nat.pow_le_pow_right (by decide) (by omega)
        have fstep : ((wk nb r j).take (i + 1)).flatMap (ext nb) = ((wk nb r j).take i).flatMap (ext nb) ++ ext nb wv := by rw [flat_take hiw, hwv]
        refine lc2_in (walk_list (K := K) (a := ad (lst wv)) (xs := (nb (lst wv)).map V.str)) (fun k H' => Kp no H2 H' ∧ NewW K (((wk nb r j).take i).flatMap (ext nb) ++ (((nb (lst wv)).take k).filter fun y => !decide (pre2 wv = [y])).map fun y => wv ++ [y]) D H') ⟨e3.trans e5, by rw [List.take_zero, List.filter_nil, List.map_nil, List.append_nil]; exact hN.up e5⟩ (fun k H' _ h => lists h.1) (fun k y H6 H7 hk2 h z => ?_) fun H' h => ?_
        · obtain ⟨rfl, hy⟩ := z
          obtain ⟨e6, hN6⟩ := h
          have hkn : k < (nb (lst wv)).length := by
            rw [List.length_map] at hk2
            exact hk2
          have ey : y = .str (nb (lst wv))[k] := by
            rw [List.getElem?_map, List.getElem?_eq_getElem hkn] at hy
            exact (Option.some.inj hy).symm
          subst ey
          have tk : (nb (lst wv)).take (k + 1) = (nb (lst wv)).take k ++ [(nb (lst wv))[k]] := take_succ_get hkn
          have my := List.getElem_mem hkn
          generalize (nb (lst wv))[k] = y at my tk ⊢
          refine ⟨rfl, ?_⟩
          show tTest _ [some hv, some (.str r), some (.int ((st : Nat) : Int)), some (.ref la), some (.int (j : Int)), some x, some (.str y)] H7 _
          have xv : ∀ {H'}, Kp no H2 H' → EvP no (tVar 5) [some hv, some (.str r), some (.int ((st : Nat) : Int)), some (.ref la), some (.int (j : Int)), some x, some (.str y)] H' (TupP K wv) := fun e => ev_var rfl (tx e)
          have cut : EvP no (tSl (rSlA K) (tVar 5) (tPart (tUn (rU fun i => .int (-i)) (tC (.int 2)))) (tPart (tUn (rU fun i => .int (-i)) (tC (.int 1))))) [some hv, some (.str r), some (.int ((st : Nat) : Int)), some (.ref la), some (.int (j : Int)), some x, some (.str y)] H7 (TupP K (pre2 wv)) := by
            have := ev_slT (p := no) (K := K) (xs := wv) (xv e6) (eo_some (ev_neg (ev_c (v := .int 2)))) (eo_some (ev_neg (ev_c (v := .int 1))))
            rw [cutW_pv] at this
            exact this
          refine (eb_test (p := no) (b := !decide (pre2 wv = [y])) (ev_neT cut (ev_tup1 (ev_val rfl)))) _ (Kp.refl no _) _ fun H8 e8 => ?_
          have hN8 := hN6.up e8
          cases hb : !decide (pre2 wv = [y]) with
          | true =>
            rw [if_pos rfl]
            refine (ev_cat (p := no) (K := K) (xs := wv) (ys := [y]) (xv (e6.trans e8)) (ev_tup1 (ev_val rfl)) (by rw [lw]; show j + 1 + 1 ≤ 100000; omega)) _ (Kp.refl no _) _ fun v9 H9 e9 hv9 => ?_
            obtain ⟨acc, ha, hal, hn⟩ := (hN8.up e9).snoc hv9
            refine ⟨acc, ha, ?_, ((e6.trans e8).trans e9).mut hD, ?_⟩
            · rw [hal]
              have l1 := flat_part (f := ext nb) (wk nb r j) (i + 1)
              rw [fstep, List.length_append] at l1
              have l2 : (((nb (lst wv)).take k).filter fun y => !decide (pre2 wv = [y])).length ≤ (ext nb wv).length := by
                unfold ext
                rw [List.length_map]
                exact ((List.take_sublist k _).filter _).length_le
              have l3 : ((wk nb r j).flatMap (ext nb)).length ≤ 9 ^ (j + 1) := len1
              rw [List.length_append, List.length_map]
              have : (9 : Nat) ^ 7 < sizeLine := by decide
              omega
            · rw [tk, List.filter_append, List.filter_cons_of_pos (by exact hb), List.map_append, ← List.append_assoc]
              exact hn
          | false =>
            rw [if_neg (by decide)]
            refine ⟨e6.trans e8, ?_⟩
            rw [tk, List.filter_append, List.filter_cons_of_neg (by rw [hb]; decide), List.filter_nil, List.append_nil]
            exact hN8
        · rw [List.length_map, List.take_length] at h
          obtain ⟨e6, hN6⟩ := h
          exact ⟨e6, by rw [fstep]; exact hN6⟩
      · obtain ⟨e3, hN⟩ := h
        have : (bs.map (·.1)).length = (wk nb r j).length := by rw [← eb, List.length_map, List.length_map]
        rw [this, List.take_length] at hN
        exact ⟨_, _, _, _, rfl, e2.trans e3, hN.lstW⟩
    · obtain ⟨v, s4, a5, a6, rfl, e2, hl⟩ := h
      exact s_ret (p := no) (ev_var (i := 3) (P := LstW K (wk nb r st)) rfl hl) fun v H3 e3 hv => q v H3 (e2.trans e3) hv
end
end Tau
set_option maxHeartbeats 4000000
namespace Tau
open PySem PySem.Spec PyProof.Rows L2
/-! all_rings -/
/-- closed at r, not going out by the way it comes in -/
def Good (r : Str) (w : List Str) : Prop := lst w = r ∧ w[1]? ≠ w[w.length - 2]?
def IsRing (names : List Str) (nb : Str → List Str) (s : Nat) (x : List Str) : Prop := ∃ r ∈ names, ∃ w ∈ wk nb r s, Good r w ∧ nm w = x
structure RingsOk (names : List Str) (nb : Str → List Str) (s : Nat) : Prop where
  ring : ∀ r ∈ names, ∀ w ∈ wk nb r s, Good r w → Ring w
  few : ∀ R : List (List Str), R.Nodup → (∀ x ∈ R, IsRing names nb s x) → R.length ≤ 2000
def RingsP (K : PySem.W.Frag) (names : List Str) (nb : Str → List Str) (s : Nat) : Hp → V → Prop := fun H v => ∃ R : List (List Str), R.Nodup ∧ (∀ x, x ∈ R ↔ IsRing names nb s x) ∧ LstW K R H v
theorem put_keys {kvs : List (List Key × V)} {ks : List (List Str)} (h : kvs.map (·.1) = ks.map kW) (x : List Str) (v : V) : ∃ ks' : List (List Str), (putK kvs (kW x) v).map (·.1) = ks'.map kW ∧ (ks.Nodup → ks'.Nodup) ∧ ∀ y, y ∈ ks' ↔ y ∈ ks ∨ y = x := by
  cases e : valV kvs (kW x) with
  | none =>
    refine ⟨ks ++ [x], by rw [putK_new _ e, List.map_append, h, List.map_append]; rfl, fun nd => ?_, fun y => by rw [List.mem_append, List.mem_singleton]⟩
    rw [List.nodup_append]
    refine ⟨nd, List.nodup_cons.mpr ⟨List.not_mem_nil, List.nodup_nil⟩, fun a ha b hb z => ?_⟩
    have hb := List.mem_singleton.mp hb
    subst hb z
    refine valV_not e ?_
    rw [h]
    exact List.mem_map_of_mem ha
  | some u =>
    have mk := valV_in e
    rw [h] at mk
    obtain ⟨y, my, ey⟩ := List.mem_map.mp mk
    have ey := kW_inj ey
    subst ey
    refine ⟨ks, ?_, id, fun z => ⟨.inl, fun h => h.elim id fun e => e ▸ my⟩⟩
    unfold putK
    rw [if_pos (by rw [valV_any, e]; rfl), List.map_map, ← h]
    refine List.map_congr_left fun z _ => ?_
    show (if z.1 = kW y then (z.1, v) else z).1 = z.1
    split <;> rfl
theorem nm_mem {w : List Str} (h : Ring w) : nm w ∈ rots w := by
  unfold nm
  cases er : rots w with
  | nil =>
    have := congrArg List.length er
    unfold rots at this
    rw [List.length_map, List.length_range] at this
    have h0 : ([] : List (List Str)).length = 0 := rfl
    have := h.len
    omega
  | cons x xs => exact (minW_least xs x).1
theorem rot_len {w : List Str} {k : Nat} (h : k < w.length) : (rot w k).length = w.length := by
  unfold rot
  rw [List.length_append, List.length_take, List.length_take, List.length_drop]
  omega
theorem nm_ne {w : List Str} (h : Ring w) : nm w ≠ [] := fun e => by
  obtain ⟨k, mk, ek⟩ := List.mem_map.mp (nm_mem h)
  rw [List.mem_range] at mk
  have l := h.len
  have := rot_len (w := w) (k := k) (by omega)
  rw [ek, e] at this
  have h0 : ([] : List Str).length = 0 := rfl
  omega
section
variable {p : Addr → Prop} {K : PySem.W.Frag} {σ : L2.St} {H : Hp} {td ty tv te : TE} {tz : TS} {D : Ends} {a : Addr} {v : V} {P : Hp → V → Prop}
theorem q_dputT [Stay p P] {kvs : List (List Key × V)} (hv : EvP p tv σ H (IsV v)) (hd : EvP p td σ H (IsV (.ref a))) (hy : EvP p ty σ H P) (hh : ∀ H1, Kp p H H1 → H1 a = some (.dT kvs)) (hz : kvs.length < 100000)
    (hp : ∀ H1 y, Kp p H H1 → P H1 y → ∃ (b : Addr) (k : List Key), y = .ref b ∧ H1 b = some (.tup (k.map kV)) ∧ tz D σ (upd H1 a (.dT (putK kvs k v)))) : tSeq (sDPut td ty tv) tz D σ H := s_dputT (D := { D with nx := tz D }) hv hd hy hh hz hp
theorem ev_lenD {kvs : List (List Key × V)} (h : EvP p te σ H (IsV (.ref a))) (hh : ∀ H1, Kp p H H1 → H1 a = some (.dT kvs)) : EvP p (tCB rLenT (tCons te tNil)) σ H (IsV (.int (kvs.length : Int))) := fun H1 e Q q =>
  h H1 e _ fun x H2 e2 ex => ⟨a, kvs, by rw [show x = .ref a from ex], hh H2 (e.trans e2), q _ H2 e2 rfl⟩
theorem ev_srtD {S : Hp → V → Prop} {kvs : List (List Key × V)} {ks : List (List Str)} (h : EvP p te σ H (IsV (.ref a))) (hh : ∀ H1, Kp p H H1 → H1 a = some (.dT kvs)) (hks : kvs.map (·.1) = ks.map kW) (hne : ∀ k ∈ ks, k ≠ [])
    (hS : ∀ H1 (ys : List (V × List Str)) (z : Addr), (ys.map (·.2)).Perm ks → (∀ y ∈ ys, TupS K H1 y.1 y.2) → H1 z = none → S (upd H1 z (.lst (ys.map (·.1)))) (.ref z)) : EvP p (tCB rSrtD (tCons te tNil)) σ H S := fun H1 e Q q =>
  h H1 e _ fun x H2 e2 ex => ⟨a, kvs, ks, by rw [show x = .ref a from ex], hh H2 (e.trans e2), hks, hne, fun ys z pm hys hz => q _ _ (e2.trans (Kp.new hz)) (hS H2 ys z pm hys hz)⟩
end
section
variable {P : Program} {w : World} {K : PySem.W.Frag} {mg : Str → Option Value} {base : Heap} {C : Addr}
def spAllRings (K : PySem.W.Frag) (C : Addr) : Sp := fun vs H Q _ => ∃ names nb h s, Gives [HouseV K C names nb h, IsV (.int ((s : Nat) : Int))] (NbOk names nb ∧ 1 ≤ s ∧ s ≤ 7 ∧ RingsOk names nb s) (RingsP K names nb s) vs H Q
theorem scAllRings : FnScope ["house", "steps", "found", "room", "walk"] ["house", "steps"] (defScope sAllRings) := ⟨rfl, rfl, rfl, by decide +kernel, rfl, by decide +kernel, by decide +kernel⟩
theorem ok_all_rings {f : Addr} {fd : FuncData} (F : DefIs K "all_rings" "all_rings" sAllRings f fd) (T : TopF K mg C) (CRooms : CanM P w K mg base C "rooms" 1 ["self"] (spRooms K C)) (C_ShrunkWalks : Can P w K mg base "shrunk_walks" 1 ["house", "room", "steps"] (spShrunkWalks K C)) (C_Named : Can P w K mg base "named" 3 ["walk"] (spNamed K)) :
    FnOk P w K mg base CX0 4 f fd ["house", "steps"] (spAllRings K C) := by
  refine def_ok F scAllRings (fun vs H Q E h => ?_) (fun cdv A outer s H vs Q E hr h => ?_)
  · obtain ⟨_, _, _, _, _, ha, _⟩ := h
    obtain ⟨_, _, rfl, _⟩ := args2 ha
    rfl
  · obtain ⟨names, nb, h, st, ⟨hk, hst1, hst, rok⟩, ha, q⟩ := h
    obtain ⟨hv, v1, rfl, hh, h1⟩ := args2 ha
    obtain rfl : v1 = .int ((st : Nat) : Int) := h1
    have hu := hu_of hr
    obtain ⟨_, hMostR⟩ := T.mostR
    refine ⟨_, (pss_cons (ps_set (i := 2) scAllRings.nd rfl (.inl rfl) pe_dnewT)
      (pss_cons (ps_for PassesOwn.never rfl (pi_tupK (K := K) rfl (pe_mt0 CRooms T.cl hr (pv 0))) (pg_name (i := 3) scAllRings.nd rfl (.inl rfl))
        (pss_one (ps_for PassesOwn.never rfl (pi_listK (K := K) rfl (pe_fn C_ShrunkWalks hr rfl (pa_cons (pv 0) (pa_cons (pv 3) (pa_cons (pv 1) pa_nil))))) (pg_name (i := 4) scAllRings.nd rfl (.inl rfl))
          (pss_one (ps_if (PW.pt (pw_and (pt_cmpR op_eq (pe_ix (ixK (r := rIxT) (K := K) ix_tup rfl) (pv 4) (pe_un un_neg pe_int) (fun _ _ => rfl)) (pv 3) (nomark _)) (pw_and1 (pt_cmpR op_ne (pe_ix (ixK (r := rIxT) (K := K) ix_tup rfl) (pv 4) pe_int (fun _ _ => rfl)) (pe_ix (ixK (r := rIxT) (K := K) ix_tup rfl) (pv 4) (pe_un un_neg pe_int) (fun _ _ => rfl)) (nomark _)))))
            (pss_cons (ps_dput hu (pv 2) (pe_fn C_Named hr rfl (pa_cons (pv 4) pa_nil)) pe_bl rfl)
            (pss_one (ps_if (pt_cmpR op_gt (pe_callB (id := "len") call_len_dT (by rfl) T.z_len (by decide +kernel) (pa_cons (pv 2) pa_nil)) (pe_glob (v := .int 2000) rfl hMostR ⟨_, rfl⟩) (nomark _))
              (pss_one ps_never)
              pss_nil)))
            pss_nil)))))
      (pss_one (ps_ret (pe_callB (id := "sorted") (cr_srtD rfl (by exact hr.units)) (by rfl) T.z_sorted (by decide +kernel) (pa_cons (pv 2) pa_nil)))))), ?_⟩
    have hHV : ∀ {σ : L2.St} {H' : Hp}, σ[0]? = some (some hv) → Kp no H H' → EvP no (tVar 0) σ H' (HouseV K C names nb h) := fun h0 e => ev_var h0 (Stay.stay e hh)
    refine q_dnewT fun d hd => ?_
    have e0 : Kp no H (upd H d (.dT [])) := Kp.new hd
    show tSeq _ _ _ [some hv, some (.int ((st : Nat) : Int)), some (.ref d), none, none] _
    have h00 : upd H d (.dT []) d = some (.dT []) := upd_same
    generalize upd H d (.dT []) = H0 at e0 h00 ⊢
    refine (ev_mtH (p := no) (C := C) (m := "rooms") (sp := spRooms K C) (E := E0) (P := HouseV K C names nb h) (Ps := []) (Cd := True) (S := TupP K names) (fun vs H Q g => ⟨names, nb, h, g⟩) (hHV (σ := [some hv, some (.int ((st : Nat) : Int)), some (.ref d), none, none]) rfl e0) (HouseV.ins (by decide)) ea_nil trivial) H0 (Kp.refl _ _) _ fun v2 H1 e1 ⟨ra, era, hra⟩ => ⟨ra, era, ⟨_, .inl (.inl hra)⟩, ?_⟩
    refine for_tup (K := K) (xs := names.map V.str) (fun i σ' H' => ∃ a b, σ' = [some hv, some (.int ((st : Nat) : Int)), some (.ref d), a, b] ∧ Kp no H H' ∧ H' ra = some (.tup (names.map V.str)) ∧ ∃ kvs ks, H' d = some (.dT kvs) ∧ kvs.map (·.1) = ks.map kW ∧ ks.Nodup ∧ (∀ x ∈ ks, IsRing names nb st x) ∧ ∀ r ∈ names.take i, ∀ w ∈ wk nb r st, Good r w → nm w ∈ ks)
      ⟨_, _, rfl, e0.trans e1, hra, [], [], e1.dt h00, rfl, List.nodup_nil, fun _ m => absurd m List.not_mem_nil, fun _ m => absurd m List.not_mem_nil⟩ (fun i σ' H' _ h => ?_) (fun i x σ' H' hx h => ?_) fun σ' H' h => ?_
    · obtain ⟨_, _, _, _, h, _⟩ := h
      exact .inl (.inl h)
    · obtain ⟨a, b, rfl, e2, hra2, kvs, ks, hD, hks, nd, hR, hdone⟩ := h
      have hi : i < names.length := by
        have := (List.getElem?_eq_some_iff.mp hx).1
        rw [List.length_map] at this
        exact this
      have ex : x = .str names[i] := by
        rw [List.getElem?_map, List.getElem?_eq_getElem hi] at hx
        exact (Option.some.inj hx).symm
      subst ex
      have tk : names.take (i + 1) = names.take i ++ [names[i]] := take_succ_get hi
      have mr := List.getElem_mem hi
      generalize names[i] = r at tk mr ⊢
      show tFor _ _ _ _ [some hv, some (.int ((st : Nat) : Int)), some (.ref d), some (.str r), b] H'
      have bas := wk_basic hk mr st
      refine (ev_fn (p := no) (sp := spShrunkWalks K C) (E := E0) (Ps := [HouseV K C names nb h, IsV (.str r), IsV (.int ((st : Nat) : Int))]) (C := NbOk names nb ∧ r ∈ names ∧ st ≤ 7) (S := LstW K (wk nb r st)) (fun vs H Q g => ⟨names, nb, h, r, st, g⟩) (ea_cons (hHV (σ := [some hv, some (.int ((st : Nat) : Int)), some (.ref d), some (.str r), b]) rfl e2) (ea_cons (ev_val (i := 3) rfl) (ea_cons (ev_val (i := 1) rfl) ea_nil))) ⟨hk, mr, hst⟩) H' (Kp.refl _ _) _ fun v3 H3 e3 ⟨la, bs, ela, hla, hbs, eb⟩ => ⟨la, ela, ⟨_, hla⟩, ?_⟩
      have sl_d : ∀ {H' : Hp} {o : HO} {kv}, H' d = some (.dT kv) → SqL K H' la (bs.map (·.1)) → SqL K (upd H' d o) la (bs.map (·.1)) := fun hd t => dt_sl hd t
      refine for_list (K := K) (xs := bs.map (·.1)) (fun k σ' H' => ∃ b, σ' = [some hv, some (.int ((st : Nat) : Int)), some (.ref d), some (.str r), b] ∧ Kp no H H' ∧ H' ra = some (.tup (names.map V.str)) ∧ SqL K H' la (bs.map (·.1)) ∧ (∀ b ∈ bs, TupS K H' b.1 b.2) ∧ ∃ kvs ks, H' d = some (.dT kvs) ∧ kvs.map (·.1) = ks.map kW ∧ ks.Nodup ∧ (∀ x ∈ ks, IsRing names nb st x) ∧ (∀ r ∈ names.take i, ∀ w ∈ wk nb r st, Good r w → nm w ∈ ks) ∧ ∀ w ∈ (wk nb r st).take k, Good r w → nm w ∈ ks)
        ⟨_, rfl, e2.trans e3, e3.tup hra2, hla, hbs, kvs, ks, e3.dt hD, hks, nd, hR, hdone, fun _ m => absurd m List.not_mem_nil⟩ (fun k σ' H' _ h => ?_) (fun k x σ' H4 hx h => ?_) fun σ' H4 h => ?_
      · obtain ⟨_, _, _, _, h, _⟩ := h
        exact h
      · obtain ⟨b, rfl, e4, hra4, hla4, hbs4, kvs, ks, hD4, hks, nd, hR, hdone, hpart⟩ := h
        obtain ⟨hkw, mb, _⟩ := LstW.get (K := K) eb hx
        have tkw : (wk nb r st).take (k + 1) = (wk nb r st).take k ++ [(wk nb r st)[k]] := take_succ_get hkw
        have mw := List.getElem_mem hkw
        generalize (wk nb r st)[k] = wv at mb tkw mw
        obtain ⟨lw, ml, gl⟩ := bas wv mw
        have tx : ∀ {H'}, Kp no H4 H' → EvP no (tVar 4) [some hv, some (.int ((st : Nat) : Int)), some (.ref d), some (.str r), some x] H' (TupP K wv) := fun e => ev_var rfl (e.tupS (hbs4 _ mb))
        show tIfS _ _ _ _ [some hv, some (.int ((st : Nat) : Int)), some (.ref d), some (.str r), some x] H4
        obtain ⟨u1, hu1⟩ : ∃ u, wv[1]? = some u := ⟨_, List.getElem?_eq_getElem (by omega)⟩
        obtain ⟨u2, hu2⟩ : ∃ u, wv[wv.length - 2]? = some u := ⟨_, List.getElem?_eq_getElem (by omega)⟩
        have gd : (decide (V.str (lst wv) = V.str r) && !decide (V.str u1 = V.str u2)) = true ↔ Good r wv := by
          unfold Good
          rw [hu1, hu2, Bool.and_eq_true, decide_eq_true_iff, Bool.not_eq_true', decide_eq_false_iff_not]
          exact ⟨fun ⟨a, b⟩ => ⟨V.str.inj a, fun z => b (congrArg V.str (Option.some.inj z))⟩, fun ⟨a, b⟩ => ⟨congrArg V.str a, fun z => b (congrArg some (V.str.inj z))⟩⟩
        refine s_if (p := no) (b := decide (V.str (lst wv) = V.str r) && !decide (V.str u1 = V.str u2)) (eb_and (eb_test (ev_eq (ev_ixT (K := K) (tx (Kp.refl _ _)) (ev_neg ev_c) (atI_neg (k := 1) (by omega) (by omega) gl)) (ev_val (i := 3) rfl) rfl)) fun _ => eb_test (ev_ne (ev_ixT (K := K) (tx (Kp.refl _ _)) ev_c (atI_nat (j := 1) hu1)) (ev_ixT (K := K) (tx (Kp.refl _ _)) (ev_neg ev_c) (atI_neg (k := 2) (by omega) (by omega) hu2)) rfl)) (fun hb H5 e5 => ?_) (fun hb H5 e5 => ?_)
        · have g := gd.mp hb
          have rg := rok.ring r mr wv mw g
          refine q_dputT (p := no) (a := d) (P := TupP K (nm wv)) (kvs := kvs) (v := .bl true) ev_c (ev_val (i := 2) rfl) (ev_fn (sp := spNamed K) (Ps := [TupP K wv]) (C := Ring wv) (fun vs H Q g => ⟨wv, g⟩) (ea_cons (tx e5) ea_nil) rg) (fun H6 e6 => (e5.trans e6).dt hD4) ?_ fun H6 y e6 hy => ?_
          · have e := congrArg List.length hks
            rw [List.length_map, List.length_map] at e
            have := rok.few ks nd hR
            omega
          · obtain ⟨b, rfl, hb⟩ := hy
            refine ⟨b, kW (nm wv), rfl, by rw [kW_V]; exact hb, ?_⟩
            obtain ⟨ks', hks', nd', mem'⟩ := put_keys hks (nm wv) (.bl true)
            have nd' := nd' nd
            have hR' : ∀ x ∈ ks', IsRing names nb st x := fun x m => by
              rcases (mem' x).mp m with m | m
              · exact hR x m
              · exact ⟨r, mr, wv, mw, g, m.symm⟩
            have hd6 := (e5.trans e6).dt hD4
            have e7 : Kp no H (upd H6 d (.dT (putK kvs (kW (nm wv)) (.bl true)))) := ((e4.trans e5).trans e6).mut hd
            have ra7 : upd H6 d (.dT (putK kvs (kW (nm wv)) (.bl true))) ra = some (.tup (names.map V.str)) := by
              have := (e5.trans e6).tup hra4
              rw [upd_ne fun z => by rw [z, hd6] at this; cases this]
              exact this
            have la7 : SqL K (upd H6 d (.dT (putK kvs (kW (nm wv)) (.bl true)))) la (bs.map (·.1)) := dt_sl hd6 ((e5.trans e6).sl hla4)
            have bs7 : ∀ b ∈ bs, TupS K (upd H6 d (.dT (putK kvs (kW (nm wv)) (.bl true)))) b.1 b.2 := fun b m => by
              obtain ⟨a, ea, ha⟩ := (e5.trans e6).tupS (hbs4 b m)
              exact ⟨a, ea, by rw [upd_ne fun z => by rw [z, hd6] at ha; cases ha]; exact ha⟩
            have d7 : upd H6 d (.dT (putK kvs (kW (nm wv)) (.bl true))) d = some (.dT (putK kvs (kW (nm wv)) (.bl true))) := upd_same
            generalize upd H6 d (.dT (putK kvs (kW (nm wv)) (.bl true))) = H7 at e7 ra7 la7 bs7 d7 ⊢
            have few := rok.few ks' nd' hR'
            have el := congrArg List.length hks'
            rw [List.length_map, List.length_map] at el
            refine s_ifF (p := no) (eb_test (EvP.val (ev_gt (ev_lenD (a := d) (kvs := putK kvs (kW (nm wv)) (.bl true)) (ev_val (i := 2) rfl) fun H8 e8 => e8.dt d7) (ev_c (v := .int 2000))) (congrArg V.bl (decide_eq_false (by omega))))) fun H8 e8 => ?_
            refine ⟨_, rfl, e7.trans e8, e8.tup ra7, e8.sl la7, fun b m => e8.tupS (bs7 b m), _, ks', e8.dt d7, hks', nd', hR', fun r' m' w mw g => (mem' _).mpr (.inl (hdone r' m' w mw g)), fun w m g => ?_⟩
            rw [tkw] at m
            rcases List.mem_append.mp m with m | m
            · exact (mem' _).mpr (.inl (hpart w m g))
            · rw [List.mem_singleton.mp m]
              exact (mem' _).mpr (.inr rfl)
        · refine ⟨_, rfl, e4.trans e5, e5.tup hra4, e5.sl hla4, fun b m => e5.tupS (hbs4 b m), kvs, ks, e5.dt hD4, hks, nd, hR, hdone, fun w m g => ?_⟩
          rw [tkw] at m
          rcases List.mem_append.mp m with m | m
          · exact hpart w m g
          · rw [List.mem_singleton.mp m] at g
            rw [gd.mpr g] at hb
            cases hb
      · obtain ⟨b, rfl, e4, hra4, hla4, hbs4, kvs, ks, hD4, hks, nd, hR, hdone, hpart⟩ := h
        have : (bs.map (·.1)).length = (wk nb r st).length := by rw [← eb, List.length_map, List.length_map]
        rw [this, List.take_length] at hpart
        refine ⟨_, _, rfl, e4, hra4, kvs, ks, hD4, hks, nd, hR, fun r' mr' w mw g => ?_⟩
        rw [tk] at mr'
        rcases List.mem_append.mp mr' with m | m
        · exact hdone r' m w mw g
        · have := List.mem_singleton.mp m
          subst this
          exact hpart w mw g
    · obtain ⟨a, b, rfl, e2, hra2, kvs, ks, hD, hks, nd, hR, hdone⟩ := h
      rw [List.length_map, List.take_length] at hdone
      refine s_ret (p := no) (P := RingsP K names nb st) (ev_srtD (K := K) (a := d) (kvs := kvs) (ks := ks) (ev_val (i := 2) rfl) (fun H3 e3 => e3.dt hD) hks (fun k m => ?_) fun H3 ys z pm hys hz => ⟨ys.map (·.2), pm.nodup_iff.mpr nd, fun x => ?_, z, ys, rfl, .inl (.inl upd_same), fun b m => ?_, rfl⟩) fun v H3 e3 hv => q v H3 (e2.trans e3) hv
      · obtain ⟨r, mr, w, mw, g, rfl⟩ := hR k m
        exact nm_ne (rok.ring r mr w mw g)
      · rw [pm.mem_iff]
        refine ⟨hR x, fun ⟨r, mr, w, mw, g, e⟩ => ?_⟩
        rw [← e]
        exact hdone r mr w mw g
      · exact (Kp.new (p := no) hz).tupS (hys b m)
end
end Tau
set_option maxHeartbeats 4000000
namespace Tau
open PySem PySem.Spec PyProof.Rows L2
/-! the pen -/
def penK (la : Addr) (at_ : Nat) (left : Int) : List (Key × V) := [(Sum.inr "cells", .ref la), (Sum.inr "at", .int (at_ : Int)), (Sum.inr "left", .int left)]
structure Pen where
  d : Addr
  la : Addr
  cells : List Int
/-- the pen at d: what it holds; at most n draws behind it -/
def PenAt (g : Pen) (n : Nat) (H : Hp) : Prop := ∃ (a : Nat) (left : Int), H g.d = some (.dK (penK g.la a left)) ∧ H g.la = some (.lst (g.cells.map V.int)) ∧ a ≤ n ∧ 0 ≤ left
abbrev only (d : Addr) : Addr → Prop := fun a => a = d
theorem PenAt.up {g : Pen} {n : Nat} {H H' : Hp} (h : PenAt g n H) (e : Kp no H H') : PenAt g n H' := by
  obtain ⟨a, left, h1, h2, h3, h4⟩ := h
  exact ⟨a, left, e.at h1, e.at h2, h3, h4⟩
theorem PenAt.more {g : Pen} {n m : Nat} {H : Hp} (h : PenAt g n H) (l : n ≤ m) : PenAt g m H := by
  obtain ⟨a, left, h1, h2, h3, h4⟩ := h
  exact ⟨a, left, h1, h2, by omega, h4⟩
theorem PenAt.mut {g : Pen} {n m : Nat} {B H : Hp} {l : Addr} {o : HO} (b : PenAt g m B) (hl : B l = none) (h : PenAt g n H) : PenAt g n (upd H l o) := by
  obtain ⟨a, left, h1, h2, h3, h4⟩ := h
  obtain ⟨_, _, b1, b2, _⟩ := b
  exact ⟨a, left, by rw [upd_ne (ne_of_none b1 hl)]; exact h1, by rw [upd_ne (ne_of_none b2 hl)]; exact h2, h3, h4⟩
theorem Kp.pen {d : Addr} {k k' : List (Key × V)} {H : Hp} (h : H d = some (.dK k)) : Kp (only d) H (upd H d (.dK k')) := fun a o ha => by
  by_cases z : a = d
  · subst z
    rw [h] at ha
    cases ha
    exact .inr ⟨rfl, k, k', rfl, upd_same⟩
  · exact .inl (by rw [upd_ne z]; exact ha)
theorem pen_cells (la : Addr) (a : Nat) (left : Int) : valV (penK la a left) (Sum.inr "cells") = some (.ref la) := valV_pos rfl
theorem pen_at (la : Addr) (a : Nat) (left : Int) : valV (penK la a left) (Sum.inr "at") = some (.int (a : Int)) := by
  unfold penK
  rw [valV_neg fun z => absurd (Sum.inr.inj z) (by decide)]
  exact valV_pos rfl
theorem pen_left (la : Addr) (a : Nat) (left : Int) : valV (penK la a left) (Sum.inr "left") = some (.int left) := by
  unfold penK
  rw [valV_neg (fun z => absurd (Sum.inr.inj z) (by decide)), valV_neg (fun z => absurd (Sum.inr.inj z) (by decide))]
  exact valV_pos rfl
theorem pen_putLeft (la : Addr) (a : Nat) (left l2 : Int) : putK (penK la a left) (Sum.inr "left") (.int l2) = penK la a l2 := rfl
theorem pen_putAt (la : Addr) (a b : Nat) (left : Int) : putK (penK la a left) (Sum.inr "at") (.int (b : Int)) = penK la b left := rfl
section
variable {p : Addr → Prop} {K : PySem.W.Frag} {σ : L2.St} {H : Hp} {te td ty tv ta tb : TE} {tz : TS} {D : Ends} {a : Addr} {v : V}
theorem ev_abs {i : Int} (h : EvP p te σ H (IsV (.int i))) : EvP p (tCB (fun xs H Q => ∃ i, xs = [.int i] ∧ Q (.int (if i < 0 then -i else i)) H) (tCons te tNil)) σ H (IsV (.int (if i < 0 then -i else i))) := fun H1 e Q q =>
  h H1 e _ fun x H2 e2 ex => ⟨i, by rw [show x = .int i from ex], q _ H2 e2 rfl⟩
theorem ev_pow {i j : Int} (ha : EvP p ta σ H (IsV (.int i))) (hb : EvP p tb σ H (IsV (.int j))) (h : CPow i j) : EvP p (tOp (rI CPow fun i j => .int (i ^ j.toNat)) ta tb) σ H (IsV (.int (i ^ j.toNat))) := ev_I ha hb h
theorem q_dputK {k : Key} {kvs : List (Key × V)} (hv : EvP p tv σ H (IsV v)) (hd : EvP p td σ H (IsV (.ref a))) (hy : EvP p ty σ H (IsV (kV k))) (hh : ∀ H1, Kp p H H1 → H1 a = some (.dK kvs)) (hz : kvs.length < 100000)
    (kk : ∀ H1, Kp p H H1 → tz D σ (upd H1 a (.dK (putK kvs k v)))) : tSeq (sDPut td ty tv) tz D σ H := s_dputK (D := { D with nx := tz D }) hv hd hy hh hz kk
/-- if ..: x = e, x an int before and behind -/
theorem q_ifSet {b : Bool} {tt : TT} {i : Nat} {c0 : Int} (h : EvB p tt σ H b) (h0 : σ[i]? = some (some (.int c0))) (ha : b = true → ∀ H1, Kp p H H1 → EvP p te σ H1 (fun _ v => ∃ c : Int, v = .int c)) (k : ∀ (c : Int) H1, Kp p H H1 → tz D (σ.set i (some (.int c))) H1) :
    tSeq (tIfS tt (tAsg te (gName i)) tNext) tz D σ H := q_if h (fun hb H1 e1 => ha hb H1 e1 H1 (Kp.refl p H1) _ fun v H2 e2 ⟨c, ec⟩ => by
      rw [ec]
      exact k c H2 (e1.trans e2)) fun _ H1 e1 => by
      have := k c0 H1 e1
      have es : σ.set i (some (.int c0)) = σ := by
        apply List.ext_getElem?
        intro j
        by_cases e : i = j
        · subst e
          rw [List.getElem?_set_self' , h0]
          rfl
        · rw [List.getElem?_set_ne e]
      rw [es] at this
      exact this
theorem ev_ixLV {xs : List V} {i : Int} {v : V} (ha : EvP p ta σ H (VL K xs)) (hb : EvP p tb σ H (IsV (.int i))) (h : atI xs i = some v) : EvP p (tOp (rIxL K) ta tb) σ H (IsV v) :=
  ev_op ha hb fun H1 x' y' _ ⟨a, ea, hs⟩ hy Q q => by
    have ey : y' = .int i := hy
    subst ea ey
    exact ⟨a, xs, i, v, rfl, rfl, hs, h, q _ H1 (Kp.refl p H1) rfl⟩
theorem fmod_bd (x : Int) (m : Nat) (h : 1 ≤ m) : 0 ≤ x.fmod (m : Int) ∧ x.fmod (m : Int) < m := by
  rw [Int.fmod_eq_emod_of_nonneg _ (by omega)]
  exact ⟨Int.emod_nonneg _ (by omega), Int.emod_lt_of_pos _ (by omega)⟩
/-- a field of the pen -/
theorem ev_penF {la : Addr} {at_ : Nat} {left : Int} {k : Str} {x : V} (hd : EvP no td σ H (IsV (.ref a))) (h : H a = some (.dK (penK la at_ left))) (hx : valV (penK la at_ left) (Sum.inr k) = some x) : EvP no (tDGet td (tC (.str k))) σ H (IsV x) :=
  ev_dget (y := kV (Sum.inr k)) hd ev_c fun H1 e1 => by
    rw [← hx]
    exact DGet.k (e1.at h)
theorem ev_neL0 {cells : List Int} {la : Addr} (ha : EvP no ta σ H (IsV (.ref la))) (h : H la = some (.lst (cells.map V.int))) (hb : EvP no tb σ H (NewL [])) : EvP no (tOp (rNeL K) ta tb) σ H (IsV (.bl (!cells.isEmpty))) :=
  ev_op ha hb fun H1 x y e1 hx ⟨b, ey, hy⟩ Q q => by
    have ex : x = .ref la := hx
    subst ex ey
    have dall : ∀ xs : List Int, DpAll K H1 (xs.map V.int) (xs.map PyData.int) := fun xs => by
      induction xs with
      | nil => exact .nil
      | cons i xs ih => exact .cons (.int i) ih
    have pall : ∀ xs : List Int, PyData.plainAll (xs.map PyData.int) = true := fun xs => by
      induction xs with
      | nil => rfl
      | cons i xs ih =>
        rw [List.map_cons, PyData.plainAll, ih]
        rfl
    have deep : ∀ xs : List Int, PyData.depthAll (xs.map PyData.int) = 0 := fun xs => by
      induction xs with
      | nil => rfl
      | cons i xs ih =>
        rw [List.map_cons, PyData.depthAll, ih]
        rfl
    refine ⟨cells.map PyData.int, [], .lst (.inl (.inl (e1.at h))) (dall cells), .lst (.inl (.inl hy)) .nil, pall cells, rfl, ?_, q _ H1 (Kp.refl no H1) ?_⟩
    · rw [PyData.depth, deep]
      decide
    · cases cells with
      | nil => rfl
      | cons i xs => rfl
end
section
variable {P : Program} {w : World} {K : PySem.W.Frag} {mg : Str → Option Value} {base : Heap} {C : Addr}
def spPen (K : PySem.W.Frag) : Sp := fun vs H Q _ => ∃ (a : Addr) (ns : List Int), vs = [.ref a] ∧ SqL K H a (ns.map V.int) ∧ ∀ (g : Pen) (H' : Hp), Kp no H H' → PenAt g 0 H' → H g.d = none → Q (.ref g.d) H'
theorem scLawPen : FnScope ["_law_script"] ["_law_script"] (defScope sLawPen) := ⟨rfl, rfl, rfl, by decide +kernel, rfl, by decide +kernel, by decide +kernel⟩
theorem ok_law_pen {f : Addr} {fd : FuncData} (F : DefIs K "_law_pen" "_law_pen" sLawPen f fd) (T : TopF K mg C) : FnOk P w K mg base CX0 1 f fd ["_law_script"] (spPen K) := by
  refine def_ok F scLawPen (fun vs H Q E h => ?_) (fun cdv A outer s H vs Q E hr h => ?_)
  · obtain ⟨_, _, rfl, _⟩ := h
    rfl
  · obtain ⟨a, ns, rfl, hs, q⟩ := h
    refine ⟨_, (pss_one (ps_ret (pe_disp (pps_cons pe_str (pe_callTy (T := "list") (crK (r := lstR) (K := K) call_list_of rfl) (by rfl) T.z_list (by decide +kernel) (pa_cons (pe_slice (slK (r := rSlL) (K := K) sl_list rfl) (pv 0) po_none (po_some pe_int)) pa_nil)) (pps_cons pe_str pe_int (pps_cons pe_str pe_int pps_nil))) (by rfl) (by rfl) (fun z => by cases z) (by decide)))), ?_⟩
    have cut : cutV (ns.map V.int) none (some 63) = (cutW ns none (some 63)).map V.int := by
      unfold cutV cutW
      rw [List.length_map, List.map_take, List.map_drop]
    intro d hd
    have k0 : Kp no H (upd H d (.dK [])) := Kp.new hd
    refine ⟨.ref a, rfl, 63, rfl, a, _, rfl, k0.sl hs, fun z hz => ⟨z, _, rfl, .inl (.inl (.inl upd_same)), fun l hl => ?_⟩⟩
    have d0 : upd H d (.dK []) d = some (.dK []) := upd_same
    have k1 := (k0.trans (Kp.new hz)).trans (Kp.new (o := .lst (cutV (ns.map V.int) none (some 63))) hl)
    have d1 := (Kp.new (p := no) (o := .lst (cutV (ns.map V.int) none (some 63))) hl).at ((Kp.new (p := no) hz).at d0)
    refine ⟨d1, penK l 0 0, rfl, by show 3 ≤ 15; decide, q ⟨d, l, cutW ns none (some 63)⟩ _ (k1.mut hd) ⟨0, 0, upd_same, ?_, Nat.le_refl _, Int.le_refl _⟩ hd⟩
    have ld : l ≠ d := fun e => by
      rw [e, (Kp.new (p := no) hz).at d0] at hl
      cases hl
    rw [upd_ne ld, upd_same, cut]
/-- the pen at d drawn from, c draws at most -/
def Drawn (g : Pen) (n : Nat) (R : Hp → V → Prop) (H : Hp) (Q : VK) : Prop := ∀ v H', Kp (only g.d) H H' → PenAt g n H' → R H' v → Q v H'
def BelowP (m : Nat) : Hp → V → Prop := fun _ v => ∃ r : Nat, r < m ∧ v = .int (r : Int)
instance {p : Addr → Prop} {m : Nat} : Stay p (BelowP m) := ⟨fun _ h => h⟩
def spDraw : Sp := fun vs H Q _ => ∃ (g : Pen) (n m : Nat), vs = [.ref g.d, .int (m : Int)] ∧ PenAt g n H ∧ n ≤ 1000000 ∧ 1 ≤ m ∧ m ≤ 1000000 ∧ Drawn g (n + 1) (BelowP m) H Q
theorem below_mod {x : Int} {m : Nat} (h : 1 ≤ m) : ∃ r : Nat, r < m ∧ V.int (x.fmod (m : Int)) = .int (r : Int) := by
  have h0 : 0 ≤ x % (m : Int) := Int.emod_nonneg _ (by omega)
  have h1 : x % (m : Int) < m := Int.emod_lt_of_pos _ (by omega)
  refine ⟨(x % (m : Int)).toNat, by omega, ?_⟩
  rw [Int.fmod_eq_emod_of_nonneg _ (by omega)]
  congr 1
  omega
theorem scLawDraw : FnScope ["_law_pen_here", "_law_many", "_law_digit", "_law_at", "_law_cell", "_law_blend"] ["_law_pen_here", "_law_many"] (defScope sLawDraw) := ⟨rfl, rfl, rfl, by decide +kernel, rfl, by decide +kernel, by decide +kernel⟩
theorem ok_law_draw {f : Addr} {fd : FuncData} (F : DefIs K "_law_draw" "_law_draw" sLawDraw f fd) (T : TopF K mg C) : FnOk P w K mg base CX0 1 f fd ["_law_pen_here", "_law_many"] spDraw := by
  refine def_ok F scLawDraw (fun vs H Q E h => ?_) (fun cdv A outer s H vs Q E hr h => ?_)
  · obtain ⟨_, _, _, rfl, _⟩ := h
    rfl
  · obtain ⟨⟨d, la, cells⟩, n, m, rfl, ⟨at_, left, hp, hc, hat, hleft⟩, hn, hm1, hm2, q⟩ := h
    dsimp only at hp hc q
    have hu := hu_of hr
    refine ⟨_, (pss_cons (ps_if (pt_cmpR op_gt (pe_dget hu (pv 0) pe_str (fun _ _ => rfl)) pe_int (nomark _))
        (pss_cons (ps_set (i := 2) scLawDraw.nd rfl (.inl rfl) (pe_op op_modN (pe_dget hu (pv 0) pe_str (fun _ _ => rfl)) (pv 1)))
        (pss_cons (ps_dput hu (pv 0) pe_str (pe_op op_fdivN (pe_dget hu (pv 0) pe_str (fun _ _ => rfl)) (pv 1)) rfl)
        (pss_one (ps_ret (pv 2)))))
        pss_nil)
      (pss_cons (ps_set (i := 3) scLawDraw.nd rfl (.inl rfl) (pe_dget hu (pv 0) pe_str (fun _ _ => rfl)))
      (pss_cons (ps_dput hu (pv 0) pe_str (pe_op op_add (pv 3) pe_int) rfl)
      (pss_cons (ps_set (i := 4) scLawDraw.nd rfl (.inl rfl) (pe_op op_add (pe_op op_mul pe_int (pv 3)) pe_int))
      (pss_cons (ps_if (pt_cmpR (opK (r := rNeL) (K := K) (op_neL (by exact hr.units)) rfl) (pe_dget hu (pv 0) pe_str (fun _ _ => rfl)) (pe_lst pa_nil) (nomark _))
        (pss_one (ps_set (i := 4) scLawDraw.nd rfl (.inl rfl) (pe_ix (ixK (r := rIxL) (K := K) ix_list rfl) (pe_dget hu (pv 0) pe_str (fun _ _ => rfl)) (pe_op op_modN (pv 3) (pe_callB (id := "len") (crK (r := lenR) (K := K) call_len_seq rfl) (by rfl) T.z_len (by decide +kernel) (pa_cons (pe_dget hu (pv 0) pe_str (fun _ _ => rfl)) pa_nil))) (fun _ _ => rfl))))
        pss_nil)
      (pss_cons (ps_if (PW.pt (pw_and (pt_cmpR op_lt (pv 3) (pe_callB (id := "len") (crK (r := lenR) (K := K) call_len_seq rfl) (by rfl) T.z_len (by decide +kernel) (pa_cons (pe_dget hu (pv 0) pe_str (fun _ _ => rfl)) pa_nil)) (nomark _)) (pw_and1 (pt_cmpR op_ge (pe_callB (id := "abs") call_abs (by rfl) T.z_abs (by decide +kernel) (pa_cons (pv 4) pa_nil)) (pe_op op_pow pe_int pe_int) (nomark _)))))
        (pss_cons (ps_dput hu (pv 0) pe_str (pe_op op_fdivN (pe_op op_sub (pe_callB (id := "abs") call_abs (by rfl) T.z_abs (by decide +kernel) (pa_cons (pv 4) pa_nil)) (pe_op op_pow pe_int pe_int)) (pv 1)) rfl)
        (pss_one (ps_ret (pe_op op_modN (pe_op op_sub (pe_callB (id := "abs") call_abs (by rfl) T.z_abs (by decide +kernel) (pa_cons (pv 4) pa_nil)) (pe_op op_pow pe_int pe_int)) (pv 1)))))
        pss_nil)
      (pss_cons (ps_set (i := 5) scLawDraw.nd rfl (.inl rfl) (pe_op op_modN (pe_op op_add (pe_op op_add (pe_op op_add (pe_op op_mul (pe_op op_modN (pv 4) pe_int) pe_int) (pe_op op_mul (pe_op op_mul pe_int (pv 3)) (pv 3))) (pe_op op_mul pe_int (pv 3))) pe_int) pe_int))
      (pss_cons (ps_set (i := 5) scLawDraw.nd rfl (.inl rfl) (pe_op op_modN (pe_op op_add (pe_op op_add (pe_op op_add (pe_op op_mul (pv 5) (pv 5)) (pe_op op_mul pe_int (pv 5))) (pe_op op_mul pe_int (pv 3))) pe_int) pe_int))
      (pss_one (ps_ret (pe_op op_modN (pe_op op_fdivN (pe_op op_modN (pe_op op_mul (pv 5) (pe_op op_add (pv 5) pe_int)) pe_int) pe_int) (pv 1)))))))))))), ?_⟩
    have penV : ∀ {σ : L2.St} {H' : Hp}, σ[0]? = some (some (.ref d)) → EvP no (tVar 0) σ H' (IsV (.ref d)) := fun h0 => ev_val h0
    refine q_if (p := no) (b := decide ((0 : Int) < left)) (eb_test (ev_gt (ev_penF (penV rfl) hp (pen_left ..)) ev_c)) (fun hb H1 e1 => ?_) (fun hb H1 e1 => ?_)
    · have hp1 := e1.at hp
      obtain ⟨r, hr1, er⟩ := below_mod (x := left) hm1
      refine q_setV (p := no) (i := 2) (x := .int (r : Int)) (EvP.val (ev_modN (ev_penF (penV rfl) hp1 (pen_left ..)) (ev_val (i := 1) rfl) (by omega)) er) fun H2 e2 => ?_
      show tSeq _ _ _ [some (.ref d), some (.int (m : Int)), some (.int (r : Int)), none, none, none] H2
      have hp2 := e2.at hp1
      refine q_dputK (p := no) (a := d) (k := Sum.inr "left") (kvs := penK la at_ left) (ev_fdN (ev_penF (penV rfl) hp2 (pen_left ..)) (ev_val (i := 1) rfl) ⟨by omega, by omega⟩) (penV rfl) ev_c (fun H3 e3 => e3.at hp2) (by show 3 < 100000; decide) fun H3 e3 => ?_
      rw [pen_putLeft]
      have hp3 := e3.at hp2
      refine s_retV (p := no) (ev_val (i := 2) rfl) fun H4 e4 => q _ H4 (((((e1.trans e2).trans e3).any).trans (Kp.pen hp3)).trans e4.any) ?_ ⟨r, hr1, rfl⟩
      have l3 := ((e1.trans e2).trans e3).at hc
      refine PenAt.up ⟨at_, _, upd_same, ?_, by omega, ?_⟩ e4
      · rw [upd_ne fun z : la = d => by rw [z, hp3] at l3; cases l3]
        exact l3
      · rw [Int.fdiv_eq_ediv_of_nonneg _ (by omega)]
        exact Int.ediv_nonneg hleft (by omega)
    · have hp1 := e1.at hp
      refine q_setV (p := no) (i := 3) (x := .int (at_ : Int)) (ev_penF (penV rfl) hp1 (pen_at ..)) fun H2 e2 => ?_
      show tSeq _ _ _ [some (.ref d), some (.int (m : Int)), none, some (.int (at_ : Int)), none, none] H2
      have hp2 := e2.at hp1
      refine q_dputK (p := no) (a := d) (k := Sum.inr "at") (kvs := penK la at_ left) (v := .int ((at_ + 1 : Nat) : Int)) (EvP.val (ev_add (ev_val (i := 3) rfl) (ev_c (v := .int 1))) (congrArg V.int (by omega))) (penV rfl) ev_c (fun H3 e3 => e3.at hp2) (by show 3 < 100000; decide) fun H3 e3 => ?_
      rw [pen_putAt]
      have hp3 := e3.at hp2
      have c3 := ((e1.trans e2).trans e3).at hc
      have kG : Kp (only d) H (upd H3 d (.dK (penK la (at_ + 1) left))) := ((e1.trans e2).trans e3).any.trans (Kp.pen hp3)
      have pG : upd H3 d (.dK (penK la (at_ + 1) left)) d = some (.dK (penK la (at_ + 1) left)) := upd_same
      have cG : upd H3 d (.dK (penK la (at_ + 1) left)) la = some (.lst (cells.map V.int)) := by
        rw [upd_ne fun z => by rw [z, hp3] at c3; cases c3]
        exact c3
      generalize upd H3 d (.dK (penK la (at_ + 1) left)) = G at kG pG cG ⊢
      have cellsV : ∀ {σ : L2.St} {G' : Hp}, σ[0]? = some (some (.ref d)) → Kp no G G' → EvP no (tDGet (tVar 0) (tC (.str "cells"))) σ G' (IsV (.ref la)) := fun h0 e => ev_penF (penV h0) (e.at pG) (pen_cells ..)
      have cellsL : ∀ {σ : L2.St} {G' : Hp}, σ[0]? = some (some (.ref d)) → Kp no G G' → EvP no (tDGet (tVar 0) (tC (.str "cells"))) σ G' (VL K (cells.map V.int)) := fun h0 e => (cellsV h0 e).imp fun H' v e' hv => ⟨la, hv, .inl (.inl ((e.trans e').at cG))⟩
      have cellsQ : ∀ {σ : L2.St} {G' : Hp}, σ[0]? = some (some (.ref d)) → Kp no G G' → EvP no (tDGet (tVar 0) (tC (.str "cells"))) σ G' (VQ K (cells.map V.int)) := fun h0 e => (cellsL h0 e).imp fun H' v _ ⟨a, ea, ha⟩ => ⟨a, ea, .inl ha⟩
      refine q_setV (p := no) (i := 4) (x := .int (23 * (at_ : Int) + 7)) (ev_add (ev_mul ev_c (ev_val (i := 3) rfl) (.inl (by decide))) ev_c) fun H4 e4 => ?_
      show tSeq _ _ _ [some (.ref d), some (.int (m : Int)), none, some (.int (at_ : Int)), some (.int (23 * (at_ : Int) + 7)), none] H4
      refine q_ifSet (p := no) (b := !cells.isEmpty) (i := 4) (eb_test (ev_neL0 (K := K) (cellsV rfl e4) (e4.at cG) ev_lst0)) rfl (fun hb H5 e5 => ?_) fun c H5 e5 => ?_
      · have hl : 0 < cells.length := by
          cases cells with
          | nil => cases hb
          | cons _ _ => exact Nat.succ_pos _
        have lt := Nat.mod_lt at_ hl
        refine (ev_ixLV (K := K) (xs := cells.map V.int) (i := ((at_ % cells.length : Nat) : Int)) (v := .int cells[at_ % cells.length]) (cellsL rfl (e4.trans e5)) (EvP.val (ev_modN (ev_val (i := 3) rfl) (ev_lenQ (cellsQ rfl (e4.trans e5))) ?_) (congrArg V.int ?_)) (atI_nat ?_)).imp fun _ v _ hv => ⟨_, hv⟩
        · rw [List.length_map]
          omega
        · rw [List.length_map, Int.fmod_eq_emod_of_nonneg _ (by omega)]
          omega
        · rw [List.getElem?_map, List.getElem?_eq_getElem lt]
          rfl
      · show tSeq _ _ _ [some (.ref d), some (.int (m : Int)), none, some (.int (at_ : Int)), some (.int c), none] H5
        have e45 := e4.trans e5
        have atV : ∀ {σ : L2.St} {G' : Hp}, σ[3]? = some (some (.int (at_ : Int))) → EvP no (tVar 3) σ G' (IsV (.int (at_ : Int))) := fun h => ev_val h
        have absV : ∀ {G' : Hp}, EvP no (tOp (rI0 fun i j => .int (i - j)) (tCB (fun xs H Q => ∃ i, xs = [.int i] ∧ Q (.int (if i < 0 then -i else i)) H) (tCons (tVar 4) tNil)) (tOp (rI CPow fun i j => .int (i ^ j.toNat)) (tC (.int 10)) (tC (.int 18)))) [some (.ref d), some (.int (m : Int)), none, some (.int (at_ : Int)), some (.int c), none] G' (IsV (.int ((if c < 0 then -c else c) - 10 ^ 18))) :=
          ev_sub (ev_abs (ev_val rfl)) (ev_pow ev_c ev_c ⟨by decide, by decide, by decide⟩)
        refine q_if (p := no) (b := decide ((at_ : Int) < ((cells.map V.int).length : Int)) && decide ((10 : Int) ^ 18 ≤ (if c < 0 then -c else c))) (eb_and (eb_test (ev_lt (ev_val (i := 3) rfl) (ev_lenQ (cellsQ rfl e45)))) fun _ => eb_test (ev_ge (ev_abs (ev_val (i := 4) rfl)) (ev_pow ev_c ev_c ⟨by decide, by decide, by decide⟩))) (fun hb H6 e6 => ?_) (fun hb H6 e6 => ?_)
        · have big := of_decide_eq_true (Bool.and_eq_true_iff.mp hb).2
          have hp6 := (e45.trans e6).at pG
          refine q_dputK (p := no) (a := d) (k := Sum.inr "left") (kvs := penK la (at_ + 1) left) (ev_fdN absV (ev_val (i := 1) rfl) ⟨by omega, by omega⟩) (penV rfl) ev_c (fun H7 e7 => e7.at hp6) (by show 3 < 100000; decide) fun H7 e7 => ?_
          rw [pen_putLeft]
          have hp7 := e7.at hp6
          obtain ⟨r, hr1, er⟩ := below_mod (x := (if c < 0 then -c else c) - 10 ^ 18) hm1
          refine s_retV (p := no) (x := .int (r : Int)) (EvP.val (ev_modN absV (ev_val (i := 1) rfl) (by omega)) er) fun H8 e8 => q _ H8 (((kG.trans ((e45.trans e6).trans e7).any).trans (Kp.pen hp7)).trans e8.any) ?_ ⟨r, hr1, rfl⟩
          have l7 := ((e45.trans e6).trans e7).at cG
          refine PenAt.up ⟨at_ + 1, _, upd_same, ?_, by omega, ?_⟩ e8
          · rw [upd_ne fun z : la = d => by rw [z, hp7] at l7; cases l7]
            exact l7
          · rw [Int.fdiv_eq_ediv_of_nonneg _ (by omega)]
            exact Int.ediv_nonneg (by omega) (by omega)
        · obtain ⟨b1, b2⟩ := fmod_bd (c.fmod 4294967291 * 69069 + 15731 * (at_ : Int) * (at_ : Int) + 789221 * (at_ : Int) + 13) 4294967279 (by decide)
          refine q_setV (p := no) (i := 5) (x := .int ((c.fmod 4294967291 * 69069 + 15731 * (at_ : Int) * (at_ : Int) + 789221 * (at_ : Int) + 13).fmod ((4294967279 : Nat) : Int))) (ev_modN (ev_add (ev_add (ev_add (ev_mul (ev_modN (ev_val (i := 4) rfl) ev_c (by decide)) ev_c (.inr (by decide))) (ev_mul (ev_mul ev_c (ev_val (i := 3) rfl) (.inl (by decide))) (ev_val (i := 3) rfl) (.inr ⟨by omega, by omega⟩))) (ev_mul ev_c (ev_val (i := 3) rfl) (.inl (by decide)))) ev_c) ev_c (by decide)) fun H7 e7 => ?_
          generalize (c.fmod 4294967291 * 69069 + 15731 * (at_ : Int) * (at_ : Int) + 789221 * (at_ : Int) + 13).fmod ((4294967279 : Nat) : Int) = x1 at b1 b2 ⊢
          show tSeq _ _ _ [some (.ref d), some (.int (m : Int)), none, some (.int (at_ : Int)), some (.int c), some (.int x1)] H7
          obtain ⟨b3, b4⟩ := fmod_bd (x1 * x1 + 22695477 * x1 + 3 * (at_ : Int) + 1) 4294967231 (by decide)
          refine q_setV (p := no) (i := 5) (x := .int ((x1 * x1 + 22695477 * x1 + 3 * (at_ : Int) + 1).fmod ((4294967231 : Nat) : Int))) (ev_modN (ev_add (ev_add (ev_add (ev_mul (ev_val (i := 5) rfl) (ev_val (i := 5) rfl) (.inr ⟨by omega, by omega⟩)) (ev_mul ev_c (ev_val (i := 5) rfl) (.inl (by decide)))) (ev_mul ev_c (ev_val (i := 3) rfl) (.inl (by decide)))) ev_c) ev_c (by decide)) fun H8 e8 => ?_
          generalize (x1 * x1 + 22695477 * x1 + 3 * (at_ : Int) + 1).fmod ((4294967231 : Nat) : Int) = x2 at b3 b4 ⊢
          show tRet _ _ [some (.ref d), some (.int (m : Int)), none, some (.int (at_ : Int)), some (.int c), some (.int x2)] H8
          obtain ⟨r, hr1, er⟩ := below_mod (x := ((x2 * (x2 + 57885161)).fmod 4294967197).fdiv 64) hm1
          refine s_retV (p := no) (x := .int (r : Int)) (EvP.val (ev_modN (ev_fdN (ev_modN (ev_mul (ev_val (i := 5) rfl) (ev_add (ev_val (i := 5) rfl) ev_c) (.inl ⟨by omega, by omega⟩)) ev_c (by decide)) ev_c ⟨by decide, by decide⟩) (ev_val (i := 1) rfl) (by omega)) er) fun H9 e9 => q _ H9 (kG.trans ((((e45.trans e6).trans e7).trans e8).trans e9).any) ⟨at_ + 1, left, ((((e45.trans e6).trans e7).trans e8).trans e9).at pG, ((((e45.trans e6).trans e7).trans e8).trans e9).at cG, by omega, hleft⟩ ⟨r, hr1, rfl⟩
end
end Tau
set_option maxHeartbeats 4000000
namespace Tau
open PySem PySem.Spec PyProof.Rows L2
/-! readings that draw; pick, shuffled, handed, either, drawn_pairs -/
def EvD (d : Pen) (n m : Nat) (te : TE) (σ : L2.St) (H : Hp) (P : Hp → V → Prop) : Prop := ∀ H1, Kp (only d.d) H H1 → PenAt d n H1 → ∀ Q : VK, (∀ v H2, Kp (only d.d) H1 H2 → PenAt d m H2 → P H2 v → Q v H2) → te σ H1 Q
section
variable {d : Pen} {n m k : Nat} {K : PySem.W.Frag} {σ : L2.St} {H : Hp} {te ta tb tp tm : TE} {tz : TS} {D : Ends} {P R S : Hp → V → Prop}
theorem ed_pure (h : ∀ H1, Kp (only d.d) H H1 → EvP no te σ H1 P) : EvD d n n te σ H P := fun H1 e pn Q q => h H1 e H1 (Kp.refl _ _) Q fun v H2 e2 hv => q v H2 e2.any (pn.up e2) hv
theorem EvD.imp (h : EvD d n m te σ H P) (f : ∀ H' v, Kp (only d.d) H H' → P H' v → R H' v) : EvD d n m te σ H R := fun H1 e pn Q q => h H1 e pn Q fun v H2 e2 p2 hv => q v H2 e2 p2 (f H2 v (e.trans e2) hv)
theorem EvD.up {H' : Hp} (h : EvD d n m te σ H P) (e : Kp (only d.d) H H') : EvD d n m te σ H' P := fun H1 a => h H1 (e.trans a)
theorem ed_draw {x : Nat} {E : XK} (hp : ∀ H1, Kp (only d.d) H H1 → EvP no tp σ H1 (IsV (.ref d.d))) (hm : ∀ H1, Kp (only d.d) H H1 → EvP no tm σ H1 (IsV (.int (x : Int)))) (h1 : 1 ≤ x) (h2 : x ≤ 1000000) (hn : n ≤ 1000000) :
    EvD d n (n + 1) (tCall spDraw [] E (tCons tp (tCons tm tNil))) σ H (BelowP x) := fun H1 e pn Q q =>
  (ea_cons (hp H1 e) (ea_cons (hm H1 e) ea_nil)) H1 (Kp.refl _ _) _ fun vs H2 e2 hv => by
    obtain ⟨u, v, rfl, hu, hw⟩ := args2 hv
    obtain rfl : u = .ref d.d := hu
    obtain rfl : v = .int (x : Int) := hw
    exact ⟨d, n, x, rfl, pn.up e2, hn, h1, h2, fun v H3 e3 p3 h => q v H3 (e2.any.trans e3) p3 h⟩
theorem ed_op [Stay (only d.d) P] {r : R2} (ha : EvD d n m ta σ H P) (hb : EvD d m k tb σ H R) (hr : ∀ H1 x y, Kp (only d.d) H H1 → P H1 x → R H1 y → ∀ Q : VK, (∀ v H2, Kp no H1 H2 → S H2 v → Q v H2) → r x y H1 Q) : EvD d n k (tOp r ta tb) σ H S := fun H1 e pn Q q =>
  ha H1 e pn _ fun x H2 e2 p2 hx => hb H2 (e.trans e2) p2 _ fun y H3 e3 p3 hy => hr H3 x y ((e.trans e2).trans e3) (Stay.stay e3 hx) hy Q fun v H4 e4 hv => q v H4 ((e2.trans e3).trans e4.any) (p3.up e4) hv
/-- [a, b][a draw of two] -/
theorem ed_one2 [∀ p, Stay p P] [∀ p, Stay p R] (ha : ∀ H1, Kp (only d.d) H H1 → EvP no ta σ H1 P) (hb : ∀ H1, Kp (only d.d) H H1 → EvP no tb σ H1 R) (hd : EvD d n m tm σ H (BelowP 2)) : EvD d n m (tOp (rIxL K) (tLst (tCons ta (tCons tb tNil))) tm) σ H (fun H v => P H v ∨ R H v) := fun H1 e pn Q q =>
  ha H1 e H1 (Kp.refl _ _) _ fun x H2 e2 hx => hb H2 (e.trans e2.any) H2 (Kp.refl _ _) _ fun y H3 e3 hy => ⟨by show 2 ≤ sizeLine; decide, fun z hz => by
    have e4 : Kp (only d.d) H1 (upd H3 z (.lst [x, y])) := (e2.any.trans e3.any).trans (Kp.new hz)
    refine hd _ (e.trans e4) (((pn.up e2).up e3).up (Kp.new hz)) _ fun v H5 e5 p5 ⟨r, hr, ev⟩ => ?_
    subst ev
    have hx5 : P H5 x := Stay.stay (p := only d.d) (((e3.any : Kp (only d.d) H2 H3).trans (Kp.new hz)).trans e5) hx
    have hy5 : R H5 y := Stay.stay (p := only d.d) ((Kp.new (p := only d.d) hz).trans e5) hy
    have hl := e5.lst (upd_same (H := H3) (a := z) (o := .lst [x, y]))
    match r, hr with
    | 0, _ => exact ⟨z, [x, y], 0, x, rfl, rfl, .inl (.inl hl), atI_nat (j := 0) rfl, q x H5 (e4.trans e5) p5 (.inl hx5)⟩
    | 1, _ => exact ⟨z, [x, y], 1, y, rfl, rfl, .inl (.inl hl), atI_nat (j := 1) rfl, q y H5 (e4.trans e5) p5 (.inr hy5)⟩⟩
theorem sd_set {i : Nat} (h : EvD d n m te σ H P) (pn : PenAt d n H) (k : ∀ v H1, Kp (only d.d) H H1 → PenAt d m H1 → P H1 v → D.nx (σ.set i (some v)) H1) : tAsg te (gName i) D σ H := h H (Kp.refl _ _) pn _ k
theorem qd_set {i : Nat} (h : EvD d n m te σ H P) (pn : PenAt d n H) (k : ∀ v H1, Kp (only d.d) H H1 → PenAt d m H1 → P H1 v → tz D (σ.set i (some v)) H1) : tSeq (tAsg te (gName i)) tz D σ H := h H (Kp.refl _ _) pn _ k
theorem sd_ret (h : EvD d n m te σ H P) (pn : PenAt d n H) (k : ∀ v H1, Kp (only d.d) H H1 → PenAt d m H1 → P H1 v → D.rt v H1) : tRet te D σ H := h H (Kp.refl _ _) pn _ k
end
theorem erase_perm {α : Type} : ∀ {xs : List α} {i : Nat} (h : i < xs.length), (xs[i] :: xs.eraseIdx i).Perm xs
  | x :: xs, 0, _ => .refl _
  | x :: xs, i + 1, h => by
    have := erase_perm (xs := xs) (i := i) (by simpa using h)
    exact (List.Perm.swap x _ _).trans (this.cons x)
theorem perm_lift {α β : Type} {f : α → β} {ys : List β} {xs : List β} (h : ys.Perm xs) : ∀ {as : List α}, as.map f = xs → ∃ bs : List α, bs.Perm as ∧ bs.map f = ys := by
  induction h with
  | nil => exact fun {as} e => ⟨as, .refl _, e⟩
  | cons x _ ih =>
    intro as e
    match as, e with
    | a :: as, e =>
      obtain ⟨e1, e2⟩ := List.cons.inj e
      obtain ⟨bs, pm, eb⟩ := ih e2
      exact ⟨a :: bs, pm.cons a, by rw [List.map_cons, eb, e1]⟩
  | swap x y l =>
    intro as e
    match as, e with
    | a :: b :: as, e =>
      obtain ⟨e1, e2⟩ := List.cons.inj e
      obtain ⟨e3, e4⟩ := List.cons.inj e2
      exact ⟨b :: a :: as, .swap _ _ _, by rw [List.map_cons, List.map_cons, e1, e3, e4]⟩
  | trans _ _ ih1 ih2 =>
    intro as e
    obtain ⟨bs, pm, eb⟩ := ih2 e
    obtain ⟨cs, pm2, ec⟩ := ih1 eb
    exact ⟨cs, pm2.trans pm, ec⟩
/-- a text, or a tuple of texts -/
def TxtP (K : PySem.W.Frag) (H : Hp) (x : V) : Prop := (∃ s, x = .str s) ∨ ∃ (a : Addr) (xs : List Str), x = .ref a ∧ SqT K H a (xs.map V.str)
theorem TxtP.up {K : PySem.W.Frag} {p : Addr → Prop} {H H' : Hp} {x : V} (h : TxtP K H x) (e : Kp p H H') : TxtP K H' x := h.imp id fun ⟨a, xs, ex, hs⟩ => ⟨a, xs, ex, e.st hs⟩
theorem txt_data {K : PySem.W.Frag} {H : Hp} : ∀ {xs : List V}, (∀ x ∈ xs, TxtP K H x) → ∃ ds, DpAll K H xs ds ∧ PyData.plainAll ds = true ∧ PyData.depthAll ds ≤ 8 ∧ ds.length = xs.length
  | [], _ => ⟨[], .nil, rfl, Nat.zero_le _, rfl⟩
  | x :: xs, h => by
    obtain ⟨ds, h1, h2, h3, h4⟩ := txt_data (xs := xs) fun y m => h y (List.mem_cons_of_mem _ m)
    rcases h x (List.mem_cons_self ..) with ⟨s, rfl⟩ | ⟨a, ys, rfl, hs⟩
    · refine ⟨.str s :: ds, .cons (.str s) h1, ?_, ?_, by rw [List.length_cons, List.length_cons, h4]⟩
      · rw [PyData.plainAll, h2]
        rfl
      · rw [PyData.depthAll, PyData.depth]
        omega
    · refine ⟨.tuple (ys.map PyData.str) :: ds, .cons (.tup hs (dp_words K H ys)) h1, ?_, ?_, by rw [List.length_cons, List.length_cons, h4]⟩
      · rw [PyData.plainAll, h2, PyData.plain, words_plain]
        rfl
      · rw [PyData.depthAll]
        have := tuple_depth ys
        omega
theorem ev_neL0T {K : PySem.W.Frag} {σ : L2.St} {H : Hp} {ta tb : TE} {xs : List V} {la : Addr} (ha : EvP no ta σ H (IsV (.ref la))) (h : H la = some (.lst xs)) (ht : ∀ x ∈ xs, TxtP K H x) (hb : EvP no tb σ H (NewL [])) : EvP no (tOp (rNeL K) ta tb) σ H (IsV (.bl (!xs.isEmpty))) :=
  ev_op ha hb fun H1 x y e1 hx ⟨b, ey, hy⟩ Q q => by
    have ex : x = .ref la := hx
    subst ex ey
    obtain ⟨ds, h1, h2, h3, h4⟩ := txt_data (K := K) (H := H1) fun x m => (ht x m).up e1
    refine ⟨ds, [], .lst (.inl (.inl (e1.at h))) h1, .lst (.inl (.inl hy)) .nil, h2, rfl, ?_, q _ H1 (Kp.refl no H1) ?_⟩
    · rw [PyData.depth]
      omega
    · cases ds with
      | nil =>
        have : xs = [] := List.eq_nil_of_length_eq_zero h4.symm
        subst this
        rfl
      | cons e es =>
        cases xs with
        | nil => cases h4
        | cons _ _ => rfl
theorem ev_lenL0 {p : Addr → Prop} {K : PySem.W.Frag} {σ : L2.St} {H : Hp} {xs : List V} {a : Addr} {i : Nat} (h0 : σ[i]? = some (some (.ref a))) (h : H a = some (.lst xs)) : EvP p (tCB (lenR K) (tCons (tVar i) tNil)) σ H (IsV (.int (xs.length : Int))) :=
  ev_lenQ (ev_var (P := VQ K xs) h0 ⟨a, rfl, .inl (.inl (.inl h))⟩)
section
variable {P : Program} {w : World} {K : PySem.W.Frag} {mg : Str → Option Value} {base : Heap} {C : Addr}
def spPick (K : PySem.W.Frag) : Sp := fun vs H Q _ => ∃ (d : Pen) (n : Nat) (u : V), vs = [.ref d.d, u] ∧ PenAt d n H ∧ n ≤ 1000000 ∧
  ((∃ z : Str, u = .str z ∧ 1 ≤ z.length ∧ z.length ≤ 1000 ∧ Drawn d (n + 1) (fun _ v => ∃ c ∈ z.cps.toList, v = .str ⟨#[c]⟩) H Q) ∨ ∃ xs, VQ K xs H u ∧ 1 ≤ xs.length ∧ xs.length ≤ 1000 ∧ Drawn d (n + 1) (fun _ v => v ∈ xs) H Q)
theorem scLawPick : FnScope ["_law_pen_here", "_law_some"] ["_law_pen_here", "_law_some"] (defScope sLawPick) := ⟨rfl, rfl, rfl, by decide +kernel, rfl, by decide +kernel, by decide +kernel⟩
theorem ok_law_pick {f : Addr} {fd : FuncData} (F : DefIs K "_law_pick" "_law_pick" sLawPick f fd) (T : TopF K mg C) (C_LawDraw : Can P w K mg base "_law_draw" 1 ["_law_pen_here", "_law_many"] spDraw) : FnOk P w K mg base CX0 2 f fd ["_law_pen_here", "_law_some"] (spPick K) := by
  refine def_ok F scLawPick (fun vs H Q E h => ?_) (fun cdv A outer s H vs Q E hr h => ?_)
  · obtain ⟨_, _, _, rfl, _⟩ := h
    rfl
  · obtain ⟨d, n, u, rfl, pn, hn, hw⟩ := h
    refine ⟨_, (pss_one (ps_ret (pe_ix (ixK (r := rIx) (K := K) ix_seq rfl) (pv 1) (pe_fn C_LawDraw hr rfl (pa_cons (pv 0) (pa_cons (pe_callB (id := "len") call_len (by rfl) T.z_len (by decide +kernel) (pa_cons (pv 1) pa_nil)) pa_nil))) (fun _ _ => rfl)))), ?_⟩
    rcases hw with ⟨z, rfl, z1, z2, q⟩ | ⟨xs, hx, x1, x2, q⟩
    · refine sd_ret (d := d) (P := fun _ v => ∃ c ∈ z.cps.toList, v = .str ⟨#[c]⟩) (ed_op (P := IsV (.str z)) (R := BelowP z.length) (ed_pure (n := n) fun H1 e1 => ev_val rfl) (ed_draw (fun H1 e1 => ev_val rfl) (fun H1 e1 H2 e2 Q q => ?_) z1 (by omega) hn) fun H1 x y e1 hx ⟨r, hr, ey⟩ Q q => ?_) pn fun v H1 e1 p1 hv => q v H1 e1 p1 hv
      · exact ⟨.str z, rfl, .str z, z.length, rfl, ⟨Nat.le_trans z2 (by decide), rfl⟩, q _ H2 (Kp.refl _ _) rfl⟩
      · have ex : x = .str z := hx
        subst ex ey
        have hl : r < z.cps.toList.length := by
          rw [Array.length_toList]
          exact hr
        exact .inr (.inr ⟨z, (r : Int), z.cps.toList[r], rfl, rfl, Nat.le_trans z2 (by decide), atI_nat (List.getElem?_eq_getElem hl), q _ H1 (Kp.refl _ _) ⟨_, List.getElem_mem hl, rfl⟩⟩)
    · refine sd_ret (d := d) (P := fun _ v => v ∈ xs) (ed_op (P := VQ K xs) (R := BelowP xs.length) (ed_pure (n := n) fun H1 e1 => ev_var rfl (Stay.stay e1 hx)) (ed_draw (fun H1 e1 => ev_val rfl) (fun H1 e1 H2 e2 Q q => ?_) x1 (by omega) hn) fun H1 x y e1 hx ⟨r, hr, ey⟩ Q q => ?_) pn fun v H1 e1 p1 hv => q v H1 e1 p1 hv
      · obtain ⟨a, eu, hs⟩ := (Stay.stay (e1.trans e2.any) hx : VQ K xs H2 u)
        subst eu
        exact ⟨.ref a, rfl, .ref a, xs.length, rfl, hs.imp (fun h => ⟨xs, h, rfl⟩) (fun h => ⟨xs, h, rfl⟩), q _ H2 (Kp.refl _ _) rfl⟩
      · obtain ⟨a, ex, hs⟩ := hx
        subst ex ey
        have hg : atI xs (r : Int) = some xs[r] := atI_nat (List.getElem?_eq_getElem hr)
        rcases hs with hs | hs
        · exact .inl ⟨a, xs, (r : Int), xs[r], rfl, rfl, hs, hg, q _ H1 (Kp.refl _ _) (List.getElem_mem hr)⟩
        · exact .inr (.inl ⟨a, xs, (r : Int), xs[r], rfl, rfl, hs, hg, q _ H1 (Kp.refl _ _) (List.getElem_mem hr)⟩)
def PermL (xs : List V) : Hp → V → Prop := fun H v => ∃ ys : List V, ys.Perm xs ∧ NewL ys H v
instance {p : Addr → Prop} {xs : List V} : Stay p (PermL xs) := ⟨fun e ⟨ys, h1, h2⟩ => ⟨ys, h1, Stay.stay e h2⟩⟩
def spShuffled (K : PySem.W.Frag) : Sp := fun vs H Q _ => ∃ (d : Pen) (n : Nat) (u : V) (xs : List V), vs = [.ref d.d, u] ∧ PenAt d n H ∧ n + xs.length ≤ 1000000 ∧ VQ K xs H u ∧ xs.length ≤ 1000 ∧ (∀ x ∈ xs, TxtP K H x) ∧ Drawn d (n + xs.length) (PermL xs) H Q
theorem scLawShuffled : FnScope ["_law_pen_here", "_law_some", "_law_left", "_law_found"] ["_law_pen_here", "_law_some"] (defScope sLawShuffled) := ⟨rfl, rfl, rfl, by decide +kernel, rfl, by decide +kernel, by decide +kernel⟩
theorem ok_law_shuffled {f : Addr} {fd : FuncData} (F : DefIs K "_law_shuffled" "_law_shuffled" sLawShuffled f fd) (T : TopF K mg C) (C_LawDraw : Can P w K mg base "_law_draw" 1 ["_law_pen_here", "_law_many"] spDraw) : FnOk P w K mg base CX0 2 f fd ["_law_pen_here", "_law_some"] (spShuffled K) := by
  refine def_ok F scLawShuffled (fun vs H Q E h => ?_) (fun cdv A outer s H vs Q E hr h => ?_)
  · obtain ⟨_, _, _, _, rfl, _⟩ := h
    rfl
  · obtain ⟨d, n, u, xs, rfl, pn, hn, hx, hlen, ht, q⟩ := h
    refine ⟨_, (pss_cons (ps_par (i := 2) (j := 3)  (by rfl) scLawShuffled.nd rfl rfl (by decide) rfl rfl (pa_cons (pe_callTy (T := "list") (crK (r := lstR) (K := K) call_list_of rfl) (by rfl) T.z_list (by decide +kernel) (pa_cons (pv 1) pa_nil)) (pa_cons (pe_lst pa_nil) pa_nil)) (by rfl))
      (pss_cons (ps_while PassesOwn.never (pt_cmpR (opK (r := rNeL) (K := K) (op_neL (by exact hr.units)) rfl) (pv 2) (pe_lst pa_nil) (nomark _))
        (pss_one (ps_expr (pe_bm PySem.F.plainAttrs_list PySem.F.slot_list_append PySem.F.type_list_append mt_append (pv 3) (pa_cons (pe_bm PySem.F.plainAttrs_list PySem.F.slot_list_pop PySem.F.type_list_pop mt_popAt (pv 2) (pa_cons (pe_fn C_LawDraw hr rfl (pa_cons (pv 0) (pa_cons (pe_callB (id := "len") (crK (r := lenR) (K := K) call_len_seq rfl) (by rfl) T.z_len (by decide +kernel) (pa_cons (pv 2) pa_nil)) pa_nil))) pa_nil)) pa_nil)))))
      (pss_one (ps_ret (pv 3))))), ?_⟩
    obtain ⟨a, rfl, hs⟩ := hx
    refine ⟨.ref a, rfl, a, xs, rfl, hs, fun l hl => ⟨Nat.zero_le _, fun f hf => ⟨.ref l, .ref f, rfl, ?_⟩⟩⟩
    show tSeq _ _ _ [some (.ref d.d), some (.ref a), some (.ref l), some (.ref f)] _
    have lf : l ≠ f := fun e => by
      rw [← e, upd_same] at hf
      cases hf
    have hf0 : H f = none := by
      rw [upd_ne fun e => lf e.symm] at hf
      exact hf
    have k0 : Kp no H (upd (upd H l (.lst xs)) f (.lst [])) := (Kp.new hl).trans (Kp.new hf)
    refine ⟨fun m σ' H' => σ' = [some (.ref d.d), some (.ref a), some (.ref l), some (.ref f)] ∧ Kp (only d.d) H H' ∧ ∃ ls fs : List V, H' l = some (.lst ls) ∧ H' f = some (.lst fs) ∧ (fs ++ ls).Perm xs ∧ m = ls.length ∧ PenAt d (n + fs.length) H', ⟨xs.length, rfl, k0.any, xs, [], by rw [upd_ne lf, upd_same], upd_same, .refl _, rfl, pn.up k0⟩, fun m σ' H1 h => ?_⟩
    obtain ⟨rfl, e1, ls, fs, hL, hF, pm, rfl, p1⟩ := h
    have lens := pm.length_eq
    rw [List.length_append] at lens
    have ht1 : ∀ x ∈ ls, TxtP K H1 x := fun x m => (ht x (pm.mem_iff.mp (List.mem_append.mpr (.inr m)))).up e1
    refine (eb_test (p := no) (ev_neL0T (K := K) (xs := ls) (la := l) (ev_val rfl) hL ht1 ev_lst0)) H1 (Kp.refl _ _) _ fun H2 e2 => ?_
    have hL2 := e2.at hL
    have hF2 := e2.at hF
    have p2 := p1.up e2
    cases hb : !ls.isEmpty with
    | true =>
      have lp : 0 < ls.length := by
        cases ls with
        | nil => cases hb
        | cons _ _ => exact Nat.succ_pos _
      rw [if_pos rfl]
      refine ⟨fun σ' H' => σ' = [some (.ref d.d), some (.ref a), some (.ref l), some (.ref f)] ∧ Kp (only d.d) H H' ∧ ∃ ls' fs : List V, H' l = some (.lst ls') ∧ H' f = some (.lst fs) ∧ (fs ++ ls').Perm xs ∧ ls'.length < ls.length ∧ PenAt d (n + fs.length) H', fun σ' H' ⟨e, k, ls', fs, h1, h2, h3, h4, h5⟩ => ⟨ls'.length, h4, e, k, ls', fs, h1, h2, h3, rfl, h5⟩, ?_⟩
      refine ⟨.ref f, rfl, .inl ⟨rfl, fs, .inl (.inl hF2)⟩, .ref l, rfl, .inl ⟨rfl, ls, .inl (.inl hL2)⟩, ?_⟩
      refine (ed_draw (d := d) (n := n + fs.length) (x := ls.length) (σ := [some (.ref d.d), some (.ref a), some (.ref l), some (.ref f)]) (H := H2) (E := E0) (fun H3 e3 => ev_val (i := 0) rfl) (fun H3 e3 => (ev_lenL0 (a := l) (K := K) (i := 2) rfl (e3.lst hL2))) lp (by omega) (by omega)) H2 (Kp.refl _ _) p2 _ fun v H3 e3 p3 ⟨r, hr, ev⟩ => ?_
      subst ev
      have hL3 := e3.lst hL2
      have hF3 := e3.lst hF2
      refine ⟨l, ls, (r : Int), r, ls[r], rfl, rfl, hL3, by have : (2 : Int) ^ 63 = 9223372036854775808 := by decide
                                                            omega, by have : (2 : Int) ^ 63 = 9223372036854775808 := by decide
                                                                      omega, ?_, List.getElem?_eq_getElem hr, f, fs, ls[r], rfl, rfl, ?_, ?_, ?_⟩
      · refine (ixN_seq (?_ : ixN ls.length (r : Int) = some r)).1
        unfold ixN
        rw [if_pos (by omega), if_pos (by omega)]
        simp
      · rw [upd_ne fun e => lf e.symm]
        exact hF3
      · have : 100000 < sizeLine := by decide
        omega
      · have k3 : Kp (only d.d) H (upd (upd H3 l (.lst (ls.eraseIdx r))) f (.lst (fs ++ [ls[r]]))) := ((((e1.trans e2.any).trans e3).mut hl).mut hf0)
        refine ⟨rfl, k3, ls.eraseIdx r, fs ++ [ls[r]], by rw [upd_ne lf, upd_same], upd_same, ?_, ?_, ?_⟩
        · rw [List.append_assoc]
          exact (List.Perm.append_left fs (erase_perm hr)).trans pm
        · rw [List.length_eraseIdx_of_lt hr]
          omega
        · rw [List.length_append, List.length_singleton, ← Nat.add_assoc]
          exact PenAt.mut pn hf0 (PenAt.mut pn hl p3)
    | false =>
      have l0 : ls = [] := by
        cases ls with
        | nil => rfl
        | cons _ _ => cases hb
      subst l0
      rw [if_neg (by decide)]
      dsimp only
      rw [List.append_nil] at pm
      refine s_ret (p := no) (P := PermL xs) (ev_var rfl ⟨fs, pm, f, rfl, hF2⟩) fun v H3 e3 hv => q v H3 ((e1.trans e2.any).trans e3.any) ((p2.up e3).more (by simp at lens; omega)) hv
end
end Tau
set_option maxHeartbeats 4000000
namespace Tau
open PySem PySem.Spec PyProof.Rows L2
/-! handed, either, drawn_pairs -/
section
variable {d : Pen} {n m k : Nat} {K : PySem.W.Frag} {σ : L2.St} {H : Hp} {te ta tb tp tm : TE} {tz : TS} {D : Ends} {P R S : Hp → V → Prop}
theorem ed_call {sp : Sp} {E : XK} {tr : TA} {Ps : List (Hp → V → Prop)} (ha : ∀ H1, Kp (only d.d) H H1 → EvA no tr σ H1 Ps) (hs : ∀ H1 vs, Kp (only d.d) H H1 → PenAt d n H1 → ArgsP Ps H1 vs → ∀ Q : VK, Drawn d m P H1 Q → sp vs H1 Q E) : EvD d n m (tCall sp [] E tr) σ H P := fun H1 e pn Q q =>
  ha H1 e H1 (Kp.refl _ _) _ fun vs H2 e2 hv => by
    show sp (vs ++ []) H2 Q E
    rw [List.append_nil]
    exact hs H2 vs (e.trans e2.any) (pn.up e2) hv Q fun v H3 e3 p3 h => q v H3 (e2.any.trans e3) p3 h
theorem ed_tup2 [∀ p, Stay p P] [∀ p, Stay p R] (ha : EvD d n m ta σ H P) (hb : EvD d m k tb σ H R) : EvD d n k (tTup (tCons ta (tCons tb tNil))) σ H (Pair2 P R) := fun H1 e pn Q q =>
  ha H1 e pn _ fun x H2 e2 p2 hx => hb H2 (e.trans e2) p2 _ fun y H3 e3 p3 hy => ⟨by show 2 ≤ sizeLine; decide, fun z hz => q _ _ ((e2.trans e3).trans (Kp.new hz)) (p3.up (Kp.new hz)) ⟨z, x, y, rfl, upd_same, Stay.stay (p := only d.d) (e3.trans (Kp.new hz)) hx, Stay.stay (p := no) (Kp.new hz) hy⟩⟩
end
theorem ArgsP.zip {α : Type} {R : α → Hp → V → Prop} {H : Hp} : ∀ {l : List α} {vs : List V}, ArgsP (l.map R) H vs → ∃ bs : List (V × α), vs = bs.map (·.1) ∧ (∀ b ∈ bs, R b.2 H b.1) ∧ bs.map (·.2) = l
  | [], vs, h => by
    cases h
    exact ⟨[], rfl, fun _ m => absurd m List.not_mem_nil, rfl⟩
  | a :: l, vs, h => by
    rw [List.map_cons] at h
    cases h with
    | cons h1 h2 =>
      obtain ⟨bs, e1, e2, e3⟩ := h2.zip
      refine ⟨(_, a) :: bs, by rw [List.map_cons, ← e1], fun b m => ?_, by rw [List.map_cons, e3]⟩
      rcases List.mem_cons.mp m with rfl | m
      · exact h1
      · exact e2 b m
theorem ArgsP.mono {Ps : List (Hp → V → Prop)} {H H' : Hp} {vs : List V} (h : ArgsP Ps H vs) (f : ∀ P ∈ Ps, ∀ v, P H v → P H' v) : ArgsP Ps H' vs := by
  induction h with
  | nil => exact .nil
  | cons a b ih => exact .cons (f _ (List.mem_cons_self ..) _ a) (ih fun P m => f P (List.mem_cons_of_mem _ m))
/-- a tuple of these two texts -/
def T2 (x : Str × Str) : Hp → V → Prop := fun H v => ∃ a, v = .ref a ∧ (H a = some (.tup [.str x.1, .str x.2]) ∨ ∃ o, H a = some (.frz o (.tup [.str x.1, .str x.2])))
instance {p : Addr → Prop} {x : Str × Str} : Stay p (T2 x) := ⟨fun e ⟨a, e1, h⟩ => ⟨a, e1, h.imp e.tup fun ⟨o, h⟩ => ⟨o, e.frz h⟩⟩⟩
theorem T2.sqT {K : PySem.W.Frag} {x : Str × Str} {H : Hp} {v : V} (h : T2 x H v) : ∃ a, v = .ref a ∧ SqT K H a [.str x.1, .str x.2] := by
  obtain ⟨a, e, h⟩ := h
  exact ⟨a, e, .inl h⟩
theorem T2.txt {K : PySem.W.Frag} {x : Str × Str} {H : Hp} {v : V} (h : T2 x H v) : TxtP K H v := by
  obtain ⟨a, e, h⟩ := h.sqT (K := K)
  exact .inr ⟨a, [x.1, x.2], e, h⟩
theorem T2.sqP {x : Str × Str} {H : Hp} {v : V} (h : T2 x H v) : SqP ((pw x).map V.str) H v := by
  obtain ⟨a, e, h⟩ := h
  exact ⟨a, e, .inr h⟩
/-- the list at f: these pairs, each a list or a tuple -/
def AccAt (f : Addr) (ps : List (Str × Str)) (H : Hp) : Prop := ∃ acc, H f = some (.lst acc) ∧ ArgsP (ps.map fun x => SqP ((pw x).map V.str)) H acc
theorem AccAt.up {f : Addr} {ps : List (Str × Str)} {p : Addr → Prop} {H H' : Hp} (h : AccAt f ps H) (e : Kp p H H') : AccAt f ps H' := by
  obtain ⟨acc, h1, h2⟩ := h
  refine ⟨acc, e.lst h1, h2.mono fun P m v hv => ?_⟩
  obtain ⟨x, _, rfl⟩ := List.mem_map.mp m
  exact Stay.stay e hv
theorem AccAt.snoc {f : Addr} {ps : List (Str × Str)} {H : Hp} {x : Str × Str} {v : V} (h : AccAt f ps H) (hv : SqP ((pw x).map V.str) H v) : ∃ acc, H f = some (.lst acc) ∧ acc.length = ps.length ∧ AccAt f (ps ++ [x]) (upd H f (.lst (acc ++ [v]))) := by
  obtain ⟨acc, h1, h2⟩ := h
  have refs : ∀ s t : Str, acc ≠ [.str s, .str t] := fun s t e => by
    subst e
    match ps, h2 with
    | y :: ps, h2 =>
      rw [List.map_cons] at h2
      cases h2 with
      | cons a b =>
        obtain ⟨_, e, _⟩ := a
        cases e
  have keep : ∀ {y : Str × Str} {u : V}, SqP ((pw y).map V.str) H u → SqP ((pw y).map V.str) (upd H f (.lst (acc ++ [v]))) u := fun {y u} ⟨a, e, hs⟩ => by
    have ne : a ≠ f := fun z => by
      rw [z] at hs
      rcases hs with hs | hs | ⟨o, hs⟩
      · rw [h1] at hs
        exact refs _ _ (HO.lst.inj (Option.some.inj hs))
      · rw [h1] at hs
        cases hs
      · rw [h1] at hs
        cases hs
    refine ⟨a, e, ?_⟩
    unfold SeqH
    rw [upd_ne ne]
    exact hs
  refine ⟨acc, h1, by rw [h2.len, List.length_map], acc ++ [v], upd_same, ?_⟩
  rw [List.map_append]
  refine (h2.mono fun P m u hu => ?_).snoc (keep hv)
  obtain ⟨y, _, rfl⟩ := List.mem_map.mp m
  exact keep hu
theorem Like.snoc {qs ps : List (Str × Str)} {x y : Str × Str} (h : Like qs ps) (e : y = x ∨ y = (x.2, x.1)) : Like (qs ++ [y]) (ps ++ [x]) := by
  induction h with
  | nil =>
    rcases e with rfl | rfl
    · exact .same .nil
    · exact .swap .nil
  | same _ ih => exact .same ih
  | swap _ ih => exact .swap ih
theorem like_perm {qs ps rs : List (Str × Str)} (h : Like qs ps) (pm : ps.Perm rs) : ∃ ss, qs.Perm ss ∧ Like ss rs := by
  induction pm generalizing qs with
  | nil => exact ⟨qs, .refl _, h⟩
  | cons x _ ih =>
    cases h with
    | same h =>
      obtain ⟨ss, p, l⟩ := ih h
      exact ⟨_, p.cons _, .same l⟩
    | swap h =>
      obtain ⟨ss, p, l⟩ := ih h
      exact ⟨_, p.cons _, .swap l⟩
  | swap x y l =>
    cases h with
    | same h =>
      cases h with
      | same h => exact ⟨_, .swap _ _ _, .same (.same h)⟩
      | swap h => exact ⟨_, .swap _ _ _, .swap (.same h)⟩
    | swap h =>
      cases h with
      | same h => exact ⟨_, .swap _ _ _, .same (.swap h)⟩
      | swap h => exact ⟨_, .swap _ _ _, .swap (.swap h)⟩
  | trans _ _ ih1 ih2 =>
    obtain ⟨ss, p, l⟩ := ih1 h
    obtain ⟨ts, p2, l2⟩ := ih2 l
    exact ⟨ts, p.trans p2, l2⟩
/-- a pair of two places below m -/
def IdxV (m : Nat) (H : Hp) (v : V) : Prop := ∃ (b : Addr) (i j : Nat), v = .ref b ∧ H b = some (.tup [.int (i : Int), .int (j : Int)]) ∧ i < m ∧ j < m
theorem IdxV.up {m : Nat} {p : Addr → Prop} {H H' : Hp} {v : V} (h : IdxV m H v) (e : Kp p H H') : IdxV m H' v := by
  obtain ⟨b, i, j, h1, h2, h3, h4⟩ := h
  exact ⟨b, i, j, h1, e.tup h2, h3, h4⟩
def IdxL (m l : Nat) : Hp → V → Prop := fun H v => ∃ (a : Addr) (vs : List V), v = .ref a ∧ H a = some (.lst vs) ∧ vs.length ≤ l ∧ ∀ u ∈ vs, IdxV m H u
instance {m l : Nat} {p : Addr → Prop} : Stay p (IdxL m l) := ⟨fun e ⟨a, vs, h1, h2, h3, h4⟩ => ⟨a, vs, h1, e.lst h2, h3, fun u mu => (h4 u mu).up e⟩⟩
section
variable {P : Program} {w : World} {K : PySem.W.Frag} {mg : Str → Option Value} {base : Heap} {C : Addr}
def PermS (xs : List Str) : Hp → V → Prop := fun H v => ∃ ys : List Str, ys.Perm xs ∧ SqP (ys.map V.str) H v
instance {p : Addr → Prop} {xs : List Str} : Stay p (PermS xs) := ⟨fun e ⟨ys, h1, h2⟩ => ⟨ys, h1, Stay.stay e h2⟩⟩
def spHanded (K : PySem.W.Frag) : Sp := fun vs H Q _ => ∃ (d : Pen) (n : Nat) (u : V) (xs : List Str), vs = [.ref d.d, u] ∧ PenAt d n H ∧ n + xs.length ≤ 1000000 ∧ VQ K (xs.map V.str) H u ∧ xs.length ≤ 1000 ∧ Drawn d (n + xs.length + 1) (PermS xs) H Q
theorem scLawHanded : FnScope ["_law_pen_here", "_law_some", "_law_found"] ["_law_pen_here", "_law_some"] (defScope sLawHanded) := ⟨rfl, rfl, rfl, by decide +kernel, rfl, by decide +kernel, by decide +kernel⟩
theorem ok_law_handed {f : Addr} {fd : FuncData} (F : DefIs K "_law_handed" "_law_handed" sLawHanded f fd) (T : TopF K mg C) (C_LawDraw : Can P w K mg base "_law_draw" 1 ["_law_pen_here", "_law_many"] spDraw) (C_LawShuffled : Can P w K mg base "_law_shuffled" 2 ["_law_pen_here", "_law_some"] (spShuffled K)) : FnOk P w K mg base CX0 3 f fd ["_law_pen_here", "_law_some"] (spHanded K) := by
  refine def_ok F scLawHanded (fun vs H Q E h => ?_) (fun cdv A outer s H vs Q E hr h => ?_)
  · obtain ⟨_, _, _, _, rfl, _⟩ := h
    rfl
  · obtain ⟨d, n, u, xs, rfl, pn, hn, hx, hlen, q⟩ := h
    refine ⟨_, (pss_cons (ps_set (i := 2) scLawHanded.nd rfl (.inl rfl) (pe_fn C_LawShuffled hr rfl (pa_cons (pv 0) (pa_cons (pv 1) pa_nil))))
      (pss_one (ps_ret (pe_ix (ixK (r := rIxL) (K := K) ix_list rfl) (pe_lst (pa_cons (pv 2) (pa_cons (pe_callTy (T := "tuple") (crK (r := tupR) (K := K) call_tuple_of rfl) (by rfl) T.z_tuple (by decide +kernel) (pa_cons (pv 2) pa_nil)) pa_nil))) (pe_fn C_LawDraw hr rfl (pa_cons (pv 0) (pa_cons pe_int pa_nil))) (fun _ _ => rfl))))), ?_⟩
    refine qd_set (d := d) (i := 2) (P := PermL (xs.map V.str)) (m := n + xs.length) (ed_call (Ps := [IsV (.ref d.d), VQ K (xs.map V.str)]) (fun H1 e1 => ea_cons (ev_val rfl) (ea_cons (ev_var rfl (Stay.stay e1 hx)) ea_nil)) fun H1 vs e1 p1 hv Q q => ?_) pn fun v H1 e1 p1 hv => ?_
    · obtain ⟨v1, v2, rfl, h1, h2⟩ := args2 hv
      obtain rfl : v1 = .ref d.d := h1
      refine ⟨d, n, v2, xs.map V.str, rfl, p1, by rw [List.length_map]; exact hn, h2, by rw [List.length_map]; exact hlen, fun x m => ?_, by rw [List.length_map]; exact q⟩
      obtain ⟨y, _, rfl⟩ := List.mem_map.mp m
      exact .inl ⟨y, rfl⟩
    · obtain ⟨ys, pm, hy⟩ := hv
      obtain ⟨zs, pz, rfl⟩ := perm_lift pm rfl
      show tRet _ _ [some (.ref d.d), some u, some v] H1
      have lv : ∀ {H2 : Hp}, Kp (only d.d) H1 H2 → NewL (zs.map V.str) H2 v := fun e => Stay.stay e hy
      refine sd_ret (d := d) (P := PermS xs) (m := n + xs.length + 1) (EvD.imp (ed_one2 (P := SqP (zs.map V.str)) (R := SqP (zs.map V.str)) (fun H2 e2 => ev_var rfl ?_) (fun H2 e2 => (ev_tupL (K := K) (xs := zs) (ev_var (P := LstP K zs) rfl ?_)).imp fun H3 v _ ⟨a, ea, ha⟩ => ⟨a, ea, .inr (.inl ha)⟩) (ed_draw (fun H2 e2 => ev_val rfl) (fun H2 e2 => ev_c) (by decide) (by decide) (by omega))) fun H2 v _ hv => ⟨zs, pz, hv.elim id id⟩) p1 fun v H2 e2 p2 hv => q v H2 (e1.trans e2) p2 hv
      · obtain ⟨a, ea, ha⟩ := lv e2
        exact ⟨a, ea, .inl ha⟩
      · obtain ⟨a, ea, ha⟩ := lv e2
        exact ⟨a, ea, .inl (.inl ha)⟩
def EitherP (ps : List (Str × Str)) : Hp → V → Prop := fun H v => ∃ qs, LikeP qs ps ∧ PairsP qs H v
instance {p : Addr → Prop} {ps : List (Str × Str)} : Stay p (EitherP ps) := ⟨fun e ⟨ys, h1, h2⟩ => ⟨ys, h1, Stay.stay e h2⟩⟩
def spEither (K : PySem.W.Frag) : Sp := fun vs H Q _ => ∃ (d : Pen) (n : Nat) (u : V) (ps : List (Str × Str)), vs = [.ref d.d, u] ∧ PenAt d n H ∧ n + 3 * ps.length ≤ 1000000 ∧ LstOf (ps.map T2) H u ∧ ps.length ≤ 1000 ∧ Drawn d (n + 3 * ps.length) (EitherP ps) H Q
theorem scLawEither : FnScope ["_law_pen_here", "_law_pairs", "_law_found", "_law_pair", "_law_turned_pair"] ["_law_pen_here", "_law_pairs"] (defScope sLawEither) := ⟨rfl, rfl, rfl, by decide +kernel, rfl, by decide +kernel, by decide +kernel⟩
theorem ok_law_either {f : Addr} {fd : FuncData} (F : DefIs K "_law_either" "_law_either" sLawEither f fd) (T : TopF K mg C) (C_LawDraw : Can P w K mg base "_law_draw" 1 ["_law_pen_here", "_law_many"] spDraw) (C_LawShuffled : Can P w K mg base "_law_shuffled" 2 ["_law_pen_here", "_law_some"] (spShuffled K)) : FnOk P w K mg base CX0 3 f fd ["_law_pen_here", "_law_pairs"] (spEither K) := by
  refine def_ok F scLawEither (fun vs H Q E h => ?_) (fun cdv A outer s H vs Q E hr h => ?_)
  · obtain ⟨_, _, _, _, rfl, _⟩ := h
    rfl
  · obtain ⟨d, n, u, ps, rfl, pn, hn, ⟨pa, vs, rfl, hpa, hvs⟩, hlen, q⟩ := h
    obtain ⟨bs, rfl, hbs, eb⟩ := hvs.zip
    have bl : bs.length = ps.length := by rw [← eb, List.length_map]
    refine ⟨_, (pss_cons (ps_set (i := 2) scLawEither.nd rfl (.inl rfl) (pe_lst pa_nil))
      (pss_cons (ps_for PassesOwn.never rfl (pi_listK (K := K) rfl (pe_fn C_LawShuffled hr rfl (pa_cons (pv 0) (pa_cons (pv 1) pa_nil)))) (pg_name (i := 3) scLawEither.nd rfl (.inl rfl))
        (pss_cons (ps_set (i := 4) scLawEither.nd rfl (.inl rfl) (pe_ix (ixK (r := rIxL) (K := K) ix_list rfl) (pe_lst (pa_cons (pv 3) (pa_cons (pe_revT (pv 3)) pa_nil))) (pe_fn C_LawDraw hr rfl (pa_cons (pv 0) (pa_cons pe_int pa_nil))) (fun _ _ => rfl)))
        (pss_one (ps_expr (pe_bm PySem.F.plainAttrs_list PySem.F.slot_list_append PySem.F.type_list_append mt_append (pv 2) (pa_cons (pe_ix (ixK (r := rIxL) (K := K) ix_list rfl) (pe_lst (pa_cons (pv 4) (pa_cons (pe_callTy (T := "list") (crK (r := lstR) (K := K) call_list_of rfl) (by rfl) T.z_list (by decide +kernel) (pa_cons (pv 4) pa_nil)) pa_nil))) (pe_fn C_LawDraw hr rfl (pa_cons (pv 0) (pa_cons pe_int pa_nil))) (fun _ _ => rfl)) pa_nil))))))
      (pss_one (ps_ret (pv 2))))), ?_⟩
    refine q_lst0 fun f hf => ?_
    have e0 : Kp no H (upd H f (.lst [])) := Kp.new hf
    have f0 : upd H f (.lst []) f = some (.lst []) := upd_same
    have p0 := pn.up e0
    show tSeq _ _ _ [some (.ref d.d), some (.ref pa), some (.ref f), none, none] _
    generalize upd H f (.lst []) = H0 at e0 f0 p0 ⊢
    refine (ed_call (d := d) (n := n) (m := n + bs.length) (sp := spShuffled K) (E := E0) (σ := [some (.ref d.d), some (.ref pa), some (.ref f), none, none]) (H := H0) (P := PermL (bs.map (·.1))) (Ps := [IsV (.ref d.d), VQ K (bs.map (·.1))]) (fun H1 e1 => ea_cons (ev_val (i := 0) rfl) (ea_cons (ev_var (i := 1) rfl ⟨pa, rfl, .inl (.inl (.inl ((e0.any.trans e1).lst hpa)))⟩) ea_nil)) fun H1 vs e1 p1 hv Q q => ?_) H0 (Kp.refl _ _) p0 _ fun v H1 e1 p1 hv => ?_
    · obtain ⟨v1, v2, rfl, h1, h2⟩ := args2 hv
      obtain rfl : v1 = .ref d.d := h1
      refine ⟨d, n, v2, bs.map (·.1), rfl, p1, by rw [List.length_map]; omega, h2, by rw [List.length_map]; omega, fun x m => ?_, by rw [List.length_map]; exact q⟩
      obtain ⟨b, mb, rfl⟩ := List.mem_map.mp m
      exact ((hbs b mb).txt (K := K)).up (e0.any.trans e1)
    · obtain ⟨ys, pm, la, rfl, hla⟩ := hv
      obtain ⟨cs, pc, rfl⟩ := perm_lift pm rfl
      have cl : cs.length = ps.length := by rw [pc.length_eq, bl]
      refine ⟨la, rfl, ⟨_, .inl (.inl hla)⟩, ?_⟩
      refine for_list (K := K) (xs := cs.map (·.1)) (fun i σ' H' => ∃ a b, σ' = [some (.ref d.d), some (.ref pa), some (.ref f), a, b] ∧ Kp (only d.d) H H' ∧ H' la = some (.lst (cs.map (·.1))) ∧ PenAt d (n + bs.length + 2 * i) H' ∧ ∃ qs, AccAt f qs H' ∧ Like qs ((cs.map (·.2)).take i)) ⟨none, none, rfl, e0.any.trans e1, hla, p1, [], ⟨[], e1.lst f0, .nil⟩, .nil⟩ (fun i σ' H' _ h => ?_) (fun i x σ' H' hx h => ?_) fun σ' H' h => ?_
      · obtain ⟨_, _, _, _, h, _⟩ := h
        exact .inl (.inl h)
      · obtain ⟨a, b, rfl, e2, hla2, p2, qs, hacc, lk⟩ := h
        have hi : i < cs.length := by
          have := (List.getElem?_eq_some_iff.mp hx).1
          rw [List.length_map] at this
          exact this
        have ex : x = cs[i].1 := by
          rw [List.getElem?_map, List.getElem?_eq_getElem hi] at hx
          exact (Option.some.inj hx).symm
        have tk : (cs.map (·.2)).take (i + 1) = (cs.map (·.2)).take i ++ [cs[i].2] := by
          rw [take_succ_get (by rw [List.length_map]; exact hi), List.getElem_map]
        have hT : T2 cs[i].2 H x := by
          rw [ex]
          exact hbs _ (pc.mem_iff.mp (List.getElem_mem hi))
        generalize cs[i].2 = pr at tk hT
        show tSeq _ _ _ [some (.ref d.d), some (.ref pa), some (.ref f), some x, b] H'
        have hT2 : ∀ {H3 : Hp}, Kp (only d.d) H' H3 → T2 pr H3 x := fun e => Stay.stay (e2.trans e) hT
        refine qd_set (d := d) (i := 4) (P := fun H v => T2 pr H v ∨ T2 (pr.2, pr.1) H v) (m := n + bs.length + 2 * i + 1) (ed_one2 (P := T2 pr) (R := T2 (pr.2, pr.1)) (fun H3 e3 => ev_var rfl (hT2 e3)) (fun H3 e3 H4 e4 Q4 q4 => ?_) (ed_draw (fun H3 e3 => ev_val rfl) (fun H3 e3 => ev_c) (by decide) (by decide) (by omega))) p2 fun tv H3 e3 p3 htv => ?_
        · obtain ⟨ta, et, hta⟩ := (hT2 (e3.trans e4.any)).sqT (K := K)
          subst et
          exact ⟨.ref ta, rfl, ta, _, rfl, hta, fun z hz => q4 _ _ (Kp.new hz) ⟨z, rfl, .inl upd_same⟩⟩
        · obtain ⟨p', ep, hT3⟩ : ∃ p', (p' = pr ∨ p' = (pr.2, pr.1)) ∧ T2 p' H3 tv := htv.elim (fun h => ⟨_, .inl rfl, h⟩) fun h => ⟨_, .inr rfl, h⟩
          show tDrop _ _ [some (.ref d.d), some (.ref pa), some (.ref f), some x, some tv] H3
          have hla3 := e3.lst hla2
          have hacc3 := hacc.up e3
          refine ⟨.ref f, rfl, ?_, ?_⟩
          · obtain ⟨acc, ha, _⟩ := hacc3
            exact .inl ⟨rfl, acc, .inl (.inl ha)⟩
          refine (EvD.imp (R := SqP ((pw p').map V.str)) (ed_one2 (d := d) (n := n + bs.length + 2 * i + 1) (m := n + bs.length + 2 * i + 1 + 1) (K := K) (σ := [some (.ref d.d), some (.ref pa), some (.ref f), some x, some tv]) (H := H3) (P := T2 p') (R := NewL ((pw p').map V.str)) (ta := tVar 4) (fun H4 e4 => ev_var rfl (Stay.stay e4 hT3)) (fun H4 e4 => ev_listOf (K := K) (ev_var (i := 4) (P := VQ K ((pw p').map V.str)) rfl ?_)) (ed_draw (fun H4 e4 => ev_val (i := 0) rfl) (fun H4 e4 => ev_c) (by decide) (by decide) (by omega))) fun H4 v _ hv => hv.elim (fun h => h.sqP) fun ⟨a, ea, ha⟩ => ⟨a, ea, .inl ha⟩) H3 (Kp.refl _ _) p3 _ fun v H4 e4 p4 hv => ?_
          · obtain ⟨a, ea, ha⟩ := (Stay.stay e4 hT3 : T2 p' H4 tv).sqT (K := K)
            exact ⟨a, ea, .inr ha⟩
          · obtain ⟨acc, ha, hal, hn4⟩ := (hacc3.up e4).snoc hv
            have ql := lk.len
            rw [List.length_take, List.length_map] at ql
            have lane : la ≠ f := fun z => by
              have h1 := e4.lst hla3
              rw [z, ha] at h1
              have := congrArg List.length (HO.lst.inj (Option.some.inj h1))
              rw [List.length_map, hal, ql] at this
              omega
            refine ⟨f, acc, v, rfl, rfl, ha, ?_, _, _, rfl, ((e2.trans e3).trans e4).mut hf, by rw [upd_ne lane]; exact e4.lst hla3, PenAt.mut pn hf p4, qs ++ [p'], hn4, by rw [tk]; exact lk.snoc ep⟩
            have : 100000 < sizeLine := by decide
            omega
      · obtain ⟨a, b, rfl, e2, hla2, p2, qs, ⟨acc, ha, hb⟩, lk⟩ := h
        have : (cs.map (·.1)).length = (cs.map (·.2)).length := by rw [List.length_map, List.length_map]
        rw [this, List.take_length] at lk
        have pm2 : (cs.map (·.2)).Perm ps := by
          rw [← eb]
          exact pc.map _
        obtain ⟨ss, p5, l5⟩ := like_perm lk pm2
        refine s_ret (p := no) (P := EitherP ps) (ev_var rfl ⟨qs, ⟨ss, p5, l5⟩, f, acc, rfl, ha, hb⟩) fun v H3 e3 hv => q v H3 (e2.trans e3.any) ((p2.up e3).more (by rw [List.length_map]; omega)) hv
end
end Tau
set_option maxHeartbeats 4000000
namespace Tau
open PySem PySem.Spec PyProof.Rows L2
/-! drawn_pairs, near, may_door, with_doors -/
/-- a tuple of these two texts, its object known -/
def FrzP (x : Str × Str) : Hp → V → Prop := fun H v => ∃ (a : Addr) (o : Obj), v = .ref a ∧ H a = some (.frz o (.tup [.str x.1, .str x.2])) ∧ o.dict = none
instance {p : Addr → Prop} {x : Str × Str} : Stay p (FrzP x) := ⟨fun e ⟨a, o, e1, h, h2⟩ => ⟨a, o, e1, e.frz h, h2⟩⟩
instance {x : Str × Str} : Firm (FrzP x) := ⟨fun e ⟨a, o, e1, h, h2⟩ => ⟨a, o, e1, e.2 _ _ _ h, h2⟩⟩
theorem FrzP.t2 {x : Str × Str} {H : Hp} {v : V} (h : FrzP x H v) : T2 x H v := by
  obtain ⟨a, o, e, h, _⟩ := h
  exact ⟨a, e, .inr ⟨o, h⟩⟩
def yardK (lr ld : Addr) : List (Key × V) := [(Sum.inr "rooms", .ref lr), (Sum.inr "doors", .ref ld)]
structure YardAt (rooms : List Str) (ps : List (Str × Str)) (y lr ld : Addr) (H : Hp) : Prop where
  dict : H y = some (.dK (yardK lr ld))
  rooms : H lr = some (.lst (rooms.map V.str))
  doors : LstOf (ps.map FrzP) H (.ref ld)
theorem YardAt.up {rooms : List Str} {ps : List (Str × Str)} {y lr ld : Addr} {H H' : Hp} (h : YardAt rooms ps y lr ld H) (e : Kp no H H') : YardAt rooms ps y lr ld H' := ⟨e.at h.dict, e.at h.rooms, Stay.stay e h.doors⟩
def YardP (rooms : List Str) (ps : List (Str × Str)) : Hp → V → Prop := fun H v => ∃ y lr ld, v = .ref y ∧ YardAt rooms ps y lr ld H
instance {rooms : List Str} {ps : List (Str × Str)} : Stay no (YardP rooms ps) := ⟨fun e ⟨y, lr, ld, e1, h⟩ => ⟨y, lr, ld, e1, h.up e⟩⟩
theorem yard_rooms (lr ld : Addr) : valV (yardK lr ld) (Sum.inr "rooms") = some (.ref lr) := valV_pos rfl
theorem yard_doors (lr ld : Addr) : valV (yardK lr ld) (Sum.inr "doors") = some (.ref ld) := by
  unfold yardK
  rw [valV_neg fun z => absurd (Sum.inr.inj z) (by decide)]
  exact valV_pos rfl
section
variable {K : PySem.W.Frag} {σ : L2.St} {H : Hp} {td te ta tb : TE} {rooms : List Str} {ps : List (Str × Str)}
theorem ev_yardDoors (h : EvP no td σ H (YardP rooms ps)) : EvP no (tDGet td (tC (.str "doors"))) σ H (LstOf (ps.map FrzP)) := fun H1 e1 Q q =>
  h H1 e1 _ fun v H2 e2 ⟨y, lr, ld, ev, hy⟩ => ⟨y, .ref ld, ev, by
    rw [← yard_doors lr ld]
    exact DGet.k (k := Sum.inr "doors") hy.dict, q _ H2 e2 hy.doors⟩
theorem ev_yardRooms (h : EvP no td σ H (YardP rooms ps)) : EvP no (tDGet td (tC (.str "rooms"))) σ H (NewL (rooms.map V.str)) := fun H1 e1 Q q =>
  h H1 e1 _ fun v H2 e2 ⟨y, lr, ld, ev, hy⟩ => ⟨y, .ref lr, ev, by
    rw [← yard_rooms lr ld]
    exact DGet.k (k := Sum.inr "rooms") hy.dict, q _ H2 e2 ⟨lr, rfl, hy.rooms⟩⟩
end
theorem ev_ixT2 {p : Addr → Prop} {K : PySem.W.Frag} {σ : L2.St} {H : Hp} {ta tb : TE} {xs : List V} {i : Int} {v : V} (ha : EvP p ta σ H (VT K xs)) (hb : EvP p tb σ H (IsV (.int i))) (h : atI xs i = some v) : EvP p (tOp (rIxT K) ta tb) σ H (IsV v) :=
  ev_op ha hb fun H1 x' y' _ ⟨a, ea, hs⟩ hy Q q => by
    have ey : y' = .int i := hy
    subst ea ey
    exact ⟨a, xs, i, v, rfl, rfl, hs, h, q _ H1 (Kp.refl p H1) rfl⟩
theorem range_pick {α β : Type} (f : α → Bool) (R : α → β) (d : α) (l : List α) : ((List.range l.length).filter fun i => f (l[i]?.getD d)).map (fun i => R (l[i]?.getD d)) = (l.filter f).map R := by
  have e : (List.range l.length).map (fun i => l[i]?.getD d) = l := by
    apply List.ext_getElem
    · simp
    · intro i h1 h2
      simp [List.getElem?_eq_getElem h2]
  have e2 : ((List.range l.length).filter fun i => f (l[i]?.getD d)).map (fun i => l[i]?.getD d) = l.filter f := by
    conv => rhs; rw [← e]
    rw [List.filter_map]
    rfl
  rw [← e2, List.map_map]
  rfl
/-- the other end -/
def oth (x : Str) (p : Str × Str) : Str := if p.1 = x then p.2 else p.1
theorem nbs_oth {x : Str} : ∀ {ps : List (Str × Str)}, (∀ p ∈ ps, p.1 ≠ p.2) → (ps.filter fun p => decide (x ∈ pw p)).map (oth x) = nbs ps x
  | [], _ => rfl
  | (a, b) :: ps, h => by
    have ih := nbs_oth (x := x) fun p m => h p (List.mem_cons_of_mem _ m)
    have ne : a ≠ b := h (a, b) (List.mem_cons_self ..)
    show _ = nbs1 x (a, b) ++ nbs ps x
    by_cases e1 : a = x
    · have e2 : ¬ b = x := fun e => ne (e1.trans e.symm)
      rw [List.filter_cons_of_pos (by exact decide_eq_true (by rw [← e1]; exact List.mem_cons_self ..)), List.map_cons, ih]
      unfold oth nbs1
      rw [if_pos e1, if_pos e1, if_neg e2]
      rfl
    · by_cases e2 : b = x
      · rw [List.filter_cons_of_pos (by exact decide_eq_true (by rw [← e2]; exact List.mem_cons_of_mem _ (List.mem_cons_self ..))), List.map_cons, ih]
        unfold oth nbs1
        rw [if_neg e1, if_neg e1, if_pos e2]
        rfl
      · rw [List.filter_cons_of_neg (by
          intro z
          have z := of_decide_eq_true z
          rcases List.mem_cons.mp z with z | z
          · exact e1 z.symm
          · exact e2 (List.mem_singleton.mp z).symm), ih]
        unfold nbs1
        rw [if_neg e1, if_neg e2]
        rfl
/-- whether a door may be made -/
def mayD (ps : List (Str × Str)) (a b : Str) : Bool := !(decide (a = b) || decide (b ∈ nbs ps a)) && ((nbs ps a).filter fun z => decide (z ∈ nbs ps b)).isEmpty
theorem LstOf.get {α : Type} {R : α → Hp → V → Prop} {l : List α} {H : Hp} {v : V} (h : LstOf (l.map R) H v) : ∃ (a : Addr) (vs : List V), v = .ref a ∧ H a = some (.lst vs) ∧ vs.length = l.length ∧ ∀ (i : Nat) (hi : i < l.length), ∃ x, vs[i]? = some x ∧ R l[i] H x := by
  obtain ⟨a, vs, e, h1, h2⟩ := h
  refine ⟨a, vs, e, h1, by rw [h2.len, List.length_map], fun i hi => h2.get ?_⟩
  rw [List.getElem?_map, List.getElem?_eq_getElem hi]
  rfl
section
variable {K : PySem.W.Frag} {σ : L2.St} {H : Hp} {p : Addr → Prop} {tl te : TE} {tt : TT} {j : Nat} {vs : List Nat} {α : Type} {R : α → Hp → V → Prop} {S : α → Hp → V → Prop} {f : α → Bool} {l : List α}
/-- [e for x in l if ..], l a list of things told one by one -/
theorem ev_lcOf (d : α) [hS : ∀ x, Stay p (S x)] (hR : ∀ x, Firm (R x)) (hw : ∀ x, wipe ((wipe σ vs).set j (some x)) vs = wipe σ vs) (hz : l.length ≤ 100000) (hl : EvP p tl σ H (LstOf (l.map S)))
    (ht : ∀ a ∈ l, ∀ x H1, Kp p H H1 → S a H1 x → EvB p tt ((wipe σ vs).set j (some x)) H1 (f a)) (he : ∀ a ∈ l, f a = true → ∀ x H1, Kp p H H1 → S a H1 x → EvP p te ((wipe σ vs).set j (some x)) H1 (R a)) :
    EvP p (tLc (iList K tl) (gName j) tt te vs) σ H (LstOf ((l.filter f).map R)) := fun H1 e Q q => by
  refine hl H1 e _ fun v H2 e2 hv => ?_
  obtain ⟨a, xs, rfl, hs, hlen, hit⟩ := hv.get
  have turn : ∀ (i : Nat) (x : V), xs[i]? = some x → ∃ (b : α), b ∈ l ∧ l[i]?.getD d = b ∧ S b H2 x := fun i x hx => by
    have hi : i < l.length := by
      have := (List.getElem?_eq_some_iff.mp hx).1
      omega
    obtain ⟨x', hx', h⟩ := hit i hi
    have ex : x' = x := Option.some.inj (hx'.symm.trans hx)
    subst ex
    exact ⟨l[i], List.getElem_mem hi, by rw [List.getElem?_eq_getElem hi]; rfl, h⟩
  refine ⟨a, rfl, ⟨xs, .inl (.inl hs)⟩, fun D hD => lc_list (xs := xs) (LcAt p (fun i => f (l[i]?.getD d)) (fun i => R (l[i]?.getD d)) H2 D) (lc_start hD) (fun i H' _ h => h.2.1.sl (.inl (.inl hs))) (fun i x H' hx h => ⟨hw x, ?_⟩) fun H' ⟨_, h1, acc, h2, _, h4⟩ => ?_⟩
  · obtain ⟨b, mb, eb, hb⟩ := turn i x hx
    refine lc_step (fun i => hR _) (by have := (List.getElem?_eq_some_iff.mp hx).1; omega) h ?_ fun hf => ?_
    · rw [eb]
      exact ht b mb x H2 (e.trans e2) hb
    · rw [eb]
      rw [eb] at hf
      exact he b mb hf x H2 (e.trans e2) hb
  · rw [hlen, range_pick] at h4
    exact q _ H' (e2.trans h1) ⟨D, acc, rfl, h2, h4⟩
end
section
variable {P : Program} {w : World} {K : PySem.W.Frag} {mg : Str → Option Value} {base : Heap} {C : Addr}
def spDrawnPairs : Sp := fun vs H Q _ => ∃ (d : Pen) (n m c : Nat), vs = [.ref d.d, .int (m : Int), .int (c : Int)] ∧ PenAt d n H ∧ n + 2 * c ≤ 1000000 ∧ 1 ≤ m ∧ m ≤ 1000 ∧ c ≤ 1000 ∧ Drawn d (n + 2 * c) (IdxL m c) H Q
theorem scLawDrawnPairs : FnScope ["_law_pen_here", "_law_many", "_law_count", "_law_k"] ["_law_pen_here", "_law_many", "_law_count"] (defScope sLawDrawnPairs) := ⟨rfl, rfl, rfl, by decide +kernel, rfl, by decide +kernel, by decide +kernel⟩
theorem ok_law_drawn_pairs {f : Addr} {fd : FuncData} (F : DefIs K "_law_drawn_pairs" "_law_drawn_pairs" sLawDrawnPairs f fd) (T : TopF K mg C) (C_LawDraw : Can P w K mg base "_law_draw" 1 ["_law_pen_here", "_law_many"] spDraw) : FnOk P w K mg base CX0 2 f fd ["_law_pen_here", "_law_many", "_law_count"] spDrawnPairs := by
  refine def_ok F scLawDrawnPairs (fun vs H Q E h => ?_) (fun cdv A outer s H vs Q E hr h => ?_)
  · obtain ⟨_, _, _, _, rfl, _⟩ := h
    rfl
  · obtain ⟨d, n, m, c, rfl, pn, hn, hm1, hm2, hc, q⟩ := h
    refine ⟨_, (pss_one (ps_ret (pe_lc (own := [("_law_k", 3)]) rfl scLawDrawnPairs.nd (pi_range1 rfl T.z_range (pa_cons (pv 2) pa_nil)) (blkOk_by (own := [("_law_k", 3)]) (N := ["_law_pen_here", "_law_many", "_law_count", "_law_k"]) (sc := defScope sLawDrawnPairs) (by decide +kernel)) (fun _ _ _ _ _ => (pg_name (i := 3) scLawDrawnPairs.nd rfl (.inl rfl))) (fun _ _ _ _ _ => pts_nil) (fun _ _ _ _ _ => (pe_tup (pa_cons (pe_fn C_LawDraw hr rfl (pa_cons (pv 0) (pa_cons (pv 1) pa_nil))) (pa_cons (pe_fn C_LawDraw hr rfl (pa_cons (pv 0) (pa_cons (pv 1) pa_nil))) pa_nil))))))), ?_⟩
    refine ⟨.int (c : Int), rfl, (c : Int), rfl, by omega, by omega, fun D hD => ?_⟩
    refine lc_it (walk_range (lo := 0) (n := (c : Int).toNat)) (fun i H' => Kp (only d.d) H H' ∧ PenAt d (n + 2 * i) H' ∧ ∃ acc, H' D = some (.lst acc) ∧ acc.length ≤ i ∧ ∀ u ∈ acc, IdxV m H' u) ⟨Kp.new hD, pn.mut hD pn, [], upd_same, Nat.le_refl _, fun _ m => absurd m List.not_mem_nil⟩ (fun _ _ _ _ => trivial) (fun i x H' H'' hi h y => ?_) fun H' h => ?_
    · obtain ⟨rfl, ex⟩ := y
      obtain ⟨e1, p1, acc, ha, hal, hit⟩ := h
      refine ⟨rfl, yes_if ?_⟩
      have dr : ∀ (k : Nat), k ≤ 1000000 → EvD d k (k + 1) (tCall spDraw [] E0 (tCons (tVar 0) (tCons (tVar 1) tNil))) [some (.ref d.d), some (.int (m : Int)), some (.int (c : Int)), some x] H'' (BelowP m) := fun k hk => ed_draw (fun H1 e1 => ev_val rfl) (fun H1 e1 => ev_val rfl) hm1 (by omega) hk
      refine (ed_tup2 (dr (n + 2 * i) (by omega)) (dr (n + 2 * i + 1) (by omega))) H'' (Kp.refl _ _) p1 _ fun v H2 e2 p2 hv => ?_
      obtain ⟨b, u, z, rfl, hb, ⟨i1, hi1, rfl⟩, ⟨i2, hi2, rfl⟩⟩ := hv
      have ha2 := e2.lst ha
      have keep : ∀ {u : V}, IdxV m H2 u → IdxV m (upd H2 D (.lst (acc ++ [.ref b]))) u := fun {u} ⟨b, i, j, h1, h2, h3⟩ => ⟨b, i, j, h1, by rw [upd_ne fun z => by rw [z, ha2] at h2; cases h2]; exact h2, h3⟩
      refine ⟨acc, ha2, ?_, ?_, ?_, acc ++ [.ref b], upd_same, ?_, fun u mu => ?_⟩
      · have : 100000 < sizeLine := by decide
        omega
      · exact (e1.trans e2).mut hD
      · exact PenAt.mut pn hD p2
      · rw [List.length_append, List.length_singleton]
        omega
      · rcases List.mem_append.mp mu with mu | mu
        · exact keep ((hit u mu).up e2)
        · rw [List.mem_singleton.mp mu]
          exact keep ⟨b, i1, i2, rfl, hb, hi1, hi2⟩
    · rw [Int.toNat_natCast] at h
      obtain ⟨e1, p1, acc, ha, hal, hit⟩ := h
      exact q _ H' e1 p1 ⟨D, acc, rfl, ha, hal, hit⟩
def spNear : Sp := fun vs H Q _ => ∃ rooms ps x, Gives [YardP rooms ps, IsV (.str x)] ((∀ p ∈ ps, p.1 ≠ p.2) ∧ ps.length ≤ 500) (SortP (nbs ps x)) vs H Q
theorem scLawNear : FnScope ["_law_yard_here", "_law_room", "_law_some", "_law_pair"] ["_law_yard_here", "_law_room"] (defScope sLawNear) := ⟨rfl, rfl, rfl, by decide +kernel, rfl, by decide +kernel, by decide +kernel⟩
theorem ok_law_near {f : Addr} {fd : FuncData} (F : DefIs K "_law_near" "_law_near" sLawNear f fd) (T : TopF K mg C) : FnOk P w K mg base CX0 1 f fd ["_law_yard_here", "_law_room"] spNear := by
  refine def_ok F scLawNear (fun vs H Q E h => ?_) (fun cdv A outer s H vs Q E hr h => ?_)
  · obtain ⟨_, _, _, _, ha, _⟩ := h
    obtain ⟨_, _, rfl, _⟩ := args2 ha
    rfl
  · obtain ⟨rooms, ps, x, ⟨hne, hlen⟩, ha, q⟩ := h
    obtain ⟨yv, xv, rfl, hy, hx⟩ := args2 ha
    obtain rfl : xv = .str x := hx
    have hu := hu_of hr
    refine ⟨_, (pss_cons (ps_setLc (i := 2) (own := [("_law_pair", 3)]) rfl scLawNear.nd rfl rfl (sw_true rfl rfl rfl (by decide +kernel)) (pi_listK (K := K) rfl (pe_dget hu (pv 0) pe_str (fun _ _ => rfl))) (blkOk_by (own := [("_law_pair", 3)]) (N := ["_law_yard_here", "_law_room", "_law_some", "_law_pair"]) (sc := defScope sLawNear) (by decide +kernel)) (fun _ _ _ _ _ => (pg_name (i := 3) scLawNear.nd rfl (.inl rfl))) (fun _ _ _ _ _ => (pts_one (pt_cmpR (opK (r := (fun K => rIn K false)) (K := K) op_in_seq rfl) (pv 1) (pv 3) (by rfl)))) (fun _ _ _ _ _ => (pv 3)))
      (pss_one (ps_ret (pe_callB (id := "sorted") (crK (r := rSrtS) (K := K) (cr_srtS (by exact hr.units)) rfl) (by rfl) T.z_sorted (by decide +kernel) (pa_cons (pe_lc (own := [("_law_pair", 3)]) rfl scLawNear.nd (pi_listK (K := K) rfl (pv 2)) (blkOk_by (own := [("_law_pair", 3)]) (N := ["_law_yard_here", "_law_room", "_law_some", "_law_pair"]) (sc := defScope sLawNear) (by decide +kernel)) (fun _ _ _ _ _ => (pg_name (i := 3) scLawNear.nd rfl (.inl rfl))) (fun _ _ _ _ _ => pts_nil) (fun _ _ _ _ _ => (pe_ix (ixK (r := rIxT) (K := K) ix_tup rfl) (pv 3) (pe_op op_sub pe_int (pe_ixZ (pv 3) (pv 1))) (fun _ _ => rfl)))) pa_nil))))), ?_⟩
    refine q_set (p := no) (i := 2) (P := LstOf ((ps.filter fun p => decide (x ∈ pw p)).map FrzP)) (ev_lcOf (p := no) (K := K) ("", "") (l := ps) (S := FrzP) (R := FrzP) (f := fun p => decide (x ∈ pw p)) (fun _ => inferInstance) (fun _ => rfl) (by omega) (ev_yardDoors (ev_var (P := YardP rooms ps) rfl hy)) (fun a ma v H1 e1 hv => eb_test (ev_inQ (K := K) (ss := pw a) (ev_val rfl) (ev_var (P := VQ K ((pw a).map V.str)) rfl ?_))) fun a ma _ v H1 e1 hv => ev_var rfl hv) fun v2 H1 e1 hv2 => ?_
    · obtain ⟨b, ev, hb⟩ := hv.t2.sqT (K := K)
      exact ⟨b, ev, .inr hb⟩
    · show tRet _ _ [some yv, some (.str x), some v2, none] H1
      have len2 : (ps.filter fun p => decide (x ∈ pw p)).length ≤ ps.length := List.length_filter_le _ _
      have hne2 : ∀ p ∈ ps.filter fun p => decide (x ∈ pw p), p.1 ≠ p.2 ∧ x ∈ pw p := fun p m => ⟨hne p (List.mem_filter.mp m).1, of_decide_eq_true (List.mem_filter.mp m).2⟩
      have eo := nbs_oth (x := x) hne
      generalize (ps.filter fun p => decide (x ∈ pw p)) = qs at hv2 len2 hne2 eo ⊢
      refine s_ret (p := no) (P := SortP (nbs ps x)) (ev_srtS (K := K) ((ev_lcOf (p := no) (K := K) ("", "") (l := qs) (S := FrzP) (R := fun p => IsV (.str (oth x p))) (f := fun _ => true) (fun _ => inferInstance) (fun _ => rfl) (by omega) (ev_var rfl hv2) (fun a ma v H1 e1 hv => eb_yes) fun a ma _ v H2 e2 hv => ?_).imp fun H2 v e2 hv => ?_) ?_) fun v H2 e2 hv => q v H2 (e1.trans e2) hv
      · obtain ⟨b, o, rfl, hb, ho⟩ := hv
        obtain ⟨ne, mx⟩ := hne2 a ma
        have pk : ∀ {H' : Hp}, Kp no H2 H' → EvP no (tVar 3) [some yv, some (.str x), some v2, some (.ref b)] H' (VT K [.str a.1, .str a.2]) := fun e => ev_var rfl ⟨b, rfl, .inl (.inr ⟨o, e.frz hb⟩)⟩
        obtain ⟨j, hj, hmin, hat⟩ : ∃ j : Nat, (pw a)[j]? = some x ∧ (∀ m, m < j → (pw a)[m]? ≠ some x) ∧ atI [V.str a.1, .str a.2] (1 - (j : Int)) = some (.str (oth x a)) := by
          unfold oth
          by_cases e : a.1 = x
          · refine ⟨0, by rw [← e]; rfl, fun m hm => absurd hm (Nat.not_lt_zero _), ?_⟩
            rw [if_pos e]
            exact atI_nat (j := 1) rfl
          · have e2 : a.2 = x := by
              rcases List.mem_cons.mp mx with z | z
              · exact absurd z.symm e
              · exact (List.mem_singleton.mp z).symm
            refine ⟨1, by rw [← e2]; rfl, fun m hm => ?_, ?_⟩
            · have : m = 0 := by omega
              subst this
              exact fun z => e (Option.some.inj z)
            · rw [if_neg e]
              exact atI_nat (j := 0) rfl
        refine ev_ixT2 (pk (Kp.refl _ _)) (ev_sub ev_c (fun H3 e3 Q q => ⟨.ref b, rfl, b, o, pw a, rfl, e3.frz hb, ho, .str x, rfl, x, j, rfl, hj, hmin, e3.frz hb, q _ H3 (Kp.refl _ _) rfl⟩ : EvP no (tIxZ (tVar 3) (tVar 1)) _ H2 (IsV (.int (j : Int))))) hat
      · obtain ⟨b, ys, rfl, hb, hys⟩ := hv
        rw [List.filter_eq_self.mpr fun _ _ => rfl] at hys
        have := hys.vals (f := fun p => V.str (oth x p))
        refine ⟨b, rfl, .inl (.inl (.inl ?_))⟩
        rw [hb, this, ← eo, List.map_map]
        rfl
      · have := nbs_len ps x
        omega
theorem mayD_perm {ps : List (Str × Str)} {a b : Str} {la lb : List Str} (h1 : la.Perm (nbs ps a)) (h2 : lb.Perm (nbs ps b)) : (la.filter fun z => decide (z ∈ lb)).isEmpty = ((nbs ps a).filter fun z => decide (z ∈ nbs ps b)).isEmpty := by
  have e : (fun z => decide (z ∈ lb)) = fun z => decide (z ∈ nbs ps b) := by
    funext z
    by_cases m : z ∈ lb
    · rw [decide_eq_true m, decide_eq_true (h2.mem_iff.mp m)]
    · rw [decide_eq_false m, decide_eq_false fun z => m (h2.mem_iff.mpr z)]
  rw [e]
  have := (h1.filter fun z => decide (z ∈ nbs ps b)).length_eq
  cases e1 : la.filter fun z => decide (z ∈ nbs ps b) with
  | nil =>
    rw [e1] at this
    rw [List.eq_nil_of_length_eq_zero this.symm]
  | cons x xs =>
    rw [e1] at this
    cases e2 : (nbs ps a).filter fun z => decide (z ∈ nbs ps b) with
    | nil =>
      rw [e2] at this
      cases this
    | cons _ _ => rfl
def SortQ (ss : List Str) : Hp → V → Prop := SortP ss
def spMayDoor : Sp := fun vs H Q _ => ∃ rooms ps a b, Gives [YardP rooms ps, IsV (.str a), IsV (.str b)] ((∀ p ∈ ps, p.1 ≠ p.2) ∧ ps.length ≤ 500) (IsV (.bl (mayD ps a b))) vs H Q
theorem scLawMayDoor : FnScope ["_law_yard_here", "_law_one", "_law_other", "_law_some", "_law_room"] ["_law_yard_here", "_law_one", "_law_other"] (defScope sLawMayDoor) := ⟨rfl, rfl, rfl, by decide +kernel, rfl, by decide +kernel, by decide +kernel⟩
theorem ok_law_may_door {f : Addr} {fd : FuncData} (F : DefIs K "_law_may_door" "_law_may_door" sLawMayDoor f fd) (T : TopF K mg C) (C_LawNear : Can P w K mg base "_law_near" 1 ["_law_yard_here", "_law_room"] spNear) : FnOk P w K mg base CX0 2 f fd ["_law_yard_here", "_law_one", "_law_other"] spMayDoor := by
  refine def_ok F scLawMayDoor (fun vs H Q E h => ?_) (fun cdv A outer s H vs Q E hr h => ?_)
  · obtain ⟨_, _, _, _, _, ha, _⟩ := h
    obtain ⟨_, _, _, rfl, _⟩ := args3 ha
    rfl
  · obtain ⟨rooms, ps, a, b, ⟨hne, hlen⟩, ha, q⟩ := h
    obtain ⟨yv, v1, v2, rfl, hy, h1, h2⟩ := args3 ha
    obtain rfl : v1 = .str a := h1
    obtain rfl : v2 = .str b := h2
    refine ⟨_, (pss_cons (ps_if (PW.pt (pw_or (pt_cmpR op_eq (pv 1) (pv 2) (nomark _)) (pw_or1 (pt_cmpR (opK (r := (fun K => rIn K false)) (K := K) op_in_seq rfl) (pv 2) (pe_fn C_LawNear hr rfl (pa_cons (pv 0) (pa_cons (pv 1) pa_nil))) (by rfl)))))
        (pss_one (ps_ret pe_bl))
        pss_nil)
      (pss_cons (ps_set (i := 3) scLawMayDoor.nd rfl (.inr rfl) (pe_fn C_LawNear hr rfl (pa_cons (pv 0) (pa_cons (pv 2) pa_nil))))
      (pss_one (ps_ret (pe_cmpR (opK (r := rEqP) (K := K) (op_eqP (by exact hr.units)) rfl) (pe_lc (own := [("_law_room", 4)]) rfl scLawMayDoor.nd (pi_listK (K := K) rfl (pe_fn C_LawNear hr rfl (pa_cons (pv 0) (pa_cons (pv 1) pa_nil)))) (blkOk_by (own := [("_law_room", 4)]) (N := ["_law_yard_here", "_law_one", "_law_other", "_law_some", "_law_room"]) (sc := defScope sLawMayDoor) (by decide +kernel)) (fun _ _ _ _ _ => (pg_name (i := 4) scLawMayDoor.nd rfl (.inl rfl))) (fun _ _ _ _ _ => (pts_one (pt_cmpR (opK (r := (fun K => rIn K false)) (K := K) op_in_seq rfl) (pv 4) (pv 3) (by rfl)))) (fun _ _ _ _ _ => (pv 4))) (pe_lst pa_nil) (nomark _)))))), ?_⟩
    have near : ∀ {σ : L2.St} {H' : Hp} {i : Nat} {x : Str}, σ[0]? = some (some yv) → σ[i]? = some (some (.str x)) → Kp no H H' → EvP no (tCall spNear [] E0 (tCons (tVar 0) (tCons (tVar i) tNil))) σ H' (SortP (nbs ps x)) := fun {σ H' i x} h0 hi e =>
      ev_fn (sp := spNear) (Ps := [YardP rooms ps, IsV (.str x)]) (C := (∀ p ∈ ps, p.1 ≠ p.2) ∧ ps.length ≤ 500) (fun vs H Q g => ⟨rooms, ps, x, g⟩) (ea_cons (ev_var (P := YardP rooms ps) h0 (Stay.stay e hy)) (ea_cons (ev_val hi) ea_nil)) ⟨hne, hlen⟩
    have inn : ∀ {σ : L2.St} {H' : Hp} {te tb : TE} {x : Str} {ss : List Str}, EvP no te σ H' (IsV (.str x)) → EvP no tb σ H' (SortP ss) → EvP no (tOp (rIn K false) te tb) σ H' (IsV (.bl (decide (x ∈ ss)))) := fun {σ H' te tb x ss} hx hs =>
      ev_op hx hs fun H1 x' y' _ hx' ⟨c, ys, ey, pm, hc⟩ Q q => by
        have ex : x' = .str x := hx'
        subst ex ey
        refine ⟨c, _, rfl, .inl (.inl (.inl hc)), rfl, flat_words ys, q _ H1 (Kp.refl _ _) ?_⟩
        show V.bl (if false = true then _ else inV (.str x) (ys.map V.str)) = _
        rw [if_neg (by decide), inV_words]
        congr 1
        by_cases m : x ∈ ys
        · rw [decide_eq_true m, decide_eq_true (pm.mem_iff.mp m)]
        · rw [decide_eq_false m, decide_eq_false fun z => m (pm.mem_iff.mpr z)]
    refine q_if (p := no) (b := decide (V.str a = V.str b) || decide (b ∈ nbs ps a)) (eb_or (eb_test (ev_eq (ev_val (i := 1) rfl) (ev_val (i := 2) rfl) rfl)) fun _ => eb_test (inn (ev_val (i := 2) rfl) (near rfl rfl (Kp.refl _ _)))) (fun hb H1 e1 => ?_) (fun hb H1 e1 => ?_)
    · refine s_retV (p := no) (x := .bl false) ev_c fun H2 e2 => q _ H2 (e1.trans e2) ?_
      show V.bl false = V.bl (mayD ps a b)
      unfold mayD
      have : (decide (a = b) || decide (b ∈ nbs ps a)) = true := by
        rw [← hb]
        congr 1
        by_cases e : a = b
        · rw [decide_eq_true e, decide_eq_true (congrArg V.str e)]
        · rw [decide_eq_false e, decide_eq_false fun z => e (V.str.inj z)]
      rw [this]
      rfl
    · have nb0 : (decide (a = b) || decide (b ∈ nbs ps a)) = false := by
        rw [← hb]
        congr 1
        by_cases e : a = b
        · rw [decide_eq_true e, decide_eq_true (congrArg V.str e)]
        · rw [decide_eq_false e, decide_eq_false fun z => e (V.str.inj z)]
      refine q_set (p := no) (i := 3) (near (i := 2) rfl rfl e1) fun v3 H2 e2 ⟨c, lb, ev3, pb, hc⟩ => ?_
      subst ev3
      show tRet _ _ [some yv, some (.str a), some (.str b), some (.ref c), none] H2
      refine s_ret (p := no) (P := IsV (.bl (mayD ps a b))) (fun H3 e3 Q3 q3 => ?_) fun v H3 e3 hv => q v H3 ((e1.trans e2).trans e3) hv
      refine (near (σ := [some yv, some (.str a), some (.str b), some (.ref c), none]) (i := 1) (x := a) rfl rfl ((e1.trans e2).trans e3)) H3 (Kp.refl _ _) _ fun v4 H4 e4 ⟨z, lA, ev4, pA, hz⟩ => ⟨z, ev4, ⟨_, .inl (.inl hz)⟩, fun D hD => lc_it (walk_list (K := K) (a := z) (xs := lA.map V.str)) (fun i H' => Kp no H4 H' ∧ H' D = some (.lst (((lA.take i).filter fun z => decide (z ∈ lb)).map V.str))) ⟨Kp.new hD, upd_same⟩ (fun i H' _ h => .inl (.inl (h.1.at hz))) (fun i x H5 H6 hi h y => ?_) fun H' h => ?_⟩
      · obtain ⟨rfl, hx⟩ := y
        obtain ⟨e5, hD5⟩ := h
        rw [List.length_map] at hi
        have ex : x = .str lA[i] := by
          rw [List.getElem?_map, List.getElem?_eq_getElem hi] at hx
          exact (Option.some.inj hx).symm
        subst ex
        refine ⟨rfl, ?_⟩
        have hc6 := ((e3.trans e4).trans e5).at hc
        refine (eb_test (p := no) (b := decide (lA[i] ∈ lb)) (ev_inQ (K := K) (ss := lb) (σ := [some yv, some (.str a), some (.str b), some (.ref c), some (.str lA[i])]) (ev_val (i := 4) rfl) (ev_var (i := 3) (P := VQ K (lb.map V.str)) rfl ⟨c, rfl, .inl (.inl (.inl hc6))⟩))) _ (Kp.refl _ _) _ fun H7 e7 => ?_
        cases hb2 : decide (lA[i] ∈ lb) with
        | true =>
          rw [if_pos rfl]
          refine ⟨.str lA[i], rfl, _, e7.at hD5, ?_, (e5.trans e7).mut hD, ?_⟩
          · rw [List.length_map]
            refine Nat.lt_of_le_of_lt (List.length_filter_le _ _) ?_
            rw [List.length_take]
            have := nbs_len ps a
            have l1 := pA.length_eq
            have : 100000 < sizeLine := by decide
            omega
          · rw [upd_same, take_succ_get hi, List.filter_append, List.filter_cons_of_pos (by exact hb2), List.map_append]
            rfl
        | false =>
          rw [if_neg (by decide)]
          refine ⟨e5.trans e7, ?_⟩
          rw [take_succ_get hi, List.filter_append, List.filter_cons_of_neg (by rw [hb2]; decide), List.filter_nil, List.append_nil]
          exact e7.at hD5
      · rw [List.length_map, List.take_length] at h
        obtain ⟨e5, hD5⟩ := h
        refine (ev_lst0 (p := no) (σ := [some yv, some (.str a), some (.str b), some (.ref c), none]) (H := H')) H' (Kp.refl _ _) _ fun v5 H5 e6 ⟨b5, ev5, hb5⟩ => ?_
        subst ev5
        have hD6 := e6.at hD5
        generalize hl : (lA.filter fun z => decide (z ∈ lb)) = ll at hD6
        refine ⟨.list (ll.map PyData.str), .list [], .lst (.inl (.inl hD6)) (dp_words K H5 ll), .lst (.inl (.inl hb5)) .nil, ?_, rfl, ?_, q3 _ H5 ((e4.trans e5).trans e6) ?_⟩
        · rw [PyData.plain, words_plain]
        · rw [PyData.depth, words_depth]
          decide
        · show V.bl (PyData.eqv (.list (ll.map PyData.str)) (.list [])) = V.bl (mayD ps a b)
          unfold mayD
          rw [nb0, ← mayD_perm pA pb, hl]
          rw [PyData.eqv]
          cases ll with
          | nil => rfl
          | cons _ _ => rfl
end
end Tau
set_option maxHeartbeats 4000000
namespace Tau
open PySem PySem.Spec PyProof.Rows L2
/-! with_doors -/
theorem mem_nbs_snoc {ps : List (Str × Str)} {a b x y : Str} : y ∈ nbs (ps ++ [(a, b)]) x ↔ y ∈ nbs ps x ∨ (x = a ∧ y = b) ∨ (x = b ∧ y = a) := by
  rw [mem_nbs, mem_nbs, List.mem_append, List.mem_append, List.mem_singleton, List.mem_singleton, Prod.mk.injEq, Prod.mk.injEq]
  constructor
  · rintro ((h | h) | (h | h))
    · exact .inl (.inl h)
    · exact .inr (.inl h)
    · exact .inl (.inr h)
    · exact .inr (.inr ⟨h.2, h.1⟩)
  · rintro ((h | h) | (h | h))
    · exact .inl (.inl h)
    · exact .inr (.inl h)
    · exact .inl (.inr h)
    · exact .inr (.inr ⟨h.2, h.1⟩)
theorem nbs_symm {ps : List (Str × Str)} {x y : Str} (h : y ∈ nbs ps x) : x ∈ nbs ps y := mem_nbs.mpr (mem_nbs.mp h).symm
theorem mayD_iff {ps : List (Str × Str)} {a b : Str} (h : mayD ps a b = true) : a ≠ b ∧ b ∉ nbs ps a ∧ ∀ z, z ∈ nbs ps a → z ∉ nbs ps b := by
  unfold mayD at h
  obtain ⟨h1, h2⟩ := Bool.and_eq_true_iff.mp h
  rw [Bool.not_eq_true', Bool.or_eq_false_iff] at h1
  refine ⟨of_decide_eq_false h1.1, of_decide_eq_false h1.2, fun z m1 m2 => ?_⟩
  have : z ∈ (nbs ps a).filter fun z => decide (z ∈ nbs ps b) := List.mem_filter.mpr ⟨m1, decide_eq_true m2⟩
  rw [List.isEmpty_iff.mp h2] at this
  exact absurd this List.not_mem_nil
theorem Plan.add {rooms : List Str} {ps : List (Str × Str)} {a b : Str} (h : Plan rooms ps) (ha : a ∈ rooms) (hb : b ∈ rooms) (hm : mayD ps a b = true) (hl : ps.length < 500) : Plan rooms (ps ++ [(a, b)]) := by
  obtain ⟨ne, no1, com⟩ := mayD_iff hm
  refine ⟨h.nd, h.some, h.small, h.name, ⟨fun x m => ?_, ?_⟩, by rw [List.length_append, List.length_singleton]; omega, fun x y z h1 h2 h3 => ?_⟩
  · rcases List.mem_append.mp m with m | m
    · exact h.pairs.ok x m
    · rw [List.mem_singleton.mp m]
      exact ⟨h.name a ha, h.name b hb, ha, hb, ne⟩
  · rw [List.pairwise_append]
    refine ⟨h.pairs.dif, List.pairwise_singleton _ _, fun p mp q mq pm => ?_⟩
    have := List.mem_singleton.mp mq
    subst this
    have pm : (pw p).Perm [a, b] := pm
    apply no1
    rw [mem_nbs]
    rcases perm_two pm with e | e
    · exact .inl (by rw [show (a, b) = p from pw_inj e.symm]; exact mp)
    · exact .inr (by rw [show (b, a) = p from pw_inj e.symm]; exact mp)
  · have irr : ∀ u, u ∉ nbs ps u := fun u mu => by
      rcases mem_nbs.mp mu with m | m <;> exact (h.pairs.ok _ m).2.2.2.2 rfl
    have no2 : a ∉ nbs ps b := fun m => no1 (nbs_symm m)
    have com2 : ∀ z, z ∈ nbs ps b → z ∉ nbs ps a := fun z m1 m2 => com z m2 m1
    rcases mem_nbs_snoc.mp h1 with g1 | ⟨rfl, rfl⟩ | ⟨rfl, rfl⟩
    · rcases mem_nbs_snoc.mp h2 with g2 | ⟨rfl, rfl⟩ | ⟨rfl, rfl⟩
      · rcases mem_nbs_snoc.mp h3 with g3 | ⟨rfl, rfl⟩ | ⟨rfl, rfl⟩
        · exact h.tri x y z g1 g2 g3
        · exact com y g1 (nbs_symm g2)
        · exact com2 y g1 (nbs_symm g2)
      · rcases mem_nbs_snoc.mp h3 with g3 | ⟨e1, e2⟩ | ⟨e1, e2⟩
        · exact com x (nbs_symm g1) (nbs_symm g3)
        · rw [e1] at g1
          exact irr y g1
        · exact ne (e2 ▸ rfl)
      · rcases mem_nbs_snoc.mp h3 with g3 | ⟨e1, e2⟩ | ⟨e1, e2⟩
        · exact com2 x (nbs_symm g1) (nbs_symm g3)
        · exact ne e2
        · rw [e1] at g1
          exact irr y g1
    · rcases mem_nbs_snoc.mp h2 with g2 | ⟨e1, e2⟩ | ⟨e1, e2⟩
      · rcases mem_nbs_snoc.mp h3 with g3 | ⟨e1, e2⟩ | ⟨e1, e2⟩
        · exact com z g3 g2
        · rw [e2] at g2
          exact irr y g2
        · exact ne e1
      · exact ne e1.symm
      · rw [e2] at h3
        rcases mem_nbs_snoc.mp h3 with g3 | ⟨e3, e4⟩ | ⟨e3, e4⟩
        · exact irr x g3
        · exact ne e4
        · exact ne e3
    · rcases mem_nbs_snoc.mp h2 with g2 | ⟨e1, e2⟩ | ⟨e1, e2⟩
      · rcases mem_nbs_snoc.mp h3 with g3 | ⟨e1, e2⟩ | ⟨e1, e2⟩
        · exact com2 z g3 g2
        · exact ne e1.symm
        · rw [e2] at g2
          exact irr y g2
      · rw [e2] at h3
        rcases mem_nbs_snoc.mp h3 with g3 | ⟨e3, e4⟩ | ⟨e3, e4⟩
        · exact irr x g3
        · exact ne e3.symm
        · exact ne e4.symm
      · exact ne e1
theorem YardAt.add {rooms : List Str} {ps : List (Str × Str)} {y lr ld : Addr} {H : Hp} {x : Str × Str} {v : V} (h : YardAt rooms ps y lr ld H) (ne : lr ≠ ld) (hv : FrzP x H v) : ∃ acc, H ld = some (.lst acc) ∧ acc.length = ps.length ∧ YardAt rooms (ps ++ [x]) y lr ld (upd H ld (.lst (acc ++ [v]))) := by
  obtain ⟨a, acc, ea, hl, hacc⟩ := h.doors
  cases ea
  have keep : ∀ {z : Str × Str} {u : V}, FrzP z H u → FrzP z (upd H ld (.lst (acc ++ [v]))) u := fun ⟨b, o, e, hb, ho⟩ => ⟨b, o, e, by rw [upd_ne fun z => by rw [z, hl] at hb; cases hb]; exact hb, ho⟩
  refine ⟨acc, hl, by rw [hacc.len, List.length_map], ⟨?_, ?_, ld, acc ++ [v], rfl, upd_same, ?_⟩⟩
  · have := h.dict
    rw [upd_ne fun z => by rw [z, hl] at this; cases this]
    exact this
  · rw [upd_ne ne]
    exact h.rooms
  · rw [List.map_append]
    refine (hacc.mono fun P m u hu => ?_).snoc (keep hv)
    obtain ⟨z, _, rfl⟩ := List.mem_map.mp m
    exact keep hu
structure RoomsOk (rooms : List Str) : Prop where
  nd : rooms.Nodup
  some : rooms ≠ []
  small : rooms.length ≤ 9
  name : ∀ x ∈ rooms, NameOk x
theorem RoomsOk.plan {rooms : List Str} (h : RoomsOk rooms) : Plan rooms [] := ⟨h.nd, h.some, h.small, h.name, ⟨fun _ m => absurd m List.not_mem_nil, .nil⟩, Nat.zero_le _, fun _ _ _ m => absurd m List.not_mem_nil⟩
theorem ev_tupZ {p : Addr → Prop} {σ : L2.St} {H : Hp} {ta tb : TE} {s t : Str} (ha : EvP p ta σ H (IsV (.str s))) (hb : EvP p tb σ H (IsV (.str t))) : EvP p (tTupZ (tCons ta (tCons tb tNil))) σ H (FrzP (s, t)) := fun H1 e Q q =>
  ha H1 e _ fun x H2 e2 hx => hb H2 (e.trans e2) _ fun y H3 e3 hy => by
    have ex : x = .str s := hx
    have ey : y = .str t := hy
    subst ex ey
    exact ⟨by show 2 ≤ sizeLine; decide, fun z o hz ho => q _ _ ((e2.trans e3).trans (Kp.new hz)) ⟨z, o, rfl, upd_same, ho⟩⟩
def YardOf (rooms : List Str) : Hp → V → Prop := fun H v => ∃ ps, Plan rooms ps ∧ YardP rooms ps H v
section
variable {P : Program} {w : World} {K : PySem.W.Frag} {mg : Str → Option Value} {base : Heap} {C : Addr}
def spWithDoors (K : PySem.W.Frag) : Sp := fun vs H Q _ => ∃ rooms m l, Gives [LstP K rooms, IdxL m l] (RoomsOk rooms ∧ m ≤ rooms.length ∧ l ≤ 400) (YardOf rooms) vs H Q
theorem scLawWithDoors : FnScope ["_law_rooms", "_law_pairs", "_law_yard_here", "_law_k", "_law_j"] ["_law_rooms", "_law_pairs"] (defScope sLawWithDoors) := ⟨rfl, rfl, rfl, by decide +kernel, rfl, by decide +kernel, by decide +kernel⟩
theorem ok_law_with_doors {f : Addr} {fd : FuncData} (F : DefIs K "_law_with_doors" "_law_with_doors" sLawWithDoors f fd) (T : TopF K mg C) (C_LawMayDoor : Can P w K mg base "_law_may_door" 2 ["_law_yard_here", "_law_one", "_law_other"] spMayDoor) : FnOk P w K mg base CX0 3 f fd ["_law_rooms", "_law_pairs"] (spWithDoors K) := by
  refine def_ok F scLawWithDoors (fun vs H Q E h => ?_) (fun cdv A outer s H vs Q E hr h => ?_)
  · obtain ⟨_, _, _, _, ha, _⟩ := h
    obtain ⟨_, _, rfl, _⟩ := args2 ha
    rfl
  · obtain ⟨rooms, m, l, ⟨hrk, hm, hl⟩, ha, q⟩ := h
    obtain ⟨u1, u2, rfl, hr1, pa, vs, rfl, hpa, hvl, hvs⟩ := args2 ha
    have hu := hu_of hr
    refine ⟨_, (pss_cons (ps_set (i := 2) scLawWithDoors.nd rfl (.inl rfl) (pe_disp (pps_cons pe_str (pe_callTy (T := "list") (crK (r := lstR) (K := K) call_list_of rfl) (by rfl) T.z_list (by decide +kernel) (pa_cons (pv 0) pa_nil)) (pps_cons pe_str (pe_lst pa_nil) pps_nil)) (by rfl) (by rfl) (fun z => by cases z) (by decide)))
      (pss_cons (ps_for PassesOwn.never rfl (pi_listK (K := K) rfl (pv 1)) (pg_tupK (K := K) (n := 2) rfl rfl (pgs_cons (pg_name (i := 3) scLawWithDoors.nd rfl (.inl rfl)) (pgs_cons (pg_name (i := 4) scLawWithDoors.nd rfl (.inl rfl)) pgs_nil)))
        (pss_one (ps_if (pt_val (pe_fn C_LawMayDoor hr rfl (pa_cons (pv 2) (pa_cons (pe_ix (ixK (r := rIxL) (K := K) ix_list rfl) (pv 0) (pv 3) (fun _ _ => rfl)) (pa_cons (pe_ix (ixK (r := rIxL) (K := K) ix_list rfl) (pv 0) (pv 4) (fun _ _ => rfl)) pa_nil)))))
          (pss_one (ps_expr (pe_bm PySem.F.plainAttrs_list PySem.F.slot_list_append PySem.F.type_list_append mt_append (pe_dget hu (pv 2) pe_str (fun _ _ => rfl)) (pa_cons (pe_tupZ (pa_cons (pe_ix (ixK (r := rIxL) (K := K) ix_list rfl) (pv 0) (pv 3) (fun _ _ => rfl)) (pa_cons (pe_ix (ixK (r := rIxL) (K := K) ix_list rfl) (pv 0) (pv 4) (fun _ _ => rfl)) pa_nil))) pa_nil))))
          pss_nil)))
      (pss_one (ps_ret (pv 2))))), ?_⟩
    have rv : ∀ {σ : L2.St} {H' : Hp}, σ[0]? = some (some u1) → Kp no H H' → EvP no (tVar 0) σ H' (LstP K rooms) := fun h0 e => ev_var h0 (Stay.stay e hr1)
    intro y hy
    obtain ⟨ra, era, hra⟩ := hr1
    refine ⟨u1, rfl, ra, rooms.map V.str, by rw [era], .inl ((Kp.new (p := no) hy).sl hra), fun lr hlr => ⟨Nat.zero_le _, fun ld hld => ?_⟩⟩
    have y0 : upd H y (.dK []) y = some (.dK []) := upd_same
    have y1 := (Kp.new (p := no) (o := .lst (rooms.map V.str)) hlr).at y0
    have y2 := (Kp.new (p := no) (o := .lst []) hld).at y1
    have lrl := (Kp.new (p := no) (o := .lst []) hld).at (upd_same (H := upd H y (.dK [])) (a := lr) (o := .lst (rooms.map V.str)))
    have ne1 : lr ≠ ld := fun e => by
      rw [← e, upd_same] at hld
      cases hld
    have ny1 : lr ≠ y := fun e => by
      rw [e, y0] at hlr
      cases hlr
    have ny2 : ld ≠ y := fun e => by
      rw [e, y1] at hld
      cases hld
    have hlr0 : H lr = none := by
      rw [upd_ne ny1] at hlr
      exact hlr
    have hld0 : H ld = none := by
      rw [upd_ne fun e => ne1 e.symm, upd_ne ny2] at hld
      exact hld
    refine ⟨y2, yardK lr ld, rfl, by show 2 ≤ 15; decide, ?_⟩
    have e0 : Kp no H (upd (upd (upd (upd H y (.dK [])) lr (.lst (rooms.map V.str))) ld (.lst [])) y (.dK (mergeK [] (yardK lr ld)))) := ((((Kp.new hy).trans (Kp.new hlr)).trans (Kp.new hld))).mut hy
    have hY : YardAt rooms [] y lr ld (upd (upd (upd (upd H y (.dK [])) lr (.lst (rooms.map V.str))) ld (.lst [])) y (.dK (mergeK [] (yardK lr ld)))) := ⟨upd_same, by rw [upd_ne ny1]; exact lrl, ld, [], rfl, by rw [upd_ne ny2, upd_same], .nil⟩
    generalize upd (upd (upd (upd H y (.dK [])) lr (.lst (rooms.map V.str))) ld (.lst [])) y (.dK (mergeK [] (yardK lr ld))) = H0 at e0 hY
    show tSeq _ _ _ [some u1, some (.ref pa), some (.ref y), none, none] H0
    refine q_forL (p := no) (K := K) (a := pa) (xs := vs) (H0 := H) (.inl (.inl hpa)) e0 (ev_val rfl) (fun i σ' H' => ∃ a b ps, σ' = [some u1, some (.ref pa), some (.ref y), a, b] ∧ Kp no H H' ∧ YardAt rooms ps y lr ld H' ∧ Plan rooms ps ∧ ps.length ≤ i) (fun H1 e1 => ⟨_, _, [], rfl, e0.trans e1, hY.up e1, hrk.plan, Nat.le_refl _⟩) (fun i σ' H' h => ?_) (fun i x σ' H' hx h => ?_) fun σ' H' h => ?_
    · obtain ⟨_, _, _, _, e, _⟩ := h
      exact e
    · obtain ⟨a, b, ps, rfl, e1, hY1, hp, hpl⟩ := h
      have hi := (List.getElem?_eq_some_iff.mp hx).1
      obtain ⟨c, k, j, rfl, hc, hk, hj⟩ := hvs x (List.mem_of_getElem? hx)
      refine ⟨c, _, rfl, .inl (.inl (e1.tup hc)), rfl, _, _, rfl, _, _, rfl, rfl, ?_⟩
      show tIfS _ _ _ _ [some u1, some (.ref pa), some (.ref y), some (.int (k : Int)), some (.int (j : Int))] H'
      have hkr : k < rooms.length := by omega
      have hjr : j < rooms.length := by omega
      have rk : ∀ {H2 : Hp}, Kp no H' H2 → EvP no (tOp (rIxL K) (tVar 0) (tVar 3)) [some u1, some (.ref pa), some (.ref y), some (.int (k : Int)), some (.int (j : Int))] H2 (IsV (.str rooms[k])) := fun e => ev_ixL (K := K) (rv rfl (e1.trans e)) (ev_val rfl) (atI_nat (List.getElem?_eq_getElem hkr))
      have rj : ∀ {H2 : Hp}, Kp no H' H2 → EvP no (tOp (rIxL K) (tVar 0) (tVar 4)) [some u1, some (.ref pa), some (.ref y), some (.int (k : Int)), some (.int (j : Int))] H2 (IsV (.str rooms[j])) := fun e => ev_ixL (K := K) (rv rfl (e1.trans e)) (ev_val rfl) (atI_nat (List.getElem?_eq_getElem hjr))
      have neq : ∀ p ∈ ps, p.1 ≠ p.2 := fun p m => (hp.pairs.ok p m).2.2.2.2
      refine s_if (p := no) (b := mayD ps rooms[k] rooms[j]) (eb_B (ev_fn (sp := spMayDoor) (Ps := [YardP rooms ps, IsV (.str rooms[k]), IsV (.str rooms[j])]) (C := (∀ p ∈ ps, p.1 ≠ p.2) ∧ ps.length ≤ 500) (fun vs H Q g => ⟨rooms, ps, _, _, g⟩) (ea_cons (ev_var (P := YardP rooms ps) rfl ⟨y, lr, ld, rfl, hY1⟩) (ea_cons (rk (Kp.refl _ _)) (ea_cons (rj (Kp.refl _ _)) ea_nil))) ⟨neq, by omega⟩)) (fun hb H2 e2 => ?_) (fun hb H2 e2 => ⟨_, _, ps, rfl, e1.trans e2, hY1.up e2, hp, by omega⟩)
      obtain ⟨a2, acc, ea2, hacc, hargs⟩ := (hY1.up e2).doors
      cases ea2
      refine s_app (p := no) (K := K) (a := ld) (xs := acc) (P := FrzP (rooms[k], rooms[j])) (ev_dget (a := y) (y := kV (Sum.inr "doors")) (ev_val (i := 2) rfl) ev_c fun H3 e3 => ?_) (ev_tupZ (rk e2) (rj e2)) (fun H3 e3 => e3.at hacc) ?_ fun v H3 e3 hv => ?_
      · rw [← yard_doors lr ld]
        exact DGet.k (((hY1.up e2).up e3).dict)
      · rw [hargs.len, List.length_map]
        omega
      · obtain ⟨acc2, h1, _, h3⟩ := ((hY1.up e2).up e3).add ne1 hv
        have := e3.at hacc
        rw [this] at h1
        have := HO.lst.inj (Option.some.inj h1)
        subst this
        exact ⟨_, _, _, rfl, ((e1.trans e2).trans e3).mut hld0, h3, hp.add (List.getElem_mem hkr) (List.getElem_mem hjr) hb (by omega), by rw [List.length_append, List.length_singleton]; omega⟩
    · obtain ⟨a, b, ps, rfl, e1, hY1, hp, hpl⟩ := h
      exact s_ret (p := no) (ev_var (P := YardP rooms ps) rfl ⟨y, lr, ld, rfl, hY1⟩) fun v H2 e2 hv => q v H2 (e1.trans e2) ⟨ps, hp, hv⟩
end
end Tau
set_option maxHeartbeats 4000000
namespace Tau
open PySem PySem.Spec PyProof.Rows L2
/-! names -/
abbrev abc : Str := "abcdefghijklmnopqrstuvwxyz"
theorem abc_list : abc.cps.toList = [97, 98, 99, 100, 101, 102, 103, 104, 105, 106, 107, 108, 109, 110, 111, 112, 113, 114, 115, 116, 117, 118, 119, 120, 121, 122] := by decide +kernel
theorem abc_mem {c : Nat} (h : c ∈ abc.cps.toList) : 97 ≤ c ∧ c ≤ 122 := by
  rw [abc_list] at h
  simp only [List.mem_cons, List.not_mem_nil, or_false] at h
  omega
theorem abc_get {i : Nat} (h : i < 26) : abc.cps.toList[i]? = some (97 + i) := by
  rw [abc_list]
  have : ∀ i : Fin 26, ([97, 98, 99, 100, 101, 102, 103, 104, 105, 106, 107, 108, 109, 110, 111, 112, 113, 114, 115, 116, 117, 118, 119, 120, 121, 122] : List Nat)[i.1]? = some (97 + i.1) := by decide
  exact this ⟨i, h⟩
abbrev someWords : Str := "room door folk rope post at acts go tie cut free a ab abc b ba ro roo rooms c ca cab z"
def words23 : List Str := ["room", "door", "folk", "rope", "post", "at", "acts", "go", "tie", "cut", "free", "a", "ab", "abc", "b", "ba", "ro", "roo", "rooms", "c", "ca", "cab", "z"]
theorem words_split : Txt.split someWords " " = words23 := by decide +kernel
theorem words_nd : words23.Nodup := by decide +kernel
theorem words_ok : ∀ x ∈ words23, NameOk x := by
  have : ∀ x ∈ words23, 1 ≤ x.length ∧ x.length ≤ 8 ∧ ∀ c ∈ x.cps.toList, 97 ≤ c ∧ c ≤ 122 := by decide +kernel
  exact this
theorem str_app (a b : Str) : (a ++ b).cps.toList = a.cps.toList ++ b.cps.toList := Array.toList_append
theorem join_ones (cs : List Nat) : Str.join "" (cs.map fun c => (⟨#[c]⟩ : Str)) = ⟨cs.toArray⟩ := by
  induction cs with
  | nil => rfl
  | cons c cs ih =>
    cases cs with
    | nil => rfl
    | cons d cs =>
      rw [List.map_cons] at ih ⊢
      show (⟨#[c]⟩ : Str) ++ "" ++ Str.join "" ((⟨#[d]⟩ : Str) :: cs.map _) = _
      rw [ih]
      have : ∀ a b : Str, a.cps.toList = b.cps.toList → a = b := fun a b h => by
        cases a
        cases b
        congr 1
        exact Array.toList_inj.mp h
      refine this _ _ ?_
      rw [str_app, str_app]
      rfl
theorem str_ext {a b : Str} (h : a.cps.toList = b.cps.toList) : a = b := by
  cases a
  cases b
  congr 1
  exact Array.toList_inj.mp h
theorem str_len (a : Str) : a.length = a.cps.toList.length := Array.length_toList.symm
theorem cutS_list (z : Str) (lo hi : Option Int) : (cutS z lo hi).cps.toList = cutW z.cps.toList lo hi := by
  unfold cutS cutW
  rw [← str_len]
section
variable {p : Addr → Prop} {K : PySem.W.Frag} {σ : L2.St} {H : Hp} {te ta tb tc : TE}
theorem ev_slS {z : Str} {tl th : TO} {lo hi : Option Int} (ha : EvP p ta σ H (IsV (.str z))) (hz : z.length ≤ 1000) (hl : EvOp p tl σ H lo) (hh : EvOp p th σ H hi) : EvP p (tSl rSlS ta tl th) σ H (IsV (.str (cutS z lo hi))) := fun H1 e Q q =>
  ha H1 e _ fun x H2 e2 hx => hl H2 (e.trans e2) _ fun H3 e3 => hh H3 ((e.trans e2).trans e3) _ fun H4 e4 => ⟨z, hx, Nat.le_trans hz (by decide), q _ H4 ((e2.trans e3).trans e4) rfl⟩
theorem ev_addS {a b : Str} (ha : EvP p ta σ H (IsV (.str a))) (hb : EvP p tb σ H (IsV (.str b))) (hz : a.length + b.length ≤ 1000) : EvP p (tOp (fun x y H Q => ∃ i j : Str, x = .str i ∧ y = .str j ∧ i.length + j.length ≤ sizeLine ∧ Q (.str (i ++ j)) H) ta tb) σ H (IsV (.str (a ++ b))) :=
  ev_op ha hb fun H1 x y _ hx hy Q q => ⟨a, b, hx, hy, Nat.le_trans hz (by decide), q _ H1 (Kp.refl p H1) rfl⟩
theorem ev_ixS {z : Str} {i : Int} {c : Nat} (ha : EvP p ta σ H (IsV (.str z))) (hb : EvP p tb σ H (IsV (.int i))) (hz : z.length ≤ 1000) (h : atI z.cps.toList i = some c) : EvP p (tOp rIxS ta tb) σ H (IsV (.str ⟨#[c]⟩)) :=
  ev_op ha hb fun H1 x y _ hx hy Q q => ⟨z, i, c, hx, hy, Nat.le_trans hz (by decide), h, q _ H1 (Kp.refl p H1) rfl⟩
theorem ev_one2c {a b : V} {r : Nat} (ha : EvP p ta σ H (IsV a)) (hb : EvP p tb σ H (IsV b)) (hc : EvP p tc σ H (IsV (.int (r : Int)))) (hr : r < 2) : EvP p (tOp (rIxL K) (tLst (tCons ta (tCons tb tNil))) tc) σ H (IsV (if r = 0 then a else b)) := fun H1 e Q q =>
  ha H1 e _ fun x H2 e2 hx => hb H2 (e.trans e2) _ fun y H3 e3 hy => ⟨by show 2 ≤ sizeLine; decide, fun z hz => by
    obtain rfl : x = a := hx
    obtain rfl : y = b := hy
    refine hc _ ((((e.trans e2).trans e3)).trans (Kp.new hz)) _ fun v H4 e4 hv => ?_
    have ev : v = .int (r : Int) := hv
    subst ev
    have hl := e4.lst (upd_same (H := H3) (a := z) (o := .lst [x, y]))
    have k4 : Kp p H1 H4 := ((e2.trans e3).trans (Kp.new hz)).trans e4
    match r, hr with
    | 0, _ => exact ⟨z, [x, y], 0, x, rfl, rfl, .inl (.inl hl), atI_nat (j := 0) rfl, q x H4 k4 rfl⟩
    | 1, _ => exact ⟨z, [x, y], 1, y, rfl, rfl, .inl (.inl hl), atI_nat (j := 1) rfl, q y H4 k4 rfl⟩⟩
theorem ev_split {a b : Str} (ha : EvP p ta σ H (IsV (.str a))) (hb : EvP p tb σ H (IsV (.str b))) (h1 : (b.length == 0) = false) (h2 : a.length ≤ 1000) :
    EvP p (tM1 (fun x xs H Q => ∃ a b, x = .str a ∧ xs = [.str b] ∧ (b.length == 0) = false ∧ a.length + 2 ≤ sizeLine ∧ rNewStrs (Txt.split a b) H Q) ta tb) σ H (LstP K (Txt.split a b)) := fun H1 e Q q =>
  ha H1 e _ fun x H2 e2 hx => ⟨⟨a, hx⟩, hb H2 (e.trans e2) _ fun y H3 e3 hy => ⟨a, b, hx, by rw [show y = .str b from hy], h1, Nat.le_trans (Nat.add_le_add_right h2 2) (by decide), fun z hz => q _ _ ((e2.trans e3).trans (Kp.new hz)) ⟨z, rfl, .inl (.inl upd_same)⟩⟩⟩
end
/-- the k-th name -/
def word (base : Str) (at_ l t : Nat) : Str := cutS base none (some (at_ : Int)) ++ ⟨#[97 + l]⟩ ++ cutS (cutS base (some ((at_ + 1 : Nat) : Int)) none) none (some (t : Int))
theorem word_list (base : Str) (at_ l t : Nat) : (word base at_ l t).cps.toList = base.cps.toList.take at_ ++ [97 + l] ++ (base.cps.toList.drop (at_ + 1)).take t := by
  unfold word
  rw [str_app, str_app, cutS_list, cutS_list, cutS_list, cutW_to, cutW_from, cutW_to]
theorem word_ok {base : Str} (hb : NameOk base) {at_ l t : Nat} (ha : at_ < base.length) (hl : l < 26) : NameOk (word base at_ l t) := by
  have e := word_list base at_ l t
  have bl := str_len base
  obtain ⟨h1, h2, h3⟩ := hb
  refine ⟨?_, ?_, fun c m => ?_⟩
  · rw [str_len, e, List.length_append, List.length_append, List.length_singleton]
    omega
  · rw [str_len, e, List.length_append, List.length_append, List.length_singleton, List.length_take, List.length_take, List.length_drop]
    omega
  · rw [e] at m
    rcases List.mem_append.mp m with m | m
    · rcases List.mem_append.mp m with m | m
      · exact h3 c (List.mem_of_mem_take m)
      · rw [List.mem_singleton.mp m]
        omega
    · exact h3 c (List.mem_of_mem_drop (List.mem_of_mem_take m))
theorem word_inj {base : Str} {at_ l l' t t' : Nat} (ha : at_ < base.length) (e : word base at_ l t = word base at_ l' t') : l = l' := by
  have e := congrArg (fun z : Str => z.cps.toList[at_]?) e
  have bl := str_len base
  have g : ∀ l t, (word base at_ l t).cps.toList[at_]? = some (97 + l) := fun l t => by
    rw [word_list, List.append_assoc, List.getElem?_append_right (by rw [List.length_take]; omega), List.length_take, show at_ - min at_ base.cps.toList.length = 0 by omega]
    rfl
  have e : (word base at_ l t).cps.toList[at_]? = (word base at_ l' t').cps.toList[at_]? := e
  rw [g, g] at e
  have := Option.some.inj e
  omega
def bys : List Nat := [1, 3, 5, 7, 9, 11, 15, 17, 19, 21, 23, 25]
theorem by_inj {b : Nat} (hb : b ∈ bys) {g k k' : Nat} (hk : k < 9) (hk' : k' < 9) (e : (g + b * k) % 26 = (g + b * k') % 26) : k = k' := by
  unfold bys at hb
  simp only [List.mem_cons, List.not_mem_nil, or_false] at hb
  rcases hb with rfl | rfl | rfl | rfl | rfl | rfl | rfl | rfl | rfl | rfl | rfl | rfl <;> omega
theorem nodup_map {α β : Type} {f : α → β} {l : List α} (h : l.Nodup) (inj : ∀ a ∈ l, ∀ b ∈ l, f a = f b → a = b) : (l.map f).Nodup := by
  induction l with
  | nil => exact List.nodup_nil
  | cons x l ih =>
    have h := List.nodup_cons.mp h
    rw [List.map_cons, List.nodup_cons]
    refine ⟨fun m => ?_, ih h.2 fun a ma b mb => inj a (List.mem_cons_of_mem _ ma) b (List.mem_cons_of_mem _ mb)⟩
    obtain ⟨y, my, e⟩ := List.mem_map.mp m
    have := inj y (List.mem_cons_of_mem _ my) x (List.mem_cons_self ..) e
    exact h.1 (this ▸ my)
theorem rooms_of {f : Nat → Str} {m : Nat} (h1 : 1 ≤ m) (h9 : m ≤ 9) (inj : ∀ k, k < 9 → ∀ k', k' < 9 → f k = f k' → k = k') (ok : ∀ k, k < 9 → NameOk (f k)) : RoomsOk ((List.range m).map f) := by
  refine ⟨nodup_map List.nodup_range fun a ma b mb => inj a (by have := List.mem_range.mp ma; omega) b (by have := List.mem_range.mp mb; omega), fun e => ?_, by rw [List.length_map, List.length_range]; exact h9, fun x mx => ?_⟩
  · have := congrArg List.length e
    rw [List.length_map, List.length_range] at this
    have h0 : ([] : List Str).length = 0 := rfl
    omega
  · obtain ⟨k, mk, rfl⟩ := List.mem_map.mp mx
    exact ok k (by have := List.mem_range.mp mk; omega)
section
variable {P : Program} {w : World} {K : PySem.W.Frag} {mg : Str → Option Value} {base : Heap} {C : Addr}
def RoomsP (K : PySem.W.Frag) (m : Nat) : Hp → V → Prop := fun H v => ∃ rooms : List Str, RoomsOk rooms ∧ rooms.length = m ∧ LstP K rooms H v
instance {p : Addr → Prop} {m : Nat} : Stay p (RoomsP K m) := ⟨fun e ⟨r, h1, h2, h3⟩ => ⟨r, h1, h2, Stay.stay e h3⟩⟩
def spNames (K : PySem.W.Frag) : Sp := fun vs H Q _ => ∃ (d : Pen) (n m : Nat), vs = [.ref d.d, .int (m : Int)] ∧ PenAt d n H ∧ n ≤ 900000 ∧ 1 ≤ m ∧ m ≤ 9 ∧ Drawn d (n + 13) (RoomsP K m) H Q
theorem scLawNames : FnScope ["_law_pen_here", "_law_many", "_law_letters", "_law_k", "_law_base", "_law_at", "_law_begin", "_law_short", "_law_by", "_law_found", "_law_some", "_law_tail"] ["_law_pen_here", "_law_many"] (defScope sLawNames) := ⟨rfl, rfl, rfl, by decide +kernel, rfl, by decide +kernel, by decide +kernel⟩
theorem ok_law_names {f : Addr} {fd : FuncData} (F : DefIs K "_law_names" "_law_names" sLawNames f fd) (T : TopF K mg C) (C_LawDraw : Can P w K mg base "_law_draw" 1 ["_law_pen_here", "_law_many"] spDraw) (C_LawPick : Can P w K mg base "_law_pick" 2 ["_law_pen_here", "_law_some"] (spPick K)) : FnOk P w K mg base CX0 3 f fd ["_law_pen_here", "_law_many"] (spNames K) := by
  refine def_ok F scLawNames (fun vs H Q E h => ?_) (fun cdv A outer s H vs Q E hr h => ?_)
  · obtain ⟨_, _, _, rfl, _⟩ := h
    rfl
  · obtain ⟨d, n, m, rfl, pn, hn, hm1, hm9, q⟩ := h
    refine ⟨_, (pss_cons (ps_set (i := 2) scLawNames.nd rfl (.inr rfl) pe_str)
      (pss_cons (ps_set (i := 4) scLawNames.nd rfl (.inl rfl) (pe_join pe_str (pe_lc (own := [("_law_k", 3)]) rfl scLawNames.nd (pi_range1 rfl T.z_range (pa_cons (pe_op op_add pe_int (pe_fn C_LawDraw hr rfl (pa_cons (pv 0) (pa_cons pe_int pa_nil)))) pa_nil)) (blkOk_by (own := [("_law_k", 3)]) (N := ["_law_pen_here", "_law_many", "_law_letters", "_law_k", "_law_base", "_law_at", "_law_begin", "_law_short", "_law_by", "_law_found", "_law_some", "_law_tail"]) (sc := defScope sLawNames) (by decide +kernel)) (fun _ _ _ _ _ => (pg_name (i := 3) scLawNames.nd rfl (.inl rfl))) (fun _ _ _ _ _ => pts_nil) (fun _ _ _ _ _ => (pe_fn C_LawPick hr rfl (pa_cons (pv 0) (pa_cons (pv 2) pa_nil)))))))
      (pss_cons (ps_asg (pe_tup (pa_cons (pe_fn C_LawDraw hr rfl (pa_cons (pv 0) (pa_cons (pe_callB (id := "len") call_len_str (by rfl) T.z_len (by decide +kernel) (pa_cons (pv 4) pa_nil)) pa_nil))) (pa_cons (pe_fn C_LawDraw hr rfl (pa_cons (pv 0) (pa_cons pe_int pa_nil))) (pa_cons (pe_fn C_LawDraw hr rfl (pa_cons (pv 0) (pa_cons pe_int pa_nil))) pa_nil)))) (pg_tupK (K := K) (n := 3) rfl rfl (pgs_cons (pg_name (i := 5) scLawNames.nd rfl (.inl rfl)) (pgs_cons (pg_name (i := 6) scLawNames.nd rfl (.inr rfl)) (pgs_cons (pg_name (i := 7) scLawNames.nd rfl (.inl rfl)) pgs_nil)))))
      (pss_cons (ps_par (i := 8) (j := 9)  (by rfl) scLawNames.nd rfl rfl (by decide) rfl rfl (pa_cons (pe_fn C_LawPick hr rfl (pa_cons (pv 0) (pa_cons (pe_lst (pa_cons pe_int (pa_cons pe_int (pa_cons pe_int (pa_cons pe_int (pa_cons pe_int (pa_cons pe_int (pa_cons pe_int (pa_cons pe_int (pa_cons pe_int (pa_cons pe_int (pa_cons pe_int (pa_cons pe_int pa_nil))))))))))))) pa_nil))) (pa_cons (pe_lst pa_nil) pa_nil)) (by rfl))
      (pss_cons (ps_if (pt_cmpR op_eq (pv 8) pe_int (nomark _))
        (pss_cons (ps_set (i := 10) scLawNames.nd rfl (.inr rfl) pe_str)
        (pss_one (ps_ret (pe_lc (own := [("_law_k", 3)]) rfl scLawNames.nd (pi_range1 rfl T.z_range (pa_cons (pv 1) pa_nil)) (blkOk_by (own := [("_law_k", 3)]) (N := ["_law_pen_here", "_law_many", "_law_letters", "_law_k", "_law_base", "_law_at", "_law_begin", "_law_short", "_law_by", "_law_found", "_law_some", "_law_tail"]) (sc := defScope sLawNames) (by decide +kernel)) (fun _ _ _ _ _ => (pg_name (i := 3) scLawNames.nd rfl (.inl rfl))) (fun _ _ _ _ _ => pts_nil) (fun _ _ _ _ _ => (pe_ix (ixK (r := rIxL) (K := K) ix_list rfl) (pe_split (pv 10) pe_str) (pe_op op_modN (pe_op op_add (pv 6) (pe_op op_mul pe_int (pv 3))) pe_int) (fun _ _ => rfl)))))))
        pss_nil)
      (pss_cons (ps_for PassesOwn.never rfl (pi_range1 rfl T.z_range (pa_cons (pv 1) pa_nil)) (pg_name (i := 3) scLawNames.nd rfl (.inl rfl))
        (pss_cons (ps_set (i := 11) scLawNames.nd rfl (.inl rfl) (pe_slice sl_str (pe_slice sl_str (pv 4) (po_some (pe_op op_add (pv 5) pe_int)) po_none) po_none (po_some (pe_ix (ixK (r := rIxL) (K := K) ix_list rfl) (pe_lst (pa_cons pe_int (pa_cons (pe_op op_modN (pv 3) pe_int) pa_nil))) (pv 7) (fun _ _ => rfl)))))
        (pss_one (ps_expr (pe_bm PySem.F.plainAttrs_list PySem.F.slot_list_append PySem.F.type_list_append mt_append (pv 9) (pa_cons (pe_op op_add_str (pe_op op_add_str (pe_slice sl_str (pv 4) po_none (po_some (pv 5))) (pe_ix ix_str (pv 2) (pe_op op_modN (pe_op op_add (pv 6) (pe_op op_mul (pv 8) (pv 3))) pe_int) (fun _ _ => rfl))) (pv 11)) pa_nil))))))
      (pss_one (ps_ret (pv 9))))))))), ?_⟩
    show tSeq _ _ _ [some (.ref d.d), some (.int (m : Int)), some (.str abc), none, none, none, none, none, none, none, none, none] H
    have penV : ∀ {σ : L2.St} {H' : Hp}, σ[0]? = some (some (.ref d.d)) → EvP no (tVar 0) σ H' (IsV (.ref d.d)) := fun h => ev_val h
    refine ⟨⟨_, rfl⟩, ?_⟩
    refine (ed_op (d := d) (n := n) (m := n) (k := n + 1) (P := IsV (.int 1)) (R := BelowP 8) (S := fun _ v => ∃ c : Nat, 1 ≤ c ∧ c ≤ 8 ∧ v = .int (c : Int)) (ta := tC (.int 1)) (tb := tCall spDraw [] E0 (tCons (tVar 0) (tCons (tC (.int 8)) tNil))) (σ := [some (.ref d.d), some (.int (m : Int)), some (.str abc), none, none, none, none, none, none, none, none, none]) (ed_pure fun H1 _ => ev_c) (ed_draw (x := 8) (fun H1 _ => penV rfl) (fun H1 _ => ev_c) (by decide) (by decide) (by omega)) fun H1 x y e1 hx ⟨r, hr, ey⟩ Q q => ?_ : EvD d n (n + 1) (tOp (rI0 fun i j => .int (i + j)) _ _) _ H _) H (Kp.refl _ _) pn _ fun v H1 e1 p1 ⟨c, hc1, hc8, ev⟩ => ?_
    · have ex : x = .int 1 := hx
      subst ex ey
      exact ⟨1, (r : Int), rfl, rfl, q _ H1 (Kp.refl _ _) ⟨r + 1, by omega, by omega, congrArg V.int (by omega)⟩⟩
    subst ev
    refine ⟨(c : Int), rfl, by omega, by omega, fun D hD => ?_⟩
    refine lc_it (walk_range (lo := 0) (n := (c : Int).toNat)) (fun i H' => Kp (only d.d) H1 H' ∧ PenAt d (n + 1 + i) H' ∧ ∃ cs : List Nat, H' D = some (.lst (cs.map fun c => V.str ⟨#[c]⟩)) ∧ cs.length = i ∧ ∀ c ∈ cs, 97 ≤ c ∧ c ≤ 122) ⟨Kp.new hD, p1.mut hD p1, [], upd_same, rfl, fun _ m => absurd m List.not_mem_nil⟩ (fun _ _ _ _ => trivial) (fun i x H' H'' hi h y => ?_) fun H' h => ?_
    · obtain ⟨rfl, ex⟩ := y
      obtain ⟨e2, p2, cs, hcs, hlen, hok⟩ := h
      rw [Int.toNat_natCast] at hi
      refine ⟨rfl, yes_if ?_⟩
      refine (ed_call (d := d) (n := n + 1 + i) (m := n + 1 + i + 1) (sp := spPick K) (E := E0) (P := fun _ v => ∃ c ∈ abc.cps.toList, v = .str ⟨#[c]⟩) (Ps := [IsV (.ref d.d), IsV (.str abc)]) (tr := tCons (tVar 0) (tCons (tVar 2) tNil)) (fun H2 _ => ea_cons (ev_val rfl) (ea_cons (ev_val rfl) ea_nil)) fun H2 vs e3 p3 hv Q q => ?_) H'' (Kp.refl _ _) p2 _ fun v H2 e3 p3 hv => ?_
      · obtain ⟨v1, v2, rfl, h1, h2⟩ := args2 hv
        obtain rfl : v1 = .ref d.d := h1
        obtain rfl : v2 = .str abc := h2
        exact ⟨d, _, _, rfl, p3, by omega, .inl ⟨abc, rfl, by decide, by decide, q⟩⟩
      · obtain ⟨c2, mc, rfl⟩ := hv
        refine ⟨_, e3.lst hcs, ?_, (e2.trans e3).mut hD, PenAt.mut p1 hD p3, cs ++ [c2], by rw [upd_same, List.map_append]; rfl, by rw [List.length_append, hlen]; rfl, fun c m => ?_⟩
        · rw [List.length_map, hlen]
          have : 100000 < sizeLine := by decide
          omega
        · rcases List.mem_append.mp m with m | m
          · exact hok c m
          · rw [List.mem_singleton.mp m]
            exact abc_mem mc
    rw [Int.toNat_natCast] at h
    obtain ⟨e2, p2, cs, hcs, hlen, hok⟩ := h
    have hbase : NameOk ⟨cs.toArray⟩ := ⟨by show 1 ≤ cs.toArray.size; rw [List.size_toArray]; omega, by show cs.toArray.size ≤ 8; rw [List.size_toArray]; omega, hok⟩
    refine ⟨"", D, cs.map fun c => (⟨#[c]⟩ : Str), rfl, rfl, .inl (.inl (.inl (by rw [List.map_map]; exact hcs))), ?_, ?_⟩
    · rw [List.map_map, List.length_map]
      have : ((fun x : Str => x.length) ∘ fun c => (⟨#[c]⟩ : Str)) = fun _ => 1 := rfl
      rw [this, List.map_const', List.sum_replicate_nat]
      show cs.length * 1 + cs.length * 0 ≤ 16777216
      omega
    rw [TL.join_eq, join_ones]
    show tSeq _ _ _ [some (.ref d.d), some (.int (m : Int)), some (.str abc), none, some (.str ⟨cs.toArray⟩), none, none, none, none, none, none, none] H'
    have bl1 := hbase.1
    have bl8 := hbase.2.1
    generalize (⟨cs.toArray⟩ : Str) = bs at hbase bl1 bl8 ⊢
    have e02 : Kp (only d.d) H H' := e1.trans e2
    have p02 : PenAt d (n + 9) H' := p2.more (by omega)
    have dr : ∀ (k x : Nat) (te : TE) {H2 : Hp}, (∀ H3, EvP no te [some (.ref d.d), some (.int (m : Int)), some (.str abc), none, some (.str bs), none, none, none, none, none, none, none] H3 (IsV (.int (x : Int)))) → 1 ≤ x → x ≤ 1000000 → k ≤ 1000000 →
      EvD d k (k + 1) (tCall spDraw [] E0 (tCons (tVar 0) (tCons te tNil))) [some (.ref d.d), some (.int (m : Int)), some (.str abc), none, some (.str bs), none, none, none, none, none, none, none] H2 (BelowP x) := fun k x te H2 h h1 h2 h3 => ed_draw (fun H3 _ => penV rfl) (fun H3 _ => h H3) h1 h2 h3
    refine (dr (n + 9) bs.length _ (fun H3 H4 _ Q q => ⟨.str bs, rfl, bs, rfl, Nat.le_trans bl8 (by decide), q _ H4 (Kp.refl _ _) rfl⟩) bl1 (by omega) (by omega)) H' (Kp.refl _ _) p02 _ fun va H3 e3 p3 ⟨at_, hat, eva⟩ => ?_
    refine (dr (n + 10) 26 (tC (.int 26)) (fun H3 => ev_c) (by decide) (by decide) (by omega)) H3 (Kp.refl _ _) p3 _ fun vb H4 e4 p4 ⟨bg, hbg, evb⟩ => ?_
    refine (dr (n + 11) 2 (tC (.int 2)) (fun H3 => ev_c) (by decide) (by decide) (by omega)) H4 (Kp.refl _ _) p4 _ fun vc H5 e5 p5 ⟨sh, hsh, evc⟩ => ?_
    subst eva evb evc
    refine ⟨by show 3 ≤ sizeLine; decide, fun z hz => ⟨z, _, rfl, .inl (.inl upd_same), rfl, _, _, rfl, _, _, rfl, _, _, rfl, rfl, ?_⟩⟩
    show tSeq _ _ _ [some (.ref d.d), some (.int (m : Int)), some (.str abc), none, some (.str bs), some (.int (at_ : Int)), some (.int (bg : Int)), some (.int (sh : Int)), none, none, none, none] _
    have e06 : Kp (only d.d) H (upd H5 z (.tup [.int (at_ : Int), .int (bg : Int), .int (sh : Int)])) := (((e02.trans e3).trans e4).trans e5).trans (Kp.new hz)
    have p6 := p5.up (Kp.new (p := no) (o := .tup [.int (at_ : Int), .int (bg : Int), .int (sh : Int)]) hz)
    generalize upd H5 z (.tup [.int (at_ : Int), .int (bg : Int), .int (sh : Int)]) = H6 at e06 p6 ⊢
    have bysV : (fun H v => VQ K (bys.map fun b => V.int ((b : Nat) : Int)) H v) = VQ K (bys.map fun b => V.int ((b : Nat) : Int)) := rfl
    refine (ed_call (d := d) (n := n + 12) (m := n + 13) (sp := spPick K) (E := E0) (σ := [some (.ref d.d), some (.int (m : Int)), some (.str abc), none, some (.str bs), some (.int (at_ : Int)), some (.int (bg : Int)), some (.int (sh : Int)), none, none, none, none]) (H := H6) (P := fun _ v => ∃ b ∈ bys, v = .int ((b : Nat) : Int)) (Ps := [IsV (.ref d.d), VQ K (bys.map fun b => V.int ((b : Nat) : Int))]) (fun H7 _ => ea_cons (ev_val (i := 0) rfl) (ea_cons (fun H8 e8 Q8 q8 => ⟨by decide, fun z hz => q8 _ _ (Kp.new hz) ⟨z, rfl, .inl (.inl (.inl upd_same))⟩⟩) ea_nil)) fun H2 vs e3 p3 hv Q q => ?_) H6 (Kp.refl _ _) p6 _ fun v H7 e7 p7 ⟨by_, mby, ev⟩ => ?_
    · obtain ⟨v1, v2, rfl, h1, h2⟩ := args2 hv
      obtain rfl : v1 = .ref d.d := h1
      exact ⟨d, _, _, rfl, p3, by omega, .inr ⟨_, h2, by decide, by decide, fun v H' k p m => q v H' k p (by
        obtain ⟨b, mb, e⟩ := List.mem_map.mp m
        exact ⟨b, mb, e.symm⟩)⟩⟩
    subst ev
    refine ⟨Nat.zero_le _, fun fd hfd => ⟨_, _, rfl, ?_⟩⟩
    show tSeq _ _ _ [some (.ref d.d), some (.int (m : Int)), some (.str abc), none, some (.str bs), some (.int (at_ : Int)), some (.int (bg : Int)), some (.int (sh : Int)), some (.int (by_ : Int)), some (.ref fd), none, none] _
    have e07 := e06.trans e7
    have hf0 : H fd = none := e07.free hfd
    have e08 : Kp (only d.d) H (upd H7 fd (.lst [])) := e07.trans (Kp.new hfd)
    have p8 := p7.up (Kp.new (p := no) (o := .lst []) hfd)
    have f8 : upd H7 fd (.lst []) fd = some (.lst []) := upd_same
    generalize upd H7 fd (.lst []) = H8 at e08 p8 f8 ⊢
    refine q_if (p := no) (b := decide (V.int (by_ : Int) = V.int 23)) (eb_test (ev_eq (ev_val (i := 8) rfl) ev_c rfl)) (fun _ H9 e9 => ?_) (fun _ H9 e9 => ?_)
    · refine q_setV (p := no) (i := 10) (x := .str someWords) ev_c fun H10 e10 => ?_
      show tRet _ _ [some (.ref d.d), some (.int (m : Int)), some (.str abc), none, some (.str bs), some (.int (at_ : Int)), some (.int (bg : Int)), some (.int (sh : Int)), some (.int (by_ : Int)), some (.ref fd), some (.str someWords), none] H10
      have wg : ∀ i : Nat, i < 23 → ∃ h : i < words23.length, True := fun i hi => ⟨hi, trivial⟩
      refine s_ret (p := no) (P := RoomsP K m) ((ev_lcR1 (p := no) (n := m) (f := fun _ => true) (R := fun k => IsV (.str (words23[(bg + 5 * k) % 23]?.getD ""))) (fun _ => inferInstance) (fun _ => rfl) (by omega) (ea_cons (ev_val (i := 1) rfl) ea_nil) (fun _ _ _ _ => eb_yes) fun i hi _ H11 e11 => ?_).imp fun H11 v e11 hv => ?_) fun v H11 e11 hv => q v H11 (e08.trans ((e9.trans e10).trans e11).any) (((p8.up e9).up e10).up e11) hv
      · have hk : (bg + 5 * i) % 23 < 23 := Nat.mod_lt _ (by decide)
        refine ev_ixL (K := K) (xs := words23) (i := (((bg + 5 * i) % 23 : Nat) : Int)) ?_ (EvP.val (ev_modN (ev_add (ev_val (i := 6) (v := .int (bg : Int)) rfl) (ev_mul (ev_c (v := .int 5)) (ev_val (i := 3) (v := .int (i : Int)) rfl) (.inl (by decide)))) (ev_c (v := .int 23)) (by decide)) (congrArg V.int ?_)) (atI_nat ?_)
        · have := ev_split (p := no) (K := K) (σ := [some (.ref d.d), some (.int (m : Int)), some (.str abc), some (.int (i : Int)), some (.str bs), some (.int (at_ : Int)), some (.int (bg : Int)), some (.int (sh : Int)), some (.int (by_ : Int)), some (.ref fd), some (.str someWords), none]) (H := H11) (a := someWords) (b := " ") (ev_val (i := 10) rfl) ev_c (by decide) (by decide)
          rw [words_split] at this
          exact this
        · rw [Int.fmod_eq_emod_of_nonneg _ (by decide)]
          omega
        · rw [List.getElem?_eq_getElem (show (bg + 5 * i) % 23 < words23.length from hk)]
          rfl
      · obtain ⟨b, ys, rfl, hb, hys⟩ := hv
        rw [List.filter_eq_self.mpr fun _ _ => rfl] at hys
        have hys := hys.vals (f := fun k => V.str (words23[(bg + 5 * k) % 23]?.getD ""))
        have wk : ∀ k, words23[(bg + 5 * k) % 23]?.getD "" = words23[(bg + 5 * k) % 23]'(Nat.mod_lt _ (by decide)) := fun k => by
          rw [List.getElem?_eq_getElem (show (bg + 5 * k) % 23 < words23.length from Nat.mod_lt _ (by decide))]
          rfl
        refine ⟨(List.range m).map fun k => words23[(bg + 5 * k) % 23]?.getD "", rooms_of hm1 hm9 (fun k hk k' hk' e => ?_) (fun k hk => ?_), by rw [List.length_map, List.length_range], b, rfl, .inl (.inl ?_)⟩
        · rw [wk, wk] at e
          have := (List.getElem_inj words_nd).mp e
          omega
        · rw [wk]
          exact words_ok _ (List.getElem_mem _)
        · rw [hb, hys, List.map_map]
          rfl
    · let tl : Nat → Nat := fun k => if sh = 0 then 8 else k % 3
      refine q_forR1 (p := no) (n := m) (by omega) (ea_cons (ev_val (i := 1) rfl) ea_nil) (fun k σ' H' => ∃ a b, σ' = [some (.ref d.d), some (.int (m : Int)), some (.str abc), a, some (.str bs), some (.int (at_ : Int)), some (.int (bg : Int)), some (.int (sh : Int)), some (.int (by_ : Int)), some (.ref fd), none, b] ∧ Kp (only d.d) H H' ∧ PenAt d (n + 13) H' ∧ H' fd = some (.lst (((List.range k).map fun k => word bs at_ ((bg + by_ * k) % 26) (tl k)).map V.str))) (fun H10 e10 => ⟨_, _, rfl, e08.trans (e9.trans e10).any, (p8.up e9).up e10, (e9.trans e10).at f8⟩) (fun k σ' H10 hk h => ?_) fun σ' H10 h => ?_
      · obtain ⟨a, b, rfl, e10, p10, f10⟩ := h
        show tSeq _ _ _ [some (.ref d.d), some (.int (m : Int)), some (.str abc), some (.int (k : Int)), some (.str bs), some (.int (at_ : Int)), some (.int (bg : Int)), some (.int (sh : Int)), some (.int (by_ : Int)), some (.ref fd), none, b] H10
        have len1 : ∀ lo hi, (cutS bs lo hi).length ≤ 8 := fun lo hi => by
          rw [str_len, cutS_list]
          unfold cutW
          rw [List.length_take, List.length_drop, ← str_len]
          omega
        have len2 : ∀ lo hi lo' hi', (cutS (cutS bs lo hi) lo' hi').length ≤ 8 := fun lo hi lo' hi' => by
          have := len1 lo hi
          rw [str_len, cutS_list]
          unfold cutW
          rw [List.length_take, List.length_drop, ← str_len]
          omega
        refine q_setV (p := no) (i := 11) (x := .str (cutS (cutS bs (some ((at_ + 1 : Nat) : Int)) none) none (some ((tl k : Nat) : Int)))) (ev_slS (ev_slS (ev_val (i := 4) rfl) (by omega) (eo_some (EvP.val (ev_add (ev_val (i := 5) rfl) ev_c) (congrArg V.int (by omega)))) eo_none) (by have := len1 (some ((at_ + 1 : Nat) : Int)) none; omega) eo_none (eo_some (EvP.val (ev_one2c (K := K) (a := .int 8) (b := .int ((k % 3 : Nat) : Int)) (r := sh) ev_c (EvP.val (ev_modN (ev_val (i := 3) rfl) ev_c (by decide)) (congrArg V.int (by rw [Int.fmod_eq_emod_of_nonneg _ (by decide)]; omega))) (ev_val (i := 7) rfl) hsh) ?_))) fun H11 e11 => ?_
        · show (if sh = 0 then V.int 8 else V.int ((k % 3 : Nat) : Int)) = V.int (((if sh = 0 then 8 else k % 3 : Nat)) : Int)
          split <;> rfl
        · show tDrop _ _ [some (.ref d.d), some (.int (m : Int)), some (.str abc), some (.int (k : Int)), some (.str bs), some (.int (at_ : Int)), some (.int (bg : Int)), some (.int (sh : Int)), some (.int (by_ : Int)), some (.ref fd), none, some (.str (cutS (cutS bs (some ((at_ + 1 : Nat) : Int)) none) none (some ((tl k : Nat) : Int))))] H11
          have hl26 : (bg + by_ * k) % 26 < 26 := Nat.mod_lt _ (by decide)
          have one1 : (⟨#[97 + (bg + by_ * k) % 26]⟩ : Str).length = 1 := rfl
          refine s_app (p := no) (K := K) (a := fd) (xs := ((List.range k).map fun k => word bs at_ ((bg + by_ * k) % 26) (tl k)).map V.str) (P := IsV (.str (word bs at_ ((bg + by_ * k) % 26) (tl k)))) (ev_val (i := 9) rfl) (ev_addS (ev_addS (ev_slS (ev_val (i := 4) rfl) (by omega) eo_none (eo_some (ev_val (i := 5) rfl))) (ev_ixS (z := abc) (i := (((bg + by_ * k) % 26 : Nat) : Int)) (c := 97 + (bg + by_ * k) % 26) (ev_val (i := 2) rfl) (EvP.val (ev_modN (ev_add (ev_val (i := 6) rfl) (ev_mul (ev_val (i := 8) rfl) (ev_val (i := 3) rfl) (.inr ⟨by omega, by omega⟩))) ev_c (by decide)) (congrArg V.int ?_)) (by decide) (atI_nat (abc_get hl26))) ?_) (ev_val (i := 11) rfl) ?_) (fun H12 e12 => (e11.trans e12).at f10) ?_ fun v H12 e12 hv => ?_
          · rw [Int.fmod_eq_emod_of_nonneg _ (by decide)]
            have : ((by_ * k : Nat) : Int) = (by_ : Int) * (k : Int) := by push_cast; rfl
            omega
          · rw [one1]
            have := len1 none (some (at_ : Int))
            omega
          · have h1 := len1 none (some (at_ : Int))
            have h2 := len2 (some ((at_ + 1 : Nat) : Int)) none none (some ((tl k : Nat) : Int))
            have h3 : (cutS bs none (some (at_ : Int)) ++ (⟨#[97 + (bg + by_ * k) % 26]⟩ : Str)).length = (cutS bs none (some (at_ : Int))).length + 1 := by
              rw [str_len, str_app, List.length_append, ← str_len]
              rfl
            rw [h3]
            omega
          · rw [List.length_map, List.length_map, List.length_range]
            omega
          · have ev : v = .str (word bs at_ ((bg + by_ * k) % 26) (tl k)) := hv
            subst ev
            refine ⟨_, _, rfl, (e10.trans (e11.trans e12).any).mut hf0, PenAt.mut pn hf0 ((p10.up e11).up e12), ?_⟩
            rw [upd_same, List.range_succ, List.map_append, List.map_append]
            rfl
      · obtain ⟨a, b, rfl, e10, p10, f10⟩ := h
        refine s_ret (p := no) (P := RoomsP K m) (ev_var (i := 9) rfl ⟨(List.range m).map fun k => word bs at_ ((bg + by_ * k) % 26) (tl k), rooms_of hm1 hm9 (fun k hk k' hk' e => ?_) (fun k hk => ?_), by rw [List.length_map, List.length_range], fd, rfl, .inl (.inl f10)⟩) fun v H11 e11 hv => q v H11 (e10.trans e11.any) (p10.up e11) hv
        · exact by_inj mby hk hk' (word_inj hat e)
        · exact word_ok hbase hat (Nat.mod_lt _ (by decide))
end
end Tau
set_option maxHeartbeats 4000000
namespace Tau
open PySem PySem.Spec PyProof.Rows L2
/-! yard, house -/
instance {m : Nat} : Firm (IdxV m) := ⟨fun e ⟨b, i, j, h1, h2, h3⟩ => ⟨b, i, j, h1, e.1 _ _ h2, h3⟩⟩
instance {p : Addr → Prop} {m : Nat} : Stay p (IdxV m) := ⟨fun e h => h.up e⟩
theorem idxL_of {α : Type} {l : List α} {m : Nat} {H : Hp} {v : V} (h : LstOf (l.map fun _ => IdxV m) H v) : IdxL m l.length H v := by
  obtain ⟨a, vs, e, h1, h2⟩ := h
  refine ⟨a, vs, e, h1, by rw [h2.len, List.length_map]; exact Nat.le_refl _, fun u mu => ?_⟩
  obtain ⟨bs, rfl, hb, _⟩ := h2.zip
  obtain ⟨b, mb, rfl⟩ := List.mem_map.mp mu
  exact hb b mb
theorem IdxL.more {m l l' : Nat} {H : Hp} {v : V} (h : IdxL m l H v) (e : l ≤ l') : IdxL m l' H v := by
  obtain ⟨a, vs, h1, h2, h3, h4⟩ := h
  exact ⟨a, vs, h1, h2, by omega, h4⟩
section
variable {p : Addr → Prop} {K : PySem.W.Frag} {σ : L2.St} {H : Hp} {te tb tc : TE} {ta : TA} {tt : TT} {j : Nat} {vs : List Nat} {f : Nat → Bool} {R : Nat → Hp → V → Prop} {m : Nat}
theorem ev_lcZ1 {z : Int} (hR : ∀ i, Firm (R i)) (hw : ∀ x, wipe ((wipe σ vs).set j (some x)) vs = wipe σ vs) (hz : -100000 ≤ z ∧ z ≤ 100000) (hl : EvA p ta σ H [IsV (.int z)])
    (ht : ∀ (i : Nat), (i : Int) < z → ∀ H1, Kp p H H1 → EvB p tt ((wipe σ vs).set j (some (.int (i : Int)))) H1 (f i)) (he : ∀ (i : Nat), (i : Int) < z → f i = true → ∀ H1, Kp p H H1 → EvP p te ((wipe σ vs).set j (some (.int (i : Int)))) H1 (R i)) :
    EvP p (tLc (iRng1 ta) (gName j) tt te vs) σ H (LstOf (((List.range z.toNat).filter f).map R)) := fun H1 e Q q =>
  hl H1 e _ fun us H2 e2 ha => by
    obtain ⟨v, rfl, ev⟩ := args1 ha
    have ev : v = .int z := ev
    subst ev
    refine ⟨z, rfl, by omega, by omega, fun D hD => ?_⟩
    refine lc_it (walk_range (lo := 0) (n := z.toNat)) (LcAt p f R H2 D) (lc_start hD) (fun _ _ _ _ => trivial) (fun i x H' H'' hi h y => ?_) fun H' h => ?_
    · obtain ⟨rfl, ex⟩ := y
      have ex : x = .int (i : Int) := by
        rw [ex]
        show V.int ((0 : Int) + (i : Int)) = V.int (i : Int)
        rw [show (0 : Int) + (i : Int) = (i : Int) by omega]
      subst ex
      exact ⟨hw _, lc_step hR (by omega) h (ht i (by omega) H2 (e.trans e2)) fun hf => he i (by omega) hf H2 (e.trans e2)⟩
    · obtain ⟨_, h1, acc, h2, _, h4⟩ := h
      exact q _ H' (e2.trans h1) ⟨D, acc, rfl, h2, h4⟩
theorem ev_lcZ2 {i0 : Nat} {z : Int} (hR : ∀ i, Firm (R i)) (hw : ∀ x, wipe ((wipe σ vs).set j (some x)) vs = wipe σ vs) (hi0 : i0 ≤ 1000) (hz : -1000 ≤ z ∧ z ≤ 1000) (hl : EvA p ta σ H [IsV (.int (i0 : Int)), IsV (.int z)])
    (ht : ∀ (i : Nat), ((i0 + i : Nat) : Int) < z → ∀ H1, Kp p H H1 → EvB p tt ((wipe σ vs).set j (some (.int ((i0 + i : Nat) : Int)))) H1 (f i)) (he : ∀ (i : Nat), ((i0 + i : Nat) : Int) < z → f i = true → ∀ H1, Kp p H H1 → EvP p te ((wipe σ vs).set j (some (.int ((i0 + i : Nat) : Int)))) H1 (R i)) :
    EvP p (tLc (iRng2 ta) (gName j) tt te vs) σ H (LstOf (((List.range (z - i0).toNat).filter f).map R)) := fun H1 e Q q =>
  hl H1 e _ fun us H2 e2 ha => by
    obtain ⟨v, w, rfl, ev, ew⟩ := args2 ha
    have ev : v = .int (i0 : Int) := ev
    have ew : w = .int z := ew
    subst ev ew
    refine ⟨(i0 : Int), z, rfl, ⟨by omega, by omega, by omega, by omega⟩, fun D hD => ?_⟩
    refine lc_it (walk_range (lo := (i0 : Int)) (n := (z - i0).toNat)) (LcAt p f R H2 D) (lc_start hD) (fun _ _ _ _ => trivial) (fun i x H' H'' hi h y => ?_) fun H' h => ?_
    · obtain ⟨rfl, ex⟩ := y
      have ex : x = .int ((i0 + i : Nat) : Int) := by
        rw [ex]
        show V.int ((i0 : Int) + (i : Int)) = V.int ((i0 + i : Nat) : Int)
        rw [show (i0 : Int) + (i : Int) = ((i0 + i : Nat) : Int) by omega]
      subst ex
      exact ⟨hw _, lc_step hR (by omega) h (ht i (by omega) H2 (e.trans e2)) fun hf => he i (by omega) hf H2 (e.trans e2)⟩
    · obtain ⟨_, h1, acc, h2, _, h4⟩ := h
      exact q _ H' (e2.trans h1) ⟨D, acc, rfl, h2, h4⟩
theorem ev_pairV {a b : Nat} (ha : EvP p tb σ H (IsV (.int (a : Int)))) (hb : EvP p tc σ H (IsV (.int (b : Int)))) (h1 : a < m) (h2 : b < m) : EvP p (tTup (tCons tb (tCons tc tNil))) σ H (IdxV m) := fun H1 e Q q =>
  ha H1 e _ fun x H2 e2 hx => hb H2 (e.trans e2) _ fun y H3 e3 hy => by
    have ex : x = .int (a : Int) := hx
    have ey : y = .int (b : Int) := hy
    subst ex ey
    exact ⟨by show 2 ≤ sizeLine; decide, fun z hz => q _ _ ((e2.trans e3).trans (Kp.new hz)) ⟨z, a, b, rfl, upd_same, h1, h2⟩⟩
theorem s_te {te : TE} {g : TG} {D : Ends} {σ : L2.St} {H : Hp} (h : te σ H fun v H1 => g v σ H1 D.nx) : tAsg te g D σ H := h
theorem q_te {te : TE} {g : TG} {tz : TS} {D : Ends} {σ : L2.St} {H : Hp} (h : te σ H fun v H1 => g v σ H1 fun σ2 H2 => tz D σ2 H2) : tSeq (tAsg te g) tz D σ H := h
theorem tup_te {ta : TE} {tr : TA} {σ : L2.St} {H : Hp} {Q : VK} (h : ta σ H fun x H1 => tr σ H1 fun xs H2 => (x :: xs).length ≤ sizeLine ∧ ∀ z, H2 z = none → Q (.ref z) (upd H2 z (.tup (x :: xs)))) : tTup (tCons ta tr) σ H Q := h
theorem nat_fmod (a b : Nat) : (a : Int).fmod (b : Int) = ((a % b : Nat) : Int) := by
  rw [Int.fmod_eq_emod_of_nonneg _ (by omega), Int.natCast_emod]
theorem nat_fdiv (a b : Nat) : (a : Int).fdiv (b : Int) = ((a / b : Nat) : Int) := by
  rw [Int.fdiv_eq_ediv_of_nonneg _ (by omega), Int.natCast_ediv]
theorem cat_idx {l1 l2 : Nat} {H1 : Hp} {x y : V} (h1 : IdxL m l1 H1 x) (h2 : IdxL m l2 H1 y) (h3 : l1 + l2 ≤ 1000) (Q : VK) (q : ∀ v H2, Kp no H1 H2 → IdxL m (l1 + l2) H2 v → Q v H2) : rCat x y H1 Q := by
  obtain ⟨a, vs, ea, ha, hla, hva⟩ := h1
  obtain ⟨b, us, eb, hb, hlb, hvb⟩ := h2
  subst ea eb
  refine ⟨a, b, vs, us, rfl, rfl, ha, hb, Nat.le_trans (show vs.length + us.length ≤ 1000 by omega) (by decide), fun z hz => q _ _ (Kp.new hz) ⟨z, vs ++ us, rfl, upd_same, by rw [List.length_append]; omega, fun u mu => ?_⟩⟩
  rcases List.mem_append.mp mu with mu | mu
  · exact (hva u mu).up (Kp.new (p := no) hz)
  · exact (hvb u mu).up (Kp.new (p := no) hz)
theorem ev_catI {l1 l2 : Nat} (ha : EvP p tb σ H (IdxL m l1)) (hb : EvP p tc σ H (IdxL m l2)) (h3 : l1 + l2 ≤ 1000) : EvP p (tOp rCat tb tc) σ H (IdxL m (l1 + l2)) :=
  ev_op ha hb fun H1 x y _ h1 h2 Q q => cat_idx h1 h2 h3 Q fun v H2 e h => q v H2 e.any h
theorem ev_max2 {i j : Int} (ha : EvP p tb σ H (IsV (.int i))) (hb : EvP p tc σ H (IsV (.int j))) : EvP p (tCB (fun xs H Q => ∃ i j, xs = [.int i, .int j] ∧ Q (.int (if j > i then j else i)) H) (tCons tb (tCons tc tNil))) σ H (IsV (.int (if j > i then j else i))) := fun H1 e Q q =>
  ha H1 e _ fun x H2 e2 hx => hb H2 (e.trans e2) _ fun y H3 e3 hy => ⟨i, j, by rw [show x = .int i from hx, show y = .int j from hy], q _ H3 (e2.trans e3) rfl⟩
theorem ev_min2 {i j : Int} (ha : EvP p tb σ H (IsV (.int i))) (hb : EvP p tc σ H (IsV (.int j))) : EvP p (tCB (fun xs H Q => ∃ i j, xs = [.int i, .int j] ∧ Q (.int (if j < i then j else i)) H) (tCons tb (tCons tc tNil))) σ H (IsV (.int (if j < i then j else i))) := fun H1 e Q q =>
  ha H1 e _ fun x H2 e2 hx => hb H2 (e.trans e2) _ fun y H3 e3 hy => ⟨i, j, by rw [show x = .int i from hx, show y = .int j from hy], q _ H3 (e2.trans e3) rfl⟩
end
section
variable {P : Program} {w : World} {K : PySem.W.Frag} {mg : Str → Option Value} {base : Heap} {C : Addr}
def YardM (m : Nat) : Hp → V → Prop := fun H v => ∃ rooms, rooms.length ≤ m ∧ YardOf rooms H v
def spYard : Sp := fun vs H Q _ => ∃ (d : Pen) (n m : Nat), vs = [.ref d.d, .int (m : Int)] ∧ PenAt d n H ∧ n ≤ 500000 ∧ 4 ≤ m ∧ m ≤ 9 ∧ Drawn d (n + 100) (YardM m) H Q
theorem scLawYard : FnScope ["_law_pen_here", "_law_most", "_law_way", "_law_many", "_law_rooms", "_law_round_pairs", "_law_half", "_law_some", "_law_bit", "_law_ones", "_law_k"] ["_law_pen_here", "_law_most"] (defScope sLawYard) := ⟨rfl, rfl, rfl, by decide +kernel, rfl, by decide +kernel, by decide +kernel⟩
theorem ok_law_yard {f : Addr} {fd : FuncData} (F : DefIs K "_law_yard" "_law_yard" sLawYard f fd) (T : TopF K mg C) (C_LawDraw : Can P w K mg base "_law_draw" 1 ["_law_pen_here", "_law_many"] spDraw) (C_LawNames : Can P w K mg base "_law_names" 3 ["_law_pen_here", "_law_many"] (spNames K)) (C_LawDrawnPairs : Can P w K mg base "_law_drawn_pairs" 2 ["_law_pen_here", "_law_many", "_law_count"] spDrawnPairs) (C_LawWithDoors : Can P w K mg base "_law_with_doors" 3 ["_law_rooms", "_law_pairs"] (spWithDoors K)) : FnOk P w K mg base CX0 4 f fd ["_law_pen_here", "_law_most"] spYard := by
  refine def_ok F scLawYard (fun vs H Q E h => ?_) (fun cdv A outer s H vs Q E hr h => ?_)
  · obtain ⟨_, _, _, rfl, _⟩ := h
    rfl
  · obtain ⟨d, n, mo, rfl, pn, hn, hm4, hm9, q⟩ := h
    refine ⟨_, (pss_cons (ps_asg (pe_tup (pa_cons (pe_fn C_LawDraw hr rfl (pa_cons (pv 0) (pa_cons pe_int pa_nil))) (pa_cons (pe_op op_add pe_int (pe_fn C_LawDraw hr rfl (pa_cons (pv 0) (pa_cons (pv 1) pa_nil)))) pa_nil))) (pg_tupK (K := K) (n := 2) rfl rfl (pgs_cons (pg_name (i := 2) scLawYard.nd rfl (.inl rfl)) (pgs_cons (pg_name (i := 3) scLawYard.nd rfl (.inr rfl)) pgs_nil))))
      (pss_cons (ps_set (i := 3) scLawYard.nd rfl (.inr rfl) (pe_ifExp (pt_cmpR op_gt (pe_fn C_LawDraw hr rfl (pa_cons (pv 0) (pa_cons pe_int pa_nil))) pe_int (nomark _)) (pe_callB (id := "max") (call_max2 rfl) (by rfl) T.z_max (by decide +kernel) (pa_cons (pv 3) (pa_cons (pe_callB (id := "min") (call_min2 rfl) (by rfl) T.z_min (by decide +kernel) (pa_cons pe_int (pa_cons (pv 1) pa_nil))) pa_nil))) (pv 3)))
      (pss_cons (ps_set (i := 4) scLawYard.nd rfl (.inl rfl) (pe_fn C_LawNames hr rfl (pa_cons (pv 0) (pa_cons (pv 3) pa_nil))))
      (pss_cons (ps_setLc (i := 5) (own := [("_law_k", 10)]) rfl scLawYard.nd rfl rfl (sw_true rfl rfl rfl (by decide +kernel)) (pi_range1 rfl T.z_range (pa_cons (pv 3) pa_nil)) (blkOk_by (own := [("_law_k", 10)]) (N := ["_law_pen_here", "_law_most", "_law_way", "_law_many", "_law_rooms", "_law_round_pairs", "_law_half", "_law_some", "_law_bit", "_law_ones", "_law_k"]) (sc := defScope sLawYard) (by decide +kernel)) (fun _ _ _ _ _ => (pg_name (i := 10) scLawYard.nd rfl (.inl rfl))) (fun _ _ _ _ _ => pts_nil) (fun _ _ _ _ _ => (pe_tup (pa_cons (pv 10) (pa_cons (pe_op op_modN (pe_op op_add (pv 10) pe_int) (pv 3)) pa_nil)))))
      (pss_cons (ps_asg (pe_tup (pa_cons (pe_callB (id := "max") (call_max2 rfl) (by rfl) T.z_max (by decide +kernel) (pa_cons pe_int (pa_cons (pe_op op_fdivN (pv 3) pe_int) pa_nil))) (pa_cons (pe_lst pa_nil) pa_nil))) (pg_tupK (K := K) (n := 2) rfl rfl (pgs_cons (pg_name (i := 6) scLawYard.nd rfl (.inr rfl)) (pgs_cons (pg_name (i := 7) scLawYard.nd rfl (.inl rfl)) pgs_nil))))
      (pss_cons (ps_if (pt_cmpR op_lt (pv 2) pe_int (nomark _))
        (pss_one (ps_set (i := 7) scLawYard.nd rfl (.inl rfl) (pe_op op_cat (pv 5) (pe_fn C_LawDrawnPairs hr rfl (pa_cons (pv 0) (pa_cons (pv 3) (pa_cons (pe_ix (ixK (r := rIxL) (K := K) ix_list rfl) (pe_lst (pa_cons pe_int (pa_cons pe_int (pa_cons pe_int pa_nil)))) (pv 2) (fun _ _ => rfl)) pa_nil)))))))
        (pss_one (ps_if (pt_cmpR op_eq (pv 2) pe_int (nomark _))
          (pss_one (ps_setLc (i := 7) (own := [("_law_k", 10)]) rfl scLawYard.nd rfl rfl (sw_true rfl rfl rfl (by decide +kernel)) (pi_range2 rfl T.z_range (pa_cons pe_int (pa_cons (pv 3) pa_nil))) (blkOk_by (own := [("_law_k", 10)]) (N := ["_law_pen_here", "_law_most", "_law_way", "_law_many", "_law_rooms", "_law_round_pairs", "_law_half", "_law_some", "_law_bit", "_law_ones", "_law_k"]) (sc := defScope sLawYard) (by decide +kernel)) (fun _ _ _ _ _ => (pg_name (i := 10) scLawYard.nd rfl (.inl rfl))) (fun _ _ _ _ _ => pts_nil) (fun _ _ _ _ _ => (pe_tup (pa_cons (pv 10) (pa_cons (pe_fn C_LawDraw hr rfl (pa_cons (pv 0) (pa_cons (pv 10) pa_nil))) pa_nil))))))
          (pss_one (ps_if (pt_cmpR op_eq (pv 2) pe_int (nomark _))
            (pss_cons (ps_setLc (i := 7) (own := [("_law_k", 10)]) rfl scLawYard.nd rfl rfl (sw_true rfl rfl rfl (by decide +kernel)) (pi_range1 rfl T.z_range (pa_cons (pe_op op_sub (pv 3) (pv 6)) pa_nil)) (blkOk_by (own := [("_law_k", 10)]) (N := ["_law_pen_here", "_law_most", "_law_way", "_law_many", "_law_rooms", "_law_round_pairs", "_law_half", "_law_some", "_law_bit", "_law_ones", "_law_k"]) (sc := defScope sLawYard) (by decide +kernel)) (fun _ _ _ _ _ => (pg_name (i := 10) scLawYard.nd rfl (.inl rfl))) (fun _ _ _ _ _ => pts_nil) (fun _ _ _ _ _ => (pe_tup (pa_cons (pv 10) (pa_cons (pe_op op_add (pv 6) (pv 10)) pa_nil)))))
            (pss_one (ps_set (i := 7) scLawYard.nd rfl (.inl rfl) (pe_op op_cat (pv 7) (pe_lc (own := [("_law_k", 10)]) rfl scLawYard.nd (pi_range1 rfl T.z_range (pa_cons (pe_op op_sub (pv 3) pe_int) pa_nil)) (blkOk_by (own := [("_law_k", 10)]) (N := ["_law_pen_here", "_law_most", "_law_way", "_law_many", "_law_rooms", "_law_round_pairs", "_law_half", "_law_some", "_law_bit", "_law_ones", "_law_k"]) (sc := defScope sLawYard) (by decide +kernel)) (fun _ _ _ _ _ => (pg_name (i := 10) scLawYard.nd rfl (.inl rfl))) (fun _ _ _ _ _ => (pts_one (pt_cmpR op_ne (pv 10) (pe_op op_sub (pv 6) pe_int) (nomark _)))) (fun _ _ _ _ _ => (pe_tup (pa_cons (pv 10) (pa_cons (pe_op op_add (pv 10) pe_int) pa_nil)))))))))
            (pss_one (ps_if (pt_cmpR op_eq (pv 2) pe_int (nomark _))
              (pss_one (ps_for PassesOwn.never rfl (pi_tupK (K := K) rfl (pe_tup (pa_cons pe_int (pa_cons pe_int (pa_cons pe_int pa_nil))))) (pg_name (i := 8) scLawYard.nd rfl (.inr rfl))
                (pss_cons (ps_setLc (i := 9) (own := [("_law_k", 10)]) rfl scLawYard.nd rfl rfl (sw_true rfl rfl rfl (by decide +kernel)) (pi_range1 rfl T.z_range (pa_cons (pe_op op_sub (pv 3) (pv 8)) pa_nil)) (blkOk_by (own := [("_law_k", 10)]) (N := ["_law_pen_here", "_law_most", "_law_way", "_law_many", "_law_rooms", "_law_round_pairs", "_law_half", "_law_some", "_law_bit", "_law_ones", "_law_k"]) (sc := defScope sLawYard) (by decide +kernel)) (fun _ _ _ _ _ => (pg_name (i := 10) scLawYard.nd rfl (.inl rfl))) (fun _ _ _ _ _ => (pts_one (pt_cmpR op_eq (pe_op op_modN (pe_op op_fdivN (pv 10) (pv 8)) pe_int) pe_int (nomark _)))) (fun _ _ _ _ _ => (pv 10)))
                (pss_one (ps_expr (pe_bm PySem.F.plainAttrs_list PySem.F.slot_list_extend PySem.F.type_list_extend mt_extend (pv 7) (pa_cons (pe_lc (own := [("_law_k", 10)]) rfl scLawYard.nd (pi_listK (K := K) rfl (pv 9)) (blkOk_by (own := [("_law_k", 10)]) (N := ["_law_pen_here", "_law_most", "_law_way", "_law_many", "_law_rooms", "_law_round_pairs", "_law_half", "_law_some", "_law_bit", "_law_ones", "_law_k"]) (sc := defScope sLawYard) (by decide +kernel)) (fun _ _ _ _ _ => (pg_name (i := 10) scLawYard.nd rfl (.inl rfl))) (fun _ _ _ _ _ => pts_nil) (fun _ _ _ _ _ => (pe_tup (pa_cons (pv 10) (pa_cons (pe_op op_add (pv 10) (pv 8)) pa_nil))))) pa_nil)))))))
              (pss_one (ps_if (pt_cmpR op_eq (pv 2) pe_int (nomark _))
                (pss_cons (ps_setLc (i := 7) (own := [("_law_k", 10)]) rfl scLawYard.nd rfl rfl (sw_true rfl rfl rfl (by decide +kernel)) (pi_range1 rfl T.z_range (pa_cons (pv 6) pa_nil)) (blkOk_by (own := [("_law_k", 10)]) (N := ["_law_pen_here", "_law_most", "_law_way", "_law_many", "_law_rooms", "_law_round_pairs", "_law_half", "_law_some", "_law_bit", "_law_ones", "_law_k"]) (sc := defScope sLawYard) (by decide +kernel)) (fun _ _ _ _ _ => (pg_name (i := 10) scLawYard.nd rfl (.inl rfl))) (fun _ _ _ _ _ => pts_nil) (fun _ _ _ _ _ => (pe_tup (pa_cons (pv 10) (pa_cons (pe_op op_modN (pe_op op_add (pv 10) pe_int) (pv 6)) pa_nil)))))
                (pss_one (ps_set (i := 7) scLawYard.nd rfl (.inl rfl) (pe_op op_cat (pv 7) (pe_lc (own := [("_law_k", 10)]) rfl scLawYard.nd (pi_range2 rfl T.z_range (pa_cons (pv 6) (pa_cons (pe_op op_sub (pv 3) pe_int) pa_nil))) (blkOk_by (own := [("_law_k", 10)]) (N := ["_law_pen_here", "_law_most", "_law_way", "_law_many", "_law_rooms", "_law_round_pairs", "_law_half", "_law_some", "_law_bit", "_law_ones", "_law_k"]) (sc := defScope sLawYard) (by decide +kernel)) (fun _ _ _ _ _ => (pg_name (i := 10) scLawYard.nd rfl (.inl rfl))) (fun _ _ _ _ _ => pts_nil) (fun _ _ _ _ _ => (pe_tup (pa_cons (pv 10) (pa_cons (pe_op op_add (pv 10) pe_int) pa_nil)))))))))
                (pss_one (ps_set (i := 7) scLawYard.nd rfl (.inl rfl) (pe_fn C_LawDrawnPairs hr rfl (pa_cons (pv 0) (pa_cons (pv 3) (pa_cons (pe_callB (id := "min") (call_min2 rfl) (by rfl) T.z_min (by decide +kernel) (pa_cons pe_int (pa_cons (pe_op op_mul pe_int (pv 3)) pa_nil))) pa_nil)))))))))))))))
      (pss_one (ps_ret (pe_fn C_LawWithDoors hr rfl (pa_cons (pv 4) (pa_cons (pv 7) pa_nil))))))))))), ?_⟩
    have fin : ∀ (m w : Nat) (a b c e g : Option V) (rv sv : V) (H' : Hp), m ≤ mo → Kp (only d.d) H H' → PenAt d (n + 100) H' → RoomsP K m H' rv → IdxL m 400 H' sv → tRet (tCall (spWithDoors K) [] E0 (tCons (tVar 4) (tCons (tVar 7) tNil))) { nx := fun _ H' => Q .non H', rt := Q } [some (.ref d.d), some (.int (mo : Int)), some (.int (w : Int)), some (.int (m : Int)), some rv, a, b, some sv, c, e, g] H' := fun m w a b c e g rv sv H' hmo k p ⟨rooms, rok, rl, hrv⟩ hsv =>
      s_ret (p := no) (P := YardM mo) ((ev_fn (sp := spWithDoors K) (Ps := [LstP K rooms, IdxL m 400]) (C := RoomsOk rooms ∧ m ≤ rooms.length ∧ 400 ≤ 400) (S := YardOf rooms) (fun vs H Q g => ⟨rooms, m, 400, g⟩) (ea_cons (ev_var (P := LstP K rooms) rfl hrv) (ea_cons (ev_var (P := IdxL m 400) rfl hsv) ea_nil)) ⟨rok, by omega, Nat.le_refl _⟩).imp fun H2 v _ hv => ⟨rooms, by omega, hv⟩) fun v H2 e2 hv => q v H2 (k.trans e2.any) (p.up e2) hv
    have penV : ∀ {σ : L2.St} {H' : Hp}, σ[0]? = some (some (.ref d.d)) → EvP no (tVar 0) σ H' (IsV (.ref d.d)) := fun h => ev_val h
    refine (ed_draw (d := d) (n := n) (x := 9) (E := E0) (σ := [some (.ref d.d), some (.int (mo : Int)), none, none, none, none, none, none, none, none, none]) (tp := tVar 0) (tm := tC (.int 9)) (fun H1 _ => penV rfl) (fun H1 _ => ev_c) (by decide) (by decide) (by omega)) H (Kp.refl _ _) pn _ fun v1 H1 e1 p1 ⟨wy, hwy, ev1⟩ => ?_
    refine (ed_op (d := d) (n := n + 1) (m := n + 1) (k := n + 2) (P := IsV (.int 1)) (R := BelowP mo) (S := fun _ v => ∃ c : Nat, 1 ≤ c ∧ c ≤ mo ∧ v = .int (c : Int)) (ta := tC (.int 1)) (tb := tCall spDraw [] E0 (tCons (tVar 0) (tCons (tVar 1) tNil))) (σ := [some (.ref d.d), some (.int (mo : Int)), none, none, none, none, none, none, none, none, none]) (ed_pure fun H1 _ => ev_c) (ed_draw (x := mo) (fun H1 _ => penV rfl) (fun H1 _ => ev_val rfl) (by omega) (by omega) (by omega)) fun H1 x y e1 hx ⟨r, hr, ey⟩ Q q => ?_ : EvD d (n + 1) (n + 2) (tOp (rI0 fun i j => .int (i + j)) _ _) _ H1 _) H1 (Kp.refl _ _) p1 _ fun v2 H2 e2 p2 ⟨m0, hm01, hm0, ev2⟩ => ?_
    · have ex : x = .int 1 := hx
      subst ex ey
      exact ⟨1, (r : Int), rfl, rfl, q _ H1 (Kp.refl _ _) ⟨r + 1, by omega, by omega, congrArg V.int (by omega)⟩⟩
    subst ev1 ev2
    refine ⟨by show 2 ≤ sizeLine; decide, fun z hz => ⟨z, _, rfl, .inl (.inl upd_same), rfl, _, _, rfl, _, _, rfl, rfl, ?_⟩⟩
    dsimp only
    show tSeq (tAsg _ _) _ _ [some (.ref d.d), some (.int (mo : Int)), some (.int (wy : Int)), some (.int (m0 : Int)), none, none, none, none, none, none, none] _
    have k3 : Kp (only d.d) H (upd H2 z (.tup [.int (wy : Int), .int (m0 : Int)])) := (e1.trans e2).trans (Kp.new hz)
    have p3 := p2.up (Kp.new (p := no) (o := .tup [.int (wy : Int), .int (m0 : Int)]) hz)
    generalize upd H2 z (.tup [.int (wy : Int), .int (m0 : Int)]) = H3 at k3 p3 ⊢
    refine qd_set (d := d) (n := n + 2) (m := n + 3) (i := 3) (P := fun _ v => ∃ m : Nat, 1 ≤ m ∧ m ≤ mo ∧ v = .int (m : Int)) (fun H4 e4 p4 Q4 q4 => ?_) p3 fun v4 H4 e4 p4 ⟨m, hm1, hmm, ev4⟩ => ?_
    · refine (ed_draw (d := d) (n := n + 2) (x := 4) (E := E0) (σ := [some (.ref d.d), some (.int (mo : Int)), some (.int (wy : Int)), some (.int (m0 : Int)), none, none, none, none, none, none, none]) (tp := tVar 0) (tm := tC (.int 4)) (fun H1 _ => penV rfl) (fun H1 _ => ev_c) (by decide) (by decide) (by omega)) H4 (Kp.refl _ _) p4 _ fun v5 H5 e5 p5 ⟨r, hr4, ev5⟩ => ?_
      subst ev5
      refine ⟨(r : Int), 0, rfl, rfl, decide ((0 : Int) < (r : Int)), rfl, ?_⟩
      cases hb : decide ((0 : Int) < (r : Int)) with
      | true =>
        rw [if_pos rfl]
        refine (ev_max2 (p := no) (σ := [some (.ref d.d), some (.int (mo : Int)), some (.int (wy : Int)), some (.int (m0 : Int)), none, none, none, none, none, none, none]) (ev_val (i := 3) (v := .int (m0 : Int)) rfl) (ev_min2 (ev_c (v := .int 4)) (ev_val (i := 1) (v := .int (mo : Int)) rfl))) H5 (Kp.refl _ _) _ fun v6 H6 e6 hv => q4 v6 H6 (e5.trans e6.any) (p5.up e6) ?_
        have hv : v6 = .int _ := hv
        refine ⟨max m0 4, by omega, by omega, ?_⟩
        rw [hv]
        congr 1
        have : (if (mo : Int) < 4 then (mo : Int) else 4) = 4 := if_neg (by omega)
        rw [this]
        split <;> omega
      | false =>
        rw [if_neg (by decide)]
        exact ⟨_, rfl, q4 _ H5 e5 p5 ⟨m0, hm01, hm0, rfl⟩⟩
    subst ev4
    show tSeq _ _ _ [some (.ref d.d), some (.int (mo : Int)), some (.int (wy : Int)), some (.int (m : Int)), none, none, none, none, none, none, none] H4
    refine qd_set (d := d) (n := n + 3) (m := n + 16) (i := 4) (P := RoomsP K m) (ed_call (sp := spNames K) (Ps := [IsV (.ref d.d), IsV (.int (m : Int))]) (fun H5 _ => ea_cons (penV rfl) (ea_cons (ev_val rfl) ea_nil)) fun H5 vs e5 p5 hv Q5 q5 => ?_) p4 fun rv H5 e5 p5 hrv => ?_
    · obtain ⟨u1, u2, rfl, h1, h2⟩ := args2 hv
      obtain rfl : u1 = .ref d.d := h1
      obtain rfl : u2 = .int (m : Int) := h2
      exact ⟨d, _, m, rfl, p5, by omega, hm1, by omega, q5⟩
    show tSeq _ _ _ [some (.ref d.d), some (.int (mo : Int)), some (.int (wy : Int)), some (.int (m : Int)), some rv, none, none, none, none, none, none] H5
    refine q_set (p := no) (i := 5) (P := IdxL m 9) ((ev_lcZ1 (p := no) (z := (m : Int)) (f := fun _ => true) (R := fun _ => IdxV m) (fun _ => inferInstance) (fun _ => rfl) (by omega) (ea_cons (ev_val (i := 3) rfl) ea_nil) (fun _ _ _ _ => eb_yes) fun k hk _ H6 e6 => ev_pairV (a := k) (b := (k + 1) % m) (ev_val rfl) (EvP.val (ev_modN (ev_add (ev_val (i := 10) (v := .int (k : Int)) rfl) ev_c) (ev_val (i := 3) (v := .int (m : Int)) rfl) (by omega)) (congrArg V.int ?_)) (by omega) (Nat.mod_lt _ (by omega))).imp fun H6 v e6 hv => (idxL_of hv).more ?_) fun rpv H6 e6 hrp => ?_
    · rw [show (k : Int) + 1 = ((k + 1 : Nat) : Int) by omega, nat_fmod]
    · refine Nat.le_trans (List.length_filter_le _ _) ?_
      rw [List.length_range]
      omega
    show tSeq _ _ _ [some (.ref d.d), some (.int (mo : Int)), some (.int (wy : Int)), some (.int (m : Int)), some rv, some rpv, none, none, none, none, none] H6
    have k6 : Kp (only d.d) H H6 := ((k3.trans e4).trans e5).trans e6.any
    have p6 := p5.up e6
    have hrv6 : RoomsP K m H6 rv := Stay.stay e6 hrv
    refine q_te (tup_te ?_)
    refine (ev_max2 (p := no) (σ := [some (.ref d.d), some (.int (mo : Int)), some (.int (wy : Int)), some (.int (m : Int)), some rv, some rpv, none, none, none, none, none]) (ev_c (v := .int 1)) (ev_fdN (ev_val (i := 3) (v := .int (m : Int)) rfl) (ev_c (v := .int 2)) ⟨by decide, by decide⟩)) H6 (Kp.refl _ _) _ fun v7 H7 e7 hv7 => ?_
    refine ⟨Nat.zero_le _, fun fs hfs => ⟨by show 2 ≤ sizeLine; decide, fun z8 hz8 => ⟨z8, _, rfl, .inl (.inl upd_same), rfl, _, _, rfl, _, _, rfl, rfl, ?_⟩⟩⟩
    obtain ⟨hf, hf1, hfm, evf⟩ : ∃ hf : Nat, 1 ≤ hf ∧ hf ≤ m ∧ v7 = .int (hf : Int) := by
      refine ⟨max 1 (m / 2), by omega, by omega, ?_⟩
      rw [show v7 = _ from hv7]
      congr 1
      rw [Int.fdiv_eq_ediv_of_nonneg _ (by decide)]
      split <;> omega
    subst evf
    show tSeq (tIfS _ _ _) _ _ [some (.ref d.d), some (.int (mo : Int)), some (.int (wy : Int)), some (.int (m : Int)), some rv, some rpv, some (.int (hf : Int)), some (.ref fs), none, none, none] _
    have e78 : Kp no H6 (upd (upd H7 fs (.lst [])) z8 (.tup [.int (hf : Int), .ref fs])) := (e7.trans (Kp.new hfs)).trans (Kp.new hz8)
    have fs0 : H fs = none := (k6.trans e7.any).free hfs
    have f8 := (Kp.new (p := no) (o := .tup [.int (hf : Int), .ref fs]) hz8).at (upd_same (H := H7) (a := fs) (o := .lst []))
    generalize upd (upd H7 fs (.lst [])) z8 (.tup [.int (hf : Int), .ref fs]) = H8 at e78 f8 ⊢
    have k8 := k6.trans e78.any
    have p8 := p6.up e78
    have hrv8 : RoomsP K m H8 rv := Stay.stay e78 hrv6
    have hrp8 : IdxL m 9 H8 rpv := Stay.stay e78 hrp
    have drawn : ∀ {σ : L2.St} {H9 : Hp} {tm : TE} {c N : Nat}, σ[0]? = some (some (.ref d.d)) → σ[3]? = some (some (.int (m : Int))) → (∀ H10, EvP no tm σ H10 (IsV (.int (c : Int)))) → c ≤ 1000 → N + 2 * c ≤ 1000000 → EvD d N (N + 2 * c) (tCall spDrawnPairs [] E0 (tCons (tVar 0) (tCons (tVar 3) (tCons tm tNil)))) σ H9 (IdxL m c) := fun {σ H9 tm c N} h0 h3 hc c1 c2 =>
      ed_call (sp := spDrawnPairs) (Ps := [IsV (.ref d.d), IsV (.int (m : Int)), IsV (.int (c : Int))]) (fun H5 _ => ea_cons (penV h0) (ea_cons (ev_val h3) (ea_cons (hc H5) ea_nil))) fun H5 vs e5 p5 hv Q5 q5 => by
        obtain ⟨u1, u2, u3, rfl, h1, h2, h3⟩ := args3 hv
        obtain rfl : u1 = .ref d.d := h1
        obtain rfl : u2 = .int (m : Int) := h2
        obtain rfl : u3 = .int (c : Int) := h3
        exact ⟨d, N, m, c, rfl, p5, by omega, hm1, by omega, by omega, q5⟩
    have way : ∀ {H9 : Hp} {a7 a8 a9 a10 : Option V} (c : Int), EvB no (tTest (tOp rEq (tVar 2) (tC (.int c)))) [some (.ref d.d), some (.int (mo : Int)), some (.int (wy : Int)), some (.int (m : Int)), some rv, some rpv, some (.int (hf : Int)), a7, a8, a9, a10] H9 (decide (V.int (wy : Int) = V.int c)) := fun c => eb_test (ev_eq (ev_val rfl) ev_c rfl)
    have nv : ∀ c : Int, decide (V.int (wy : Int) = V.int c) = true → (wy : Int) = c := fun c h => V.int.inj (of_decide_eq_true h)
    have rvv : ∀ {H9 : Hp}, Kp (only d.d) H8 H9 → RoomsP K m H9 rv := fun e => Stay.stay e hrv8
    have sub1 : ∀ {σ : L2.St} {H9 : Hp} {i j : Nat} {a b : Int}, σ[i]? = some (some (.int a)) → σ[j]? = some (some (.int b)) → EvP no (tOp (rI0 fun i j => .int (i - j)) (tVar i) (tVar j)) σ H9 (IsV (.int (a - b))) := fun h1 h2 => ev_sub (ev_val h1) (ev_val h2)
    refine q_if (p := no) (b := decide ((wy : Int) < 3)) (eb_test (ev_lt (ev_val (i := 2) rfl) ev_c)) (fun hb H9 e9 => ?_) (fun hb H9 e9 => ?_)
    · have hw3 : wy < 3 := by
        have := of_decide_eq_true hb
        omega
      obtain ⟨c, hc, hat⟩ : ∃ c : Nat, c ≤ 4 ∧ atI [V.int 0, V.int 1, V.int 4] (wy : Int) = some (.int (c : Int)) := by
        match wy, hw3 with
        | 0, _ => exact ⟨0, by decide, atI_nat (j := 0) rfl⟩
        | 1, _ => exact ⟨1, by decide, atI_nat (j := 1) rfl⟩
        | 2, _ => exact ⟨4, by decide, atI_nat (j := 2) rfl⟩
      refine sd_set (d := d) (n := n + 16) (m := n + 16 + 2 * c) (i := 7) (P := IdxL m (9 + c)) (ed_op (P := IdxL m 9) (R := IdxL m c) (ed_pure fun H10 e10 => ev_var rfl (Stay.stay (e9.any.trans e10) hrp8)) (drawn rfl rfl (fun H10 H11 e11 Q11 q11 => ⟨by show 3 ≤ sizeLine; decide, fun z hz => ⟨.int (wy : Int), rfl, z, [V.int 0, V.int 1, V.int 4], (wy : Int), .int (c : Int), rfl, rfl, .inl (.inl upd_same), hat, q11 _ _ (Kp.new hz) rfl⟩⟩) (by omega) (by omega)) fun H10 x y _ h1 h2 Q10 q10 => cat_idx h1 h2 (by omega) Q10 q10) (p8.up e9) fun sv H10 e10 p10 hsv => ?_
      exact fin m wy _ _ _ _ _ rv sv H10 hmm ((k8.trans e9.any).trans e10) (p10.more (by omega)) (rvv (e9.any.trans e10)) (hsv.more (by omega))
    · refine s_if (p := no) (way 3) (fun hb2 H10 e10 => ?_) (fun hb2 H10 e10 => ?_)
      · refine s_te ?_
        have k10 := (e9.trans e10)
        have p10 := (p8.up e9).up e10
        refine ⟨.int (m : Int), rfl, 1, (m : Int), rfl, ⟨by omega, by omega, by omega, by omega⟩, fun D hD => ?_⟩
        refine lc_it (walk_range (lo := 1) (n := ((m : Int) - 1).toNat)) (fun i H' => Kp (only d.d) H10 H' ∧ PenAt d (n + 16 + i) H' ∧ ∃ acc, H' D = some (.lst acc) ∧ acc.length ≤ i ∧ ∀ u ∈ acc, IdxV m H' u) ⟨Kp.new hD, PenAt.mut p10 hD p10, [], upd_same, Nat.le_refl _, fun _ m => absurd m List.not_mem_nil⟩ (fun _ _ _ _ => trivial) (fun i x H' H'' hi h y => ?_) fun H' h => ?_
        · obtain ⟨rfl, ex⟩ := y
          obtain ⟨e11, p11, acc, ha, hal, hit⟩ := h
          have ex : x = .int ((1 + i : Nat) : Int) := by
            rw [ex]
            exact congrArg V.int (by omega)
          subst ex
          refine ⟨rfl, yes_if ?_⟩
          refine (ed_tup2 (d := d) (n := n + 16 + i) (m := n + 16 + i) (k := n + 16 + i + 1) (P := IsV (.int ((1 + i : Nat) : Int))) (R := BelowP (1 + i)) (ta := tVar 10) (tb := tCall spDraw [] E0 (tCons (tVar 0) (tCons (tVar 10) tNil))) (ed_pure fun H12 _ => ev_val rfl) (ed_draw (fun H12 _ => penV rfl) (fun H12 _ => ev_val rfl) (by omega) (by omega) (by omega))) H'' (Kp.refl _ _) p11 _ fun v H12 e12 p12 hv => ?_
          obtain ⟨b, u, z, rfl, hb, hu1, ⟨i2, hi2, rfl⟩⟩ := hv
          obtain rfl : u = .int ((1 + i : Nat) : Int) := hu1
          have ha2 := e12.lst ha
          have keep : ∀ {u : V}, IdxV m H12 u → IdxV m (upd H12 D (.lst (acc ++ [.ref b]))) u := fun {u} ⟨b, i, j, h1, h2, h3⟩ => ⟨b, i, j, h1, by rw [upd_ne fun z => by rw [z, ha2] at h2; cases h2]; exact h2, h3⟩
          refine ⟨acc, ha2, ?_, (e11.trans e12).mut hD, PenAt.mut p10 hD p12, acc ++ [.ref b], upd_same, ?_, fun u mu => ?_⟩
          · have : 100000 < sizeLine := by decide
            omega
          · rw [List.length_append, List.length_singleton]
            omega
          · rcases List.mem_append.mp mu with mu | mu
            · exact keep ((hit u mu).up e12)
            · rw [List.mem_singleton.mp mu]
              exact keep ⟨b, 1 + i, i2, rfl, hb, by omega, by omega⟩
        · obtain ⟨e11, p11, acc, ha, hal, hit⟩ := h
          exact fin m wy _ _ _ _ _ rv (.ref D) H' hmm ((k8.trans k10.any).trans e11) (p11.more (by omega)) (rvv (k10.any.trans e11)) ⟨D, acc, rfl, ha, by omega, hit⟩
      · refine s_if (p := no) (way 4) (fun hb3 H11 e11 => ?_) (fun hb3 H11 e11 => ?_)
        · have k11 := (e9.trans e10).trans e11
          refine q_set (p := no) (i := 7) (P := IdxL m 9) ((ev_lcZ1 (p := no) (z := (m : Int) - (hf : Int)) (f := fun _ => true) (R := fun _ => IdxV m) (fun _ => inferInstance) (fun _ => rfl) (by omega) (ea_cons (sub1 rfl rfl) ea_nil) (fun _ _ _ _ => eb_yes) fun k hk _ H12 e12 => ev_pairV (a := k) (b := hf + k) (ev_val rfl) (EvP.val (ev_add (ev_val (i := 6) (v := .int (hf : Int)) rfl) (ev_val (i := 10) (v := .int (k : Int)) rfl)) (congrArg V.int (by omega))) (by omega) (by omega)).imp fun H12 v _ hv => (idxL_of hv).more ?_) fun sv H12 e12 hsv => ?_
          · refine Nat.le_trans (List.length_filter_le _ _) ?_
            rw [List.length_range]
            omega
          · refine s_set (p := no) (i := 7) (P := IdxL m (9 + 9)) (ev_catI (ev_var rfl hsv) ((ev_lcZ1 (p := no) (z := (m : Int) - 1) (f := fun k => !decide (V.int (k : Int) = V.int ((hf : Int) - 1))) (R := fun _ => IdxV m) (fun _ => inferInstance) (fun _ => rfl) (by omega) (ea_cons (ev_sub (ev_val (i := 3) rfl) ev_c) ea_nil) (fun k hk H13 e13 => eb_test (ev_ne (ev_val rfl) (ev_sub (ev_val (i := 6) rfl) ev_c) rfl)) fun k hk _ H13 e13 => ev_pairV (a := k) (b := k + 1) (ev_val rfl) (EvP.val (ev_add (ev_val (i := 10) (v := .int (k : Int)) rfl) ev_c) (congrArg V.int (by omega))) (by omega) (by omega)).imp fun H13 v _ hv => (idxL_of hv).more ?_) (by omega)) fun sv2 H13 e13 hsv2 => ?_
            · refine Nat.le_trans (List.length_filter_le _ _) ?_
              rw [List.length_range]
              omega
            · exact fin m wy _ _ _ _ _ rv sv2 H13 hmm (k8.trans ((k11.trans e12).trans e13).any) ((p8.up ((k11.trans e12).trans e13)).more (by omega)) (rvv ((k11.trans e12).trans e13).any) (hsv2.more (by omega))
        · refine s_if (p := no) (way 5) (fun hb4 H12 e12 => ?_) (fun hb4 H12 e12 => ?_)
          · have k12 := ((e9.trans e10).trans e11).trans e12
            refine ⟨by show 3 ≤ sizeLine; decide, fun z hz => ⟨z, rfl, ⟨_, .inl (.inl upd_same)⟩, ?_⟩⟩
            have kz : Kp no H8 (upd H12 z (.tup [.int 1, .int 2, .int 4])) := k12.trans (Kp.new hz)
            have z13 : upd H12 z (.tup [.int 1, .int 2, .int 4]) z = some (.tup [.int 1, .int 2, .int 4]) := upd_same
            generalize upd H12 z (.tup [.int 1, .int 2, .int 4]) = H13 at kz z13 ⊢
            refine for_tup (K := K) (xs := [V.int 1, V.int 2, V.int 4]) (fun i σ' H' => ∃ a b c, σ' = [some (.ref d.d), some (.int (mo : Int)), some (.int (wy : Int)), some (.int (m : Int)), some rv, some rpv, some (.int (hf : Int)), some (.ref fs), a, b, c] ∧ Kp (only d.d) H6 H' ∧ PenAt d (n + 16) H' ∧ H' z = some (.tup [.int 1, .int 2, .int 4]) ∧ ∃ us : List V, H' fs = some (.lst us) ∧ us.length ≤ 9 * i ∧ ∀ u ∈ us, IdxV m H' u) ⟨_, _, _, rfl, e78.any.trans kz.any, p8.up kz, z13, [], kz.at f8, Nat.zero_le _, fun _ m => absurd m List.not_mem_nil⟩ (fun i σ' H' _ h => ?_) (fun i x σ' H' hx h => ?_) fun σ' H' h => ?_
            · obtain ⟨_, _, _, _, _, _, h, _⟩ := h
              exact .inl (.inl h)
            · obtain ⟨a, b, c, rfl, e14, p14, z14, us, hus, hul, huv⟩ := h
              obtain ⟨bt, hbt1, rfl⟩ : ∃ bt : Nat, (1 ≤ bt ∧ bt ≤ 4) ∧ x = .int (bt : Int) := by
                have := List.mem_of_getElem? hx
                simp only [List.mem_cons, List.not_mem_nil, or_false] at this
                rcases this with rfl | rfl | rfl
                · exact ⟨1, by decide, rfl⟩
                · exact ⟨2, by decide, rfl⟩
                · exact ⟨4, by decide, rfl⟩
              show tSeq _ _ _ [some (.ref d.d), some (.int (mo : Int)), some (.int (wy : Int)), some (.int (m : Int)), some rv, some rpv, some (.int (hf : Int)), some (.ref fs), some (.int (bt : Int)), b, c] H'
              refine q_set (p := no) (i := 9) (P := LstOf (((List.range ((m : Int) - (bt : Int)).toNat).filter fun k => decide (V.int ((k / bt % 2 : Nat) : Int) = V.int 0)).map fun k => IsV (.int ((k : Nat) : Int)))) (ev_lcZ1 (p := no) (z := (m : Int) - (bt : Int)) (f := fun k => decide (V.int ((k / bt % 2 : Nat) : Int) = V.int 0)) (R := fun k => IsV (.int ((k : Nat) : Int))) (fun _ => inferInstance) (fun _ => rfl) (by omega) (ea_cons (sub1 rfl rfl) ea_nil) (fun k hk H15 e15 => eb_test (ev_eq (EvP.val (ev_modN (EvP.val (ev_fdN (ev_val (i := 10) (v := .int (k : Int)) rfl) (ev_val (i := 8) (v := .int (bt : Int)) rfl) ⟨by omega, by omega⟩) (congrArg V.int (nat_fdiv k bt))) (ev_c (v := .int ((2 : Nat) : Int))) (by decide)) (congrArg V.int (nat_fmod _ _))) ev_c rfl)) fun k hk _ H15 e15 => ev_val rfl) fun ov H15 e15 hov => ?_
              show tDrop _ _ [some (.ref d.d), some (.int (mo : Int)), some (.int (wy : Int)), some (.int (m : Int)), some rv, some rpv, some (.int (hf : Int)), some (.ref fs), some (.int (bt : Int)), some ov, c] H15
              have hlen : ((List.range ((m : Int) - (bt : Int)).toNat).filter fun k => decide (V.int ((k / bt % 2 : Nat) : Int) = V.int 0)).length ≤ 9 := by
                refine Nat.le_trans (List.length_filter_le _ _) ?_
                rw [List.length_range]
                omega
              have hmem : ∀ k ∈ ((List.range ((m : Int) - (bt : Int)).toNat).filter fun k => decide (V.int ((k / bt % 2 : Nat) : Int) = V.int 0)), k + bt < m := fun k mk => by
                have := List.mem_range.mp (List.mem_filter.mp mk).1
                omega
              generalize ((List.range ((m : Int) - (bt : Int)).toNat).filter fun k => decide (V.int ((k / bt % 2 : Nat) : Int) = V.int 0)) = onl at hov hlen hmem
              refine ⟨.ref fs, rfl, .inl ⟨rfl, us, .inl (.inl (e15.at hus))⟩, ?_⟩
              refine ((ev_lcOf (p := no) (K := K) (0 : Nat) (σ := [some (.ref d.d), some (.int (mo : Int)), some (.int (wy : Int)), some (.int (m : Int)), some rv, some rpv, some (.int (hf : Int)), some (.ref fs), some (.int (bt : Int)), some ov, c]) (H := H15) (j := 10) (vs := [10]) (l := onl) (S := fun k => IsV (.int ((k : Nat) : Int))) (R := fun _ => IdxV m) (f := fun _ => true) (tl := tVar 9) (tt := tYes) (fun _ => inferInstance) (fun _ => rfl) (by omega) (ev_var rfl hov) (fun _ _ _ _ _ _ => eb_yes) fun k mk _ x H16 e16 hx => ev_pairV (a := k) (b := k + bt) (EvP.val (ev_val rfl) hx) (EvP.val (ev_add (EvP.val (ev_val (i := 10) rfl) hx) (ev_val (i := 8) (v := .int (bt : Int)) rfl)) (congrArg V.int (by omega))) (by have := hmem k mk; omega) (hmem k mk))) H15 (Kp.refl _ _) _ fun cv H16 e16 hcv => ?_
              obtain ⟨cb, cvs, rfl, hcb, hcl, hcvs⟩ := idxL_of hcv
              have hus16 := (e15.trans e16).at hus
              have keep : ∀ {u : V}, IdxV m H16 u → IdxV m (upd H16 fs (.lst (us ++ cvs))) u := fun {u} ⟨b, i, j, h1, h2, h3⟩ => ⟨b, i, j, h1, by rw [upd_ne fun z => by rw [z, hus16] at h2; cases h2]; exact h2, h3⟩
              have i3 : i < 3 := (List.getElem?_eq_some_iff.mp hx).1
              have cl9 : cvs.length ≤ 9 := by
                have := List.length_filter_le (fun _ : Nat => true) onl
                omega
              have z16 := (e15.trans e16).tup z14
              refine ⟨fs, cb, us, cvs, rfl, rfl, hus16, hcb, ?_, _, _, _, rfl, (e14.trans (e15.trans e16).any).mut (e7.free hfs), PenAt.mut pn fs0 (p14.up (e15.trans e16)), by rw [upd_ne fun w => by rw [w, hus16] at z16; cases z16]; exact z16, us ++ cvs, upd_same, ?_, fun u mu => ?_⟩
              · have : 100000 < sizeLine := by decide
                omega
              · rw [List.length_append]
                omega
              · rcases List.mem_append.mp mu with mu | mu
                · exact keep ((huv u mu).up (e15.trans e16))
                · exact keep (hcvs u mu)
            · obtain ⟨a, b, c, rfl, e14, p14, z14, us, hus, hul, huv⟩ := h
              have hul : us.length ≤ 9 * 3 := hul
              exact fin m wy _ _ _ _ _ rv (.ref fs) H' hmm (k6.trans e14) (p14.more (by omega)) (Stay.stay e14 hrv6) ⟨fs, us, rfl, hus, by omega, huv⟩
          · refine s_if (p := no) (way 6) (fun hb5 H13 e13 => ?_) (fun hb5 H13 e13 => ?_)
            · have k13 := (((e9.trans e10).trans e11).trans e12).trans e13
              refine q_set (p := no) (i := 7) (P := IdxL m 9) ((ev_lcZ1 (p := no) (z := (hf : Int)) (f := fun _ => true) (R := fun _ => IdxV m) (fun _ => inferInstance) (fun _ => rfl) (by omega) (ea_cons (ev_val (i := 6) rfl) ea_nil) (fun _ _ _ _ => eb_yes) fun k hk _ H14 e14 => ev_pairV (a := k) (b := (k + 1) % hf) (ev_val rfl) (EvP.val (ev_modN (ev_add (ev_val (i := 10) (v := .int (k : Int)) rfl) ev_c) (ev_val (i := 6) (v := .int (hf : Int)) rfl) (by omega)) (congrArg V.int ?_)) (by omega) (Nat.lt_of_lt_of_le (Nat.mod_lt _ (by omega)) hfm)).imp fun H14 v _ hv => (idxL_of hv).more ?_) fun sv H14 e14 hsv => ?_
              · rw [show (k : Int) + 1 = ((k + 1 : Nat) : Int) by omega, nat_fmod]
              · refine Nat.le_trans (List.length_filter_le _ _) ?_
                rw [List.length_range]
                omega
              · refine s_set (p := no) (i := 7) (P := IdxL m (9 + 9)) (ev_catI (ev_var rfl hsv) ((ev_lcZ2 (p := no) (i0 := hf) (z := (m : Int) - 1) (f := fun _ => true) (R := fun _ => IdxV m) (fun _ => inferInstance) (fun _ => rfl) (by omega) (by omega) (ea_cons (ev_val (i := 6) rfl) (ea_cons (ev_sub (ev_val (i := 3) rfl) ev_c) ea_nil)) (fun _ _ _ _ => eb_yes) fun k hk _ H15 e15 => ev_pairV (a := hf + k) (b := hf + k + 1) (ev_val rfl) (EvP.val (ev_add (ev_val (i := 10) (v := .int ((hf + k : Nat) : Int)) rfl) ev_c) (congrArg V.int (by omega))) (by omega) (by omega)).imp fun H15 v _ hv => (idxL_of hv).more ?_) (by omega)) fun sv2 H15 e15 hsv2 => ?_
                · refine Nat.le_trans (List.length_filter_le _ _) ?_
                  rw [List.length_range]
                  omega
                · exact fin m wy _ _ _ _ _ rv sv2 H15 hmm (k8.trans ((k13.trans e14).trans e15).any) ((p8.up ((k13.trans e14).trans e15)).more (by omega)) (rvv ((k13.trans e14).trans e15).any) (hsv2.more (by omega))
            · have k13 := (((e9.trans e10).trans e11).trans e12).trans e13
              refine sd_set (d := d) (n := n + 16) (m := n + 16 + 2 * (min 28 (2 * m))) (i := 7) (P := IdxL m (min 28 (2 * m))) (drawn rfl rfl (fun H10 => EvP.val (ev_min2 (ev_c (v := .int 28)) (ev_mul (ev_c (v := .int 2)) (ev_val (i := 3) (v := .int (m : Int)) rfl) (.inl (by decide)))) (congrArg V.int ?_)) (by omega) (by omega)) (p8.up k13) fun sv H14 e14 p14 hsv => ?_
              · split <;> omega
              · exact fin m wy _ _ _ _ _ rv sv H14 hmm ((k8.trans k13.any).trans e14) (p14.more (by omega)) (rvv (k13.any.trans e14)) (hsv.more (by omega))
end
end Tau
set_option maxHeartbeats 4000000
namespace Tau
open PySem PySem.Spec PyProof.Rows L2
/-! house; reach, is_split -/
theorem pw_swap (x : Str × Str) : (pw (x.2, x.1)).Perm (pw x) := List.Perm.swap _ _ _
theorem LikeP.pw {qs ps : List (Str × Str)} (h : Like qs ps) : ∀ q ∈ qs, ∃ p ∈ ps, (Tau.pw q).Perm (Tau.pw p) := fun q m => by
  rcases h.mem q m with m | m
  · exact ⟨q, m, .refl _⟩
  · exact ⟨_, m, (pw_swap _).symm⟩
theorem Like.dif {qs ps : List (Str × Str)} (h : Like qs ps) : (ps.Pairwise fun a b => ¬ (pw a).Perm (pw b)) → qs.Pairwise fun a b => ¬ (pw a).Perm (pw b) := by
  induction h with
  | nil => exact id
  | same h ih =>
    intro p
    have p := List.pairwise_cons.mp p
    refine List.pairwise_cons.mpr ⟨fun q m pm => ?_, ih p.2⟩
    obtain ⟨r, mr, pr⟩ := LikeP.pw h q m
    exact p.1 r mr (pm.trans pr)
  | swap h ih =>
    intro p
    have p := List.pairwise_cons.mp p
    refine List.pairwise_cons.mpr ⟨fun q m pm => ?_, ih p.2⟩
    obtain ⟨r, mr, pr⟩ := LikeP.pw h q m
    exact p.1 r mr (((pw_swap _).symm.trans pm).trans pr)
theorem Plan.like {rooms rooms' : List Str} {ps qs : List (Str × Str)} (h : Plan rooms ps) (pm : rooms'.Perm rooms) (l : LikeP qs ps) : Plan rooms' qs := by
  have mem := l.mem
  refine ⟨pm.nodup_iff.mpr h.nd, fun e => h.some (by rw [e] at pm; exact pm.symm.eq_nil), by rw [pm.length_eq]; exact h.small, fun x m => h.name x (pm.mem_iff.mp m), ⟨fun x m => ?_, ?_⟩, by rw [l.len]; exact h.few, fun x y z h1 h2 h3 => ?_⟩
  · rcases mem x m with m | m
    · obtain ⟨a, b, c, d, e⟩ := h.pairs.ok _ m
      exact ⟨a, b, pm.mem_iff.mpr c, pm.mem_iff.mpr d, e⟩
    · obtain ⟨a, b, c, d, e⟩ := h.pairs.ok _ m
      exact ⟨b, a, pm.mem_iff.mpr d, pm.mem_iff.mpr c, fun z => e z.symm⟩
  · obtain ⟨rs, p1, l1⟩ := l
    exact (List.Perm.pairwise_iff (fun h z => h z.symm) p1).mpr (l1.dif h.pairs.dif)
  · exact h.tri x y z ((l.nbs x).mem_iff.mp h1) ((l.nbs y).mem_iff.mp h2) ((l.nbs x).mem_iff.mp h3)
theorem YardAt.upD {rooms : List Str} {ps : List (Str × Str)} {y lr ld : Addr} {H H' : Hp} {p : Addr → Prop} (h : YardAt rooms ps y lr ld H) (ne : ¬ p y) (e : Kp p H H') : YardAt rooms ps y lr ld H' := ⟨e.dk ne h.dict, e.lst h.rooms, Stay.stay e h.doors⟩
theorem yard_ne {rooms : List Str} {ps : List (Str × Str)} {y lr ld : Addr} {H : Hp} {d : Pen} {n : Nat} (h : YardAt rooms ps y lr ld H) (p : PenAt d n H) : ¬ only d.d y := fun e => by
  obtain ⟨a, left, h1, _⟩ := p
  have h2 := h.dict
  rw [show y = d.d from e, h1] at h2
  have := congrArg List.length (HO.dK.inj (Option.some.inj h2))
  have : 3 = 2 := this
  omega
theorem doors_t2 {ps : List (Str × Str)} {H : Hp} {v : V} (h : LstOf (ps.map FrzP) H v) : LstOf (ps.map T2) H v := by
  obtain ⟨a, vs, e, h1, h2⟩ := h
  refine ⟨a, vs, e, h1, ?_⟩
  obtain ⟨bs, rfl, hb, rfl⟩ := h2.zip
  clear h1 h2 e
  induction bs with
  | nil => exact .nil
  | cons b bs ih => exact .cons (hb b (List.mem_cons_self ..)).t2 (ih fun c m => hb c (List.mem_cons_of_mem _ m))
section
variable {P : Program} {w : World} {K : PySem.W.Frag} {mg : Str → Option Value} {base : Heap} {C : Addr}
def HouseFor (K : PySem.W.Frag) (C : Addr) (rooms : List Str) (ps : List (Str × Str)) : Hp → V → Prop := fun H v => ∃ names nb h, names.Perm rooms ∧ (∀ n ∈ names, (nb n).Perm (nbs ps n)) ∧ HouseV K C names nb h H v
def spLawHouse (K : PySem.W.Frag) (C : Addr) : Sp := fun vs H Q _ => ∃ (d : Pen) (n : Nat) (u : V) (rooms : List Str) (ps : List (Str × Str)), vs = [.ref d.d, u] ∧ PenAt d n H ∧ n ≤ 500000 ∧ YardP rooms ps H u ∧ Plan rooms ps ∧ Drawn d (n + 2000) (HouseFor K C rooms ps) H Q
theorem scLawHouse : FnScope ["_law_pen_here", "_law_yard_here"] ["_law_pen_here", "_law_yard_here"] (defScope sLawHouse) := ⟨rfl, rfl, rfl, by decide +kernel, rfl, by decide +kernel, by decide +kernel⟩
theorem ok_law_house {f : Addr} {fd : FuncData} (F : DefIs K "_law_house" "_law_house" sLawHouse f fd) (T : TopF K mg C) (CHouse : CanC P w K mg base "House" C 4 ["self", "rooms", "doors"] (spInit K C)) (C_LawHanded : Can P w K mg base "_law_handed" 3 ["_law_pen_here", "_law_some"] (spHanded K)) (C_LawEither : Can P w K mg base "_law_either" 3 ["_law_pen_here", "_law_pairs"] (spEither K)) : FnOk P w K mg base CX0 6 f fd ["_law_pen_here", "_law_yard_here"] (spLawHouse K C) := by
  refine def_ok F scLawHouse (fun vs H Q E h => ?_) (fun cdv A outer s H vs Q E hr h => ?_)
  · obtain ⟨_, _, _, _, _, rfl, _⟩ := h
    rfl
  · obtain ⟨d, n, u, rooms, ps, rfl, pn, hn, ⟨y, lr, ld, rfl, hy⟩, hp, q⟩ := h
    have hu := hu_of hr
    have ny := yard_ne hy pn
    have few := hp.few
    have small := hp.small
    refine ⟨_, (pss_one (ps_ret (pe_mk CHouse hr rfl (pa_cons (pe_fn C_LawHanded hr rfl (pa_cons (pv 0) (pa_cons (pe_dget hu (pv 1) pe_str (fun _ _ => rfl)) pa_nil))) (pa_cons (pe_fn C_LawEither hr rfl (pa_cons (pv 0) (pa_cons (pe_dget hu (pv 1) pe_str (fun _ _ => rfl)) pa_nil))) pa_nil))))), ?_⟩
    have yv : ∀ {H1 : Hp}, Kp (only d.d) H H1 → EvP no (tVar 1) [some (.ref d.d), some (.ref y)] H1 (YardP rooms ps) := fun e => ev_var rfl ⟨y, lr, ld, rfl, hy.upD ny e⟩
    refine (ed_call (d := d) (n := n) (m := n + rooms.length + 1) (sp := spHanded K) (E := E0) (σ := [some (.ref d.d), some (.ref y)]) (H := H) (P := PermS rooms) (Ps := [IsV (.ref d.d), NewL (rooms.map V.str)]) (tr := tCons (tVar 0) (tCons (tDGet (tVar 1) (tC (.str "rooms"))) tNil)) (fun H1 e1 => ea_cons (ev_val rfl) (ea_cons (ev_yardRooms (yv e1)) ea_nil)) fun H1 vs e1 p1 hv Q q => ?_) H (Kp.refl _ _) pn _ fun v1 H1 e1 p1 ⟨ys, pm, hv1⟩ => ?_
    · obtain ⟨u1, u2, rfl, h1, a, rfl, ha⟩ := args2 hv
      obtain rfl : u1 = .ref d.d := h1
      exact ⟨d, n, _, rooms, rfl, p1, by omega, ⟨a, rfl, .inl (.inl (.inl ha))⟩, by omega, q⟩
    refine (ed_call (d := d) (n := n + rooms.length + 1) (m := n + rooms.length + 1 + 3 * ps.length) (sp := spEither K) (E := E0) (σ := [some (.ref d.d), some (.ref y)]) (H := H1) (P := EitherP ps) (Ps := [IsV (.ref d.d), LstOf (ps.map FrzP)]) (tr := tCons (tVar 0) (tCons (tDGet (tVar 1) (tC (.str "doors"))) tNil)) (fun H2 e2 => ea_cons (ev_val rfl) (ea_cons (ev_yardDoors (yv (e1.trans e2))) ea_nil)) fun H1 vs e1 p1 hv Q q => ?_) H1 (Kp.refl _ _) p1 _ fun v2 H2 e2 p2 ⟨qs, lk, hv2⟩ => ?_
    · obtain ⟨u1, u2, rfl, h1, h2⟩ := args2 hv
      obtain rfl : u1 = .ref d.d := h1
      exact ⟨d, _, _, ps, rfl, p1, by omega, doors_t2 h2, by omega, q⟩
    intro x dx hx hdx hne
    have kx : Kp no H2 (upd (upd H2 dx (.own x)) x (.ins C dx [])) := (Kp.new hdx).mut hx
    refine ⟨x, dx, v1, v2, ys, qs, H2, rfl, hx, upd_same, kx, Stay.stay e2 hv1, hv2, hp.like pm lk, fun H' e' ⟨names, nb, pn1, hnb, hat⟩ => ⟨rfl, q _ H' ((e1.trans e2).trans e'.any) ((p2.up e').more (by omega)) ⟨names, nb, x, pn1.trans pm, fun n m => (hnb n m).trans (lk.nbs n), rfl, hat⟩⟩⟩
end
end Tau
set_option maxHeartbeats 4000000
namespace Tau
open PySem PySem.Spec PyProof.Rows L2
/-! reach -/
/-- one may walk from b to k over l rooms -/
inductive WalkTo (nb : Str → List Str) (b : Str) : Str → Nat → Prop
  | start : WalkTo nb b b 1
  | step {k y : Str} {l : Nat} : WalkTo nb b k l → y ∈ nb k → WalkTo nb b y (l + 1)
structure ReachAt (ps : List (Str × Str)) (rooms : List Str) (b : Str) (f : Addr) (ks : List Str) (t : Str → Addr) (w : Str → List Str) (H : Hp) : Prop where
  dict : H f = some (.dK (ks.map fun k => (Sum.inr k, .ref (t k))))
  nd : ks.Nodup
  mem : ∀ k ∈ ks, k ∈ rooms
  bgn : b ∈ ks
  tup : ∀ k ∈ ks, H (t k) = some (.tup ((w k).map V.str))
  walk : ∀ k ∈ ks, WalkTo (nbs ps) b k (w k).length
  small : ∀ k ∈ ks, (w k).length ≤ ks.length
theorem ReachAt.up {ps : List (Str × Str)} {rooms : List Str} {b : Str} {f : Addr} {ks : List Str} {t : Str → Addr} {w : Str → List Str} {H H' : Hp} (h : ReachAt ps rooms b f ks t w H) (e : Kp no H H') : ReachAt ps rooms b f ks t w H' :=
  ⟨e.at h.dict, h.nd, h.mem, h.bgn, fun k m => e.at (h.tup k m), h.walk, h.small⟩
theorem ReachAt.add {ps : List (Str × Str)} {rooms : List Str} {b : Str} {f : Addr} {ks : List Str} {t : Str → Addr} {w : Str → List Str} {H : Hp} (h : ReachAt ps rooms b f ks t w H) {c x : Str} {z : Addr} (hc : c ∈ ks) (hx : x ∉ ks) (hm : x ∈ rooms) (hn : x ∈ nbs ps c)
    (hz : H z = some (.tup ((w c ++ [x]).map V.str))) : ReachAt ps rooms b f (ks ++ [x]) (fun k => if k = x then z else t k) (fun k => if k = x then w c ++ [x] else w k) (upd H f (.dK (putK (ks.map fun k => (Sum.inr k, .ref (t k))) (Sum.inr x) (.ref z)))) := by
  have ne : ∀ k ∈ ks, k ≠ x := fun k m e => hx (e ▸ m)
  have fresh : valV (ks.map fun k => ((Sum.inr k : Key), V.ref (t k))) (Sum.inr x) = none := valV_fresh (by rw [List.map_map]; rfl) hx
  have keep : ∀ {a : Addr} {xs : List V}, H a = some (.tup xs) → upd H f (.dK (putK (ks.map fun k => (Sum.inr k, .ref (t k))) (Sum.inr x) (.ref z))) a = some (.tup xs) := fun {a xs} ha => by
    have hd := h.dict
    rw [upd_ne fun z => by rw [z, hd] at ha; cases ha]
    exact ha
  refine ⟨?_, ?_, fun k m => ?_, List.mem_append.mpr (.inl h.bgn), fun k m => ?_, fun k m => ?_, fun k m => ?_⟩
  · rw [upd_same, putK_new _ fresh, List.map_append]
    congr 3
    · refine List.map_congr_left fun k m => ?_
      show _ = ((Sum.inr k : Key), V.ref (if k = x then z else t k))
      rw [if_neg (ne k m)]
    · show [((Sum.inr x : Key), V.ref z)] = [((Sum.inr x : Key), V.ref (if x = x then z else t x))]
      rw [if_pos rfl]
  · rw [List.nodup_append]
    refine ⟨h.nd, List.nodup_cons.mpr ⟨List.not_mem_nil, List.nodup_nil⟩, fun a ha y hy e => ?_⟩
    rw [List.mem_singleton.mp hy] at e
    exact ne a ha e
  · rcases List.mem_append.mp m with m | m
    · exact h.mem k m
    · rw [List.mem_singleton.mp m]
      exact hm
  · show _ = some (HO.tup ((if k = x then w c ++ [x] else w k).map V.str))
    show upd H f _ (if k = x then z else t k) = _
    rcases List.mem_append.mp m with m | m
    · rw [if_neg (ne k m), if_neg (ne k m)]
      exact keep (h.tup k m)
    · rw [if_pos (List.mem_singleton.mp m), if_pos (List.mem_singleton.mp m)]
      exact keep hz
  · show WalkTo _ _ k (if k = x then w c ++ [x] else w k).length
    rcases List.mem_append.mp m with m | m
    · rw [if_neg (ne k m)]
      exact h.walk k m
    · have := List.mem_singleton.mp m
      subst this
      rw [if_pos rfl, List.length_append, List.length_singleton]
      exact .step (h.walk c hc) hn
  · show (if k = x then w c ++ [x] else w k).length ≤ _
    rw [List.length_append, List.length_singleton]
    rcases List.mem_append.mp m with m | m
    · rw [if_neg (ne k m)]
      have := h.small k m
      omega
    · rw [if_pos (List.mem_singleton.mp m), List.length_append, List.length_singleton]
      have := h.small c hc
      omega
def ReachP (ps : List (Str × Str)) (rooms : List Str) (b : Str) : Hp → V → Prop := fun H v => ∃ (f : Addr) (ks : List Str) (t : Str → Addr) (w : Str → List Str), v = .ref f ∧ ReachAt ps rooms b f ks t w H ∧ ∀ k ∈ ks, ∀ y ∈ nbs ps k, y ∈ ks
section
variable {p : Addr → Prop} {σ : L2.St} {H : Hp} {td ty tv : TE} {D : Ends} {a : Addr} {P : Hp → V → Prop} {tz : TS}
theorem q_dputKP {k : Key} {kvs : List (Key × V)} (hv : EvP p tv σ H P) (hd : ∀ H1, Kp p H H1 → EvP p td σ H1 (IsV (.ref a))) (hy : ∀ H1, Kp p H H1 → EvP p ty σ H1 (IsV (kV k))) (hh : ∀ H1, Kp p H H1 → H1 a = some (.dK kvs)) (hz : kvs.length < 100000)
    (kk : ∀ v H1 H2, Kp p H H1 → P H1 v → Kp p H1 H2 → tz D σ (upd H2 a (.dK (putK kvs k v)))) : tSeq (sDPut td ty tv) tz D σ H :=
  hv H (Kp.refl p H) _ fun v' H1 e1 h1 => hd H1 e1 H1 (Kp.refl _ _) _ fun x H2 e2 h2 => hy H2 (e1.trans e2) H2 (Kp.refl _ _) _ fun y' H3 e3 h3 => by
    have ey : y' = kV k := h3
    subst ey
    exact ⟨a, _, h2, DPut.k (hh H3 ((e1.trans e2).trans e3)) (Nat.lt_trans hz (by decide)), kk v' H1 H3 e1 h1 (e2.trans e3)⟩
end
theorem EvB_dnot {p : Addr → Prop} {σ : L2.St} {H : Hp} {te : TE} {b : Bool} (h : EvP p te σ H (IsV (.bl b))) : EvB p (tTest te) σ H b := eb_test h
section
variable {P : Program} {w : World} {K : PySem.W.Frag} {mg : Str → Option Value} {base : Heap} {C : Addr}
def spReach : Sp := fun vs H Q _ => ∃ rooms ps b, Gives [YardP rooms ps, IsV (.str b)] (Plan rooms ps ∧ b ∈ rooms) (ReachP ps rooms b) vs H Q
theorem scLawReach : FnScope ["_law_yard_here", "_law_begin", "_law_found", "_law_line", "_law_at", "_law_room"] ["_law_yard_here", "_law_begin"] (defScope sLawReach) := ⟨rfl, rfl, rfl, by decide +kernel, rfl, by decide +kernel, by decide +kernel⟩
theorem ok_law_reach {f : Addr} {fd : FuncData} (F : DefIs K "_law_reach" "_law_reach" sLawReach f fd) (T : TopF K mg C) (C_LawNear : Can P w K mg base "_law_near" 1 ["_law_yard_here", "_law_room"] spNear) : FnOk P w K mg base CX0 2 f fd ["_law_yard_here", "_law_begin"] spReach := by
  refine def_ok F scLawReach (fun vs H Q E h => ?_) (fun cdv A outer s H vs Q E hr h => ?_)
  · obtain ⟨_, _, _, _, ha, _⟩ := h
    obtain ⟨_, _, rfl, _⟩ := args2 ha
    rfl
  · obtain ⟨rooms, ps, b, ⟨hp, mb⟩, ha, q⟩ := h
    obtain ⟨yv, v1, rfl, hy, h1⟩ := args2 ha
    obtain rfl : v1 = .str b := h1
    have hu := hu_of hr
    have nok : NbOk rooms (nbs ps) := hp.nbOk (.refl _) fun _ _ => .refl _
    have hne : ∀ p ∈ ps, p.1 ≠ p.2 := fun p m => (hp.pairs.ok p m).2.2.2.2
    refine ⟨_, (pss_cons (ps_par3 (i := 2) (j := 3) (l := 4) (by rfl) scLawReach.nd rfl rfl rfl (by decide) (by decide) (by decide) rfl rfl rfl (pa_cons (pe_disp (pps_cons (pv 1) (pe_tup (pa_cons (pv 1) pa_nil)) pps_nil) (by rfl) (by rfl) (fun z => by cases z) (by decide)) (pa_cons (pe_lst (pa_cons (pv 1) pa_nil)) (pa_cons pe_int pa_nil))) (by rfl))
      (pss_cons (ps_while PassesOwn.never (pt_cmpR op_lt (pv 4) (pe_callB (id := "len") (crK (r := lenR) (K := K) call_len_seq rfl) (by rfl) T.z_len (by decide +kernel) (pa_cons (pv 3) pa_nil)) (nomark _))
        (pss_cons (ps_for PassesOwn.never rfl (pi_listK (K := K) rfl (pe_fn C_LawNear hr rfl (pa_cons (pv 0) (pa_cons (pe_ix (ixK (r := rIxL) (K := K) ix_list rfl) (pv 3) (pv 4) (fun _ _ => rfl)) pa_nil)))) (pg_name (i := 5) scLawReach.nd rfl (.inl rfl))
          (pss_one (ps_if (pt_cmp (pc_dnotin hu (pv 5) (pv 2)))
            (pss_cons (ps_dput hu (pv 2) (pv 5) (pe_op (opK (r := rCatA) (K := K) op_catA rfl) (pe_dget hu (pv 2) (pe_ix (ixK (r := rIxL) (K := K) ix_list rfl) (pv 3) (pv 4) (fun _ _ => rfl)) (fun _ _ => rfl)) (pe_tup (pa_cons (pv 5) pa_nil))) rfl)
            (pss_one (ps_expr (pe_bm PySem.F.plainAttrs_list PySem.F.slot_list_append PySem.F.type_list_append mt_append (pv 3) (pa_cons (pv 5) pa_nil)))))
            pss_nil)))
        (pss_one (ps_set (i := 4) scLawReach.nd rfl (.inl rfl) (pe_op op_add (pv 4) pe_int)))))
      (pss_one (ps_ret (pv 2))))), ?_⟩
    intro f hf
    refine ⟨.str b, rfl, .str b, rfl, by show 1 ≤ sizeLine; decide, fun z hz => ?_⟩
    have f0 : upd H f (.dK []) f = some (.dK []) := upd_same
    have f1 := (Kp.new (p := no) (o := .tup [.str b]) hz).at f0
    refine ⟨f1, [(Sum.inr b, .ref z)], rfl, by show 1 ≤ 15; decide, ?_⟩
    refine ⟨.str b, rfl, by show 1 ≤ sizeLine; decide, fun l hl => ⟨_, _, _, rfl, ?_⟩⟩
    dsimp only
    show tSeq (tWhile _ _) _ _ [some yv, some (.str b), some (.ref f), some (.ref l), some (.int 0), none] _
    have zf : z ≠ f := fun e => by
      rw [e, f0] at hz
      cases hz
    have kf : Kp no H (upd (upd (upd H f (.dK [])) z (.tup [.str b])) f (.dK (mergeK [] [(Sum.inr b, .ref z)]))) := ((Kp.new hf).trans (Kp.new hz)).mut hf
    have rf : ReachAt ps rooms b f [b] (fun _ => z) (fun _ => [b]) (upd (upd (upd H f (.dK [])) z (.tup [.str b])) f (.dK (mergeK [] [(Sum.inr b, .ref z)]))) := by
      refine ⟨upd_same, List.nodup_cons.mpr ⟨List.not_mem_nil, List.nodup_nil⟩, fun k m => by rw [List.mem_singleton.mp m]; exact mb, List.mem_singleton.mpr rfl, fun k m => by rw [upd_ne zf, upd_same]; rfl, fun k m => ?_, fun k m => Nat.le_refl _⟩
      rw [List.mem_singleton.mp m]
      exact .start
    generalize upd (upd (upd H f (.dK [])) z (.tup [.str b])) f (.dK (mergeK [] [(Sum.inr b, .ref z)])) = H0 at kf rf hl ⊢
    have hl0 : H l = none := kf.free hl
    have lf : l ≠ f := fun e => by
      have := rf.dict
      rw [← e, hl] at this
      cases this
    have k1 : Kp no H (upd H0 l (.lst [.str b])) := kf.trans (Kp.new hl)
    have r1 := rf.up (Kp.new (p := no) (o := .lst [.str b]) hl)
    have l1 : upd H0 l (.lst [.str b]) l = some (.lst [.str b]) := upd_same
    generalize upd H0 l (.lst [.str b]) = H1 at k1 r1 l1 ⊢
    refine ⟨fun m σ' H' => ∃ (at_ : Nat) (r5 : Option V) (ks : List Str) (t : Str → Addr) (w : Str → List Str), σ' = [some yv, some (.str b), some (.ref f), some (.ref l), some (.int (at_ : Int)), r5] ∧ Kp no H H' ∧ ReachAt ps rooms b f ks t w H' ∧ H' l = some (.lst (ks.map V.str)) ∧ at_ ≤ ks.length ∧ m = 10 - at_ ∧ ∀ i, i < at_ → ∀ k, ks[i]? = some k → ∀ y ∈ nbs ps k, y ∈ ks, ⟨10, 0, none, [b], fun _ => z, fun _ => [b], rfl, k1, r1, l1, Nat.zero_le _, rfl, fun i hi => absurd hi (Nat.not_lt_zero _)⟩, fun m σ' H2 h => ?_⟩
    obtain ⟨at_, r5, ks, t, w, rfl, k2, r2, l2, hat, rfl, hcl⟩ := h
    refine (eb_test (p := no) (b := decide ((at_ : Int) < (ks.length : Int))) (ev_lt (ev_val (i := 4) rfl) (EvP.val (ev_lenL0 (K := K) (a := l) (xs := ks.map V.str) rfl l2) (by rw [List.length_map])))) H2 (Kp.refl _ _) _ fun H3 e3 => ?_
    have k3 := k2.trans e3
    have r3 := r2.up e3
    have l3 := e3.at l2
    have ksl : ks.length ≤ 9 := Nat.le_trans (nodup_len r3.nd r3.mem) hp.small
    cases hb : decide ((at_ : Int) < (ks.length : Int)) with
    | true =>
      have hlt : at_ < ks.length := by
        have := of_decide_eq_true hb
        omega
      rw [if_pos rfl]
      refine ⟨fun σ' H' => ∃ (r5 : Option V) (ks : List Str) (t : Str → Addr) (w : Str → List Str), σ' = [some yv, some (.str b), some (.ref f), some (.ref l), some (.int ((at_ + 1 : Nat) : Int)), r5] ∧ Kp no H H' ∧ ReachAt ps rooms b f ks t w H' ∧ H' l = some (.lst (ks.map V.str)) ∧ at_ + 1 ≤ ks.length ∧ ∀ i, i < at_ + 1 → ∀ k, ks[i]? = some k → ∀ y ∈ nbs ps k, y ∈ ks, fun σ' H' ⟨r5, ks, t, w, a1, a2, a3, a4, a5, a6⟩ => ⟨10 - (at_ + 1), by omega, at_ + 1, r5, ks, t, w, a1, a2, a3, a4, a5, rfl, a6⟩, ?_⟩
      obtain ⟨c, hc⟩ : ∃ c, ks[at_]? = some c := ⟨_, List.getElem?_eq_getElem hlt⟩
      have lv : ∀ {σ : L2.St} {H4 : Hp} {ks' : List Str}, σ[3]? = some (some (.ref l)) → σ[4]? = some (some (.int (at_ : Int))) → H4 l = some (.lst (ks'.map V.str)) → ks'[at_]? = some c → EvP no (tOp (rIxL K) (tVar 3) (tVar 4)) σ H4 (IsV (.str c)) := fun h3 h4 hl hc => ev_ixL (K := K) (ev_var (P := LstP K _) h3 ⟨l, rfl, .inl (.inl hl)⟩) (ev_val h4) (atI_nat hc)
      refine (ev_fn (p := no) (sp := spNear) (E := E0) (σ := [some yv, some (.str b), some (.ref f), some (.ref l), some (.int (at_ : Int)), r5]) (H := H3) (Ps := [YardP rooms ps, IsV (.str c)]) (C := (∀ p ∈ ps, p.1 ≠ p.2) ∧ ps.length ≤ 500) (S := SortP (nbs ps c)) (fun vs H Q g => ⟨rooms, ps, c, g⟩) (ea_cons (ev_var (i := 0) (P := YardP rooms ps) rfl (Stay.stay k3 hy)) (ea_cons (lv rfl rfl l3 hc) ea_nil)) ⟨hne, hp.few⟩) H3 (Kp.refl _ _) _ fun v4 H4 e4 ⟨la, ns, ela, pm, hla⟩ => ⟨la, ela, ⟨_, .inl (.inl hla)⟩, ?_⟩
      have cm : c ∈ ks := List.mem_of_getElem? hc
      have cr := r3.mem c cm
      have lal : la ≠ l := fun e => by
        have l4 := e4.at l3
        rw [e, l4] at hla
        have := HO.lst.inj (Option.some.inj hla)
        have e2 : ks = ns := List.map_inj_right (fun _ _ e => V.str.inj e) |>.mp this
        rw [e2] at cm
        exact nok.irr c cr (pm.mem_iff.mp cm)
      refine for_list (K := K) (xs := ns.map V.str) (fun i σ' H' => ∃ (r5 : Option V) (ks : List Str) (t : Str → Addr) (w : Str → List Str), σ' = [some yv, some (.str b), some (.ref f), some (.ref l), some (.int (at_ : Int)), r5] ∧ Kp no H H' ∧ ReachAt ps rooms b f ks t w H' ∧ H' l = some (.lst (ks.map V.str)) ∧ H' la = some (.lst (ns.map V.str)) ∧ ks[at_]? = some c ∧ (∀ i, i < at_ → ∀ k, ks[i]? = some k → ∀ y ∈ nbs ps k, y ∈ ks) ∧ ∀ y ∈ ns.take i, y ∈ ks) ⟨r5, ks, t, w, rfl, k3.trans e4, r3.up e4, e4.at l3, hla, hc, hcl, fun _ m => absurd m List.not_mem_nil⟩ (fun i σ' H' _ h => ?_) (fun i x σ' H5 hx h => ?_) fun σ' H5 h => ?_
      · obtain ⟨_, _, _, _, _, _, _, _, h, _⟩ := h
        exact .inl (.inl h)
      · obtain ⟨r5, ks, t, w, rfl, k5, r5', l5, la5, hc5, hcl5, hdone⟩ := h
        have hi : i < ns.length := by
          have := (List.getElem?_eq_some_iff.mp hx).1
          rw [List.length_map] at this
          exact this
        have ex : x = .str ns[i] := by
          rw [List.getElem?_map, List.getElem?_eq_getElem hi] at hx
          exact (Option.some.inj hx).symm
        subst ex
        have tk : ns.take (i + 1) = ns.take i ++ [ns[i]] := take_succ_get hi
        have mn : ns[i] ∈ nbs ps c := pm.mem_iff.mp (List.getElem_mem hi)
        generalize ns[i] = x at tk mn ⊢
        have mx := nok.inn c cr x mn
        show tIfS _ _ _ _ [some yv, some (.str b), some (.ref f), some (.ref l), some (.int (at_ : Int)), some (.str x)] H5
        have ks9 : ks.length ≤ 9 := Nat.le_trans (nodup_len r5'.nd r5'.mem) hp.small
        have cm5 : c ∈ ks := List.mem_of_getElem? hc5
        by_cases hxk : x ∈ ks
        · refine s_ifF (p := no) (EvB_dnot (ev_dnotin (a := f) (y := kV (Sum.inr x)) (o := some (.ref (t x))) (ev_val (i := 5) rfl) (ev_val (i := 2) rfl) fun H6 e6 => ?_)) fun H6 e6 => ⟨_, ks, t, w, rfl, k5.trans e6, r5'.up e6, e6.at l5, e6.at la5, hc5, hcl5, fun y my => ?_⟩
          · rw [← valV_names (f := fun k => V.ref (t k)) hxk]
            exact DGet.k (e6.at r5'.dict)
          · rw [tk] at my
            rcases List.mem_append.mp my with my | my
            · exact hdone y my
            · rw [List.mem_singleton.mp my]
              exact hxk
        · have fresh : valV (ks.map fun k => ((Sum.inr k : Key), V.ref (t k))) (Sum.inr x) = none := valV_fresh (by rw [List.map_map]; rfl) hxk
          refine s_if (p := no) (b := true) (EvB_dnot (ev_dnotin (a := f) (y := kV (Sum.inr x)) (o := none) (ev_val (i := 5) rfl) (ev_val (i := 2) rfl) fun H6 e6 => ?_)) (fun _ H6 e6 => ?_) (fun z => nomatch z)
          · rw [← fresh]
            exact DGet.k (e6.at r5'.dict)
          have r6 := r5'.up e6
          have l6 := e6.at l5
          have la6 := e6.at la5
          have dv : ∀ {H7 : Hp}, Kp no H6 H7 → EvP no (tDGet (tVar 2) (tOp (rIxL K) (tVar 3) (tVar 4))) [some yv, some (.str b), some (.ref f), some (.ref l), some (.int (at_ : Int)), some (.str x)] H7 (TupP K (w c)) := fun {H7} e => (ev_dget (a := f) (y := kV (Sum.inr c)) (v := .ref (t c)) (ev_val rfl) (lv rfl rfl (e.at l6) hc5) fun H8 e8 => by
            rw [← valV_names (f := fun k => V.ref (t k)) cm5]
            exact DGet.k ((r6.up (e.trans e8)).dict)).imp fun H8 v e8 hv => ⟨t c, hv, (e.trans e8).at (r6.tup c cm5)⟩
          refine q_dputKP (p := no) (a := f) (k := Sum.inr x) (kvs := ks.map fun k => (Sum.inr k, .ref (t k))) (P := TupP K (w c ++ [x])) (ev_cat (dv (Kp.refl _ _)) (ev_tup1 (ev_val rfl)) ?_) (fun H7 e7 => ev_val rfl) (fun H7 e7 => ev_val rfl) (fun H7 e7 => e7.at r6.dict) (by rw [List.length_map]; omega) fun v H7 H8 e7 hv e8 => ?_
          · have := r6.small c cm5
            show _ + 1 ≤ _
            omega
          · obtain ⟨z9, rfl, hz9⟩ := hv
            have r8 := (r6.up (e7.trans e8)).add cm5 hxk mx mn (e8.at hz9)
            have l8 := (e7.trans e8).at l6
            have la8 := (e7.trans e8).at la6
            have d8 := (r6.up (e7.trans e8)).dict
            have lne : l ≠ f := lf
            have lane : la ≠ f := fun e => by
              rw [e, d8] at la8
              cases la8
            have k9 : Kp no H (upd H8 f (.dK (putK (ks.map fun k => (Sum.inr k, .ref (t k))) (Sum.inr x) (.ref z9)))) := (((k5.trans e6).trans e7).trans e8).mut hf
            have l9 : upd H8 f (.dK (putK (ks.map fun k => (Sum.inr k, .ref (t k))) (Sum.inr x) (.ref z9))) l = some (.lst (ks.map V.str)) := by rw [upd_ne lne]; exact l8
            have la9 : upd H8 f (.dK (putK (ks.map fun k => (Sum.inr k, .ref (t k))) (Sum.inr x) (.ref z9))) la = some (.lst (ns.map V.str)) := by rw [upd_ne lane]; exact la8
            generalize upd H8 f (.dK (putK (ks.map fun k => (Sum.inr k, .ref (t k))) (Sum.inr x) (.ref z9))) = H9 at r8 k9 l9 la9 ⊢
            refine s_app (p := no) (K := K) (a := l) (xs := ks.map V.str) (P := IsV (.str x)) (ev_val rfl) (ev_val rfl) (fun H10 e10 => e10.at l9) (by rw [List.length_map]; omega) fun v H10 e10 hv => ?_
            obtain rfl : v = .str x := hv
            have hl10 : ∀ {a : Addr} {o : HO}, a ≠ l → H10 a = some o → upd H10 l (.lst (ks.map V.str ++ [.str x])) a = some o := fun ne h => by rw [upd_ne ne]; exact h
            have r10 := r8.up e10
            refine ⟨_, ks ++ [x], _, _, rfl, (k9.trans e10).mut hl0, ⟨hl10 (fun e => lf e.symm) r10.dict, r10.nd, r10.mem, r10.bgn, fun k m => ?_, r10.walk, r10.small⟩, by rw [upd_same, List.map_append]; rfl, hl10 lal (e10.at la9), by rw [List.getElem?_append_left (List.getElem?_eq_some_iff.mp hc5).1]; exact hc5, fun i hi k hk y my => ?_, fun y my => ?_⟩
            · have := r10.tup k m
              have ll := e10.at l9
              exact hl10 (fun e => by rw [e, ll] at this; cases this) this
            · have hi2 : i < ks.length := by
                have := (List.getElem?_eq_some_iff.mp hc5).1
                omega
              rw [List.getElem?_append_left hi2] at hk
              exact List.mem_append.mpr (.inl (hcl5 i hi k hk y my))
            · rw [tk] at my
              rcases List.mem_append.mp my with my | my
              · exact List.mem_append.mpr (.inl (hdone y my))
              · exact List.mem_append.mpr (.inr my)
      · obtain ⟨r5, ks, t, w, rfl, k5, r5', l5, la5, hc5, hcl5, hdone⟩ := h
        rw [List.length_map, List.take_length] at hdone
        dsimp only
        refine s_setV (p := no) (i := 4) (x := .int ((at_ + 1 : Nat) : Int)) (EvP.val (ev_add (ev_val (i := 4) rfl) ev_c) (congrArg V.int (by omega))) fun H6 e6 => ⟨_, ks, t, w, rfl, k5.trans e6, r5'.up e6, e6.at l5, (List.getElem?_eq_some_iff.mp hc5).1, fun i hi k hk y my => ?_⟩
        by_cases e : i < at_
        · exact hcl5 i e k hk y my
        · have : i = at_ := by omega
          subst this
          rw [hc5] at hk
          cases hk
          exact hdone y (pm.mem_iff.mpr my)
    | false =>
      rw [if_neg (by decide)]
      dsimp only
      have hge : ks.length ≤ at_ := by
        have := of_decide_eq_false hb
        omega
      refine s_ret (p := no) (P := ReachP ps rooms b) (fun H4 e4 Q4 q4 => ⟨.ref f, rfl, q4 _ H4 (Kp.refl _ _) ⟨f, ks, t, w, rfl, r3.up e4, fun k m y my => ?_⟩⟩) fun v H4 e4 hv => q v H4 (k3.trans e4) hv
      obtain ⟨i, hi, ei⟩ := List.mem_iff_getElem.mp m
      exact hcl i (by omega) k (by rw [← ei]; exact List.getElem?_eq_getElem hi) y my
end
end Tau
set_option maxHeartbeats 4000000
namespace Tau
open PySem PySem.Spec PyProof.Rows L2
/-! is_split -/
theorem valV_merge {names : List Str} {g : Str → V} (x : Str) : ∀ (nd : names.Nodup) (sd : List (Key × V)), valV (mergeK sd (names.map fun k => (Sum.inr k, g k))) (Sum.inr x) = if x ∈ names then some (g x) else valV sd (Sum.inr x) := by
  induction names with
  | nil => exact fun _ sd => rfl
  | cons n ns ih =>
    intro nd sd
    have nd := List.nodup_cons.mp nd
    show valV (mergeK (putK sd (Sum.inr n) (g n)) (ns.map fun k => (Sum.inr k, g k))) (Sum.inr x) = _
    rw [ih nd.2, valV_put]
    by_cases e : x = n
    · subst e
      rw [if_neg nd.1, if_pos rfl, if_pos (List.mem_cons_self ..)]
    · by_cases m : x ∈ ns
      · rw [if_pos m, if_pos (List.mem_cons_of_mem _ m)]
      · rw [if_neg m, if_neg (fun z => e (Sum.inr.inj z)), if_neg fun z => (List.mem_cons.mp z).elim e m]
theorem merge_len : ∀ (ms sd : List (Key × V)), (mergeK sd ms).length ≤ sd.length + ms.length
  | [], _ => Nat.le_refl _
  | (k, v) :: ms, sd => by
    have := merge_len ms (putK sd k v)
    have := length_putK sd k v
    show (mergeK (putK sd k v) ms).length ≤ _
    rw [List.length_cons]
    omega
/-- the sides told so far -/
structure SideOk (ps : List (Str × Str)) (rooms : List Str) (sd : List (Key × V)) : Prop where
  int : ∀ k v, valV sd (Sum.inr k) = some v → k ∈ rooms ∧ ∃ n : Nat, v = .int (n : Int)
  ok : ∀ k v, valV sd (Sum.inr k) = some v → ∀ y ∈ nbs ps k, ∃ b l1 l2, WalkTo (nbs ps) b k l1 ∧ WalkTo (nbs ps) b y l2 ∧ v = .int ((l1 % 2 : Nat) : Int) ∧ valV sd (Sum.inr y) = some (.int ((l2 % 2 : Nat) : Int))
theorem SideOk.nil {ps : List (Str × Str)} {rooms : List Str} : SideOk ps rooms [] := ⟨fun k v e => (nomatch (show (none : Option V) = some v from e)), fun k v e => (nomatch (show (none : Option V) = some v from e))⟩
theorem merge_fresh {g : Str → V} : ∀ (ns : List Str) (acc : List (Key × V)), ns.Nodup → (∀ n ∈ ns, valV acc (Sum.inr n) = none) → mergeK acc (ns.map fun k => (Sum.inr k, g k)) = acc ++ ns.map fun k => (Sum.inr k, g k)
  | [], acc, _, _ => by simp [mergeK]
  | n :: ns, acc, nd, h => by
    have nd := List.nodup_cons.mp nd
    show mergeK (putK acc (Sum.inr n) (g n)) (ns.map fun k => (Sum.inr k, g k)) = _
    rw [putK_new _ (h n (List.mem_cons_self ..)), merge_fresh ns _ nd.2 fun m mm => ?_]
    · rw [List.append_assoc]
      rfl
    · rw [valV_snoc _ _ _ _ (h n (List.mem_cons_self ..)), if_neg (fun z => nd.1 (by have z2 : m = n := Sum.inr.inj z; rw [← z2]; exact mm))]
      exact h m (List.mem_cons_of_mem _ mm)
theorem paired_map {α β γ : Type} {R : β → γ → Prop} {g : α → β} {h : α → γ} : ∀ {l : List α}, (∀ a ∈ l, R (g a) (h a)) → Paired R (l.map g) (l.map h)
  | [], _ => .nil
  | a :: l, k => .cons (k a (List.mem_cons_self ..)) (paired_map fun b m => k b (List.mem_cons_of_mem _ m))
theorem SideOk.add {ps : List (Str × Str)} {rooms : List Str} {sd : List (Key × V)} (h : SideOk ps rooms sd) {ks : List Str} {w : Str → List Str} {b : Str} (nd : ks.Nodup) (mem : ∀ k ∈ ks, k ∈ rooms) (hw : ∀ k ∈ ks, WalkTo (nbs ps) b k (w k).length) (cl : ∀ k ∈ ks, ∀ y ∈ nbs ps k, y ∈ ks) :
    SideOk ps rooms (mergeK sd (ks.map fun k => (Sum.inr k, V.int (((w k).length % 2 : Nat) : Int)))) := by
  refine ⟨fun k v e => ?_, fun k v e y hy => ?_⟩
  · rw [valV_merge (g := fun k => V.int (((w k).length % 2 : Nat) : Int)) k nd] at e
    by_cases m : k ∈ ks
    · rw [if_pos m] at e
      exact ⟨mem k m, _, (Option.some.inj e).symm⟩
    · rw [if_neg m] at e
      exact h.int k v e
  · rw [valV_merge (g := fun k => V.int (((w k).length % 2 : Nat) : Int)) k nd] at e
    rw [valV_merge (g := fun k => V.int (((w k).length % 2 : Nat) : Int)) y nd]
    by_cases m : k ∈ ks
    · rw [if_pos m] at e
      have my := cl k m y hy
      rw [if_pos my]
      exact ⟨b, _, _, hw k m, hw y my, (Option.some.inj e).symm, rfl⟩
    · rw [if_neg m] at e
      have my : y ∉ ks := fun my => m (cl y my k (nbs_symm hy))
      rw [if_neg my]
      exact h.ok k v e y hy
/-- what is told when it is split, when not -/
def SplitFact (ps : List (Str × Str)) (b : Bool) : Prop :=
  (b = true → ∃ side : Str → Nat, ∀ x y, y ∈ nbs ps x → side x % 2 ≠ side y % 2) ∧
  (b = false → ∃ r x y l1 l2, WalkTo (nbs ps) r x l1 ∧ WalkTo (nbs ps) r y l2 ∧ y ∈ nbs ps x ∧ l1 % 2 = l2 % 2)
theorem split_fact {ps : List (Str × Str)} {rooms : List Str} {sd : List (Key × V)} (h : SideOk ps rooms sd) (hp : Plan rooms ps) (all : ∀ x ∈ rooms, (valV sd (Sum.inr x)).isSome) :
    SplitFact ps (ps.filter fun p => decide (valV sd (Sum.inr p.1) = valV sd (Sum.inr p.2))).isEmpty := by
  constructor
  · intro e
    have e := List.isEmpty_iff.mp e
    have ne : ∀ p ∈ ps, valV sd (Sum.inr p.1) ≠ valV sd (Sum.inr p.2) := fun p m z => by
      have : p ∈ ps.filter fun p => decide (valV sd (Sum.inr p.1) = valV sd (Sum.inr p.2)) := List.mem_filter.mpr ⟨m, decide_eq_true z⟩
      rw [e] at this
      exact absurd this List.not_mem_nil
    refine ⟨fun x => match valV sd (Sum.inr x) with | some (.int i) => i.toNat | _ => 0, fun x y hy => ?_⟩
    obtain ⟨o1, o2⟩ : valV sd (Sum.inr x) ≠ valV sd (Sum.inr y) ∧ x ∈ rooms := by
      rcases mem_nbs.mp hy with m | m
      · exact ⟨ne _ m, (hp.pairs.ok _ m).2.2.1⟩
      · exact ⟨fun z => ne _ m z.symm, (hp.pairs.ok _ m).2.2.2.1⟩
    obtain ⟨v, ev⟩ := Option.isSome_iff_exists.mp (all x o2)
    obtain ⟨b, l1, l2, _, _, e1, e2⟩ := h.ok x v ev y hy
    show (match valV sd (Sum.inr x) with | some (.int i) => i.toNat | _ => 0) % 2 ≠ (match valV sd (Sum.inr y) with | some (.int i) => i.toNat | _ => 0) % 2
    rw [ev, e1, e2] at o1
    rw [ev, e1, e2]
    show ((l1 % 2 : Nat) : Int).toNat % 2 ≠ ((l2 % 2 : Nat) : Int).toNat % 2
    rw [Int.toNat_natCast, Int.toNat_natCast]
    intro z
    apply o1
    have : l1 % 2 = l2 % 2 := by omega
    rw [this]
  · intro e
    have nn : (ps.filter fun p => decide (valV sd (Sum.inr p.1) = valV sd (Sum.inr p.2))) ≠ [] := fun z => by
      rw [z] at e
      cases e
    obtain ⟨p, mp⟩ := List.exists_mem_of_ne_nil _ nn
    obtain ⟨m, e⟩ := List.mem_filter.mp mp
    have e := of_decide_eq_true e
    obtain ⟨v, ev⟩ := Option.isSome_iff_exists.mp (all p.1 (hp.pairs.ok _ m).2.2.1)
    have hy : p.2 ∈ nbs ps p.1 := mem_nbs.mpr (.inl m)
    obtain ⟨b, l1, l2, w1, w2, e1, e2⟩ := h.ok p.1 v ev p.2 hy
    refine ⟨b, p.1, p.2, l1, l2, w1, w2, hy, ?_⟩
    rw [ev, e1, e2] at e
    have := V.int.inj (Option.some.inj e)
    omega
theorem ev_eqL0 {K : PySem.W.Frag} {p : Addr → Prop} {σ : L2.St} {H : Hp} {ta tb : TE} {l : List (Str × Str)} (ha : EvP p ta σ H (LstOf (l.map FrzP))) (hb : EvP p tb σ H (NewL [])) : EvP p (tOp (rEqP K) ta tb) σ H (IsV (.bl l.isEmpty)) :=
  ev_op ha hb fun H1 x y e1 ⟨a, vs, ex, ha1, hvs⟩ ⟨b, ey, hy⟩ Q q => by
    subst ex ey
    obtain ⟨bs, rfl, hb, rfl⟩ := hvs.zip
    obtain ⟨ds, h1, h2, h3, h4⟩ := txt_data (K := K) (H := H1) (xs := bs.map (·.1)) fun x m => by
      obtain ⟨c, mc, rfl⟩ := List.mem_map.mp m
      exact (hb c mc).t2.txt
    refine ⟨.list ds, .list [], .lst (.inl (.inl ha1)) h1, .lst (.inl (.inl hy)) .nil, ?_, rfl, ?_, q _ H1 (Kp.refl p H1) ?_⟩
    · rw [PyData.plain, h2]
    · rw [PyData.depth]
      omega
    · show V.bl (PyData.eqv (.list ds) (.list [])) = V.bl (bs.map (·.2)).isEmpty
      rw [PyData.eqv]
      cases ds with
      | nil =>
        have : bs = [] := List.eq_nil_of_length_eq_zero (by rw [List.length_map] at h4; exact h4.symm)
        subst this
        rfl
      | cons e es =>
        cases bs with
        | nil => cases h4
        | cons _ _ => rfl
section
variable {P : Program} {w : World} {K : PySem.W.Frag} {mg : Str → Option Value} {base : Heap} {C : Addr}
def SplitP (ps : List (Str × Str)) : Hp → V → Prop := fun _ v => ∃ b, v = .bl b ∧ SplitFact ps b
def spIsSplit : Sp := fun vs H Q _ => ∃ rooms ps, Gives [YardP rooms ps] (Plan rooms ps) (SplitP ps) vs H Q
theorem scLawIsSplit : FnScope ["_law_yard_here", "_law_side", "_law_begin", "_law_reach_here", "_law_door", "_law_room"] ["_law_yard_here"] (defScope sLawIsSplit) := ⟨rfl, rfl, rfl, by decide +kernel, rfl, by decide +kernel, by decide +kernel⟩
theorem ok_law_is_split {f : Addr} {fd : FuncData} (F : DefIs K "_law_is_split" "_law_is_split" sLawIsSplit f fd) (T : TopF K mg C) (C_LawReach : Can P w K mg base "_law_reach" 2 ["_law_yard_here", "_law_begin"] spReach) : FnOk P w K mg base CX0 3 f fd ["_law_yard_here"] spIsSplit := by
  refine def_ok F scLawIsSplit (fun vs H Q E h => ?_) (fun cdv A outer s H vs Q E hr h => ?_)
  · obtain ⟨_, _, _, ha, _⟩ := h
    obtain ⟨_, rfl, _⟩ := args1 ha
    rfl
  · obtain ⟨rooms, ps, hp, ha, q⟩ := h
    obtain ⟨v0, rfl, y, lr, ld, rfl, hy⟩ := args1 ha
    have hu := hu_of hr
    refine ⟨_, (pss_cons (ps_set (i := 1) scLawIsSplit.nd rfl (.inr rfl) pe_dnewK)
      (pss_cons (ps_for PassesOwn.never rfl (pi_listK (K := K) rfl (pe_dget hu (pv 0) pe_str (fun _ _ => rfl))) (pg_name (i := 2) scLawIsSplit.nd rfl (.inl rfl))
        (pss_one (ps_if (pt_cmp (pc_dnotin hu (pv 2) (pv 1)))
          (pss_cons (ps_set (i := 3) scLawIsSplit.nd rfl (.inr rfl) (pe_fn C_LawReach hr rfl (pa_cons (pv 0) (pa_cons (pv 2) pa_nil))))
          (pss_one (ps_expr (pe_bm PySem.F.plainAttrs_dict PySem.F.slot_dict_update PySem.F.type_dict_update mt_updD (pv 1) (pa_cons (pe_callTy (T := "dict") (call_dictP rfl) (by rfl) T.z_dict (by decide +kernel) (pa_cons (pe_lock (pe_lc (own := [("_law_room", 5)]) rfl scLawIsSplit.nd (pi_keys (pv 3)) (blkOk_by (own := [("_law_room", 5)]) (N := ["_law_yard_here", "_law_side", "_law_begin", "_law_reach_here", "_law_door", "_law_room"]) (sc := defScope sLawIsSplit) (by decide +kernel)) (fun _ _ _ _ _ => (pg_name (i := 5) scLawIsSplit.nd rfl (.inl rfl))) (fun _ _ _ _ _ => pts_nil) (fun _ _ _ _ _ => (pe_tup (pa_cons (pv 5) (pa_cons (pe_op op_modN (pe_callB (id := "len") (crK (r := lenR) (K := K) call_len_seq rfl) (by rfl) T.z_len (by decide +kernel) (pa_cons (pe_dget hu (pv 3) (pv 5) (fun _ _ => rfl)) pa_nil)) pe_int) pa_nil)))))) pa_nil)) pa_nil)))))
          pss_nil)))
      (pss_one (ps_ret (pe_cmpR (opK (r := rEqP) (K := K) (op_eqP (by exact hr.units)) rfl) (pe_lc (own := [("_law_door", 4)]) rfl scLawIsSplit.nd (pi_listK (K := K) rfl (pe_dget hu (pv 0) pe_str (fun _ _ => rfl))) (blkOk_by (own := [("_law_door", 4)]) (N := ["_law_yard_here", "_law_side", "_law_begin", "_law_reach_here", "_law_door", "_law_room"]) (sc := defScope sLawIsSplit) (by decide +kernel)) (fun _ _ _ _ _ => (pg_name (i := 4) scLawIsSplit.nd rfl (.inl rfl))) (fun _ _ _ _ _ => (pts_one (pt_cmpR op_eq (pe_dget hu (pv 1) (pe_ix (ixK (r := rIxT) (K := K) ix_tup rfl) (pv 4) pe_int (fun _ _ => rfl)) (fun _ _ => rfl)) (pe_dget hu (pv 1) (pe_ix (ixK (r := rIxT) (K := K) ix_tup rfl) (pv 4) pe_int (fun _ _ => rfl)) (fun _ _ => rfl)) (nomark _)))) (fun _ _ _ _ _ => (pv 4))) (pe_lst pa_nil) (nomark _)))))), ?_⟩
    have yv : ∀ {σ : L2.St} {H1 : Hp}, σ[0]? = some (some (.ref y)) → Kp no H H1 → EvP no (tVar 0) σ H1 (YardP rooms ps) := fun h0 e => ev_var h0 ⟨y, lr, ld, rfl, hy.up e⟩
    refine q_dnewK fun d hd => ?_
    have k0 : Kp no H (upd H d (.dK [])) := Kp.new hd
    have d0 : upd H d (.dK []) d = some (.dK []) := upd_same
    show tSeq (tFor _ _ _) _ _ [some (.ref y), some (.ref d), none, none, none, none] _
    generalize upd H d (.dK []) = H0 at k0 d0 ⊢
    refine q_forL (p := no) (K := K) (a := lr) (xs := rooms.map V.str) (H0 := H) (.inl (.inl hy.rooms)) k0 (ev_dget (a := y) (y := kV (Sum.inr "rooms")) (ev_val (i := 0) rfl) ev_c fun H1 e1 => ?_) (fun i σ' H' => ∃ a b c e, σ' = [some (.ref y), some (.ref d), a, b, c, e] ∧ Kp no H H' ∧ ∃ sd, H' d = some (.dK sd) ∧ sd.length ≤ 9 * i ∧ SideOk ps rooms sd ∧ ∀ x ∈ rooms.take i, (valV sd (Sum.inr x)).isSome) (fun H1 e1 => ⟨_, _, _, _, rfl, k0.trans e1, [], e1.at d0, Nat.zero_le _, SideOk.nil, fun _ m => absurd m List.not_mem_nil⟩) (fun i σ' H' h => ?_) (fun i x σ' H1 hx h => ?_) fun σ' H1 h => ?_
    · rw [← yard_rooms lr ld]
      exact DGet.k (((hy.up k0).up e1).dict)
    · obtain ⟨_, _, _, _, _, e, _⟩ := h
      exact e
    · obtain ⟨a, b, c, e, rfl, k1, sd, hsd, hsl, sok, hdone⟩ := h
      have hi : i < rooms.length := by
        have := (List.getElem?_eq_some_iff.mp hx).1
        rw [List.length_map] at this
        exact this
      have ex : x = .str rooms[i] := by
        rw [List.getElem?_map, List.getElem?_eq_getElem hi] at hx
        exact (Option.some.inj hx).symm
      subst ex
      have tk : rooms.take (i + 1) = rooms.take i ++ [rooms[i]] := take_succ_get hi
      have mr := List.getElem_mem hi
      generalize rooms[i] = r at tk mr ⊢
      show tIfS _ _ _ _ [some (.ref y), some (.ref d), some (.str r), b, c, e] H1
      have test : EvB no (tTest (tDNotIn (tVar 2) (tVar 1))) [some (.ref y), some (.ref d), some (.str r), b, c, e] H1 (!(valV sd (Sum.inr r)).isSome) := eb_test (ev_dnotin (a := d) (y := kV (Sum.inr r)) (ev_val rfl) (ev_val rfl) fun H2 e2 => DGet.k (e2.at hsd))
      refine s_if (p := no) test (fun hb H2 e2 => ?_) (fun hb H2 e2 => ?_)
      · refine q_set (p := no) (i := 3) (ev_fn (sp := spReach) (Ps := [YardP rooms ps, IsV (.str r)]) (C := Plan rooms ps ∧ r ∈ rooms) (S := ReachP ps rooms r) (fun vs H Q g => ⟨rooms, ps, r, g⟩) (ea_cons (yv rfl (k1.trans e2)) (ea_cons (ev_val (i := 2) rfl) ea_nil)) ⟨hp, mr⟩) fun v3 H3 e3 ⟨f, ks, t, w, ev3, rat, cl⟩ => ?_
        subst ev3
        show tDrop _ _ [some (.ref y), some (.ref d), some (.str r), some (.ref f), c, e] H3
        have d3 := (e2.trans e3).at hsd
        have ks9 : ks.length ≤ 9 := Nat.le_trans (nodup_len rat.nd rat.mem) hp.small
        let g : Str → V := fun k => V.int (((w k).length % 2 : Nat) : Int)
        have fd : f ≠ d := fun z => by
          have h1 := rat.dict
          rw [z, d3] at h1
          have h1 := HO.dK.inj (Option.some.inj h1)
          have : (valV sd (Sum.inr r)) = some (.ref (t r)) := by
            rw [h1]
            exact valV_names (f := fun k => V.ref (t k)) rat.bgn
          obtain ⟨_, n, e⟩ := sok.int r _ this
          cases e
        refine ⟨.ref d, rfl, .inr (.inr (.inl ⟨rfl, .inl ⟨sd, d3⟩⟩)), f, _, rat.dict, trivial, fun od => ⟨.ref f, rfl, f, od, rfl, .inl ⟨_, upd_same, fun D hD => ?_⟩⟩⟩
        have hfz : upd H3 f (.frz od (.dK (ks.map fun k => (Sum.inr k, .ref (t k))))) f = some (.frz od (.dK (ks.map fun k => (Sum.inr k, .ref (t k))))) := upd_same
        have htup : ∀ k ∈ ks, upd H3 f (.frz od (.dK (ks.map fun k => (Sum.inr k, .ref (t k))))) (t k) = some (.tup ((w k).map V.str)) := fun k m => by
          have := rat.tup k m
          have h1 := rat.dict
          rw [upd_ne fun z => by rw [z, h1] at this; cases this]
          exact this
        have unl : ∀ {H' : Hp}, Kp no (upd H3 f (.frz od (.dK (ks.map fun k => (Sum.inr k, .ref (t k)))))) H' → Kp no H3 (upd H' f (.dK (ks.map fun k => (Sum.inr k, .ref (t k))))) := fun e => Kp.unlock rat.dict e
        generalize upd H3 f (.frz od (.dK (ks.map fun k => (Sum.inr k, .ref (t k))))) = Hl at hD hfz htup unl
        refine lc_it (walk_keys (o := od)) (fun i H' => Kp no Hl H' ∧ ∃ g' : Str → Addr, H' D = some (.lst (((ks.take i).map g').map V.ref)) ∧ ∀ k ∈ ks.take i, H' (g' k) = some (.tup [.str k, g k])) ⟨Kp.new hD, fun _ => 0, upd_same, fun _ m => absurd m List.not_mem_nil⟩ (fun i H' _ h => h.1.frz hfz) (fun i x H5 H6 hi h y => ?_) fun H5 h => ?_
        · obtain ⟨rfl, kk, v, hx, rfl⟩ := y
          obtain ⟨e5, g', hD5, hg5⟩ := h
          rw [List.length_map] at hi
          have ek : kk = Sum.inr ks[i] := by
            rw [List.getElem?_map, List.getElem?_eq_getElem hi] at hx
            exact (Prod.mk.inj (Option.some.inj hx)).1.symm
          subst ek
          have tk2 : ks.take (i + 1) = ks.take i ++ [ks[i]] := take_succ_get hi
          have mk := List.getElem_mem hi
          have fresh : ks[i] ∉ ks.take i := nodup_take rat.nd hi
          generalize ks[i] = k at tk2 mk fresh ⊢
          refine ⟨rfl, yes_if ⟨.str k, rfl, ?_⟩⟩
          refine (ev_modN (p := no) (i := ((w k).length : Int)) (j := 2) (σ := [some (.ref y), some (.ref d), some (.str r), some (.ref f), c, some (.str k)]) (H := H6) (ev_lenT (K := K) (xs := w k) ((ev_dget (a := f) (y := kV (Sum.inr k)) (v := .ref (t k)) (td := tVar 3) (ty := tVar 5) (ev_val rfl) (ev_val rfl) fun H7 e7 => .inl ⟨_, Sum.inr k, .inr ⟨od, (e5.trans e7).frz hfz⟩, rfl, (valV_names (f := fun k => V.ref (t k)) mk).symm⟩).imp fun H7 v e7 hv => ⟨t k, hv, (e5.trans e7).at (htup k mk)⟩)) (ev_c (v := .int 2)) (by decide)) H6 (Kp.refl _ _) _ fun v7 H7 e7 hv7 => ⟨by show 2 ≤ sizeLine; decide, fun z hz => ?_⟩
          obtain rfl : v7 = g k := by
            rw [show v7 = _ from hv7]
            exact congrArg V.int (nat_fmod (w k).length 2)
          have D7 := e7.at hD5
          have Dz : D ≠ z := fun e => by
            rw [← e, D7] at hz
            cases hz
          refine ⟨_, (Kp.new (p := no) hz).at D7, ?_, ((e5.trans e7).trans (Kp.new hz)).mut hD, fun a => if a = k then z else g' a, ?_, fun a ma => ?_⟩
          · rw [List.length_map, List.length_map, List.length_take]
            have : 100000 < sizeLine := by decide
            omega
          · rw [upd_same, tk2, List.map_append, List.map_append]
            congr 3
            · refine congrArg (List.map V.ref) (List.map_congr_left fun a ma => ?_)
              show g' a = if a = k then z else g' a
              rw [if_neg (fun e : a = k => fresh (e ▸ ma))]
            · show [V.ref z] = [V.ref (if k = k then z else g' k)]
              rw [if_pos rfl]
          · show upd _ D _ (if a = k then z else g' a) = _
            rw [tk2] at ma
            rcases List.mem_append.mp ma with ma | ma
            · have ne : a ≠ k := fun e => fresh (e ▸ ma)
              have old := e7.at (hg5 a ma)
              rw [if_neg ne, upd_ne (fun e => by rw [e, D7] at old; cases old), upd_ne (fun e => by rw [e, hz] at old; cases old)]
              exact old
            · have := List.mem_singleton.mp ma
              subst this
              rw [if_pos rfl, upd_ne (fun e => Dz e.symm), upd_same]
        · rw [List.length_map, List.take_length] at h
          obtain ⟨e5, g', hD5, hg5⟩ := h
          have hf5 := e5.frz hfz
          have kU := unl e5
          have keepU : ∀ {a : Addr} {o : HO}, (∀ u : HO, o ≠ .frz od u) → H5 a = some o → upd H5 f (.dK (ks.map fun k => (Sum.inr k, .ref (t k)))) a = some o := fun {a o} ne h => by
            rw [upd_ne fun z => by rw [z, hf5] at h; exact ne _ (Option.some.inj h).symm]
            exact h
          have DU := keepU (fun u z => by cases z) hD5
          have gU : ∀ k ∈ ks, upd H5 f (.dK (ks.map fun k => (Sum.inr k, .ref (t k)))) (g' k) = some (.tup [.str k, g k]) := fun k m => keepU (fun u z => by cases z) (hg5 k m)
          refine ⟨hf5, ?_⟩
          generalize upd H5 f (.dK (ks.map fun k => (Sum.inr k, .ref (t k)))) = HU at kU DU gU
          refine ⟨D, ks.map g', ks.map fun k => (Sum.inr k, g k), rfl, .inl (.inl DU), paired_map fun k m => .inl (.inl (gU k m)), fun o ho => ?_⟩
          have dU := kU.at d3
          have dO : d ≠ o := fun e => by
            rw [← e, dU] at ho
            cases ho
          have mn := merge_fresh (g := g) ks [] rat.nd (fun _ _ => rfl)
          rw [List.nil_append] at mn
          refine ⟨d, o, sd, ks.map fun k => (Sum.inr k, g k), rfl, rfl, dO, (Kp.new (p := no) ho).at dU, by rw [upd_same, mn], ?_, _, _, _, _, rfl, (((k1.trans (e2.trans e3)).trans kU).trans (Kp.new ho)).mut hd, _, upd_same, ?_, sok.add rat.nd rat.mem rat.walk cl, fun x mx => ?_⟩
          · rw [List.length_map]
            have : 100000 < sizeLine := by decide
            have : i < 9 := Nat.lt_of_lt_of_le hi hp.small
            omega
          · have := merge_len (ks.map fun k => (Sum.inr k, g k)) sd
            rw [List.length_map] at this
            omega
          · rw [valV_merge (g := g) x rat.nd]
            by_cases m : x ∈ ks
            · rw [if_pos m]
              rfl
            · rw [if_neg m]
              rw [tk] at mx
              rcases List.mem_append.mp mx with mx | mx
              · exact hdone x mx
              · exact absurd (List.mem_singleton.mp mx ▸ rat.bgn) m
      · have : (valV sd (Sum.inr r)).isSome = true := by
          cases h : (valV sd (Sum.inr r)).isSome with
          | true => rfl
          | false =>
            rw [h] at hb
            cases hb
        refine ⟨_, _, _, _, rfl, k1.trans e2, sd, e2.at hsd, by omega, sok, fun x mx => ?_⟩
        rw [tk] at mx
        rcases List.mem_append.mp mx with mx | mx
        · exact hdone x mx
        · rw [List.mem_singleton.mp mx]
          exact this
    · obtain ⟨a, b, c, e, rfl, k1, sd, hsd, hsl, sok, hdone⟩ := h
      rw [List.length_map, List.take_length] at hdone
      have sideV : ∀ {H2 : Hp} {v : V} {x : Str} {te : TE}, Kp no H1 H2 → x ∈ rooms → EvP no te [some (.ref y), some (.ref d), a, b, some v, e] H2 (IsV (.str x)) → ∃ n : Nat, valV sd (Sum.inr x) = some (.int (n : Int)) ∧ EvP no (tDGet (tVar 1) te) [some (.ref y), some (.ref d), a, b, some v, e] H2 (IsV (.int (n : Int))) := fun {H2 v x te} e2 mx hte => by
        obtain ⟨u, eu⟩ := Option.isSome_iff_exists.mp (hdone x mx)
        obtain ⟨_, n, rfl⟩ := sok.int x u eu
        refine ⟨n, eu, ev_dget (a := d) (y := kV (Sum.inr x)) (ev_val rfl) hte fun H3 e3 => ?_⟩
        rw [← eu]
        exact DGet.k ((e2.trans e3).at hsd)
      refine s_ret (p := no) (P := SplitP ps) ((ev_eqL0 (K := K) (l := ps.filter fun p => decide (valV sd (Sum.inr p.1) = valV sd (Sum.inr p.2))) (ev_lcOf (p := no) (K := K) ("", "") (l := ps) (S := FrzP) (R := FrzP) (f := fun p => decide (valV sd (Sum.inr p.1) = valV sd (Sum.inr p.2))) (fun _ => inferInstance) (fun _ => rfl) (by have := hp.few; omega) (ev_yardDoors (yv rfl k1)) (fun p mp v H2 e2 hv => ?_) fun p mp _ v H2 e2 hv => ev_var rfl hv) ev_lst0).imp fun H2 v _ hv => ⟨_, hv, split_fact sok hp hdone⟩) fun v H2 e2 hv => q v H2 (k1.trans e2) hv
      obtain ⟨ta, ev, hta⟩ := hv.t2.sqT (K := K)
      have dv : EvP no (tVar 4) [some (.ref y), some (.ref d), a, b, some v, e] H2 (VT K [.str p.1, .str p.2]) := ev_var rfl ⟨ta, ev, hta⟩
      obtain ⟨_, _, m1, m2, _⟩ := hp.pairs.ok p mp
      obtain ⟨n1, g1, t1⟩ := sideV (v := v) e2 m1 (ev_ixT2 dv (ev_c (v := .int 0)) (atI_nat (j := 0) rfl))
      obtain ⟨n2, g2, t2⟩ := sideV (v := v) e2 m2 (ev_ixT2 dv (ev_c (v := .int 1)) (atI_nat (j := 1) rfl))
      refine eb_test (EvP.val (ev_eq t1 t2 rfl) ?_)
      rw [g1, g2]
      congr 1
      by_cases z : (n1 : Int) = n2
      · rw [decide_eq_true (congrArg V.int z), decide_eq_true (by rw [z])]
      · rw [decide_eq_false fun w => z (V.int.inj w), decide_eq_false fun w => z (V.int.inj (Option.some.inj w))]
end
end Tau
set_option maxHeartbeats 4000000
namespace Tau
open PySem PySem.Spec PyProof.Rows L2
/-! walks, plain -/
def Adj (nb : Str → List Str) (w : List Str) : Prop := ∀ (i : Nat) (x y : Str), w[i]? = some x → w[i + 1]? = some y → y ∈ nb x
def NoB (w : List Str) : Prop := ∀ (i : Nat) (x : Str), w[i]? = some x → w[i + 2]? ≠ some x
theorem pre2_iff (u : List Str) (y : Str) : pre2 u = [y] ↔ 2 ≤ u.length ∧ u[u.length - 2]? = some y := by
  unfold pre2
  by_cases h : 2 ≤ u.length
  · rw [show u.length - 1 - (u.length - 2) = 1 by omega]
    have hl : u.length - 2 < u.length := by omega
    rw [List.drop_eq_getElem_cons hl, List.take_succ_cons, List.take_zero, List.getElem?_eq_getElem hl]
    constructor
    · intro e
      exact ⟨h, congrArg some (List.cons.inj e).1⟩
    · rintro ⟨_, e⟩
      rw [Option.some.inj e]
  · rw [show u.length - 1 - (u.length - 2) = 0 by omega, List.take_zero]
    constructor
    · intro e
      cases e
    · rintro ⟨h2, _⟩
      exact absurd h2 h
theorem lst_get {u : List Str} {x : Str} (h : u[u.length - 1]? = some x) : lst u = x := by
  unfold lst
  rw [List.getLastD_eq_getLast?, List.getLast?_eq_getElem?, h]
  rfl
theorem wk_iff {names : List Str} {nb : Str → List Str} (h : NbOk names nb) {r : Str} (hr : r ∈ names) : ∀ (s : Nat) (w : List Str), w ∈ wk nb r s ↔ w.length = s + 1 ∧ w[0]? = some r ∧ Adj nb w ∧ NoB w
  | 0, w => by
    show w ∈ [[r]] ↔ _
    rw [List.mem_singleton]
    constructor
    · rintro rfl
      refine ⟨rfl, rfl, fun i x y h1 h2 => ?_, fun i x h1 h2 => ?_⟩
      · have := (List.getElem?_eq_some_iff.mp h2).1
        simp at this
      · have := (List.getElem?_eq_some_iff.mp h2).1
        simp at this
    · rintro ⟨l, e, _, _⟩
      match w, l with
      | [x], _ =>
        have := Option.some.inj e
        rw [show x = r from this]
  | s + 1, w => by
    show w ∈ (wk nb r s).flatMap (ext nb) ↔ _
    rw [List.mem_flatMap]
    constructor
    · rintro ⟨u, mu, mw⟩
      obtain ⟨l, e, a, b⟩ := (wk_iff h hr s u).mp mu
      have gl := (wk_basic h hr s u mu).2.2
      obtain ⟨y, my, rfl⟩ := List.mem_map.mp mw
      obtain ⟨m1, m2⟩ := List.mem_filter.mp my
      have m2 : pre2 u ≠ [y] := fun z => by
        rw [decide_eq_true z] at m2
        cases m2
      have old : ∀ i, i < u.length → (u ++ [y])[i]? = u[i]? := fun i hi => List.getElem?_append_left hi
      have new : (u ++ [y])[u.length]? = some y := by
        rw [List.getElem?_append_right (Nat.le_refl _), Nat.sub_self]
        rfl
      have beyond : ∀ i z, (u ++ [y])[i]? = some z → i ≤ u.length := fun i z hz => by
        have := (List.getElem?_eq_some_iff.mp hz).1
        rw [List.length_append, List.length_singleton] at this
        omega
      refine ⟨by rw [List.length_append, l]; rfl, by rw [old 0 (by omega)]; exact e, fun i x z h1 h2 => ?_, fun i x h1 h2 => ?_⟩
      · have hi := beyond _ _ h2
        rw [old i (by omega)] at h1
        by_cases c : i + 1 = u.length
        · rw [c, new] at h2
          have : i = u.length - 1 := by omega
          rw [this, gl] at h1
          rw [← Option.some.inj h1, ← Option.some.inj h2]
          exact m1
        · rw [old (i + 1) (by omega)] at h2
          exact a i x z h1 h2
      · have hi := beyond _ _ h2
        rw [old i (by omega)] at h1
        by_cases c : i + 2 = u.length
        · rw [c, new] at h2
          have := Option.some.inj h2
          subst this
          exact m2 ((pre2_iff u y).mpr ⟨by omega, by rw [show u.length - 2 = i by omega]; exact h1⟩)
        · rw [old (i + 2) (by omega)] at h2
          exact b i x h1 h2
    · rintro ⟨l, e, a, b⟩
      have hne : w ≠ [] := fun z => by
        rw [z] at l
        cases l
      have ew := List.dropLast_concat_getLast hne
      generalize w.getLast hne = y at ew
      generalize hu : w.dropLast = u at ew
      subst ew
      rw [List.length_append, List.length_singleton] at l
      have old : ∀ i, i < u.length → (u ++ [y])[i]? = u[i]? := fun i hi => List.getElem?_append_left hi
      have new : (u ++ [y])[u.length]? = some y := by
        rw [List.getElem?_append_right (Nat.le_refl _), Nat.sub_self]
        rfl
      have within : ∀ i z, u[i]? = some z → i < u.length := fun i z hz => (List.getElem?_eq_some_iff.mp hz).1
      have mu : u ∈ wk nb r s := (wk_iff h hr s u).mpr ⟨by omega, by rw [← old 0 (by omega)]; exact e, fun i x z h1 h2 => a i x z (by rw [old i (within _ _ h1)]; exact h1) (by rw [old _ (within _ _ h2)]; exact h2), fun i x h1 h2 => b i x (by rw [old i (within _ _ h1)]; exact h1) (by rw [old _ (within _ _ h2)]; exact h2)⟩
      have gl := (wk_basic h hr s u mu).2.2
      refine ⟨u, mu, List.mem_map.mpr ⟨y, List.mem_filter.mpr ⟨?_, ?_⟩, rfl⟩⟩
      · refine a (u.length - 1) (lst u) y ?_ ?_
        · rw [old _ (by omega)]
          exact gl
        · rw [show u.length - 1 + 1 = u.length by omega]
          exact new
      · have : pre2 u ≠ [y] := fun z => by
          obtain ⟨h2, e2⟩ := (pre2_iff u y).mp z
          refine b (u.length - 2) y ?_ ?_
          · rw [old _ (by omega)]
            exact e2
          · rw [show u.length - 2 + 2 = u.length by omega]
            exact new
        rw [decide_eq_false this]
        rfl
/-- a closed simple walk of s steps -/
structure Cyc (nb : Str → List Str) (s : Nat) (w : List Str) : Prop where
  len : w.length = s + 1
  four : 4 ≤ s
  adj : Adj nb w
  clo : w[s]? = w[0]?
  inj : ∀ i j, i < s → j < s → w[i]? = w[j]? → i = j
theorem Cyc.at {nb : Str → List Str} {s : Nat} {w : List Str} (h : Cyc nb s w) {i : Nat} (hi : i ≤ s) : ∃ x, w[i]? = some x := ⟨_, List.getElem?_eq_getElem (by rw [h.len]; omega)⟩
theorem Cyc.noB {nb : Str → List Str} {s : Nat} {w : List Str} (h : Cyc nb s w) : NoB w := fun i x h1 h2 => by
  have h4 := h.four
  have hl := (List.getElem?_eq_some_iff.mp h2).1
  rw [h.len] at hl
  by_cases c : i + 2 < s
  · have := h.inj i (i + 2) (by omega) c (h1.trans h2.symm)
    omega
  · have e : i + 2 = s := by omega
    rw [e, h.clo] at h2
    have := h.inj i 0 (by omega) (by omega) (h1.trans h2.symm)
    omega
theorem Cyc.good {nb : Str → List Str} {s : Nat} {w : List Str} (h : Cyc nb s w) {a : Str} (ha : w[0]? = some a) : Good a w := by
  have h4 := h.four
  refine ⟨lst_get (by rw [h.len, Nat.add_sub_cancel, h.clo]; exact ha), fun e => ?_⟩
  rw [h.len] at e
  have := h.inj 1 (s + 1 - 2) (by omega) (by omega) e
  omega
theorem Cyc.mem {names : List Str} {nb : Str → List Str} (hk : NbOk names nb) {s : Nat} {w : List Str} (h : Cyc nb s w) {a : Str} (ha : w[0]? = some a) (hm : a ∈ names) : w ∈ wk nb a s :=
  (wk_iff hk hm s w).mpr ⟨h.len, ha, h.adj, h.noB⟩
theorem Cyc.names {names : List Str} {nb : Str → List Str} (hk : NbOk names nb) {s : Nat} {w : List Str} (h : Cyc nb s w) {a : Str} (ha : w[0]? = some a) (hm : a ∈ names) : ∀ (i : Nat) (x : Str), w[i]? = some x → x ∈ names
  | 0, x, e => by
    rw [ha] at e
    rw [← Option.some.inj e]
    exact hm
  | i + 1, x, e => by
    have hl := (List.getElem?_eq_some_iff.mp e).1
    obtain ⟨y, hy⟩ : ∃ y, w[i]? = some y := ⟨_, List.getElem?_eq_getElem (by omega)⟩
    exact hk.inn y (Cyc.names hk h ha hm i y hy) x (h.adj i y x hy e)
theorem Cyc.ring {nb : Str → List Str} {s : Nat} {w : List Str} (h : Cyc nb s w) (h7 : s ≤ 7) : Ring w := by
  have h4 := h.four
  have hl := h.len
  refine ⟨by omega, by omega, by rw [hl, Nat.add_sub_cancel]; exact h.clo.symm, fun i hi e => ?_, fun e => ?_, ?_⟩
  · refine h.noB i w[i] (List.getElem?_eq_getElem (by omega)) ?_
    rw [List.getElem?_eq_getElem hi, e]
  · rw [hl] at e
    have := h.inj 1 (s + 1 - 2) (by omega) (by omega) e
    omega
  · rw [List.nodup_iff_pairwise_ne, List.pairwise_iff_getElem]
    intro i j hi hj hij e
    rw [List.length_dropLast] at hi hj
    rw [List.getElem_dropLast, List.getElem_dropLast] at e
    have := h.inj i j (by omega) (by omega) (by rw [List.getElem?_eq_getElem (by omega), List.getElem?_eq_getElem (by omega), e])
    omega
/-- THE SPLIT: a closed walk of at most seven steps with no tail is simple -/
theorem cyc_of {names : List Str} {nb : Str → List Str} (hk : NbOk names nb) {a : Str} (hm : a ∈ names) {s : Nat} (h1 : 1 ≤ s) (h7 : s ≤ 7) {w : List Str} (hw : w ∈ wk nb a s) (g : Good a w) : Cyc nb s w := by
  obtain ⟨hl, h0, adj, nob⟩ := (wk_iff hk hm s w).mp hw
  have bas := wk_basic hk hm s w hw
  have clo : w[s]? = some a := by
    have := bas.2.2
    rw [hl, Nat.add_sub_cancel, g.1] at this
    exact this
  have tail := g.2
  rw [hl] at tail
  have at_ : ∀ (i : Nat), i ≤ s → ∃ x, w[i]? = some x := fun i hi => ⟨_, List.getElem?_eq_getElem (by omega)⟩
  have nm : ∀ (i : Nat) (x : Str), w[i]? = some x → x ∈ names := by
    intro i
    induction i with
    | zero =>
      intro x e
      rw [h0] at e
      rw [← Option.some.inj e]
      exact hm
    | succ i ih =>
      intro x e
      have hl := (List.getElem?_eq_some_iff.mp e).1
      obtain ⟨y, hy⟩ : ∃ y, w[i]? = some y := ⟨_, List.getElem?_eq_getElem (by omega)⟩
      exact hk.inn y (ih y hy) x (adj i y x hy e)
  -- no steps of one, two, three between the same
  have st1 : ∀ (i : Nat) (x : Str), w[i]? = some x → w[i + 1]? ≠ some x := fun i x e1 e2 => hk.irr x (nm i x e1) (adj i x x e1 e2)
  have st3 : ∀ (i : Nat) (x : Str), i + 3 ≤ s → w[i]? = some x → w[i + 3]? ≠ some x := fun i x hi e1 e2 => by
    obtain ⟨y, hy⟩ := at_ (i + 1) (by omega)
    obtain ⟨z, hz⟩ := at_ (i + 2) (by omega)
    have a1 := adj i x y e1 hy
    have a2 := adj (i + 1) y z hy hz
    have a3 := adj (i + 2) z x hz e2
    exact hk.tri x (nm i x e1) y a1 z a2 (hk.sym z (nm _ z hz) x a3)
  have far : ∀ (i j : Nat) (x : Str), i < j → j ≤ s → w[i]? = some x → w[j]? = some x → i + 4 ≤ j := fun i j x hij hj e1 e2 => by
    rcases Nat.lt_or_ge j (i + 4) with lt | ge
    · rcases (by omega : j = i + 1 ∨ j = i + 2 ∨ j = i + 3) with rfl | rfl | rfl
      · exact absurd e2 (st1 i x e1)
      · exact absurd e2 (nob i x e1)
      · exact absurd e2 (st3 i x hj e1)
    · exact ge
  have s4 : 4 ≤ s := by
    have := far 0 s a (by omega) (Nat.le_refl _) h0 clo
    omega
  refine ⟨hl, s4, adj, clo.trans h0.symm, ?_⟩
  have main : ∀ (i j : Nat), i < j → j < s → w[i]? ≠ w[j]? := fun i j hij hj e => by
    obtain ⟨x, hx⟩ := at_ i (by omega)
    rw [hx] at e
    have d := far i j x hij (by omega) hx e.symm
    -- the rest: i + (s - j) <= 3
    have rest : i + (s - j) ≤ 3 := by omega
    by_cases i0 : i = 0
    · subst i0
      rw [h0] at hx
      have := Option.some.inj hx
      subst this
      have := far j s a hj (Nat.le_refl _) e.symm clo
      omega
    · by_cases c1 : s - j = 1
      · have ej : j = s - 1 := by omega
        by_cases i1 : i = 1
        · subst i1 ej
          exact tail (by rw [hx]; exact e)
        · -- i = 2, j = s - 1: w0 w1 w2 = w[s-1] w[s] = w0
          have i2 : i = 2 := by omega
          subst i2
          obtain ⟨y, hy⟩ := at_ 1 (by omega)
          have a1 := adj 0 a y h0 hy
          have a2 := adj 1 y x hy hx
          have a3 := adj j x a e.symm (by rw [ej, show s - 1 + 1 = s by omega]; exact clo)
          exact hk.tri a hm y a1 x a2 (hk.sym x (nm _ x hx) a a3)
      · -- i = 1, j = s - 2
        have i1 : i = 1 := by omega
        have ej : j = s - 2 := by omega
        subst i1
        obtain ⟨y, hy⟩ := at_ (s - 1) (by omega)
        have a1 := adj 0 a x h0 hx
        have a2 := adj j x y e.symm (by rw [ej, show s - 2 + 1 = s - 1 by omega]; exact hy)
        have a3 := adj (s - 1) y a hy (by rw [show s - 1 + 1 = s by omega]; exact clo)
        exact hk.tri a hm x a1 y a2 (hk.sym y (nm _ y hy) a a3)
  intro i j hi hj e
  rcases Nat.lt_trichotomy i j with lt | eq | gt
  · exact absurd e (main i j lt hj)
  · exact eq
  · exact absurd e.symm (main j i gt hi)
/-- a closed walk of fewer than six steps has no tail -/
theorem good_of {names : List Str} {nb : Str → List Str} (hk : NbOk names nb) {a : Str} (hm : a ∈ names) {s : Nat} (h1 : 1 ≤ s) (h5 : s < 6) {w : List Str} (hw : w ∈ wk nb a s) (hc : lst w = a) : Good a w := by
  obtain ⟨hl, h0, adj, nob⟩ := (wk_iff hk hm s w).mp hw
  have bas := wk_basic hk hm s w hw
  have clo : w[s]? = some a := by
    have := bas.2.2
    rw [hl, Nat.add_sub_cancel, hc] at this
    exact this
  refine ⟨hc, fun e => ?_⟩
  rw [hl] at e
  have at_ : ∀ (i : Nat), i ≤ s → ∃ x, w[i]? = some x := fun i hi => ⟨_, List.getElem?_eq_getElem (by omega)⟩
  have nm : ∀ (i : Nat) (x : Str), w[i]? = some x → x ∈ names := by
    intro i
    induction i with
    | zero =>
      intro x e
      rw [h0] at e
      rw [← Option.some.inj e]
      exact hm
    | succ i ih =>
      intro x e
      have hl := (List.getElem?_eq_some_iff.mp e).1
      obtain ⟨y, hy⟩ : ∃ y, w[i]? = some y := ⟨_, List.getElem?_eq_getElem (by omega)⟩
      exact hk.inn y (ih y hy) x (adj i y x hy e)
  obtain ⟨x, hx⟩ := at_ 1 h1
  rw [hx] at e
  have e := e.symm
  rcases (by omega : s = 1 ∨ s = 2 ∨ s = 3 ∨ s = 4 ∨ s = 5) with rfl | rfl | rfl | rfl | rfl
  · have e : w[0]? = some x := e
    exact hk.irr x (nm 0 x e) (adj 0 x x e hx)
  · exact nob 0 a h0 clo
  · have e : w[2]? = some x := e
    exact hk.irr x (nm 1 x hx) (adj 1 x x hx e)
  · have e : w[3]? = some x := e
    exact nob 1 x hx e
  · have e : w[4]? = some x := e
    obtain ⟨y, hy⟩ := at_ 2 (by omega)
    obtain ⟨z, hz⟩ := at_ 3 (by omega)
    have a1 := adj 1 x y hx hy
    have a2 := adj 2 y z hy hz
    have a3 := adj 3 z x hz e
    exact hk.tri x (nm 1 x hx) y a1 z a2 (hk.sym z (nm _ z hz) x a3)
end Tau
set_option maxHeartbeats 4000000
namespace Tau
open PySem PySem.Spec PyProof.Rows L2
/-! turns of a ring -/
def ix (s a : Nat) : Nat := if a < s then a else a - s
theorem ix_lt {s a : Nat} (h : a < 2 * s) : ix s a < s := by
  unfold ix
  split <;> omega
theorem ix_ix {s a b c : Nat} (ha : a < s) (hb : b < s) (hc : c ≤ s) : ix s (a + ix s (b + c)) = ix s (ix s (a + b) + c) := by
  unfold ix
  split <;> split <;> split <;> split <;> omega
theorem rot_get {s : Nat} {w : List Str} (hl : w.length = s + 1) {k : Nat} (hk : k < s) {i : Nat} (hi : i ≤ s) : (rot w k)[i]? = w[ix s (k + i)]? := by
  unfold rot ix
  rw [hl, Nat.add_sub_cancel]
  have l1 : ((w.drop k).take (s - k)).length = s - k := by
    rw [List.length_take, List.length_drop, hl]
    omega
  by_cases c : k + i < s
  · rw [if_pos c, List.getElem?_append_left (by rw [l1]; omega), List.getElem?_take, if_pos (by omega), List.getElem?_drop]
  · rw [if_neg c, List.getElem?_append_right (by rw [l1]; omega), l1, List.getElem?_take, if_pos (by omega)]
    congr 1
    omega
theorem rot_length {s : Nat} {w : List Str} (hl : w.length = s + 1) {k : Nat} (hk : k < s) : (rot w k).length = s + 1 := by
  rw [rot_len (by omega), hl]
theorem Cyc.rot {nb : Str → List Str} {s : Nat} {w : List Str} (h : Cyc nb s w) {k : Nat} (hk : k < s) : Cyc nb s (Tau.rot w k) := by
  have hl := h.len
  have h4 := h.four
  have rl := rot_length hl hk
  refine ⟨rl, h4, fun i x y h1 h2 => ?_, ?_, fun i j hi hj e => ?_⟩
  · have hi := (List.getElem?_eq_some_iff.mp h2).1
    rw [rl] at hi
    rw [rot_get hl hk (by omega)] at h1 h2
    by_cases c : ix s (k + i) + 1 < s
    · refine h.adj (ix s (k + i)) x y h1 ?_
      rw [← h2]
      congr 1
      unfold ix at c ⊢
      split at c <;> split <;> split <;> omega
    · refine h.adj (ix s (k + i)) x y h1 ?_
      have e1 : ix s (k + i) + 1 = s := by
        have := ix_lt (s := s) (a := k + i) (by omega)
        omega
      have e2 : ix s (k + (i + 1)) = 0 := by
        unfold ix at e1 ⊢
        split at e1 <;> split <;> omega
      rw [e1, h.clo, ← e2]
      exact h2
  · rw [rot_get hl hk (Nat.le_refl _), rot_get hl hk (Nat.zero_le _)]
    congr 1
    unfold ix
    split <;> split <;> omega
  · rw [rot_get hl hk (by omega), rot_get hl hk (by omega)] at e
    have := h.inj _ _ (ix_lt (by omega)) (ix_lt (by omega)) e
    unfold ix at this
    split at this <;> split at this <;> omega
theorem list_ext {s : Nat} {u v : List Str} (hu : u.length = s + 1) (hv : v.length = s + 1) (h : ∀ i, i ≤ s → u[i]? = v[i]?) : u = v := by
  apply List.ext_getElem?
  intro i
  by_cases c : i ≤ s
  · exact h i c
  · rw [List.getElem?_eq_none (by omega), List.getElem?_eq_none (by omega)]
theorem rot_rot {nb : Str → List Str} {s : Nat} {w : List Str} (h : Cyc nb s w) {k j : Nat} (hk : k < s) (hj : j < s) : Tau.rot (Tau.rot w k) j = Tau.rot w (ix s (k + j)) := by
  have hl := h.len
  have rl := rot_length hl hk
  have hi := ix_lt (s := s) (a := k + j) (by omega)
  refine list_ext (rot_length rl hj) (rot_length hl hi) fun i hi2 => ?_
  rw [rot_get rl hj hi2, rot_get hl hk (Nat.le_of_lt (ix_lt (by omega))), rot_get hl hi hi2, ix_ix hk hj hi2]
theorem rot_zero {nb : Str → List Str} {s : Nat} {w : List Str} (h : Cyc nb s w) : Tau.rot w 0 = w := by
  have hl := h.len
  have h4 := h.four
  refine list_ext (rot_length hl (by omega)) hl fun i hi => ?_
  rw [rot_get hl (by omega) hi]
  unfold ix
  by_cases c : i < s
  · rw [if_pos (by omega), Nat.zero_add]
  · have e : i = s := by omega
    rw [if_neg (by omega), e, Nat.zero_add, Nat.sub_self, h.clo]
theorem rot_back {nb : Str → List Str} {s : Nat} {w : List Str} (h : Cyc nb s w) {k : Nat} (hk : k < s) : ∃ j, j < s ∧ Tau.rot (Tau.rot w k) j = w := by
  have h4 := h.four
  by_cases c : k = 0
  · refine ⟨0, by omega, ?_⟩
    rw [rot_rot h hk (by omega), c]
    have : ix s (0 + 0) = 0 := by
      unfold ix
      rw [if_pos (by omega)]
    rw [this]
    exact rot_zero h
  · refine ⟨s - k, by omega, ?_⟩
    rw [rot_rot h hk (by omega)]
    have : ix s (k + (s - k)) = 0 := by
      unfold ix
      rw [if_neg (by omega)]
      omega
    rw [this]
    exact rot_zero h
theorem mem_rots {s : Nat} {w x : List Str} (hl : w.length = s + 1) : x ∈ rots w ↔ ∃ k, k < s ∧ x = Tau.rot w k := by
  unfold rots
  rw [List.mem_map, hl, Nat.add_sub_cancel]
  exact ⟨fun ⟨k, m, e⟩ => ⟨k, List.mem_range.mp m, e.symm⟩, fun ⟨k, m, e⟩ => ⟨k, List.mem_range.mpr m, e.symm⟩⟩
theorem nm_least {w : List Str} (h : rots w ≠ []) : nm w ∈ rots w ∧ ∀ y ∈ rots w, wlt y (nm w) = false := by
  unfold nm
  cases e : rots w with
  | nil => exact absurd e h
  | cons x xs => exact minW_least xs x
theorem Cyc.rots_ne {nb : Str → List Str} {s : Nat} {w : List Str} (h : Cyc nb s w) : rots w ≠ [] := fun e => by
  have h4 := h.four
  have : Tau.rot w 0 ∈ rots w := (mem_rots h.len).mpr ⟨0, by omega, rfl⟩
  rw [e] at this
  exact absurd this List.not_mem_nil
theorem nm_rot {nb : Str → List Str} {s : Nat} {w : List Str} (h : Cyc nb s w) {k : Nat} (hk : k < s) : nm (Tau.rot w k) = nm w := by
  have hr := h.rot hk
  obtain ⟨m1, l1⟩ := nm_least h.rots_ne
  obtain ⟨m2, l2⟩ := nm_least hr.rots_ne
  have sub : ∀ x, x ∈ rots (Tau.rot w k) → x ∈ rots w := fun x m => by
    obtain ⟨j, hj, rfl⟩ := (mem_rots hr.len).mp m
    exact (mem_rots h.len).mpr ⟨_, ix_lt (by omega), rot_rot h hk hj⟩
  have sup : ∀ x, x ∈ rots w → x ∈ rots (Tau.rot w k) := fun x m => by
    obtain ⟨j, hj, rfl⟩ := (mem_rots h.len).mp m
    obtain ⟨i, hi, e⟩ := rot_back h hk
    refine (mem_rots hr.len).mpr ⟨ix s (i + j), ix_lt (by omega), ?_⟩
    rw [← rot_rot hr hi hj, e]
  exact wlt_total (l1 _ (sub _ m2)) (l2 _ (sup _ m1))
/-- the name of a ring is one of its turns -/
theorem nm_turn {nb : Str → List Str} {s : Nat} {w : List Str} (h : Cyc nb s w) : ∃ k, k < s ∧ nm w = Tau.rot w k := (mem_rots h.len).mp (nm_least h.rots_ne).1
theorem Cyc.nm {nb : Str → List Str} {s : Nat} {w : List Str} (h : Cyc nb s w) : Cyc nb s (Tau.nm w) ∧ Tau.nm (Tau.nm w) = Tau.nm w := by
  obtain ⟨k, hk, e⟩ := nm_turn h
  constructor
  · rw [e]
    exact h.rot hk
  · have := nm_rot h hk
    rw [← e] at this
    exact this
/-- two rings of one name that begin alike are one -/
theorem nm_inj {nb : Str → List Str} {s : Nat} {w w' : List Str} (h : Cyc nb s w) (h' : Cyc nb s w') (e : Tau.nm w = Tau.nm w') (e0 : w[0]? = w'[0]?) : w = w' := by
  have h4 := h.four
  obtain ⟨k, hk, e1⟩ := nm_turn h
  obtain ⟨k', hk', e2⟩ := nm_turn h'
  obtain ⟨j, hj, e3⟩ := rot_back h hk
  rw [← e1, e, e2, rot_rot h' hk' hj] at e3
  have hi := ix_lt (s := s) (a := k' + j) (by omega)
  generalize ix s (k' + j) = i at e3 hi
  have g := rot_get h'.len hi (Nat.zero_le s)
  rw [e3, e0] at g
  have : ix s (i + 0) = i := by
    unfold ix
    rw [if_pos (by omega)]
    rfl
  rw [this] at g
  have i0 := h'.inj 0 i (by omega) hi g
  rw [← e3, ← i0]
  exact rot_zero h'
structure RingAt (names : List Str) (nb : Str → List Str) (s : Nat) (x : List Str) : Prop where
  cyc : Cyc nb s x
  mem : ∀ (i : Nat) (a : Str), x[i]? = some a → a ∈ names
  nm : Tau.nm x = x
theorem ring_at {names : List Str} {nb : Str → List Str} (hk : NbOk names nb) {s : Nat} (h1 : 1 ≤ s) (h7 : s ≤ 7) {x : List Str} (h : IsRing names nb s x) : RingAt names nb s x := by
  obtain ⟨r, mr, w, mw, g, rfl⟩ := h
  have c := cyc_of hk mr h1 h7 mw g
  have h0 := ((wk_iff hk mr s w).mp mw).2.1
  obtain ⟨k, hk2, e⟩ := nm_turn c
  have mem := c.names hk h0 mr
  refine ⟨c.nm.1, fun i a ha => ?_, c.nm.2⟩
  have hi := (List.getElem?_eq_some_iff.mp ha).1
  rw [c.nm.1.len] at hi
  rw [e, rot_get c.len hk2 (by omega)] at ha
  exact mem _ a ha
theorem is_ring {names : List Str} {nb : Str → List Str} (hk : NbOk names nb) {s : Nat} {w : List Str} (c : Cyc nb s w) {a : Str} (h0 : w[0]? = some a) (ha : a ∈ names) : IsRing names nb s (Tau.nm w) :=
  ⟨a, ha, w, c.mem hk h0 ha, c.good h0, rfl⟩
end Tau
set_option maxHeartbeats 4000000
namespace Tau
open PySem PySem.Spec PyProof.Rows L2
/-! counting -/
instance {a : Str} {w : List Str} : Decidable (Good a w) := by
  unfold Good
  infer_instance
theorem rel_len {α β : Type} [DecidableEq β] {Rel : α → β → Prop} : ∀ {S : List α} {G : List β}, S.Nodup → (∀ x ∈ S, ∃ y ∈ G, Rel x y) → (∀ x ∈ S, ∀ x' ∈ S, ∀ y, Rel x y → Rel x' y → x = x') → S.length ≤ G.length
  | [], _, _, _, _ => Nat.zero_le _
  | x :: S, G, nd, h, inj => by
    have nd := List.nodup_cons.mp nd
    obtain ⟨y, my, ry⟩ := h x (List.mem_cons_self ..)
    have := rel_len (Rel := Rel) (S := S) (G := G.erase y) nd.2 (fun x' m => by
      obtain ⟨y', my', ry'⟩ := h x' (List.mem_cons_of_mem _ m)
      refine ⟨y', (List.mem_erase_of_ne fun e => ?_).mpr my', ry'⟩
      subst e
      have := inj x (List.mem_cons_self ..) x' (List.mem_cons_of_mem _ m) y' ry ry'
      exact nd.1 (this ▸ m)) fun x1 m1 x2 m2 y => inj x1 (List.mem_cons_of_mem _ m1) x2 (List.mem_cons_of_mem _ m2) y
    rw [List.length_erase_of_mem my] at this
    have := List.length_pos_of_mem my
    rw [List.length_cons]
    omega
theorem nodup_flat {α β : Type} {f : α → List β} : ∀ {l : List α}, l.Nodup → (∀ a ∈ l, (f a).Nodup) → (∀ a ∈ l, ∀ b ∈ l, ∀ x, x ∈ f a → x ∈ f b → a = b) → (l.flatMap f).Nodup
  | [], _, _, _ => List.nodup_nil
  | a :: l, nd, h1, h2 => by
    have nd := List.nodup_cons.mp nd
    rw [List.flatMap_cons, List.nodup_append]
    refine ⟨h1 a (List.mem_cons_self ..), nodup_flat nd.2 (fun b m => h1 b (List.mem_cons_of_mem _ m)) fun b mb c mc => h2 b (List.mem_cons_of_mem _ mb) c (List.mem_cons_of_mem _ mc), fun x hx y hy e => ?_⟩
    subst e
    obtain ⟨b, mb, hb⟩ := List.mem_flatMap.mp hy
    have := h2 a (List.mem_cons_self ..) b (List.mem_cons_of_mem _ mb) x hx hb
    exact nd.1 (this ▸ mb)
theorem wk_nodup {names : List Str} {nb : Str → List Str} (hk : NbOk names nb) {r : Str} (hr : r ∈ names) : ∀ s, (wk nb r s).Nodup
  | 0 => List.nodup_cons.mpr ⟨List.not_mem_nil, List.nodup_nil⟩
  | s + 1 => by
    refine nodup_flat (wk_nodup hk hr s) (fun u mu => ?_) fun u mu v mv x hx hy => ?_
    · unfold ext
      exact nodup_map ((hk.once _ (wk_basic hk hr s u mu).2.1).filter _) fun a _ b _ e => (List.cons.inj (List.append_cancel_left e)).1
    · obtain ⟨y, _, rfl⟩ := List.mem_map.mp hx
      obtain ⟨z, _, e⟩ := List.mem_map.mp hy
      exact (List.append_inj_left' e rfl).symm
/-- the walks at a that are rings -/
def gl (nb : Str → List Str) (a : Str) (s : Nat) : List (List Str) := (wk nb a s).filter fun w => decide (Good a w)
theorem mem_gl {nb : Str → List Str} {a : Str} {s : Nat} {w : List Str} : w ∈ gl nb a s ↔ w ∈ wk nb a s ∧ Good a w := by
  unfold gl
  rw [List.mem_filter]
  exact ⟨fun ⟨h1, h2⟩ => ⟨h1, of_decide_eq_true h2⟩, fun ⟨h1, h2⟩ => ⟨h1, decide_eq_true h2⟩⟩
section
variable {names : List Str} {nb : Str → List Str} {s : Nat} (hk : NbOk names nb) (h1 : 1 ≤ s) (h7 : s ≤ 7)
include hk h1 h7
theorem gl_cyc {a : Str} (ha : a ∈ names) {w : List Str} (m : w ∈ gl nb a s) : Cyc nb s w ∧ w[0]? = some a := by
  obtain ⟨mw, g⟩ := mem_gl.mp m
  exact ⟨cyc_of hk ha h1 h7 mw g, ((wk_iff hk ha s w).mp mw).2.1⟩
omit h1 h7 in
theorem cyc_gl {a : Str} (ha : a ∈ names) {w : List Str} (c : Cyc nb s w) (h0 : w[0]? = some a) : w ∈ gl nb a s := mem_gl.mpr ⟨c.mem hk h0 ha, c.good h0⟩
variable {R : List (List Str)} (nd : R.Nodup) (hR : ∀ x, x ∈ R ↔ IsRing names nb s x)
include nd hR
omit h1 h7 nd in
theorem begun_le (rR : ∀ x ∈ R, RingAt names nb s x) (nd : R.Nodup) {a : Str} (ha : a ∈ names) : (R.filter fun x => decide (∃ k, k < s ∧ x[k]? = some a)).length ≤ (gl nb a s).length := by
  refine rel_len (Rel := fun x y => ∃ k, k < s ∧ x[k]? = some a ∧ y = Tau.rot x k) (nd.filter _) (fun x m => ?_) fun x m x' m' y ⟨k, hk1, e1, e2⟩ ⟨k', hk2, e3, e4⟩ => ?_
  · obtain ⟨mx, hx⟩ := List.mem_filter.mp m
    obtain ⟨k, hk1, e⟩ := of_decide_eq_true hx
    have c := (rR x mx).cyc
    refine ⟨_, cyc_gl hk ha (c.rot hk1) ?_, k, hk1, e, rfl⟩
    rw [rot_get c.len hk1 (Nat.zero_le _), ← e]
    congr 1
    unfold ix
    rw [if_pos (by omega)]
    rfl
  · have r := rR x (List.mem_filter.mp m).1
    have r' := rR x' (List.mem_filter.mp m').1
    rw [← r.nm, ← r'.nm, ← nm_rot r.cyc hk1, ← nm_rot r'.cyc hk2, ← e2, ← e4]
theorem le_begun {a : Str} (ha : a ∈ names) : (gl nb a s).length ≤ (R.filter fun x => decide (∃ k, k < s ∧ x[k]? = some a)).length := by
  refine rel_len (Rel := fun w x => x = Tau.nm w) ((wk_nodup hk ha s).filter _) (fun w m => ?_) fun w m w' m' x e e' => ?_
  · obtain ⟨c, h0⟩ := gl_cyc hk h1 h7 ha m
    refine ⟨_, List.mem_filter.mpr ⟨(hR _).mpr (is_ring hk c h0 ha), decide_eq_true ?_⟩, rfl⟩
    obtain ⟨k, hk1, e⟩ := nm_turn c
    obtain ⟨j, hj, eb⟩ := rot_back c hk1
    refine ⟨j, hj, ?_⟩
    rw [e, ← h0]
    have g := rot_get (c.rot hk1).len hj (Nat.zero_le s)
    rw [eb] at g
    rw [g]
    congr 1
    unfold ix
    rw [if_pos (by omega)]
    rfl
  · obtain ⟨c, h0⟩ := gl_cyc hk h1 h7 ha m
    obtain ⟨c', h0'⟩ := gl_cyc hk h1 h7 ha m'
    exact nm_inj c c' (e.symm.trans e') (h0.trans h0'.symm)
end
/-! walks by their last two rooms -/
def k2 (w : List Str) : Str × Str := (w[w.length - 2]?.getD "", lst w)
theorem sum_filter (l : List (List Str)) (p : List Str → Bool) : (l.map fun w => if p w = true then 1 else 0).sum = (l.filter p).length := by
  induction l with
  | nil => rfl
  | cons w l ih =>
    rw [List.map_cons, List.sum_cons, ih]
    by_cases h : p w = true
    · rw [if_pos h, List.filter_cons_of_pos h, List.length_cons]
      omega
    · rw [if_neg h, List.filter_cons_of_neg h]
      omega
theorem Wsum_eq {names : List Str} {nb : Str → List Str} (hk : NbOk names nb) {r : Str} (hr : r ∈ names) : ∀ (j : Nat) (f : Str × Str → Nat), Wsum nb r j f = ((wk nb r (j + 1)).map fun w => f (k2 w)).sum
  | 0, f => by
    show ((nb r).map fun x => f (r, x)).sum = (([[r]].flatMap (ext nb)).map fun w => f (k2 w)).sum
    have e : [[r]].flatMap (ext nb) = (nb r).map fun y => [r, y] := by
      rw [List.flatMap_singleton]
      unfold ext
      have : lst [r] = r := rfl
      rw [this]
      rw [List.filter_eq_self.mpr fun y _ => ?_]
      · rfl
      · have : pre2 [r] ≠ [y] := fun e => by
          have := ((pre2_iff _ _).mp e).1
          have : 2 ≤ 1 := this
          omega
        rw [decide_eq_false this]
        rfl
    rw [e, List.map_map]
    rfl
  | j + 1, f => by
    show Wsum nb r j _ = _
    rw [Wsum_eq hk hr j]
    show _ = (((wk nb r (j + 1)).flatMap (ext nb)).map fun w => f (k2 w)).sum
    have all : ∀ l : List (List Str), (∀ w ∈ l, w ∈ wk nb r (j + 1)) → (l.map fun w => (((nb (k2 w).2).filter fun y => decide (y ≠ (k2 w).1)).map fun y => f ((k2 w).2, y)).sum).sum = ((l.flatMap (ext nb)).map fun w => f (k2 w)).sum := fun l hl => by
      induction l with
      | nil => rfl
      | cons w l ih =>
        rw [List.map_cons, List.sum_cons, List.flatMap_cons, List.map_append, List.sum_append, ih fun u m => hl u (List.mem_cons_of_mem _ m)]
        congr 1
        have mw := hl w (List.mem_cons_self ..)
        have wl := (wk_basic hk hr (j + 1) w mw).1
        have gl := (wk_basic hk hr (j + 1) w mw).2.2
        obtain ⟨p, hp⟩ : ∃ p, w[w.length - 2]? = some p := ⟨_, List.getElem?_eq_getElem (by omega)⟩
        unfold ext
        rw [List.map_map]
        have ef : (fun y => decide (y ≠ (k2 w).1)) = fun y => !decide (pre2 w = [y]) := by
          funext y
          have : pre2 w = [y] ↔ y = (k2 w).1 := by
            rw [pre2_iff]
            show _ ↔ y = w[w.length - 2]?.getD ""
            rw [hp]
            exact ⟨fun h => (Option.some.inj h.2).symm, fun h => ⟨by omega, by rw [h]; rfl⟩⟩
          by_cases c : y = (k2 w).1
          · rw [decide_eq_false (fun z => z c), decide_eq_true (this.mpr c)]
            rfl
          · rw [decide_eq_true c, decide_eq_false fun z => c (this.mp z)]
            rfl
        rw [ef]
        refine congrArg List.sum (List.map_congr_left fun y _ => ?_)
        show f ((k2 w).2, y) = f (k2 (w ++ [y]))
        congr 1
        show _ = ((w ++ [y])[(w ++ [y]).length - 2]?.getD "", lst (w ++ [y]))
        rw [lst_snoc, List.length_append, List.length_singleton, show w.length + 1 - 2 = w.length - 1 by omega, List.getElem?_append_left (by omega), gl]
        rfl
    exact all _ fun w m => m
theorem count_eq {names : List Str} {nb : Str → List Str} (hk : NbOk names nb) {r : Str} (hr : r ∈ names) (j : Nat) : (Wsum nb r j fun k => if k.2 = r then 1 else 0) = ((wk nb r (j + 1)).filter fun w => decide (lst w = r)).length := by
  rw [Wsum_eq hk hr, ← sum_filter]
  refine congrArg List.sum (List.map_congr_left fun w _ => ?_)
  show (if lst w = r then 1 else 0) = _
  by_cases c : lst w = r
  · rw [if_pos c, if_pos (decide_eq_true c)]
  · rw [if_neg c, if_neg (by rw [decide_eq_false c]; decide)]
theorem gl_le_count {nb : Str → List Str} {a : Str} {s : Nat} : (gl nb a s).length ≤ ((wk nb a s).filter fun w => decide (lst w = a)).length := by
  unfold gl
  have : ∀ l : List (List Str), (l.filter fun w => decide (Good a w)).length ≤ (l.filter fun w => decide (lst w = a)).length := fun l => by
    induction l with
    | nil => exact Nat.le_refl _
    | cons w l ih =>
      by_cases g : Good a w
      · rw [List.filter_cons_of_pos (by exact decide_eq_true g), List.filter_cons_of_pos (by exact decide_eq_true g.1), List.length_cons, List.length_cons]
        omega
      · rw [List.filter_cons_of_neg (by rw [decide_eq_false g]; decide)]
        by_cases c : lst w = a
        · rw [List.filter_cons_of_pos (by exact decide_eq_true c), List.length_cons]
          omega
        · rw [List.filter_cons_of_neg (by rw [decide_eq_false c]; decide)]
          exact ih
  exact this _
theorem count_le_gl {names : List Str} {nb : Str → List Str} (hk : NbOk names nb) {a : Str} (ha : a ∈ names) {s : Nat} (h1 : 1 ≤ s) (h5 : s < 6) : ((wk nb a s).filter fun w => decide (lst w = a)).length ≤ (gl nb a s).length := by
  unfold gl
  have : ∀ l : List (List Str), (∀ w ∈ l, w ∈ wk nb a s) → (l.filter fun w => decide (lst w = a)).length ≤ (l.filter fun w => decide (Good a w)).length := fun l hl => by
    induction l with
    | nil => exact Nat.le_refl _
    | cons w l ih =>
      have ih := ih fun u m => hl u (List.mem_cons_of_mem _ m)
      by_cases c : lst w = a
      · have g := good_of hk ha h1 h5 (hl w (List.mem_cons_self ..)) c
        rw [List.filter_cons_of_pos (by exact decide_eq_true c), List.filter_cons_of_pos (by exact decide_eq_true g), List.length_cons, List.length_cons]
        omega
      · rw [List.filter_cons_of_neg (by rw [decide_eq_false c]; decide)]
        by_cases g : Good a w
        · exact absurd g.1 c
        · rw [List.filter_cons_of_neg (by rw [decide_eq_false g]; decide)]
          exact ih
  exact this _ fun w m => m
/-- how often a begins: by the rings' rooms laid in a row -/
theorem begun_count {nb : Str → List Str} {s : Nat} {a : Str} : ∀ {R : List (List Str)}, (∀ x ∈ R, Cyc nb s x) → (R.flatMap fun x => x.take s).count a = (R.filter fun x => decide (∃ k, k < s ∧ x[k]? = some a)).length
  | [], _ => rfl
  | x :: R, h => by
    have c := h x (List.mem_cons_self ..)
    have ih := begun_count (a := a) fun y m => h y (List.mem_cons_of_mem _ m)
    have nd : (x.take s).Nodup := by
      rw [List.nodup_iff_pairwise_ne, List.pairwise_iff_getElem]
      intro i j hi hj hij e
      rw [List.length_take] at hi hj
      rw [List.getElem_take, List.getElem_take] at e
      have := c.inj i j (by omega) (by omega) (by rw [List.getElem?_eq_getElem (by omega), List.getElem?_eq_getElem (by omega), e])
      omega
    rw [List.flatMap_cons, List.count_append, ih]
    by_cases m : ∃ k, k < s ∧ x[k]? = some a
    · rw [List.filter_cons_of_pos (by exact decide_eq_true m), List.length_cons]
      obtain ⟨k, hk, e⟩ := m
      have ma : a ∈ x.take s := List.mem_of_getElem? (i := k) (by rw [List.getElem?_take, if_pos hk]; exact e)
      have h1 := List.nodup_iff_count.mp nd a
      have h2 := List.count_pos_iff.mpr ma
      omega
    · rw [List.filter_cons_of_neg (by rw [decide_eq_false m]; decide)]
      have : a ∉ x.take s := fun ma => m (by
        obtain ⟨k, hk, e⟩ := List.mem_iff_getElem.mp ma
        rw [List.length_take] at hk
        rw [List.getElem_take] at e
        exact ⟨k, by omega, by rw [← e]; exact List.getElem?_eq_getElem (by omega)⟩)
      rw [List.count_eq_zero.mpr this]
      omega
end Tau
set_option maxHeartbeats 4000000
namespace Tau
open PySem PySem.Spec PyProof.Rows L2
/-! at most two thousand names -/
theorem flat_le {α β : Type} {f : α → List β} {c : Nat} : ∀ {l : List α}, (∀ a ∈ l, (f a).length ≤ c) → (l.flatMap f).length ≤ l.length * c
  | [], _ => Nat.zero_le _
  | a :: l, h => by
    have h1 := h a (List.mem_cons_self ..)
    have h2 := flat_le (l := l) fun b m => h b (List.mem_cons_of_mem _ m)
    rw [List.flatMap_cons, List.length_append, List.length_cons, Nat.add_mul]
    omega
def P2 (l : List Str) : List (Str × Str) := l.flatMap fun x => (l.erase x).map fun y => (x, y)
theorem P2_len (l : List Str) : (P2 l).length ≤ l.length * (l.length - 1) := flat_le fun x m => by
  rw [List.length_map, List.length_erase_of_mem m]
  exact Nat.le_refl _
theorem mem_P2 {l : List Str} {x y : Str} (hx : x ∈ l) (hy : y ∈ l) (ne : x ≠ y) : (x, y) ∈ P2 l :=
  List.mem_flatMap.mpr ⟨x, hx, List.mem_map.mpr ⟨y, (List.mem_erase_of_ne fun e => ne e.symm).mpr hy, rfl⟩⟩
theorem of_P2 {l : List Str} {p : Str × Str} (h : p ∈ P2 l) : p.1 ∈ l ∧ p.2 ∈ l.erase p.1 := by
  obtain ⟨x, mx, h⟩ := List.mem_flatMap.mp h
  obtain ⟨y, my, rfl⟩ := List.mem_map.mp h
  exact ⟨mx, my⟩
/-- without these two -/
def less (l : List Str) (p : Str × Str) : List Str := (l.erase p.1).erase p.2
theorem less_len {l : List Str} {p : Str × Str} (h : p ∈ P2 l) : (less l p).length = l.length - 2 := by
  obtain ⟨h1, h2⟩ := of_P2 h
  unfold less
  rw [List.length_erase_of_mem h2, List.length_erase_of_mem h1]
  omega
theorem mem_less {l : List Str} {x y z : Str} (hz : z ∈ l) (h1 : z ≠ x) (h2 : z ≠ y) : z ∈ less l (x, y) :=
  (List.mem_erase_of_ne h2).mpr ((List.mem_erase_of_ne h1).mpr hz)
section
variable {names : List Str} {nb : Str → List Str} (hk : NbOk names nb) {a : Str} (ha : a ∈ names)
/-- who stands beside neither a nor is a -/
def away (names : List Str) (nb : Str → List Str) (a : Str) : List Str := names.filter fun x => decide (x ≠ a ∧ x ∉ nb a)
include hk ha
theorem mem_away {x : Str} (hx : x ∈ names) (h1 : x ≠ a) (h2 : x ∉ nb a) : x ∈ away names nb a := List.mem_filter.mpr ⟨hx, decide_eq_true ⟨h1, h2⟩⟩
theorem de_len : (nb a).length + (away names nb a).length ≤ 8 := by
  have nd : (a :: (nb a ++ away names nb a)).Nodup := by
    rw [List.nodup_cons, List.nodup_append]
    refine ⟨fun m => ?_, hk.once a ha, hk.nd.filter _, fun x hx y hy e => ?_⟩
    · rcases List.mem_append.mp m with m | m
      · exact hk.irr a ha m
      · exact (of_decide_eq_true (List.mem_filter.mp m).2).1 rfl
    · subst e
      exact (of_decide_eq_true (List.mem_filter.mp hy).2).2 hx
  have := nodup_len (ys := names) nd fun x m => by
    rcases List.mem_cons.mp m with rfl | m
    · exact ha
    · rcases List.mem_append.mp m with m | m
      · exact hk.inn a ha x m
      · exact (List.mem_filter.mp m).1
  rw [List.length_cons, List.length_append] at this
  have := hk.small
  omega
/-- what is known of the rooms of a ring at a -/
theorem ends {s : Nat} {w : List Str} (c : Cyc nb s w) (h0 : w[0]? = some a) : ∃ p q : Str, w[1]? = some p ∧ w[s - 1]? = some q ∧ p ∈ nb a ∧ q ∈ nb a ∧ p ≠ q ∧ ∀ u v : Str, w[2]? = some u → w[s - 2]? = some v → u ∈ away names nb a ∧ v ∈ away names nb a := by
  have h4 := c.four
  have mem := c.names hk h0 ha
  obtain ⟨p, hp⟩ := c.at (i := 1) (by omega)
  obtain ⟨q, hq⟩ := c.at (i := s - 1) (by omega)
  have pa := c.adj 0 a p h0 hp
  have qa : q ∈ nb a := hk.sym q (mem _ q hq) a (c.adj (s - 1) q a hq (by rw [show s - 1 + 1 = s by omega, c.clo]; exact h0))
  refine ⟨p, q, hp, hq, pa, qa, fun e => ?_, fun u v hu hv => ⟨?_, ?_⟩⟩
  · have := c.inj 1 (s - 1) (by omega) (by omega) (by rw [hp, hq, e])
    omega
  · refine mem_away hk ha (mem _ u hu) (fun e => ?_) (hk.tri a ha p pa u (c.adj 1 p u hp hu))
    have := c.inj 0 2 (by omega) (by omega) (by rw [h0, hu, e])
    omega
  · refine mem_away hk ha (mem _ v hv) (fun e => ?_) (hk.tri a ha q qa v (hk.sym v (mem _ v hv) q (c.adj (s - 2) v q hv (by rw [show s - 2 + 1 = s - 1 by omega]; exact hq))))
    have := c.inj 0 (s - 2) (by omega) (by omega) (by rw [h0, hv, e])
    omega
theorem gl4 : (gl nb a 4).length ≤ (nb a).length * ((nb a).length - 1) * (away names nb a).length := by
  refine Nat.le_trans (rel_len (Rel := fun w (t : (Str × Str) × Str) => w = [a, t.1.1, t.2, t.1.2, a]) (G := (P2 (nb a)).flatMap fun p => (away names nb a).map fun m => (p, m)) ((wk_nodup hk ha 4).filter _) (fun w m => ?_) fun w m w' m' t e e' => e.trans e'.symm) (Nat.le_trans (flat_le (c := (away names nb a).length) fun p mp => by rw [List.length_map]; exact Nat.le_refl _) (Nat.mul_le_mul_right _ (P2_len _)))
  obtain ⟨c, h0⟩ := gl_cyc hk (by decide) (by decide) ha m
  obtain ⟨p, q, hp, hq, pa, qa, ne, aw⟩ := ends hk ha c h0
  match w, c.len with
  | [x0, x1, x2, x3, x4], _ =>
    obtain rfl : x0 = a := Option.some.inj h0
    obtain rfl : x4 = x0 := Option.some.inj c.clo
    obtain rfl : x1 = p := Option.some.inj hp
    obtain rfl : x3 = q := Option.some.inj hq
    exact ⟨((x1, x3), x2), List.mem_flatMap.mpr ⟨(x1, x3), mem_P2 pa qa ne, List.mem_map.mpr ⟨x2, (aw x2 x2 rfl rfl).1, rfl⟩⟩, rfl⟩
theorem gl5 : (gl nb a 5).length ≤ (nb a).length * ((nb a).length - 1) * ((away names nb a).length * ((away names nb a).length - 1)) := by
  refine Nat.le_trans (rel_len (Rel := fun w (t : (Str × Str) × (Str × Str)) => w = [a, t.1.1, t.2.1, t.2.2, t.1.2, a]) (G := (P2 (nb a)).flatMap fun p => (P2 (away names nb a)).map fun m => (p, m)) ((wk_nodup hk ha 5).filter _) (fun w m => ?_) fun w m w' m' t e e' => e.trans e'.symm) (Nat.le_trans (flat_le (c := (away names nb a).length * ((away names nb a).length - 1)) fun p mp => by rw [List.length_map]; exact P2_len _) (Nat.mul_le_mul_right _ (P2_len _)))
  obtain ⟨c, h0⟩ := gl_cyc hk (by decide) (by decide) ha m
  obtain ⟨p, q, hp, hq, pa, qa, ne, aw⟩ := ends hk ha c h0
  have i23 : w[2]? ≠ w[3]? := fun e => absurd (c.inj 2 3 (by decide) (by decide) e) (by decide)
  match w, c.len with
  | [x0, x1, x2, x3, x4, x5], _ =>
    obtain rfl : x0 = a := Option.some.inj h0
    obtain rfl : x5 = x0 := Option.some.inj c.clo
    obtain rfl : x1 = p := Option.some.inj hp
    obtain rfl : x4 = q := Option.some.inj hq
    obtain ⟨a2, a3⟩ := aw x2 x3 rfl rfl
    exact ⟨((x1, x4), (x2, x3)), List.mem_flatMap.mpr ⟨(x1, x4), mem_P2 pa qa ne, List.mem_map.mpr ⟨(x2, x3), mem_P2 a2 a3 fun e => i23 (congrArg some e), rfl⟩⟩, rfl⟩
theorem split_room {x : Str} (hx : x ∈ names) (h : x ≠ a) : x ∈ nb a ∨ x ∈ away names nb a := by
  by_cases m : x ∈ nb a
  · exact .inl m
  · exact .inr (mem_away hk ha hx h m)
theorem gl6 : (gl nb a 6).length ≤ (nb a).length * ((nb a).length - 1) * ((away names nb a).length * ((away names nb a).length - 1) * (((nb a).length - 2) + ((away names nb a).length - 2))) := by
  refine Nat.le_trans (rel_len (Rel := fun w (t : (Str × Str) × (Str × Str) × Str) => w = [a, t.1.1, t.2.1.1, t.2.2, t.2.1.2, t.1.2, a]) (G := (P2 (nb a)).flatMap fun p => (P2 (away names nb a)).flatMap fun q => (less (nb a) p ++ less (away names nb a) q).map fun m => (p, q, m)) ((wk_nodup hk ha 6).filter _) (fun w m => ?_) fun w m w' m' t e e' => e.trans e'.symm)
    (Nat.le_trans (flat_le (c := (away names nb a).length * ((away names nb a).length - 1) * (((nb a).length - 2) + ((away names nb a).length - 2))) fun p mp => Nat.le_trans (flat_le (c := ((nb a).length - 2) + ((away names nb a).length - 2)) fun q mq => by rw [List.length_map, List.length_append, less_len mp, less_len mq]; exact Nat.le_refl _) (Nat.mul_le_mul_right _ (P2_len _))) (Nat.mul_le_mul_right _ (P2_len _)))
  obtain ⟨c, h0⟩ := gl_cyc hk (by decide) (by decide) ha m
  obtain ⟨p, q, hp, hq, pa, qa, ne, aw⟩ := ends hk ha c h0
  have mem := c.names hk h0 ha
  have dif : ∀ i j, i < 6 → j < 6 → i ≠ j → w[i]? ≠ w[j]? := fun i j hi hj n e => n (c.inj i j hi hj e)
  match w, c.len with
  | [x0, x1, x2, x3, x4, x5, x6], _ =>
    obtain rfl : x0 = a := Option.some.inj h0
    obtain rfl : x6 = x0 := Option.some.inj c.clo
    obtain rfl : x1 = p := Option.some.inj hp
    obtain rfl : x5 = q := Option.some.inj hq
    obtain ⟨a2, a4⟩ := aw x2 x4 rfl rfl
    have n24 : x2 ≠ x4 := fun e => dif 2 4 (by decide) (by decide) (by decide) (congrArg some e)
    have n30 : x3 ≠ x6 := fun e => dif 3 0 (by decide) (by decide) (by decide) (congrArg some e)
    have n31 : x3 ≠ x1 := fun e => dif 3 1 (by decide) (by decide) (by decide) (congrArg some e)
    have n32 : x3 ≠ x2 := fun e => dif 3 2 (by decide) (by decide) (by decide) (congrArg some e)
    have n34 : x3 ≠ x4 := fun e => dif 3 4 (by decide) (by decide) (by decide) (congrArg some e)
    have n35 : x3 ≠ x5 := fun e => dif 3 5 (by decide) (by decide) (by decide) (congrArg some e)
    refine ⟨((x1, x5), (x2, x4), x3), List.mem_flatMap.mpr ⟨(x1, x5), mem_P2 pa qa ne, List.mem_flatMap.mpr ⟨(x2, x4), mem_P2 a2 a4 n24, List.mem_map.mpr ⟨x3, List.mem_append.mpr ?_, rfl⟩⟩⟩, rfl⟩
    rcases split_room hk ha (mem 3 x3 rfl) n30 with m | m
    · exact .inl (mem_less m n31 n35)
    · exact .inr (mem_less m n32 n34)
def mids (nl al : List Str) : List (Str × Str) := (nl.flatMap fun x => al.map fun y => (x, y)) ++ (al.flatMap fun x => nl.map fun y => (x, y)) ++ P2 al
omit hk ha in
theorem mids_len (nl al : List Str) : (mids nl al).length ≤ nl.length * al.length + al.length * nl.length + al.length * (al.length - 1) := by
  unfold mids
  rw [List.length_append, List.length_append]
  have h1 := flat_le (f := fun x => al.map fun y => (x, y)) (c := al.length) (l := nl) fun x _ => by rw [List.length_map]; exact Nat.le_refl _
  have h2 := flat_le (f := fun x => nl.map fun y => (x, y)) (c := nl.length) (l := al) fun x _ => by rw [List.length_map]; exact Nat.le_refl _
  have h3 := P2_len al
  omega
theorem gl7 : (gl nb a 7).length ≤ (nb a).length * ((nb a).length - 1) * ((away names nb a).length * ((away names nb a).length - 1) * (((nb a).length - 2) * ((away names nb a).length - 2) + ((away names nb a).length - 2) * ((nb a).length - 2) + ((away names nb a).length - 2) * ((away names nb a).length - 2 - 1))) := by
  refine Nat.le_trans (rel_len (Rel := fun w (t : (Str × Str) × (Str × Str) × (Str × Str)) => w = [a, t.1.1, t.2.1.1, t.2.2.1, t.2.2.2, t.2.1.2, t.1.2, a]) (G := (P2 (nb a)).flatMap fun p => (P2 (away names nb a)).flatMap fun q => (mids (less (nb a) p) (less (away names nb a) q)).map fun m => (p, q, m)) ((wk_nodup hk ha 7).filter _) (fun w m => ?_) fun w m w' m' t e e' => e.trans e'.symm)
    (Nat.le_trans (flat_le (c := (away names nb a).length * ((away names nb a).length - 1) * (((nb a).length - 2) * ((away names nb a).length - 2) + ((away names nb a).length - 2) * ((nb a).length - 2) + ((away names nb a).length - 2) * ((away names nb a).length - 2 - 1))) fun p mp => Nat.le_trans (flat_le (c := ((nb a).length - 2) * ((away names nb a).length - 2) + ((away names nb a).length - 2) * ((nb a).length - 2) + ((away names nb a).length - 2) * ((away names nb a).length - 2 - 1)) fun q mq => by
      have := mids_len (less (nb a) p) (less (away names nb a) q)
      rw [less_len mp, less_len mq] at this
      rw [List.length_map]
      exact this) (Nat.mul_le_mul_right _ (P2_len _))) (Nat.mul_le_mul_right _ (P2_len _)))
  obtain ⟨c, h0⟩ := gl_cyc hk (by decide) (by decide) ha m
  obtain ⟨p, q, hp, hq, pa, qa, ne, aw⟩ := ends hk ha c h0
  have mem := c.names hk h0 ha
  have adj := c.adj
  have dif : ∀ i j, i < 7 → j < 7 → i ≠ j → w[i]? ≠ w[j]? := fun i j hi hj n e => n (c.inj i j hi hj e)
  match w, c.len with
  | [x0, x1, x2, x3, x4, x5, x6, x7], _ =>
    obtain rfl : x0 = a := Option.some.inj h0
    obtain rfl : x7 = x0 := Option.some.inj c.clo
    obtain rfl : x1 = p := Option.some.inj hp
    obtain rfl : x6 = q := Option.some.inj hq
    obtain ⟨a2, a5⟩ := aw x2 x5 rfl rfl
    have n25 : x2 ≠ x5 := fun e => dif 2 5 (by decide) (by decide) (by decide) (congrArg some e)
    have n30 : x3 ≠ x7 := fun e => dif 3 0 (by decide) (by decide) (by decide) (congrArg some e)
    have n31 : x3 ≠ x1 := fun e => dif 3 1 (by decide) (by decide) (by decide) (congrArg some e)
    have n32 : x3 ≠ x2 := fun e => dif 3 2 (by decide) (by decide) (by decide) (congrArg some e)
    have n34 : x3 ≠ x4 := fun e => dif 3 4 (by decide) (by decide) (by decide) (congrArg some e)
    have n35 : x3 ≠ x5 := fun e => dif 3 5 (by decide) (by decide) (by decide) (congrArg some e)
    have n36 : x3 ≠ x6 := fun e => dif 3 6 (by decide) (by decide) (by decide) (congrArg some e)
    have n40 : x4 ≠ x7 := fun e => dif 4 0 (by decide) (by decide) (by decide) (congrArg some e)
    have n41 : x4 ≠ x1 := fun e => dif 4 1 (by decide) (by decide) (by decide) (congrArg some e)
    have n42 : x4 ≠ x2 := fun e => dif 4 2 (by decide) (by decide) (by decide) (congrArg some e)
    have n45 : x4 ≠ x5 := fun e => dif 4 5 (by decide) (by decide) (by decide) (congrArg some e)
    have n46 : x4 ≠ x6 := fun e => dif 4 6 (by decide) (by decide) (by decide) (congrArg some e)
    refine ⟨((x1, x6), (x2, x5), (x3, x4)), List.mem_flatMap.mpr ⟨(x1, x6), mem_P2 pa qa ne, List.mem_flatMap.mpr ⟨(x2, x5), mem_P2 a2 a5 n25, List.mem_map.mpr ⟨(x3, x4), ?_, rfl⟩⟩⟩, rfl⟩
    unfold mids
    rcases split_room hk ha (mem 3 x3 rfl) n30 with m3 | m3
    · rcases split_room hk ha (mem 4 x4 rfl) n40 with m4 | m4
      · exact absurd m4 (hk.tri _ ha x3 m3 x4 (adj 3 x3 x4 rfl rfl))
      · exact List.mem_append.mpr (.inl (List.mem_append.mpr (.inl (List.mem_flatMap.mpr ⟨x3, mem_less m3 n31 n36, List.mem_map.mpr ⟨x4, mem_less m4 n42 n45, rfl⟩⟩))))
    · rcases split_room hk ha (mem 4 x4 rfl) n40 with m4 | m4
      · exact List.mem_append.mpr (.inl (List.mem_append.mpr (.inr (List.mem_flatMap.mpr ⟨x3, mem_less m3 n32 n35, List.mem_map.mpr ⟨x4, mem_less m4 n41 n46, rfl⟩⟩))))
      · exact List.mem_append.mpr (.inr (mem_P2 (mem_less m3 n32 n35) (mem_less m4 n42 n45) n34))
/-- so many at most -/
def most (s : Nat) : Nat := if s = 7 then 1440 else if s = 6 then 576 else if s = 5 then 144 else 60
theorem gl_most {s : Nat} (h4 : 4 ≤ s) (h7 : s ≤ 7) : (gl nb a s).length ≤ most s := by
  have de := de_len hk ha
  have g4 := gl4 hk ha
  have g5 := gl5 hk ha
  have g6 := gl6 hk ha
  have g7 := gl7 hk ha
  generalize (nb a).length = d at *
  generalize (away names nb a).length = e at *
  have b4 : ∀ d : Fin 9, ∀ e : Fin 9, d.1 + e.1 ≤ 8 → d.1 * (d.1 - 1) * e.1 ≤ 60 := by decide
  have b5 : ∀ d : Fin 9, ∀ e : Fin 9, d.1 + e.1 ≤ 8 → d.1 * (d.1 - 1) * (e.1 * (e.1 - 1)) ≤ 144 := by decide
  have b6 : ∀ d : Fin 9, ∀ e : Fin 9, d.1 + e.1 ≤ 8 → d.1 * (d.1 - 1) * (e.1 * (e.1 - 1) * ((d.1 - 2) + (e.1 - 2))) ≤ 576 := by decide
  have b7 : ∀ d : Fin 9, ∀ e : Fin 9, d.1 + e.1 ≤ 8 → d.1 * (d.1 - 1) * (e.1 * (e.1 - 1) * ((d.1 - 2) * (e.1 - 2) + (e.1 - 2) * (d.1 - 2) + (e.1 - 2) * (e.1 - 2 - 1))) ≤ 1440 := by decide
  have ld : d < 9 := by omega
  have le : e < 9 := by omega
  rcases (by omega : s = 4 ∨ s = 5 ∨ s = 6 ∨ s = 7) with rfl | rfl | rfl | rfl
  · exact Nat.le_trans g4 (b4 ⟨d, ld⟩ ⟨e, le⟩ de)
  · exact Nat.le_trans g5 (b5 ⟨d, ld⟩ ⟨e, le⟩ de)
  · exact Nat.le_trans g6 (b6 ⟨d, ld⟩ ⟨e, le⟩ de)
  · exact Nat.le_trans g7 (b7 ⟨d, ld⟩ ⟨e, le⟩ de)
end
theorem rings_ok {names : List Str} {nb : Str → List Str} (hk : NbOk names nb) {s : Nat} (h1 : 1 ≤ s) (h7 : s ≤ 7) : RingsOk names nb s := by
  refine ⟨fun r mr w mw g => (cyc_of hk mr h1 h7 mw g).ring h7, fun R nd hR => ?_⟩
  have at_ : ∀ x ∈ R, RingAt names nb s x := fun x m => ring_at hk h1 h7 (hR x m)
  cases hR0 : R with
  | nil => exact Nat.zero_le _
  | cons x0 R0 =>
    rw [← hR0]
    have x0m : x0 ∈ R := by rw [hR0]; exact List.mem_cons_self ..
    have h4 := (at_ x0 x0m).cyc.four
    let S : List (List Str × Nat) := R.flatMap fun x => (List.range s).map fun k => (x, k)
    have sl : S.length = R.length * s := by
      have all : ∀ l : List (List Str), (l.flatMap fun x => (List.range s).map fun k => (x, k)).length = l.length * s := fun l => by
        induction l with
        | nil => simp
        | cons x l ih =>
          rw [List.flatMap_cons, List.length_append, ih, List.length_map, List.length_range, List.length_cons, Nat.add_mul]
          omega
      exact all R
    have snd : S.Nodup := nodup_flat nd (fun x _ => nodup_map List.nodup_range fun a _ b _ e => (Prod.mk.inj e).2) fun x mx y my z hx hy => by
      obtain ⟨i, _, rfl⟩ := List.mem_map.mp hx
      obtain ⟨j, _, e⟩ := List.mem_map.mp hy
      exact (Prod.mk.inj e).1.symm
    have mS : ∀ t ∈ S, t.1 ∈ R ∧ t.2 < s := fun t m => by
      obtain ⟨x, mx, h⟩ := List.mem_flatMap.mp m
      obtain ⟨k, mk, rfl⟩ := List.mem_map.mp h
      exact ⟨mx, List.mem_range.mp mk⟩
    have len := rel_len (Rel := fun (t : List Str × Nat) y => y = Tau.rot t.1 t.2) (S := S) (G := names.flatMap fun a => gl nb a s) snd (fun t m => by
      obtain ⟨mx, hk2⟩ := mS t m
      have c := (at_ _ mx).cyc
      obtain ⟨a, ea⟩ := c.at (i := t.2) (by omega)
      have ma := (at_ _ mx).mem _ a ea
      refine ⟨_, List.mem_flatMap.mpr ⟨a, ma, cyc_gl hk ma (c.rot hk2) ?_⟩, rfl⟩
      rw [rot_get c.len hk2 (Nat.zero_le _), ← ea]
      congr 1
      unfold ix
      rw [if_pos (by omega)]
      rfl) fun t m t' m' y e e' => by
        obtain ⟨mx, hk2⟩ := mS t m
        obtain ⟨mx', hk2'⟩ := mS t' m'
        have r := at_ _ mx
        have r' := at_ _ mx'
        have e1 : t.1 = t'.1 := by rw [← r.nm, ← r'.nm, ← nm_rot r.cyc hk2, ← nm_rot r'.cyc hk2', ← e, ← e']
        have g := rot_get r.cyc.len hk2 (Nat.zero_le s)
        have g' := rot_get r'.cyc.len hk2' (Nat.zero_le s)
        rw [← e] at g
        rw [← e', ← e1] at g'
        have i0 : ∀ k, k < s → ix s (k + 0) = k := fun k h => by
          unfold ix
          rw [if_pos (by omega)]
          rfl
        rw [i0 _ hk2] at g
        rw [i0 _ hk2'] at g'
        have := r.cyc.inj _ _ hk2 hk2' (g.symm.trans g')
        exact Prod.ext e1 this
    have gb := flat_le (f := fun a => gl nb a s) (c := most s) (l := names) fun a ma => gl_most hk ma h4 h7
    rw [sl] at len
    have small := hk.small
    have m9 : names.length * most s ≤ 9 * most s := Nat.mul_le_mul_right _ small
    have tot : R.length * s ≤ 9 * most s := by omega
    rcases (by omega : s = 4 ∨ s = 5 ∨ s = 6 ∨ s = 7) with rfl | rfl | rfl | rfl
    · have : most 4 = 60 := rfl
      omega
    · have : most 5 = 144 := rfl
      omega
    · have : most 6 = 576 := rfl
      omega
    · have : most 7 = 1440 := rfl
      omega
end Tau
set_option maxHeartbeats 4000000
namespace Tau
open PySem PySem.Spec PyProof.Rows L2
/-! odd rings, two sides -/
theorem side_walk {nb : Str → List Str} {side : Str → Nat} {w : List Str} (adj : Adj nb w) (hs : ∀ (i : Nat) (x y : Str), w[i]? = some x → y ∈ nb x → side x % 2 ≠ side y % 2) : ∀ (i : Nat) (x y : Str), w[0]? = some x → w[i]? = some y → side y % 2 = (side x + i) % 2
  | 0, x, y, e, e2 => by
    rw [e] at e2
    rw [Option.some.inj e2]
    rfl
  | i + 1, x, y, e, e2 => by
    have hl := (List.getElem?_eq_some_iff.mp e2).1
    obtain ⟨z, hz⟩ : ∃ z, w[i]? = some z := ⟨_, List.getElem?_eq_getElem (by omega)⟩
    have ih := side_walk adj hs i x z e hz
    have := hs i z y hz (adj i z y hz e2)
    omega
/-- an odd ring, two sides: no -/
theorem odd_no {names : List Str} {nb : Str → List Str} {s : Nat} {x : List Str} (r : RingAt names nb s x) (hodd : s % 2 = 1) {side : Str → Nat} (hs : ∀ a ∈ names, ∀ b ∈ nb a, side a % 2 ≠ side b % 2) : False := by
  obtain ⟨a, ha⟩ := r.cyc.at (i := 0) (Nat.zero_le _)
  have hz : x[s]? = some a := r.cyc.clo.trans ha
  have := side_walk r.cyc.adj (fun i u v hu hv => hs u (r.mem i u hu) v hv) s a a ha hz
  omega
/-- closed walks of n steps, n odd -/
def OddW (names : List Str) (nb : Str → List Str) (n : Nat) : Prop := n % 2 = 1 ∧ ∃ w : List Str, w.length = n + 1 ∧ Adj nb w ∧ w[n]? = w[0]? ∧ ∃ a ∈ names, w[0]? = some a
theorem least {p : Nat → Prop} : ∀ n, p n → ∃ m, m ≤ n ∧ p m ∧ ∀ k, k < m → ¬ p k := by
  intro n
  induction n using Nat.strongRecOn with
  | _ n ih =>
    intro h
    by_cases c : ∃ k, k < n ∧ p k
    · obtain ⟨k, hk, pk⟩ := c
      obtain ⟨m, hm, r⟩ := ih k hk pk
      exact ⟨m, by omega, r⟩
    · exact ⟨n, Nat.le_refl _, h, fun k hk pk => c ⟨k, hk, pk⟩⟩
theorem adj_names {names : List Str} {nb : Str → List Str} (hk : NbOk names nb) {w : List Str} (adj : Adj nb w) {a : Str} (ha : a ∈ names) (h0 : w[0]? = some a) : ∀ (i : Nat) (x : Str), w[i]? = some x → x ∈ names
  | 0, x, e => by
    rw [h0] at e
    rw [← Option.some.inj e]
    exact ha
  | i + 1, x, e => by
    have hl := (List.getElem?_eq_some_iff.mp e).1
    obtain ⟨y, hy⟩ : ∃ y, w[i]? = some y := ⟨_, List.getElem?_eq_getElem (by omega)⟩
    exact hk.inn y (adj_names hk adj ha h0 i y hy) x (adj i y x hy e)
theorem odd_ring {names : List Str} {nb : Str → List Str} (hk : NbOk names nb) (h7 : names.length ≤ 7) {n : Nat} (h : OddW names nb n) : ∃ s x, 1 ≤ s ∧ s ≤ 7 ∧ s % 2 = 1 ∧ IsRing names nb s x := by
  obtain ⟨s, _, ⟨hodd, w, hl, adj, clo, a, ha, h0⟩, mini⟩ := least n h
  have mem := adj_names hk adj ha h0
  have at_ : ∀ (i : Nat), i ≤ s → ∃ x, w[i]? = some x := fun i hi => ⟨_, List.getElem?_eq_getElem (by omega)⟩
  have main : ∀ (i j : Nat), i < j → j < s → w[i]? ≠ w[j]? := fun i j hij hj e => by
    by_cases c : (j - i) % 2 = 1
    · obtain ⟨x, hx⟩ := at_ i (by omega)
      have get : ∀ k, k ≤ j - i → ((w.drop i).take (j - i + 1))[k]? = w[i + k]? := fun k hk2 => by
        rw [List.getElem?_take, if_pos (by omega), List.getElem?_drop]
      refine mini (j - i) (by omega) ⟨c, (w.drop i).take (j - i + 1), ?_, fun k u v h1 h2 => ?_, ?_, x, mem i x hx, ?_⟩
      · rw [List.length_take, List.length_drop, hl]
        omega
      · have hi := (List.getElem?_eq_some_iff.mp h2).1
        rw [List.length_take, List.length_drop, hl] at hi
        rw [get k (by omega)] at h1
        rw [get (k + 1) (by omega)] at h2
        exact adj (i + k) u v h1 h2
      · rw [get _ (Nat.le_refl _), get 0 (Nat.zero_le _), show i + (j - i) = j by omega, Nat.add_zero]
        exact e.symm
      · rw [get 0 (Nat.zero_le _), Nat.add_zero]
        exact hx
    · have l1 : (w.take (i + 1)).length = i + 1 := by
        rw [List.length_take, hl]
        omega
      have get1 : ∀ k, k ≤ i → (w.take (i + 1) ++ w.drop (j + 1))[k]? = w[k]? := fun k hk2 => by
        rw [List.getElem?_append_left (by omega), List.getElem?_take, if_pos (by omega)]
      have get2 : ∀ k, (w.take (i + 1) ++ w.drop (j + 1))[i + 1 + k]? = w[j + 1 + k]? := fun k => by
        rw [List.getElem?_append_right (by omega), l1, List.getElem?_drop]
        congr 1
        omega
      refine mini (s - (j - i)) (by omega) ⟨by omega, w.take (i + 1) ++ w.drop (j + 1), ?_, fun k u v h1 h2 => ?_, ?_, a, ha, ?_⟩
      · rw [List.length_append, l1, List.length_drop, hl]
        omega
      · by_cases c1 : k < i
        · rw [get1 k (by omega)] at h1
          rw [get1 (k + 1) (by omega)] at h2
          exact adj k u v h1 h2
        · by_cases c2 : k = i
          · subst c2
            rw [get1 k (Nat.le_refl _), e] at h1
            have := get2 0
            rw [Nat.add_zero, Nat.add_zero] at this
            rw [this] at h2
            exact adj j u v h1 h2
          · obtain ⟨m, em⟩ : ∃ m, k = i + 1 + m := ⟨k - (i + 1), by omega⟩
            subst em
            rw [get2] at h1
            rw [show i + 1 + m + 1 = i + 1 + (m + 1) by omega, get2] at h2
            exact adj (j + 1 + m) u v h1 (by rw [show j + 1 + m + 1 = j + 1 + (m + 1) by omega]; exact h2)
      · have := get2 (s - (j + 1))
        rw [show i + 1 + (s - (j + 1)) = s - (j - i) by omega, show j + 1 + (s - (j + 1)) = s by omega] at this
        rw [this, clo, get1 0 (Nat.zero_le _)]
      · rw [get1 0 (Nat.zero_le _)]
        exact h0
  have inj : ∀ i j, i < s → j < s → w[i]? = w[j]? → i = j := fun i j hi hj e => by
    rcases Nat.lt_trichotomy i j with lt | eq | gt
    · exact absurd e (main i j lt hj)
    · exact eq
    · exact absurd e.symm (main j i gt hi)
  have s7 : s ≤ 7 := by
    have nd : (w.take s).Nodup := by
      rw [List.nodup_iff_pairwise_ne, List.pairwise_iff_getElem]
      intro i j hi hj hij e
      rw [List.length_take] at hi hj
      rw [List.getElem_take, List.getElem_take] at e
      have := inj i j (by omega) (by omega) (by rw [List.getElem?_eq_getElem (by omega), List.getElem?_eq_getElem (by omega), e])
      omega
    have := nodup_len (ys := names) nd fun x mx => by
      obtain ⟨k, hk2, ek⟩ := List.mem_iff_getElem.mp mx
      rw [List.length_take] at hk2
      rw [List.getElem_take] at ek
      exact mem k x (by rw [← ek]; exact List.getElem?_eq_getElem (by omega))
    rw [List.length_take, hl] at this
    omega
  have hs : w[s]? = some a := clo.trans h0
  have s4 : 4 ≤ s := by
    rcases Nat.lt_or_ge s 4 with lt | ge
    · rcases (by omega : s = 1 ∨ s = 3) with rfl | rfl
      · exact absurd (adj 0 a a h0 hs) (hk.irr a ha)
      · obtain ⟨y, hy⟩ := at_ 1 (by omega)
        obtain ⟨z, hz⟩ := at_ 2 (by omega)
        have a1 := adj 0 a y h0 hy
        have a2 := adj 1 y z hy hz
        have a3 := adj 2 z a hz hs
        exact absurd (hk.sym z (mem _ z hz) a a3) (hk.tri a ha y a1 z a2)
    · exact ge
  have c : Cyc nb s w := ⟨hl, s4, adj, clo, inj⟩
  exact ⟨s, _, by omega, s7, hodd, is_ring hk c h0 ha⟩
/-- a walk as a list -/
theorem walk_list2 {nb : Str → List Str} {b : Str} : ∀ {x : Str} {l : Nat}, WalkTo nb b x l → ∃ w : List Str, w.length = l ∧ 1 ≤ l ∧ Adj nb w ∧ w[0]? = some b ∧ w[l - 1]? = some x := by
  intro x l h
  induction h with
  | start =>
    refine ⟨[b], rfl, Nat.le_refl _, fun i x y h1 h2 => ?_, rfl, rfl⟩
    have := (List.getElem?_eq_some_iff.mp h2).1
    simp at this
  | @step k y l _ hy ih =>
    obtain ⟨w, hl, h1, adj, h0, he⟩ := ih
    have old : ∀ i, i < l → (w ++ [y])[i]? = w[i]? := fun i hi => List.getElem?_append_left (by omega)
    have new : (w ++ [y])[l]? = some y := by
      rw [List.getElem?_append_right (by omega), hl, Nat.sub_self]
      rfl
    refine ⟨w ++ [y], by rw [List.length_append, hl]; rfl, by omega, fun i u v g1 g2 => ?_, by rw [old 0 (by omega)]; exact h0, by rw [Nat.add_sub_cancel]; exact new⟩
    have hi := (List.getElem?_eq_some_iff.mp g2).1
    rw [List.length_append, List.length_singleton, hl] at hi
    rw [old i (by omega)] at g1
    by_cases c : i + 1 = l
    · rw [c, new] at g2
      rw [show i = l - 1 by omega, he] at g1
      rw [← Option.some.inj g1, ← Option.some.inj g2]
      exact hy
    · rw [old _ (by omega)] at g2
      exact adj i u v g1 g2
/-- not split: an odd closed walk -/
theorem odd_of {names : List Str} {nb nb' : Str → List Str} (hk : NbOk names nb) (same : ∀ n ∈ names, ∀ y, y ∈ nb n ↔ y ∈ nb' n) {r x y : Str} {l1 l2 : Nat} (hr : r ∈ names) (w1 : WalkTo nb' r x l1) (w2 : WalkTo nb' r y l2) (hy : y ∈ nb' x) (e : l1 % 2 = l2 % 2) : ∃ n, OddW names nb n := by
  have tr : ∀ {w : List Str}, Adj nb' w → w[0]? = some r → Adj nb w ∧ ∀ (i : Nat) (u : Str), w[i]? = some u → u ∈ names := fun {w} adj h0 => by
    have mem : ∀ (i : Nat) (u : Str), w[i]? = some u → u ∈ names := by
      intro i
      induction i with
      | zero =>
        intro u eu
        rw [h0] at eu
        rw [← Option.some.inj eu]
        exact hr
      | succ i ih =>
        intro u eu
        have hl := (List.getElem?_eq_some_iff.mp eu).1
        obtain ⟨z, hz⟩ : ∃ z, w[i]? = some z := ⟨_, List.getElem?_eq_getElem (by omega)⟩
        exact hk.inn z (ih z hz) u ((same z (ih z hz) u).mpr (adj i z u hz eu))
    exact ⟨fun i u v h1 h2 => (same u (mem i u h1) v).mpr (adj i u v h1 h2), mem⟩
  obtain ⟨u, ul, u1, uadj, u0, ue⟩ := walk_list2 w1
  obtain ⟨v, vl, v1, vadj, v0, ve⟩ := walk_list2 w2
  obtain ⟨uadj, umem⟩ := tr uadj u0
  obtain ⟨vadj, vmem⟩ := tr vadj v0
  have hyx : y ∈ nb x := (same x (umem _ x ue) y).mpr hy
  have rev : ∀ i, i < l2 → v.reverse[i]? = v[l2 - 1 - i]? := fun i hi => by
    rw [List.getElem?_reverse (by omega), vl]
  have get1 : ∀ i, i < l1 → (u ++ v.reverse)[i]? = u[i]? := fun i hi => List.getElem?_append_left (by omega)
  have get2 : ∀ i, i < l2 → (u ++ v.reverse)[l1 + i]? = v[l2 - 1 - i]? := fun i hi => by
    rw [List.getElem?_append_right (by omega), ul, show l1 + i - l1 = i by omega, rev i hi]
  refine ⟨l1 + l2 - 1, by omega, u ++ v.reverse, by rw [List.length_append, List.length_reverse]; omega, fun i p q h1 h2 => ?_, ?_, r, hr, by rw [get1 0 (by omega)]; exact u0⟩
  · have hi := (List.getElem?_eq_some_iff.mp h2).1
    rw [List.length_append, List.length_reverse, ul, vl] at hi
    by_cases c1 : i + 1 < l1
    · rw [get1 i (by omega)] at h1
      rw [get1 _ c1] at h2
      exact uadj i p q h1 h2
    · by_cases c2 : i + 1 = l1
      · rw [get1 i (by omega), show i = l1 - 1 by omega, ue] at h1
        have := get2 0 (by omega)
        rw [Nat.add_zero, Nat.sub_zero, ve] at this
        rw [c2, this] at h2
        rw [← Option.some.inj h1, ← Option.some.inj h2]
        exact hyx
      · obtain ⟨k, ek⟩ : ∃ k, i = l1 + k := ⟨i - l1, by omega⟩
        subst ek
        rw [get2 k (by omega)] at h1
        rw [show l1 + k + 1 = l1 + (k + 1) by omega, get2 (k + 1) (by omega)] at h2
        have := vadj (l2 - 1 - (k + 1)) q p h2 (by rw [show l2 - 1 - (k + 1) + 1 = l2 - 1 - k by omega]; exact h1)
        exact hk.sym q (vmem _ q h2) p this
  · have := get2 (l2 - 1) (by omega)
    rw [show l1 + (l2 - 1) = l1 + l2 - 1 by omega, Nat.sub_self, v0] at this
    rw [this, get1 0 (by omega)]
    exact u0.symm
theorem walk_first {nb : Str → List Str} {P : Str → Prop} (h : ∀ x y, y ∈ nb x → P x) {b x : Str} {l : Nat} (w : WalkTo nb b x l) (hx : P x) : P b := by
  obtain ⟨u, ul, u1, adj, h0, he⟩ := walk_list2 w
  by_cases c : l = 1
  · subst c
    rw [h0] at he
    rw [Option.some.inj he]
    exact hx
  · obtain ⟨y, hy⟩ : ∃ y, u[1]? = some y := ⟨_, List.getElem?_eq_getElem (by omega)⟩
    exact h b y (adj 0 b y h0 hy)
end Tau
set_option maxHeartbeats 4000000
namespace Tau
open PySem PySem.Spec PyProof.Rows L2
/-! law -/
/-- begun: by each room how often it stands in the row -/
structure BegOk (kv : List (Key × V)) (l : List Str) : Prop where
  val : ∀ a : Str, (valV kv (Sum.inr a)).getD (.int 0) = .int ((l.count a : Nat) : Int)
  nil : l = [] → kv = []
  some : l ≠ [] → kv ≠ []
  len : kv.length ≤ l.length
theorem BegOk.add {kv : List (Key × V)} {l : List Str} (h : BegOk kv l) (a : Str) : BegOk (putK kv (Sum.inr a) (.int ((l.count a + 1 : Nat) : Int))) (l ++ [a]) := by
  refine ⟨fun b => ?_, fun e => ?_, fun _ e => ?_, ?_⟩
  · rw [valV_put, List.count_append]
    by_cases c : b = a
    · subst c
      rw [if_pos rfl, List.count_singleton_self]
      rfl
    · rw [if_neg fun z => c (Sum.inr.inj z), h.val b]
      have : [a].count b = 0 := List.count_eq_zero.mpr fun m => c (List.mem_singleton.mp m)
      rw [this]
      rfl
  · exact absurd e (by simp)
  · have := valV_put kv (Sum.inr a) (Sum.inr a) (.int ((l.count a + 1 : Nat) : Int))
    rw [e, if_pos rfl, valV_nil] at this
    cases this
  · have := length_putK kv (Sum.inr a) (.int ((l.count a + 1 : Nat) : Int))
    have := h.len
    rw [List.length_append, List.length_singleton]
    omega
section
variable {p : Addr → Prop} {K : PySem.W.Frag} {σ : L2.St} {H : Hp} {te ta tb : TE} {tu : TT} {P : Hp → V → Prop} {v : V}
theorem ev_pair1 (h : EvP p te σ H (Pair2 P (IsV v))) : EvP p (tOp (rIxT K) te (tC (.int 1))) σ H (IsV v) := fun H1 e Q q =>
  h H1 e _ fun x H2 e2 ⟨a, u, z, ex, ha, _, hz⟩ => ⟨a, [u, z], 1, z, ex, rfl, .inl (.inl ha), atI_nat (j := 1) rfl, by
    have ez : z = v := hz
    rw [ez]
    exact q v H2 e2 rfl⟩
theorem eqv_words (xs : List Str) : PyData.eqvAll (xs.map PyData.str) (xs.map PyData.str) = true := by
  rw [words_eqv, decide_eq_true rfl]
theorem ev_nePair {xs ys : List Str} (ha : EvP p ta σ H (Pair2 (TupP K xs) (TupP K ys))) (hb : EvP p tb σ H (Pair2 (TupP K xs) (TupP K ys))) : EvP p (tOp (rNeT K) ta tb) σ H (IsV (.bl false)) :=
  ev_op ha hb fun H1 x y _ ⟨a, u, z, ex, ha, hu, hz⟩ ⟨b, u', z', ey, hb, hu', hz'⟩ Q q => by
    subst ex ey
    refine ⟨[.tuple (xs.map PyData.str), .tuple (ys.map PyData.str)], [.tuple (xs.map PyData.str), .tuple (ys.map PyData.str)], .tup (.inl (.inl ha)) (.cons (dp_tup hu) (.cons (dp_tup hz) .nil)), .tup (.inl (.inl hb)) (.cons (dp_tup hu') (.cons (dp_tup hz') .nil)), ?_, ?_, ?_, q _ H1 (Kp.refl p H1) ?_⟩
    · rw [PyData.plainAll, PyData.plain, words_plain, PyData.plainAll, PyData.plain, words_plain]
      rfl
    · rw [PyData.plainAll, PyData.plain, words_plain, PyData.plainAll, PyData.plain, words_plain]
      rfl
    · have h1 := tuple_depth xs
      have h2 := tuple_depth ys
      rw [PyData.depth, PyData.depthAll, PyData.depthAll, PyData.depthAll]
      omega
    · show V.bl (!PyData.eqvAll _ _) = V.bl false
      rw [PyData.eqvAll, PyData.eqv, eqv_words, PyData.eqvAll, PyData.eqv, eqv_words]
      rfl
theorem ev_neEmp {a : Addr} {ks : List (Key × V)} (hh : ∀ H1, Kp no H H1 → H1 a = some (.dK ks)) (ha : EvP no ta σ H (IsV (.ref a))) : EvP no (tOp rNeEmp ta tDNewK) σ H (IsV (.bl (!ks.isEmpty))) := fun H1 e Q q =>
  ha H1 e _ fun x H2 e2 hx => fun z hz => ⟨a, z, ks, by rw [show x = .ref a from hx], rfl, (Kp.new (p := no) hz).at (hh H2 (e.trans e2)), upd_same, q _ _ (e2.trans (Kp.new hz)) rfl⟩
theorem dk_sl {H : Hp} {d a : Addr} {kvs : List (Key × V)} {o : HO} {xs : List V} (hd : H d = some (.dK kvs)) (t : SqL K H a xs) : SqL K (upd H d o) a xs := by
  rcases t with (t | ⟨ob, t⟩) | t
  · exact .inl (.inl (by rw [upd_ne fun z => by rw [z, hd] at t; cases t]; exact t))
  · exact .inl (.inr ⟨ob, by rw [upd_ne fun z => by rw [z, hd] at t; cases t]; exact t⟩)
  · exact .inr t
theorem dk_tup {H : Hp} {d : Addr} {kvs : List (Key × V)} {o : HO} {v : V} {xs : List Str} (hd : H d = some (.dK kvs)) (t : TupS K H v xs) : TupS K (upd H d o) v xs := by
  obtain ⟨a, e, ha⟩ := t
  exact ⟨a, e, by rw [upd_ne fun z => by rw [z, hd] at ha; cases ha]; exact ha⟩
/-- not (a thing of unknown truth) and .. -/
theorem eb_notAnd {C : Bool → Prop} (h : EvP p te σ H (fun _ v => ∃ b, v = .bl b ∧ C b)) (hu : C false → EvB p tu σ H false) : EvB p (tAnd (tNot (tB te)) tu) σ H false := fun H1 e Q q =>
  h H1 e _ fun x H2 e2 ⟨b, ex, cb⟩ => ⟨b, ex, by
    cases b with
    | true => exact q H2 e2
    | false => exact hu cb H2 (e.trans e2) Q fun H3 e3 => q H3 (e2.trans e3)⟩
end
section
variable {P : Program} {w : World} {K : PySem.W.Frag} {mg : Str → Option Value} {base : Heap} {C : Addr}
def spLaw (K : PySem.W.Frag) : Sp := fun vs H Q _ => ∃ (a : Addr) (ns : List Int), vs = [.ref a] ∧ SqL K H a (ns.map V.int) ∧ ∀ H', Q (.bl true) H'
theorem scLaw : FnScope ["_law_script", "_law_pen_here", "_law_turn", "_law_yard_here", "_law_house_here", "_law_is_odd", "_law_steps", "_law_begun", "_law_ring", "_law_times", "_law_k", "_law_room", "_law_many"] ["_law_script"] (defScope sLaw) := ⟨rfl, rfl, rfl, by decide +kernel, rfl, by decide +kernel, by decide +kernel⟩
theorem ok_law {f : Addr} {fd : FuncData} (F : DefIs K "law" "law" sLaw f fd) (T : TopF K mg C) (C_LawPen : Can P w K mg base "_law_pen" 1 ["_law_script"] (spPen K)) (C_LawYard : Can P w K mg base "_law_yard" 4 ["_law_pen_here", "_law_most"] spYard) (C_LawHouse : Can P w K mg base "_law_house" 6 ["_law_pen_here", "_law_yard_here"] (spLawHouse K C))
    (C_AllRings : Can P w K mg base "all_rings" 4 ["house", "steps"] (spAllRings K C)) (C_Root : Can P w K mg base "root" 3 ["walk"] (spRoot K)) (C_Core : Can P w K mg base "core" 2 ["walk"] (spCore K)) (C_CountWalks : Can P w K mg base "count_walks" 3 ["house", "one", "other", "steps"] (spCountWalks K C)) (C_LawIsSplit : Can P w K mg base "_law_is_split" 3 ["_law_yard_here"] spIsSplit) :
    FnOk P w K mg base CX0 7 f fd ["_law_script"] (spLaw K) := by
  refine def_ok F scLaw (fun vs H Q E h => ?_) (fun cdv A outer s H vs Q E hr h => ?_)
  · obtain ⟨_, _, rfl, _⟩ := h
    rfl
  · obtain ⟨a, ns, rfl, hs, q⟩ := h
    have hu := hu_of hr
    refine ⟨_, (pss_cons (ps_set (i := 1) scLaw.nd rfl (.inl rfl) (pe_fn C_LawPen hr rfl (pa_cons (pv 0) pa_nil)))
      (pss_cons (ps_for PassesOwn.never rfl (pi_range1 rfl T.z_range (pa_cons pe_int pa_nil)) (pg_name (i := 2) scLaw.nd rfl (.inl rfl))
        (pss_cons (ps_set (i := 3) scLaw.nd rfl (.inl rfl) (pe_fn C_LawYard hr rfl (pa_cons (pv 1) (pa_cons (pe_ix (ixK (r := rIxL) (K := K) ix_list rfl) (pe_lst (pa_cons pe_int (pa_cons pe_int pa_nil))) (pv 2) (fun _ _ => rfl)) pa_nil))))
        (pss_cons (ps_par (i := 4) (j := 5)  (by rfl) scLaw.nd rfl rfl (by decide) rfl rfl (pa_cons (pe_fn C_LawHouse hr rfl (pa_cons (pv 1) (pa_cons (pv 3) pa_nil))) (pa_cons pe_bl pa_nil)) (by rfl))
        (pss_cons (ps_for PassesOwn.never rfl (pi_range2 rfl T.z_range (pa_cons pe_int (pa_cons pe_int pa_nil))) (pg_name (i := 6) scLaw.nd rfl (.inl rfl))
          (pss_cons (ps_set (i := 7) scLaw.nd rfl (.inl rfl) pe_dnewK)
          (pss_cons (ps_for PassesOwn.never rfl (pi_listK (K := K) rfl (pe_fn C_AllRings hr rfl (pa_cons (pv 4) (pa_cons (pv 6) pa_nil)))) (pg_name (i := 8) scLaw.nd rfl (.inl rfl))
            (pss_cons (ps_set (i := 9) scLaw.nd rfl (.inl rfl) (pe_ix (ixK (r := rIxT) (K := K) ix_tup rfl) (pe_fn C_Root hr rfl (pa_cons (pv 8) pa_nil)) pe_int (fun _ _ => rfl)))
            (pss_cons (ps_if (PW.pt (pw_or (pt_cmpR (opK (r := rNeT) (K := K) (op_neT (by exact hr.units)) rfl) (pe_fn C_Core hr rfl (pa_cons (pv 8) pa_nil)) (pe_tup (pa_cons (pe_slice (slK (r := rSlA) (K := K) sl_tupA rfl) (pv 8) po_none (po_some pe_int)) (pa_cons (pv 8) pa_nil))) (nomark _)) (pw_or1 (pt_cmpR op_ne (pe_op op_modN (pv 6) (pv 9)) pe_int (nomark _)))))
              (pss_one (ps_ret pe_bl))
              pss_nil)
            (pss_one (ps_for PassesOwn.never rfl (pi_range1 rfl T.z_range (pa_cons (pe_op op_fdivN (pv 6) (pv 9)) pa_nil)) (pg_name (i := 10) scLaw.nd rfl (.inl rfl))
              (pss_one (ps_dput hu (pv 7) (pe_ix (ixK (r := rIxT) (K := K) ix_tup rfl) (pv 8) (pv 10) (fun _ _ => rfl)) (pe_op op_add (pe_dget2 hu (pv 7) (pe_ix (ixK (r := rIxT) (K := K) ix_tup rfl) (pv 8) (pv 10) (fun _ _ => rfl)) pe_int ⟨rfl, rfl, rfl, rfl⟩) pe_int) rfl)))))))
          (pss_cons (ps_set (i := 5) scLaw.nd rfl (.inl rfl) (pe_or (pv 5) (pe_one (pe_and (pe_cmpR op_eq (pe_op op_modN (pv 6) pe_int) pe_int (nomark _)) (pe_one (pe_cmpR (op_neEmp hr.units0) (pv 7) pe_dnewK (nomark _)))))))
          (pss_one (ps_for PassesOwn.never rfl (pi_listK (K := K) rfl (pe_dget hu (pv 3) pe_str (fun _ _ => rfl))) (pg_name (i := 11) scLaw.nd rfl (.inl rfl))
            (pss_cons (ps_set (i := 12) scLaw.nd rfl (.inl rfl) (pe_fn C_CountWalks hr rfl (pa_cons (pv 4) (pa_cons (pv 11) (pa_cons (pv 11) (pa_cons (pv 6) pa_nil))))))
            (pss_one (ps_if (PW.pt (pw_or (PW.pt (pw_and (pt_cmpR op_lt (pv 6) pe_int (nomark _)) (pw_and1 (pt_cmpR op_ne (pv 12) (pe_dget2 hu (pv 7) (pv 11) pe_int ⟨rfl, rfl, rfl, rfl⟩) (nomark _))))) (pw_or1 (pt_cmpR op_lt (pv 12) (pe_dget2 hu (pv 7) (pv 11) pe_int ⟨rfl, rfl, rfl, rfl⟩) (nomark _)))))
              (pss_one (ps_ret pe_bl))
              pss_nil)))))))))
        (pss_one (ps_if (PW.pt (pw_or (PW.pt (pw_and (pt_val (pv 5)) (pw_and1 (pt_val (pe_fn C_LawIsSplit hr rfl (pa_cons (pv 3) pa_nil)))))) (pw_or1 (PW.pt (pw_and (pt_not (pt_val (pv 5))) (pw_and (pt_not (pt_val (pe_fn C_LawIsSplit hr rfl (pa_cons (pv 3) pa_nil)))) (pw_and1 (pt_cmpR op_lt (pe_callB (id := "len") (crK (r := lenR) (K := K) call_len_seq rfl) (by rfl) T.z_len (by decide +kernel) (pa_cons (pe_dget hu (pv 3) pe_str (fun _ _ => rfl)) pa_nil)) pe_int (nomark _)))))))))
          (pss_one (ps_ret pe_bl))
          pss_nil))))))
      (pss_one (ps_ret pe_bl)))), ?_⟩
    refine q_te ⟨.ref a, rfl, a, ns, rfl, hs, fun g H0 e0 p0 _ => ?_⟩
    show tSeq (tFor _ _ _) _ _ [some (.ref a), some (.ref g.d), none, none, none, none, none, none, none, none, none, none, none] H0
    refine q_forR1 (p := no) (n := 2) (by decide) (ea_cons ev_c ea_nil) (fun i σ' H' => ∃ b2 b3 b4 b5 b6 b7 b8 b9 b10 b11 b12, σ' = [some (.ref a), some (.ref g.d), b2, b3, b4, b5, b6, b7, b8, b9, b10, b11, b12] ∧ PenAt g (3000 * i) H') (fun H1 e1 => ⟨_, _, _, _, _, _, _, _, _, _, _, rfl, p0.up e1⟩) (fun i σ' H1 hi h => ?_) fun σ' H1 h => ?_
    · obtain ⟨b2, b3, b4, b5, b6, b7, b8, b9, b10, b11, b12, rfl, p1⟩ := h
      show tSeq (tAsg _ _) _ _ [some (.ref a), some (.ref g.d), some (.int (i : Int)), b3, b4, b5, b6, b7, b8, b9, b10, b11, b12] H1
      have penV : ∀ {σ : L2.St} {H' : Hp}, σ[1]? = some (some (.ref g.d)) → EvP no (tVar 1) σ H' (IsV (.ref g.d)) := fun h => ev_val h
      refine qd_set (d := g) (n := 3000 * i) (m := 3000 * i + 100) (i := 3) (P := YardM 9) (EvD.imp (ed_call (d := g) (sp := spYard) (P := YardM (if i = 0 then 9 else 6)) (Ps := [IsV (.ref g.d), IsV (if i = 0 then V.int 9 else V.int 6)]) (fun H2 e2 => ea_cons (penV rfl) (ea_cons (ev_one2c ev_c ev_c (ev_val rfl) hi) ea_nil)) fun H2 vs e2 p2 hv Q2 q2 => ?_) fun H2 v _ ⟨rooms, l, y⟩ => ⟨rooms, by split at l <;> omega, y⟩) p1 fun yv H2 e2 p2 hyv => ?_
      · obtain ⟨u1, u2, rfl, h1, h2⟩ := args2 hv
        obtain rfl : u1 = .ref g.d := h1
        refine ⟨g, _, if i = 0 then 9 else 6, ?_, p2, by omega, by split <;> omega, by split <;> omega, q2⟩
        rw [show u2 = _ from h2]
        split <;> rfl
      · obtain ⟨rooms, _, ps, hp, y, lr, ld, eyv, hy2⟩ := hyv
        subst eyv
        have ny := yard_ne hy2 p2
        show tSeq (tPar _ _ _) _ _ [some (.ref a), some (.ref g.d), some (.int (i : Int)), some (.ref y), b4, b5, b6, b7, b8, b9, b10, b11, b12] H2
        refine (ed_call (d := g) (n := 3000 * i + 100) (m := 3000 * i + 2100) (sp := spLawHouse K C) (E := E0) (σ := [some (.ref a), some (.ref g.d), some (.int (i : Int)), some (.ref y), b4, b5, b6, b7, b8, b9, b10, b11, b12]) (H := H2) (P := HouseFor K C rooms ps) (Ps := [IsV (.ref g.d), IsV (.ref y)]) (tr := tCons (tVar 1) (tCons (tVar 3) tNil)) (fun H3 e3 => ea_cons (penV rfl) (ea_cons (ev_val (i := 3) rfl) ea_nil)) fun H3 vs e3 p3 hv Q3 q3 => ?_) H2 (Kp.refl _ _) p2 _ fun hv H3 e3 p3 ⟨names, nb, h, pmr, hnb, ehv, hat⟩ => ?_
        · obtain ⟨u1, u2, rfl, h1, h2⟩ := args2 hv
          obtain rfl : u1 = .ref g.d := h1
          obtain rfl : u2 = .ref y := h2
          exact ⟨g, _, _, rooms, ps, rfl, p3, by omega, ⟨y, lr, ld, rfl, hy2.upD ny e3⟩, hp, q3⟩
        subst ehv
        have hy3 := hy2.upD ny e3
        have hk := hp.nbOk pmr hnb
        refine ⟨_, _, rfl, ?_⟩
        dsimp only
        show tSeq (tFor _ _ _) _ _ [some (.ref a), some (.ref g.d), some (.int (i : Int)), some (.ref y), some (.ref h), some (.bl false), b6, b7, b8, b9, b10, b11, b12] H3
        have yv : ∀ {σ : L2.St} {H' : Hp}, σ[3]? = some (some (.ref y)) → Kp no H3 H' → EvP no (tVar 3) σ H' (YardP rooms ps) := fun h0 e => ev_var h0 ⟨y, lr, ld, rfl, hy3.up e⟩
        have hv : ∀ {σ : L2.St} {H' : Hp}, σ[4]? = some (some (.ref h)) → Kp no H3 H' → EvP no (tVar 4) σ H' (HouseV K C names nb h) := fun h0 e => ev_var h0 ⟨rfl, hat.up e⟩
        clear hy2 p2 e2 e3 ny p1
        refine q_forR2 (p := no) (m := 1) (n := 8) (by decide) (by decide) (ea_cons ev_c (ea_cons ev_c ea_nil)) (fun j σ' H' => ∃ od b6 b7 b8 b9 b10 b11 b12, σ' = [some (.ref a), some (.ref g.d), some (.int (i : Int)), some (.ref y), some (.ref h), some (.bl od), b6, b7, b8, b9, b10, b11, b12] ∧ Kp no H3 H' ∧ (od = true → ∃ s x, 1 ≤ s ∧ s ≤ 7 ∧ s % 2 = 1 ∧ IsRing names nb s x) ∧ (od = false → ∀ s x, 1 ≤ s → s < 1 + j → s % 2 = 1 → ¬ IsRing names nb s x)) (fun H4 e4 => ⟨_, _, _, _, _, _, _, _, rfl, e4, (fun z => nomatch z), fun _ s x h1 h2 => by omega⟩) (fun j σ' H4 hj hI => ?_) fun σ' H4 hI => ?_
        · obtain ⟨od, b6, b7, b8, b9, b10, b11, b12, rfl, e4, odT, odF⟩ := hI
          have s1 : 1 ≤ 1 + j := by omega
          have s7 : 1 + j ≤ 7 := by omega
          have rok := rings_ok hk s1 s7
          show tSeq (tAsg _ _) _ _ [some (.ref a), some (.ref g.d), some (.int (i : Int)), some (.ref y), some (.ref h), some (.bl od), some (.int ((1 + j : Nat) : Int)), b7, b8, b9, b10, b11, b12] H4
          refine q_dnewK fun d hd => ?_
          have hd3 : H3 d = none := e4.free hd
          have e5 : Kp no H3 (upd H4 d (.dK [])) := e4.trans (Kp.new hd)
          have d5 : upd H4 d (.dK []) d = some (.dK []) := upd_same
          show tSeq (tFor _ _ _) _ _ [some (.ref a), some (.ref g.d), some (.int (i : Int)), some (.ref y), some (.ref h), some (.bl od), some (.int ((1 + j : Nat) : Int)), some (.ref d), b8, b9, b10, b11, b12] _
          generalize upd H4 d (.dK []) = H5 at e5 d5 ⊢
          refine (ev_fn (p := no) (sp := spAllRings K C) (E := E0) (σ := [some (.ref a), some (.ref g.d), some (.int (i : Int)), some (.ref y), some (.ref h), some (.bl od), some (.int ((1 + j : Nat) : Int)), some (.ref d), b8, b9, b10, b11, b12]) (H := H5) (Ps := [HouseV K C names nb h, IsV (.int ((1 + j : Nat) : Int))]) (C := NbOk names nb ∧ 1 ≤ 1 + j ∧ 1 + j ≤ 7 ∧ RingsOk names nb (1 + j)) (S := RingsP K names nb (1 + j)) (fun vs H Q g => ⟨names, nb, h, 1 + j, g⟩) (ea_cons (hv rfl e5) (ea_cons (ev_val (i := 6) rfl) ea_nil)) ⟨hk, s1, s7, rok⟩) H5 (Kp.refl _ _) _ fun v6 H6 e6 ⟨R, nd, hR, la, bs, ela, hla, hbs, eb⟩ => ⟨la, ela, ⟨_, hla⟩, ?_⟩
          have rat : ∀ x ∈ R, RingAt names nb (1 + j) x := fun x m => ring_at hk s1 s7 ((hR x).mp m)
          have few : R.length ≤ 2000 := rok.few R nd fun x m => (hR x).mp m
          have rowLen : ∀ k, ((R.take k).flatMap fun x => x.take (1 + j)).length ≤ 16000 := fun k => by
            have := flat_le (f := fun x : List Str => x.take (1 + j)) (c := 8) (l := R.take k) fun x _ => by
              rw [List.length_take]
              omega
            have l2 : (R.take k).length ≤ R.length := by
              rw [List.length_take]
              omega
            omega
          refine for_list (K := K) (xs := bs.map (·.1)) (fun i' σ' H' => ∃ b8 b9 b10, σ' = [some (.ref a), some (.ref g.d), some (.int (i : Int)), some (.ref y), some (.ref h), some (.bl od), some (.int ((1 + j : Nat) : Int)), some (.ref d), b8, b9, b10, b11, b12] ∧ Kp no H3 H' ∧ SqL K H' la (bs.map (·.1)) ∧ (∀ b ∈ bs, TupS K H' b.1 b.2) ∧ ∃ kv, H' d = some (.dK kv) ∧ BegOk kv ((R.take i').flatMap fun x => x.take (1 + j))) ⟨_, _, _, rfl, e5.trans e6, hla, hbs, [], e6.at d5, fun _ => rfl, fun _ => rfl, fun z => absurd rfl z, Nat.le_refl _⟩ (fun i' σ' H' _ h => ?_) (fun i' x σ' H7 hx h => ?_) fun σ' H7 h => ?_
          · obtain ⟨_, _, _, _, _, h, _⟩ := h
            exact h
          · obtain ⟨b8, b9, b10, rfl, e7, hla7, hbs7, kv, hkv, beg⟩ := h
            obtain ⟨hw, mb, _⟩ := LstW.get (K := K) eb hx
            have ft : (R.take (i' + 1)).flatMap (fun x => x.take (1 + j)) = (R.take i').flatMap (fun x => x.take (1 + j)) ++ R[i'].take (1 + j) := by
              rw [take_succ_get hw, List.flatMap_append, List.flatMap_singleton]
            have c := (rat _ (List.getElem_mem hw)).cyc
            generalize R[i'] = wv at mb ft c
            have ring := c.ring s7
            have pl := rowLen i'
            generalize (R.take i').flatMap (fun x => x.take (1 + j)) = prev at beg ft pl
            show tSeq (tAsg _ _) _ _ [some (.ref a), some (.ref g.d), some (.int (i : Int)), some (.ref y), some (.ref h), some (.bl od), some (.int ((1 + j : Nat) : Int)), some (.ref d), some x, b9, b10, b11, b12] H7
            have rv : ∀ {σ : L2.St} {H8 : Hp}, σ[8]? = some (some x) → Kp no H7 H8 → EvP no (tVar 8) σ H8 (TupP K wv) := fun h0 e => ev_var h0 (e.tupS (hbs7 _ mb))
            refine q_setV (p := no) (i := 9) (x := .int 1) (ev_pair1 (P := TupP K wv) (ev_fn (sp := spRoot K) (Ps := [TupP K wv]) (C := Ring wv) (fun vs H Q g => ⟨wv, g⟩) (ea_cons (rv rfl (Kp.refl _ _)) ea_nil) ring)) fun H8 e8 => ?_
            show tSeq (tIfS _ _ _) _ _ [some (.ref a), some (.ref g.d), some (.int (i : Int)), some (.ref y), some (.ref h), some (.bl od), some (.int ((1 + j : Nat) : Int)), some (.ref d), some x, some (.int 1), b10, b11, b12] H8
            have sl1 := ev_slT (p := no) (K := K) (xs := wv) (rv (σ := [some (.ref a), some (.ref g.d), some (.int (i : Int)), some (.ref y), some (.ref h), some (.bl od), some (.int ((1 + j : Nat) : Int)), some (.ref d), some x, some (.int 1), b10, b11, b12]) rfl e8) eo_none (eo_some (ev_c (v := .int ((1 : Nat) : Int))))
            rw [cutW_to] at sl1
            refine q_ifF (p := no) (eb_is (a := false || false) (eb_or (eb_test (ev_nePair (K := K) (xs := wv.take 1) (ys := wv) (ev_fn (sp := spCore K) (Ps := [TupP K wv]) (C := Ring wv) (fun vs H Q g => ⟨wv, g⟩) (ea_cons (rv rfl e8) ea_nil) ring) (ev_pair sl1 (rv rfl e8) (fun _ _ _ hz h o => new_tup hz h o) fun _ _ _ hz h o => new_tup hz h o))) fun _ => eb_test (EvP.val (ev_ne (EvP.val (ev_modN (ev_val (i := 6) rfl) (ev_val (i := 9) rfl) (by decide)) (congrArg V.int (Int.fmod_one _))) (ev_c (v := .int 0)) rfl) (by rw [decide_eq_true rfl]; rfl))) rfl) fun H9 e9 => ?_
            have e79 := e8.trans e9
            refine s_forR1 (p := no) (n := 1 + j) (by omega) (ea_cons (EvP.val (ev_fdN (ev_val (i := 6) rfl) (ev_val (i := 9) rfl) ⟨by decide, by decide⟩) (congrArg V.int (Int.fdiv_one _))) ea_nil) (fun k σ' H' => ∃ b10, σ' = [some (.ref a), some (.ref g.d), some (.int (i : Int)), some (.ref y), some (.ref h), some (.bl od), some (.int ((1 + j : Nat) : Int)), some (.ref d), some x, some (.int 1), b10, b11, b12] ∧ Kp no H3 H' ∧ SqL K H' la (bs.map (·.1)) ∧ (∀ b ∈ bs, TupS K H' b.1 b.2) ∧ ∃ kv, H' d = some (.dK kv) ∧ BegOk kv (prev ++ wv.take k)) (fun H10 e10 => ⟨_, rfl, e7.trans (e79.trans e10), (e79.trans e10).sl hla7, fun b m => (e79.trans e10).tupS (hbs7 b m), kv, (e79.trans e10).at hkv, by rw [List.take_zero, List.append_nil]; exact beg⟩) (fun k σ' H10 hk h => ?_) fun σ' H10 h => ?_
            · obtain ⟨b10, rfl, e10, hla10, hbs10, kv, hkv, beg⟩ := h
              obtain ⟨ca, eca⟩ := c.at (i := k) (by omega)
              have tkw : wv.take (k + 1) = wv.take k ++ [ca] := by
                have hkw := (List.getElem?_eq_some_iff.mp eca).1
                rw [take_succ_get hkw]
                rw [List.getElem?_eq_getElem hkw] at eca
                rw [Option.some.inj eca]
              have rk : ∀ {H11 : Hp}, Kp no H10 H11 → EvP no (tOp (rIxT K) (tVar 8) (tVar 10)) [some (.ref a), some (.ref g.d), some (.int (i : Int)), some (.ref y), some (.ref h), some (.bl od), some (.int ((1 + j : Nat) : Int)), some (.ref d), some x, some (.int 1), some (.int (k : Int)), b11, b12] H11 (IsV (.str ca)) := fun e => ev_ixT (K := K) (xs := wv) (ev_var (P := TupP K wv) rfl (e.tupS (hbs10 _ mb))) (ev_val rfl) (atI_nat eca)
              show sDPut _ _ _ _ [some (.ref a), some (.ref g.d), some (.int (i : Int)), some (.ref y), some (.ref h), some (.bl od), some (.int ((1 + j : Nat) : Int)), some (.ref d), some x, some (.int 1), some (.int (k : Int)), b11, b12] H10
              refine s_dputK (p := no) (a := d) (k := Sum.inr ca) (kvs := kv) (v := .int (((prev ++ wv.take k).count ca + 1 : Nat) : Int)) (EvP.val (ev_add (EvP.val (ev_dget2 (a := d) (y := kV (Sum.inr ca)) (v := .int 0) (o := valV kv (Sum.inr ca)) (ev_val (i := 7) rfl) (rk (Kp.refl _ _)) ev_c (fun H11 e11 => .inl ⟨_, .inl (e11.at hkv)⟩) fun H11 e11 => DGet.k (e11.at hkv)) (beg.val ca)) (ev_c (v := .int 1))) (congrArg V.int (by omega))) (ev_val (i := 7) rfl) (rk (Kp.refl _ _)) (fun H11 e11 => e11.at hkv) ?_ fun H11 e11 => ?_
              · have := beg.len
                rw [List.length_append, List.length_take] at this
                omega
              · have hkv11 := e11.at hkv
                exact ⟨_, rfl, (e10.trans e11).mut hd3, dk_sl hkv11 (e11.sl hla10), fun b m => dk_tup hkv11 (e11.tupS (hbs10 b m)), _, upd_same, by rw [tkw, ← List.append_assoc]; exact beg.add ca⟩
            · obtain ⟨b10, rfl, e10, hla10, hbs10, kv, hkv, beg⟩ := h
              exact ⟨_, _, _, rfl, e10, hla10, hbs10, kv, hkv, by rw [ft]; exact beg⟩
          · obtain ⟨b8, b9, b10, rfl, e7, hla7, hbs7, kv, hkv, beg⟩ := h
            have bl : (bs.map (·.1)).length = R.length := by rw [← eb, List.length_map, List.length_map]
            rw [bl, List.take_length] at beg
            have cnt : ∀ r, (R.flatMap fun x => x.take (1 + j)).count r = (R.filter fun x => decide (∃ k, k < 1 + j ∧ x[k]? = some r)).length := fun r => begun_count (a := r) fun x m => (rat x m).cyc
            have rowN : (R.flatMap fun x => x.take (1 + j)) = [] ↔ R = [] := by
              constructor
              · intro e
                cases hR0 : R with
                | nil => rfl
                | cons x0 R0 =>
                  rw [hR0, List.flatMap_cons] at e
                  have := (List.append_eq_nil_iff.mp e).1
                  have l := (rat x0 (by rw [hR0]; exact List.mem_cons_self ..)).cyc.len
                  have := congrArg List.length this
                  rw [List.length_take] at this
                  have h0 : ([] : List Str).length = 0 := rfl
                  omega
              · intro e
                rw [e]
                rfl
            have kvE : kv.isEmpty = true ↔ R = [] := by
              rw [List.isEmpty_iff, ← rowN]
              exact ⟨fun e => Classical.byContradiction fun z => beg.some z e, beg.nil⟩
            dsimp only
            refine q_setV (p := no) (i := 5) (x := .bl (od || (decide (V.int (((1 + j) % 2 : Nat) : Int) = V.int 1) && !kv.isEmpty))) (ev_or (ev_val (i := 5) rfl) fun _ => ev_and (ev_eq (EvP.val (ev_modN (ev_val (i := 6) rfl) (ev_c (v := .int ((2 : Nat) : Int))) (by decide)) (congrArg V.int (nat_fmod _ _))) ev_c rfl) fun _ => ev_neEmp (fun H8 e8 => e8.at hkv) (ev_val (i := 7) rfl)) fun H8 e8 => ?_
            have odT' : (od || (decide (V.int (((1 + j) % 2 : Nat) : Int) = V.int 1) && !kv.isEmpty)) = true → ∃ s x, 1 ≤ s ∧ s ≤ 7 ∧ s % 2 = 1 ∧ IsRing names nb s x := fun z => by
              rcases Bool.or_eq_true_iff.mp z with z | z
              · exact odT z
              · obtain ⟨z1, z2⟩ := Bool.and_eq_true_iff.mp z
                have z1 := V.int.inj (of_decide_eq_true z1)
                cases hR0 : R with
                | nil =>
                  rw [kvE.mpr hR0] at z2
                  cases z2
                | cons x0 R0 => exact ⟨1 + j, x0, s1, s7, by omega, (hR x0).mp (by rw [hR0]; exact List.mem_cons_self ..)⟩
            have odF' : (od || (decide (V.int (((1 + j) % 2 : Nat) : Int) = V.int 1) && !kv.isEmpty)) = false → ∀ s x, 1 ≤ s → s < 1 + (j + 1) → s % 2 = 1 → ¬ IsRing names nb s x := fun z s x h1 h2 h3 hx => by
              obtain ⟨z1, z2⟩ := Bool.or_eq_false_iff.mp z
              by_cases c : s < 1 + j
              · exact odF z1 s x h1 c h3 hx
              · have es : s = 1 + j := by omega
                subst es
                have mx := (hR x).mpr hx
                rw [h3, decide_eq_true (show V.int ((1 : Nat) : Int) = V.int 1 from rfl), Bool.true_and] at z2
                have : kv.isEmpty = true := by
                  cases e : kv.isEmpty with
                  | true => rfl
                  | false =>
                    rw [e] at z2
                    cases z2
                rw [kvE.mp this] at mx
                exact absurd mx List.not_mem_nil
            generalize (od || (decide (V.int (((1 + j) % 2 : Nat) : Int) = V.int 1) && !kv.isEmpty)) = od' at odT' odF' ⊢
            show tFor _ _ _ _ [some (.ref a), some (.ref g.d), some (.int (i : Int)), some (.ref y), some (.ref h), some (.bl od'), some (.int ((1 + j : Nat) : Int)), some (.ref d), b8, b9, b10, b11, b12] H8
            refine s_forL (p := no) (K := K) (a := lr) (xs := rooms.map V.str) (H0 := H3) (.inl (.inl hy3.rooms)) (e7.trans e8) (ev_dget (a := y) (y := kV (Sum.inr "rooms")) (ev_val (i := 3) rfl) ev_c fun H9 e9 => ?_) (fun i' σ' H' => ∃ b11 b12, σ' = [some (.ref a), some (.ref g.d), some (.int (i : Int)), some (.ref y), some (.ref h), some (.bl od'), some (.int ((1 + j : Nat) : Int)), some (.ref d), b8, b9, b10, b11, b12] ∧ Kp no H3 H' ∧ H' d = some (.dK kv)) (fun H9 e9 => ⟨_, _, rfl, e7.trans (e8.trans e9), (e8.trans e9).at hkv⟩) (fun i' σ' H' h => ?_) (fun i' x σ' H9 hx h => ?_) fun σ' H9 h => ?_
            · rw [← yard_rooms lr ld]
              exact DGet.k ((hy3.up ((e7.trans e8).trans e9)).dict)
            · obtain ⟨_, _, _, e, _⟩ := h
              exact e
            · obtain ⟨b11, b12, rfl, e9, hkv9⟩ := h
              obtain ⟨r, mr, rfl⟩ : ∃ r ∈ rooms, x = .str r := by
                obtain ⟨z, mz, e⟩ := List.mem_map.mp (List.mem_of_getElem? hx)
                exact ⟨z, mz, e.symm⟩
              have rn : r ∈ names := pmr.mem_iff.mpr mr
              show tSeq (tAsg _ _) _ _ [some (.ref a), some (.ref g.d), some (.int (i : Int)), some (.ref y), some (.ref h), some (.bl od'), some (.int ((1 + j : Nat) : Int)), some (.ref d), b8, b9, b10, some (.str r), b12] H9
              refine q_setV (p := no) (i := 12) (x := .int ((Wsum nb r j fun k => if k.2 = r then 1 else 0 : Nat) : Int)) (ev_fn (sp := spCountWalks K C) (Ps := [HouseV K C names nb h, IsV (.str r), IsV (.str r), IsV (.int ((j + 1 : Nat) : Int))]) (C := NbOk names nb ∧ r ∈ names ∧ r ∈ names ∧ j ≤ 6) (fun vs H Q g => ⟨names, nb, h, r, r, j, g⟩) (ea_cons (hv rfl e9) (ea_cons (ev_val (i := 11) rfl) (ea_cons (ev_val (i := 11) rfl) (ea_cons (EvP.val (ev_val (i := 6) rfl) (congrArg V.int (by omega))) ea_nil)))) ⟨hk, rn, rn, by omega⟩) fun H10 e10 => ?_
              show tIfS _ _ _ _ [some (.ref a), some (.ref g.d), some (.int (i : Int)), some (.ref y), some (.ref h), some (.bl od'), some (.int ((1 + j : Nat) : Int)), some (.ref d), b8, b9, b10, some (.str r), some (.int ((Wsum nb r j fun k => if k.2 = r then 1 else 0 : Nat) : Int))] H10
              have ce := count_eq hk rn j
              have c1 := gl_le_count (nb := nb) (a := r) (s := 1 + j)
              have c2 := begun_le (s := 1 + j) hk hR rat nd rn
              have c3 := le_begun hk s1 s7 nd hR rn
              have c4 : 1 + j < 6 → _ := fun h => count_le_gl hk rn s1 h
              rw [Nat.add_comm j 1] at ce
              rw [← ce] at c1 c4
              rw [← cnt r] at c2 c3
              generalize (Wsum nb r j fun k => if k.2 = r then 1 else 0) = cw at c1 c4 ⊢
              have bv := beg.val r
              generalize (R.flatMap fun x => x.take (1 + j)).count r = bg at c2 c3 bv
              have getV : EvP no (tDGet2 (tVar 7) (tVar 11) (tC (.int 0))) [some (.ref a), some (.ref g.d), some (.int (i : Int)), some (.ref y), some (.ref h), some (.bl od'), some (.int ((1 + j : Nat) : Int)), some (.ref d), b8, b9, b10, some (.str r), some (.int (cw : Int))] H10 (IsV (.int (bg : Int))) := EvP.val (ev_dget2 (a := d) (y := kV (Sum.inr r)) (v := .int 0) (o := valV kv (Sum.inr r)) (ev_val (i := 7) rfl) (ev_val (i := 11) rfl) ev_c (fun H11 e11 => .inl ⟨_, .inl ((e10.trans e11).at hkv9)⟩) fun H11 e11 => DGet.k ((e10.trans e11).at hkv9)) bv
              refine s_ifF (p := no) (eb_is (a := (decide ((((1 + j : Nat) : Int)) < 6) && !decide (V.int (cw : Int) = V.int (bg : Int))) || decide ((cw : Int) < (bg : Int))) (eb_or (eb_and (eb_test (ev_lt (ev_val (i := 6) rfl) ev_c)) fun _ => eb_test (ev_ne (ev_val (i := 12) rfl) getV rfl)) fun _ => eb_test (ev_lt (ev_val (i := 12) rfl) getV)) ?_) fun H11 e11 => ⟨_, _, rfl, (e9.trans e10).trans e11, (e10.trans e11).at hkv9⟩
              rw [Bool.or_eq_false_iff]
              refine ⟨?_, decide_eq_false (by omega)⟩
              rw [Bool.and_eq_false_iff]
              by_cases c : 1 + j < 6
              · refine .inr ?_
                have := c4 c
                rw [decide_eq_true (congrArg V.int (by omega))]
                rfl
              · exact .inl (decide_eq_false (by omega))
            · obtain ⟨b11, b12, rfl, e9, hkv9⟩ := h
              exact ⟨_, _, _, _, _, _, _, _, rfl, e9, odT', odF'⟩
        · obtain ⟨od, b6, b7, b8, b9, b10, b11, b12, rfl, e4, odT, odF⟩ := hI
          have split : ∀ {σ : L2.St}, σ[3]? = some (some (.ref y)) → EvP no (tCall spIsSplit [] E0 (tCons (tVar 3) tNil)) σ H4 (SplitP ps) := fun h0 => ev_fn (sp := spIsSplit) (Ps := [YardP rooms ps]) (C := Plan rooms ps) (fun vs H Q g => ⟨rooms, ps, g⟩) (ea_cons (yv h0 e4) ea_nil) hp
          have same : ∀ n ∈ names, ∀ z, z ∈ nb n ↔ z ∈ nbs ps n := fun n m z => (hnb n m).mem_iff
          refine s_ifF (p := no) (eb_is (a := false || false) (eb_or (eb_is (a := od && false) ?_ (Bool.and_false _)) fun _ => ?_) rfl) fun H5 e5 => ⟨_, _, _, _, _, _, _, _, _, _, _, rfl, ((p3.up e4).up e5).more (by omega)⟩
          · refine eb_and (eb_B (ev_val rfl)) fun hod => eb_B ((split rfl).imp fun H5 v _ ⟨b, ev, sf⟩ => ?_)
            cases b with
            | false => exact ev
            | true =>
              obtain ⟨side, hside⟩ := sf.1 rfl
              obtain ⟨s, x, s1, s7, sodd, hx⟩ := odT hod
              exact absurd (odd_no (ring_at hk s1 s7 hx) sodd (side := side) fun u mu z hz => hside u z ((same u mu z).mp hz)) id
          · refine eb_is (a := !od && false) (eb_and (eb_not (eb_B (ev_val rfl))) fun hod => eb_notAnd (split rfl) fun sf => ?_) (Bool.and_false _)
            have hod : od = false := by
              cases od
              · rfl
              · cases hod
            obtain ⟨r, x, z, l1, l2, w1, w2, hz, e⟩ := sf.2 rfl
            have hlen : ¬ rooms.length < 8 := fun lt => by
              have nl : names.length ≤ 7 := by
                rw [pmr.length_eq]
                omega
              have inR : ∀ u v, v ∈ nbs ps u → u ∈ names := fun u v huv => pmr.mem_iff.mpr (by
                rcases mem_nbs.mp huv with m | m
                · exact (hp.pairs.ok _ m).2.2.1
                · exact (hp.pairs.ok _ m).2.2.2.1)
              have mr : r ∈ names := walk_first (P := fun u => u ∈ names) inR w1 (inR x z hz)
              obtain ⟨n, hn⟩ := odd_of hk same mr w1 w2 hz e
              obtain ⟨s, x', s1, s7, sodd, hx⟩ := odd_ring hk nl hn
              exact odF hod s x' s1 (by omega) sodd hx
            refine eb_test (EvP.val (ev_lt (ev_lenQ (K := K) ((ev_yardRooms (yv rfl e4)).imp fun H5 v _ ⟨b, ev, hb⟩ => ⟨b, ev, .inl (.inl (.inl hb))⟩)) (ev_c (v := .int 8))) (congrArg V.bl (decide_eq_false ?_)))
            rw [List.length_map]
            omega
    · obtain ⟨b2, b3, b4, b5, b6, b7, b8, b9, b10, b11, b12, rfl, p1⟩ := h
      exact s_retV (p := no) (x := .bl true) ev_c fun H2 e2 => q H2
end
end Tau
set_option maxHeartbeats 4000000
namespace Tau
open PySem PySem.Spec PyProof.Rows L2
theorem facts {P : Program} {w : World} {K : PySem.W.Frag} {h : Heap} {mg : Str → Option Value} {f : Addr} (X : K.In h) (G : h.Ns mainGlobals mg) (hfa : mg ("law" : Str) = some (.ref f)) (c : He.SaysD faL fnL K) :
    ∃ fd : FuncData, (∀ (s : Shared) (v : Value), BindsTo s fd ⟨[v], []⟩ [("_law_script", v)]) ∧ ∀ base : Heap, K.In base → base.Ns mainGlobals mg → FnOk P w K mg base CX0 7 f fd ["_law_script"] (spLaw K) := by
  have T : TopF K mg (He.ga K "House") := ⟨He.free_ok X G (c.fact 38 (f := .free "isinstance") rfl),
    He.free_ok X G (c.fact 39 (f := .free "len") rfl),
    He.free_ok X G (c.fact 40 (f := .free "all") rfl),
    He.free_ok X G (c.fact 41 (f := .free "sorted") rfl),
    He.free_ok X G (c.fact 42 (f := .free "tuple") rfl),
    He.free_ok X G (c.fact 43 (f := .free "list") rfl),
    He.free_ok X G (c.fact 44 (f := .free "min") rfl),
    He.free_ok X G (c.fact 45 (f := .free "max") rfl),
    He.free_ok X G (c.fact 46 (f := .free "abs") rfl),
    He.free_ok X G (c.fact 47 (f := .free "range") rfl),
    He.free_ok X G (c.fact 48 (f := .free "sum") rfl),
    He.free_ok X G (c.fact 49 (f := .free "int") rfl),
    He.free_ok X G (c.fact 50 (f := .free "dict") rfl),
    He.free_ok X G (c.fact 51 (f := .free "str") rfl),
    He.str_ok X G (c.fact 54 (f := .str "LETTERS" "abcdefghijklmnopqrstuvwxyz") rfl),
    He.int_ok X G (c.fact 52 (f := .int "MOST_LETTERS" 8) rfl),
    He.int_ok X G (c.fact 53 (f := .int "MOST_RINGS" 2000) rfl),
    He.glo_ok X G (c.fact 37 (f := .glo "House") rfl),
    He.cls_ok (c.fact 55 (f := .cls "House") rfl),
    He.noat_ok (c.fact 57 (f := .noat "House" "own_rooms") rfl),
    He.noat_ok (c.fact 58 (f := .noat "House" "own_doors") rfl),
    He.noat_ok (c.fact 59 (f := .noat "House" "near") rfl)⟩
  obtain ⟨fd0, E0⟩ := c.def_ 0 (d := dIsName) rfl
  have F0 : DefIs K "is_name" "is_name" sIsName (He.fAd K dIsName.at_) fd0 := E0
  obtain ⟨fd1, E1⟩ := c.def_ 1 (d := dIsListing) rfl
  have F1 : DefIs K "is_listing" "is_listing" sIsListing (He.fAd K dIsListing.at_) fd1 := E1
  obtain ⟨fd2, E2⟩ := c.def_ 2 (d := dBadNames) rfl
  have F2 : DefIs K "bad_names" "bad_names" sBadNames (He.fAd K dBadNames.at_) fd2 := E2
  obtain ⟨fd3, E3⟩ := c.def_ 3 (d := dIsPair) rfl
  have F3 : DefIs K "is_pair" "is_pair" sIsPair (He.fAd K dIsPair.at_) fd3 := E3
  obtain ⟨fd4, E4⟩ := c.def_ 4 (d := dBadPairs) rfl
  have F4 : DefIs K "bad_pairs" "bad_pairs" sBadPairs (He.fAd K dBadPairs.at_) fd4 := E4
  obtain ⟨fd5, E5⟩ := c.def_ 5 (d := dPairsOf) rfl
  have F5 : DefIs K "pairs_of" "pairs_of" sPairsOf (He.fAd K dPairsOf.at_) fd5 := E5
  obtain ⟨fd6, E6⟩ := c.def_ 6 (d := dBesideAll) rfl
  have F6 : DefIs K "beside_all" "beside_all" sBesideAll (He.fAd K dBesideAll.at_) fd6 := E6
  obtain ⟨fd7, E7⟩ := c.def_ 7 (d := dShrunk) rfl
  have F7 : DefIs K "shrunk" "shrunk" sShrunk (He.fAd K dShrunk.at_) fd7 := E7
  obtain ⟨fd8, E8⟩ := c.def_ 8 (d := dTurned) rfl
  have F8 : DefIs K "turned" "turned" sTurned (He.fAd K dTurned.at_) fd8 := E8
  obtain ⟨fd9, E9⟩ := c.def_ 9 (d := dBehind) rfl
  have F9 : DefIs K "behind" "behind" sBehind (He.fAd K dBehind.at_) fd9 := E9
  obtain ⟨fd10, E10⟩ := c.def_ 10 (d := dNeedClosed) rfl
  have F10 : DefIs K "need_closed" "need_closed" sNeedClosed (He.fAd K dNeedClosed.at_) fd10 := E10
  obtain ⟨fd11, E11⟩ := c.def_ 11 (d := dCore) rfl
  have F11 : DefIs K "core" "core" sCore (He.fAd K dCore.at_) fd11 := E11
  obtain ⟨fd12, E12⟩ := c.def_ 12 (d := dTurns) rfl
  have F12 : DefIs K "turns" "turns" sTurns (He.fAd K dTurns.at_) fd12 := E12
  obtain ⟨fd13, E13⟩ := c.def_ 13 (d := dNamed) rfl
  have F13 : DefIs K "named" "named" sNamed (He.fAd K dNamed.at_) fd13 := E13
  obtain ⟨fd14, E14⟩ := c.def_ 14 (d := dTimesOf) rfl
  have F14 : DefIs K "times_of" "times_of" sTimesOf (He.fAd K dTimesOf.at_) fd14 := E14
  obtain ⟨fd15, E15⟩ := c.def_ 15 (d := dNeedSomething) rfl
  have F15 : DefIs K "need_something" "need_something" sNeedSomething (He.fAd K dNeedSomething.at_) fd15 := E15
  obtain ⟨fd16, E16⟩ := c.def_ 16 (d := dRoot) rfl
  have F16 : DefIs K "root" "root" sRoot (He.fAd K dRoot.at_) fd16 := E16
  obtain ⟨fd17, E17⟩ := c.def_ 17 (d := dCountWalks) rfl
  have F17 : DefIs K "count_walks" "count_walks" sCountWalks (He.fAd K dCountWalks.at_) fd17 := E17
  obtain ⟨fd18, E18⟩ := c.def_ 18 (d := dShrunkWalks) rfl
  have F18 : DefIs K "shrunk_walks" "shrunk_walks" sShrunkWalks (He.fAd K dShrunkWalks.at_) fd18 := E18
  obtain ⟨fd19, E19⟩ := c.def_ 19 (d := dAllRings) rfl
  have F19 : DefIs K "all_rings" "all_rings" sAllRings (He.fAd K dAllRings.at_) fd19 := E19
  obtain ⟨fd20, E20⟩ := c.def_ 20 (d := dFirstThree) rfl
  have F20 : DefIs K "first_three" "first_three" sFirstThree (He.fAd K dFirstThree.at_) fd20 := E20
  obtain ⟨fd21, E21⟩ := c.def_ 21 (d := dLawPen) rfl
  have F21 : DefIs K "_law_pen" "_law_pen" sLawPen (He.fAd K dLawPen.at_) fd21 := E21
  obtain ⟨fd22, E22⟩ := c.def_ 22 (d := dLawDraw) rfl
  have F22 : DefIs K "_law_draw" "_law_draw" sLawDraw (He.fAd K dLawDraw.at_) fd22 := E22
  obtain ⟨fd23, E23⟩ := c.def_ 23 (d := dLawPick) rfl
  have F23 : DefIs K "_law_pick" "_law_pick" sLawPick (He.fAd K dLawPick.at_) fd23 := E23
  obtain ⟨fd24, E24⟩ := c.def_ 24 (d := dLawShuffled) rfl
  have F24 : DefIs K "_law_shuffled" "_law_shuffled" sLawShuffled (He.fAd K dLawShuffled.at_) fd24 := E24
  obtain ⟨fd25, E25⟩ := c.def_ 25 (d := dLawNames) rfl
  have F25 : DefIs K "_law_names" "_law_names" sLawNames (He.fAd K dLawNames.at_) fd25 := E25
  obtain ⟨fd26, E26⟩ := c.def_ 26 (d := dLawNear) rfl
  have F26 : DefIs K "_law_near" "_law_near" sLawNear (He.fAd K dLawNear.at_) fd26 := E26
  obtain ⟨fd27, E27⟩ := c.def_ 27 (d := dLawMayDoor) rfl
  have F27 : DefIs K "_law_may_door" "_law_may_door" sLawMayDoor (He.fAd K dLawMayDoor.at_) fd27 := E27
  obtain ⟨fd28, E28⟩ := c.def_ 28 (d := dLawWithDoors) rfl
  have F28 : DefIs K "_law_with_doors" "_law_with_doors" sLawWithDoors (He.fAd K dLawWithDoors.at_) fd28 := E28
  obtain ⟨fd29, E29⟩ := c.def_ 29 (d := dLawDrawnPairs) rfl
  have F29 : DefIs K "_law_drawn_pairs" "_law_drawn_pairs" sLawDrawnPairs (He.fAd K dLawDrawnPairs.at_) fd29 := E29
  obtain ⟨fd30, E30⟩ := c.def_ 30 (d := dLawYard) rfl
  have F30 : DefIs K "_law_yard" "_law_yard" sLawYard (He.fAd K dLawYard.at_) fd30 := E30
  obtain ⟨fd31, E31⟩ := c.def_ 31 (d := dLawHanded) rfl
  have F31 : DefIs K "_law_handed" "_law_handed" sLawHanded (He.fAd K dLawHanded.at_) fd31 := E31
  obtain ⟨fd32, E32⟩ := c.def_ 32 (d := dLawEither) rfl
  have F32 : DefIs K "_law_either" "_law_either" sLawEither (He.fAd K dLawEither.at_) fd32 := E32
  obtain ⟨fd33, E33⟩ := c.def_ 33 (d := dLawReach) rfl
  have F33 : DefIs K "_law_reach" "_law_reach" sLawReach (He.fAd K dLawReach.at_) fd33 := E33
  obtain ⟨fd34, E34⟩ := c.def_ 34 (d := dLawHouse) rfl
  have F34 : DefIs K "_law_house" "_law_house" sLawHouse (He.fAd K dLawHouse.at_) fd34 := E34
  obtain ⟨fd35, E35⟩ := c.def_ 35 (d := dLawIsSplit) rfl
  have F35 : DefIs K "_law_is_split" "_law_is_split" sLawIsSplit (He.fAd K dLawIsSplit.at_) fd35 := E35
  obtain ⟨fd36, E36⟩ := c.def_ 36 (d := dLaw) rfl
  have F36 : DefIs K "law" "law" sLaw (He.fAd K dLaw.at_) fd36 := E36
  obtain ⟨fd37, E37⟩ := c.def_ 37 (d := dHoInit) rfl
  have F37 : DefIs K "__init__" "House.__init__" sHoInit (He.fAd K dHoInit.at_) fd37 := E37
  obtain ⟨fd38, E38⟩ := c.def_ 38 (d := dHoRooms) rfl
  have F38 : DefIs K "rooms" "House.rooms" sHoRooms (He.fAd K dHoRooms.at_) fd38 := E38
  obtain ⟨fd39, E39⟩ := c.def_ 39 (d := dHoNeedRoom) rfl
  have F39 : DefIs K "need_room" "House.need_room" sHoNeedRoom (He.fAd K dHoNeedRoom.at_) fd39 := E39
  have e := hfa.symm.trans (He.glo_ok X G (c.fact 36 (f := .glo "law") rfl))
  cases e
  have b := FunD.bindsA (ps := ["_law_script"]) F36 fun _ _ _ _ _ _ us hl => match us, hl with | [_], _ => rfl
  refine ⟨fd36, fun s v => b s [v] rfl, fun base _ _ => ?_⟩
  have C_IsName : Can P w K mg base "is_name" 1 ["thing"] spIsName := can_of F0 (He.glo_ok X G (c.fact 0 (f := .glo "is_name") rfl)) (fun _ _ _ _ _ _ us hl => match us, hl with | [_], _ => rfl) (ok_is_name F0 T)
  have C_IsListing : Can P w K mg base "is_listing" 1 ["thing"] spIsListing := can_of F1 (He.glo_ok X G (c.fact 1 (f := .glo "is_listing") rfl)) (fun _ _ _ _ _ _ us hl => match us, hl with | [_], _ => rfl) (ok_is_listing F1 T)
  have C_PairsOf : Can P w K mg base "pairs_of" 1 ["things"] (spPairsOf K) := can_of F5 (He.glo_ok X G (c.fact 5 (f := .glo "pairs_of") rfl)) (fun _ _ _ _ _ _ us hl => match us, hl with | [_], _ => rfl) (ok_pairs_of F5 T)
  have C_BesideAll : Can P w K mg base "beside_all" 1 ["names", "pairs"] (spBesideAll K) := can_of F6 (He.glo_ok X G (c.fact 6 (f := .glo "beside_all") rfl)) (fun _ _ _ _ _ _ us hl => match us, hl with | [_, _], _ => rfl) (ok_beside_all F6 T)
  have C_Shrunk : Can P w K mg base "shrunk" 1 ["walk"] (spShrunk K) := can_of F7 (He.glo_ok X G (c.fact 7 (f := .glo "shrunk") rfl)) (fun _ _ _ _ _ _ us hl => match us, hl with | [_], _ => rfl) (ok_shrunk F7 T)
  have C_Turned : Can P w K mg base "turned" 1 ["walk"] (spTurned K) := can_of F8 (He.glo_ok X G (c.fact 8 (f := .glo "turned") rfl)) (fun _ _ _ _ _ _ us hl => match us, hl with | [_], _ => rfl) (ok_turned F8 T)
  have C_NeedClosed : Can P w K mg base "need_closed" 1 ["walk"] (spNeedClosed K) := can_of F10 (He.glo_ok X G (c.fact 10 (f := .glo "need_closed") rfl)) (fun _ _ _ _ _ _ us hl => match us, hl with | [_], _ => rfl) (ok_need_closed F10 T)
  have C_Turns : Can P w K mg base "turns" 1 ["ring"] (spTurns K) := can_of F12 (He.glo_ok X G (c.fact 12 (f := .glo "turns") rfl)) (fun _ _ _ _ _ _ us hl => match us, hl with | [_], _ => rfl) (ok_turns F12 T)
  have C_TimesOf : Can P w K mg base "times_of" 1 ["ring"] (spTimesOf K) := can_of F14 (He.glo_ok X G (c.fact 14 (f := .glo "times_of") rfl)) (fun _ _ _ _ _ _ us hl => match us, hl with | [_], _ => rfl) (ok_times_of F14 T)
  have C_ShrunkWalks : Can P w K mg base "shrunk_walks" 1 ["house", "room", "steps"] (spShrunkWalks K (He.ga K "House")) := can_of F18 (He.glo_ok X G (c.fact 18 (f := .glo "shrunk_walks") rfl)) (fun _ _ _ _ _ _ us hl => match us, hl with | [_, _, _], _ => rfl) (ok_shrunk_walks F18 T)
  have C_FirstThree : Can P w K mg base "first_three" 1 ["near"] spFirstThree := can_of F20 (He.glo_ok X G (c.fact 20 (f := .glo "first_three") rfl)) (fun _ _ _ _ _ _ us hl => match us, hl with | [_], _ => rfl) (ok_first_three F20 T)
  have C_LawPen : Can P w K mg base "_law_pen" 1 ["_law_script"] (spPen K) := can_of F21 (He.glo_ok X G (c.fact 21 (f := .glo "_law_pen") rfl)) (fun _ _ _ _ _ _ us hl => match us, hl with | [_], _ => rfl) (ok_law_pen F21 T)
  have C_LawDraw : Can P w K mg base "_law_draw" 1 ["_law_pen_here", "_law_many"] spDraw := can_of F22 (He.glo_ok X G (c.fact 22 (f := .glo "_law_draw") rfl)) (fun _ _ _ _ _ _ us hl => match us, hl with | [_, _], _ => rfl) (ok_law_draw F22 T)
  have C_LawNear : Can P w K mg base "_law_near" 1 ["_law_yard_here", "_law_room"] spNear := can_of F26 (He.glo_ok X G (c.fact 26 (f := .glo "_law_near") rfl)) (fun _ _ _ _ _ _ us hl => match us, hl with | [_, _], _ => rfl) (ok_law_near F26 T)
  have CRooms : CanM P w K mg base (He.ga K "House") "rooms" 1 ["self"] (spRooms K (He.ga K "House")) := ⟨_, _, (ok_rooms F38 T), He.meth_ok (c.fact 60 (f := .meth "House" "rooms") rfl), FunD.bindsN F38 (fun _ _ _ _ _ _ us hl => match us, hl with | [_], _ => rfl)⟩
  have C_BadNames : Can P w K mg base "bad_names" 2 ["things"] spBadNames := can_of F2 (He.glo_ok X G (c.fact 2 (f := .glo "bad_names") rfl)) (fun _ _ _ _ _ _ us hl => match us, hl with | [_], _ => rfl) (ok_bad_names F2 T C_IsListing C_IsName)
  have C_IsPair : Can P w K mg base "is_pair" 2 ["names", "thing"] (spIsPair K) := can_of F3 (He.glo_ok X G (c.fact 3 (f := .glo "is_pair") rfl)) (fun _ _ _ _ _ _ us hl => match us, hl with | [_, _], _ => rfl) (ok_is_pair F3 T C_IsListing C_IsName)
  have C_Behind : Can P w K mg base "behind" 2 ["one", "other"] (spBehind K) := can_of F9 (He.glo_ok X G (c.fact 9 (f := .glo "behind") rfl)) (fun _ _ _ _ _ _ us hl => match us, hl with | [_, _], _ => rfl) (ok_behind F9 T C_Shrunk)
  have C_Core : Can P w K mg base "core" 2 ["walk"] (spCore K) := can_of F11 (He.glo_ok X G (c.fact 11 (f := .glo "core") rfl)) (fun _ _ _ _ _ _ us hl => match us, hl with | [_], _ => rfl) (ok_core F11 T C_Shrunk C_NeedClosed)
  have C_NeedSomething : Can P w K mg base "need_something" 2 ["walk"] (spNeedSomething K) := can_of F15 (He.glo_ok X G (c.fact 15 (f := .glo "need_something") rfl)) (fun _ _ _ _ _ _ us hl => match us, hl with | [_], _ => rfl) (ok_need_something F15 T C_Shrunk)
  have C_LawPick : Can P w K mg base "_law_pick" 2 ["_law_pen_here", "_law_some"] (spPick K) := can_of F23 (He.glo_ok X G (c.fact 23 (f := .glo "_law_pick") rfl)) (fun _ _ _ _ _ _ us hl => match us, hl with | [_, _], _ => rfl) (ok_law_pick F23 T C_LawDraw)
  have C_LawShuffled : Can P w K mg base "_law_shuffled" 2 ["_law_pen_here", "_law_some"] (spShuffled K) := can_of F24 (He.glo_ok X G (c.fact 24 (f := .glo "_law_shuffled") rfl)) (fun _ _ _ _ _ _ us hl => match us, hl with | [_, _], _ => rfl) (ok_law_shuffled F24 T C_LawDraw)
  have C_LawMayDoor : Can P w K mg base "_law_may_door" 2 ["_law_yard_here", "_law_one", "_law_other"] spMayDoor := can_of F27 (He.glo_ok X G (c.fact 27 (f := .glo "_law_may_door") rfl)) (fun _ _ _ _ _ _ us hl => match us, hl with | [_, _, _], _ => rfl) (ok_law_may_door F27 T C_LawNear)
  have C_LawDrawnPairs : Can P w K mg base "_law_drawn_pairs" 2 ["_law_pen_here", "_law_many", "_law_count"] spDrawnPairs := can_of F29 (He.glo_ok X G (c.fact 29 (f := .glo "_law_drawn_pairs") rfl)) (fun _ _ _ _ _ _ us hl => match us, hl with | [_, _, _], _ => rfl) (ok_law_drawn_pairs F29 T C_LawDraw)
  have C_LawReach : Can P w K mg base "_law_reach" 2 ["_law_yard_here", "_law_begin"] spReach := can_of F33 (He.glo_ok X G (c.fact 33 (f := .glo "_law_reach") rfl)) (fun _ _ _ _ _ _ us hl => match us, hl with | [_, _], _ => rfl) (ok_law_reach F33 T C_LawNear)
  have CNeed : CanM P w K mg base (He.ga K "House") "need_room" 2 ["self", "thing"] (spNeed K (He.ga K "House")) := ⟨_, _, (ok_need_room F39 T C_IsName), He.meth_ok (c.fact 61 (f := .meth "House" "need_room") rfl), FunD.bindsN F39 (fun _ _ _ _ _ _ us hl => match us, hl with | [_, _], _ => rfl)⟩
  have C_BadPairs : Can P w K mg base "bad_pairs" 3 ["names", "things"] (spBadPairs K) := can_of F4 (He.glo_ok X G (c.fact 4 (f := .glo "bad_pairs") rfl)) (fun _ _ _ _ _ _ us hl => match us, hl with | [_, _], _ => rfl) (ok_bad_pairs F4 T C_IsListing C_IsPair)
  have C_Named : Can P w K mg base "named" 3 ["walk"] (spNamed K) := can_of F13 (He.glo_ok X G (c.fact 13 (f := .glo "named") rfl)) (fun _ _ _ _ _ _ us hl => match us, hl with | [_], _ => rfl) (ok_named F13 T C_Core C_Turns)
  have C_Root : Can P w K mg base "root" 3 ["walk"] (spRoot K) := can_of F16 (He.glo_ok X G (c.fact 16 (f := .glo "root") rfl)) (fun _ _ _ _ _ _ us hl => match us, hl with | [_], _ => rfl) (ok_root F16 T C_Core C_NeedSomething C_TimesOf C_Behind C_Turned)
  have C_CountWalks : Can P w K mg base "count_walks" 3 ["house", "one", "other", "steps"] (spCountWalks K (He.ga K "House")) := can_of F17 (He.glo_ok X G (c.fact 17 (f := .glo "count_walks") rfl)) (fun _ _ _ _ _ _ us hl => match us, hl with | [_, _, _, _], _ => rfl) (ok_count_walks F17 T CNeed)
  have C_LawNames : Can P w K mg base "_law_names" 3 ["_law_pen_here", "_law_many"] (spNames K) := can_of F25 (He.glo_ok X G (c.fact 25 (f := .glo "_law_names") rfl)) (fun _ _ _ _ _ _ us hl => match us, hl with | [_, _], _ => rfl) (ok_law_names F25 T C_LawDraw C_LawPick)
  have C_LawWithDoors : Can P w K mg base "_law_with_doors" 3 ["_law_rooms", "_law_pairs"] (spWithDoors K) := can_of F28 (He.glo_ok X G (c.fact 28 (f := .glo "_law_with_doors") rfl)) (fun _ _ _ _ _ _ us hl => match us, hl with | [_, _], _ => rfl) (ok_law_with_doors F28 T C_LawMayDoor)
  have C_LawHanded : Can P w K mg base "_law_handed" 3 ["_law_pen_here", "_law_some"] (spHanded K) := can_of F31 (He.glo_ok X G (c.fact 31 (f := .glo "_law_handed") rfl)) (fun _ _ _ _ _ _ us hl => match us, hl with | [_, _], _ => rfl) (ok_law_handed F31 T C_LawDraw C_LawShuffled)
  have C_LawEither : Can P w K mg base "_law_either" 3 ["_law_pen_here", "_law_pairs"] (spEither K) := can_of F32 (He.glo_ok X G (c.fact 32 (f := .glo "_law_either") rfl)) (fun _ _ _ _ _ _ us hl => match us, hl with | [_, _], _ => rfl) (ok_law_either F32 T C_LawDraw C_LawShuffled)
  have C_LawIsSplit : Can P w K mg base "_law_is_split" 3 ["_law_yard_here"] spIsSplit := can_of F35 (He.glo_ok X G (c.fact 35 (f := .glo "_law_is_split") rfl)) (fun _ _ _ _ _ _ us hl => match us, hl with | [_], _ => rfl) (ok_law_is_split F35 T C_LawReach)
  have C_AllRings : Can P w K mg base "all_rings" 4 ["house", "steps"] (spAllRings K (He.ga K "House")) := can_of F19 (He.glo_ok X G (c.fact 19 (f := .glo "all_rings") rfl)) (fun _ _ _ _ _ _ us hl => match us, hl with | [_, _], _ => rfl) (ok_all_rings F19 T CRooms C_ShrunkWalks C_Named)
  have C_LawYard : Can P w K mg base "_law_yard" 4 ["_law_pen_here", "_law_most"] spYard := can_of F30 (He.glo_ok X G (c.fact 30 (f := .glo "_law_yard") rfl)) (fun _ _ _ _ _ _ us hl => match us, hl with | [_, _], _ => rfl) (ok_law_yard F30 T C_LawDraw C_LawNames C_LawDrawnPairs C_LawWithDoors)
  have CHouse : CanC P w K mg base "House" (He.ga K "House") 4 ["self", "rooms", "doors"] (spInit K (He.ga K "House")) := ⟨_, _, (ok_init F37 T C_BadNames C_BadPairs C_PairsOf C_BesideAll C_FirstThree), He.mkr_ok (c.fact 56 (f := .mkr "House") rfl), T.mgC, FunD.bindsN F37 (fun _ _ _ _ _ _ us hl => match us, hl with | [_, _, _], _ => rfl)⟩
  have C_LawHouse : Can P w K mg base "_law_house" 6 ["_law_pen_here", "_law_yard_here"] (spLawHouse K (He.ga K "House")) := can_of F34 (He.glo_ok X G (c.fact 34 (f := .glo "_law_house") rfl)) (fun _ _ _ _ _ _ us hl => match us, hl with | [_, _], _ => rfl) (ok_law_house F34 T CHouse C_LawHanded C_LawEither)
  exact ok_law F36 T C_LawPen C_LawYard C_LawHouse C_AllRings C_Root C_Core C_CountWalks C_LawIsSplit
end Tau
set_option maxHeartbeats 4000000
open PySem PySem.W PySem.Calls PyProof.Rows
theorem PySem.Challenge.cw_tautropes_k22_whole_rings_of_powers_and_holds : PySem.Challenge.rw_tautropes_k22_whole_rings_of_powers_and.Holds := by
  w_on; o_law
  refine HandSHeadRun.head_any (r := OpenLaw.row PySem.Challenge.rw_tautropes_k22_whole_rings_of_powers_and) (q := view (OpenLaw.row PySem.Challenge.rw_tautropes_k22_whole_rings_of_powers_and).prog [55]) (H := Tau.hkT) (ob := Tau.obT) (M := 6000) (loose := Tau.loT) (d := HandSHeadRun.topDef (OpenLaw.row PySem.Challenge.rw_tautropes_k22_whole_rings_of_powers_and).prog 55) (kwd := []) Tau.obT_eq
    (by kernel_rfl) (fun s => by kernel_rfl) Tau.runT (by kernel_rfl) (by kernel_rfl) (by kernel_rfl) (by rfl) (by first | assumption | decide +kernel) (by decide +kernel) ⟨rfl, rfl, rfl, rfl, rfl, by decide +kernel⟩ ?hw ?hc
  case hw => w_witness2
  case hc =>
    refine L2.walk_ofE (l := PySem.Challenge.rw_tautropes_k22_whole_rings_of_powers_and) (n := 63) (k := 7) (x := "_law_script") (CX := L2.CX0) rfl (by decide) (by kernel_rfl) ⟨rfl, by decide, by decide⟩ ?F (fun _ _ _ _ z => z)
    intro w mg fa h Y G hmg0
    obtain ⟨K, KX, c⟩ := Y
    have hmg : mg ("law" : PySem.Str) = some (.ref fa) := by
      have e : (HandSHeadRun.topDef (OpenLaw.row PySem.Challenge.rw_tautropes_k22_whole_rings_of_powers_and).prog 55).name = ("law" : PySem.Str) := by kernel_rfl
      rw [← e]
      exact hmg0
    obtain ⟨fd, hb, hF⟩ := Tau.facts (P := (PySem.Challenge.rw_tautropes_k22_whole_rings_of_powers_and).prog) (w := w) KX G hmg c
    exact ⟨K, fd, Tau.spLaw K, KX, hb, fun H a ns hl _ hS => ⟨a, ns, rfl, hS, fun _ => rfl⟩, hF⟩
