import PyProof.Rows.All
import Wide.All
import OpenK.AllK
import Wide.FinOn
import KE.KStateDown
import Lean
import HandS.TryMany
import HandS.Defaults
import HandS.Words
import HandS.ExcField
import HandS.Head0
import HandS.Head1
import HandS.Head2
import HandS.Head3
import HandS.HeadEnd
import HandS.HeadHook1
import HandS.HeadHook2
import HandS.HeadHook4
import KE.KExcPX
import PyProof.EqLayable
import KE.SortData
import HandS.ForMost
import HandS.ForExc
import HandS.Lambda
import PyProof.P3In
import HandS.TupAny
import HandS.Deep
import HandS.Gcd
import HandS.Wide
import HandS.IsInst
import HandS.Style
import HandS.Flow
import HandS.ExcOwn
import HandS.Comp
import HandS.Zip
import KE.GoesEnum
import KE.GoesMore
import HandS.Iter
import HandS.ExcInit
import HandS.Conv
import HandS.Dict
import HandS.HotCalls
import HandS.ExcIs
import KE.KExcIs
import HandS.EndTab
import HandS.HeadWalk
import PySem.Challenge.RW_ballsmeet_k13_whole_rows_that_grow
set_option Elab.async false
set_option linter.all false
set_option maxRecDepth 100000
/-! Mc0: what the head's run is looked at for, ahead of the machine. -/
namespace Mc
open PySem PySem.Spec PyProof.Rows L2
/-- the defs of the laws that make lambdas -/
def lamNames : List Str := (["_law_all_arcs", "_law_all_raise", "_law_any_right", "_law_any_splits", "_law_bent_edges", "_law_bent_lots", "_law_circle", "_law_clashes_right", "_law_crossed_errors", "_law_done", "_law_drawn", "_law_drawn_right"] : List Str) ++ (["_law_due", "_law_edges_right", "_law_errors", "_law_fault_of_near", "_law_gone", "_law_gone_on", "_law_great_right", "_law_grown_right", "_law_grown_tree", "_law_lengths_right", "_law_limit", "_law_limits"] : List Str) ++ (["_law_made_right", "_law_nest_lots", "_law_nested", "_law_nested_right", "_law_nested_sides", "_law_nodes_right", "_law_numbers_right", "_law_odd_tables_right", "_law_on_right", "_law_parts_right", "_law_pillar_errors", "_law_ratios_right"] : List Str) ++ (["_law_reckoned_right", "_law_refused", "_law_refused_right", "_law_renumbered_tree", "_law_right", "_law_roads_right", "_law_rows_right", "_law_sides_of", "_law_sides_right", "_law_slid_right", "_law_spoilt", "_law_step"] : List Str) ++ (["_law_tables_right", "_law_tried", "_law_two_right", "_law_ways_right", "law"] : List Str)
def lamQ (x : Str) : Str := (x ++ (".<locals>." : Str)) ++ ("<lambda>" : Str)
def tyNames : List String := ["NoneType", "int", "bool", "str", "tuple", "list", "dict"]
/-- a class of the text whose instances are data -/
def clsB (K : PySem.W.Frag) (x : Str) : Bool := (match PySem.W.clsIn K (He.ga K x) with
  | some cd => decide (cd.name = x) && decide (cd.mro = [.ref (He.ga K x), .type "object"])
  | none => false) && ((He.Fa.cls x).ok K && (decide (PySem.W.typeIn K (.ref (He.ga K x)) = some (.type "type")) && (tyNames.all (fun t => decide (PySem.W.kitOne K (.type t) (.ref (He.ga K x)) = some false)) && (tyNames.all (fun t => decide (PySem.W.kitOne K (.ref (He.ga K x)) (.type t) = some false)) &&
  (decide (PySem.W.findIn K (.ref (He.ga K x)) "__class__" = some (some (.builtin "object.__class__"))) && (decide (PySem.W.specialIn K (.builtin "object.__class__") "__get__" = some (some (.builtin "getset_descriptor.__get__"))) && decide (PySem.W.takesIn K (.builtin "object.__class__") = some true)))))))
/-- no class has the field's name -/
def naB (K : PySem.W.Frag) (x f : Str) : Bool := decide (PySem.W.findIn K (.ref (He.ga K x)) f = some none)
/-- an item of the tuple that is made of an error: a text, a field, a field's repr -/
inductive Ke where
  | s (x : Str) | f (x : Str) | r (x : Str)
  deriving DecidableEq
/-- the tables of the defs that make lambdas -/
def tabsOf (K : PySem.W.Frag) : List (Addr × Str) := lamNames.filterMap fun x => (PySem.W.tabIn K x).map fun cp => (cp.2, lamQ x)
def tabCs (K : PySem.W.Frag) : List (Addr × Addr) := lamNames.filterMap fun x => PySem.W.tabIn K x
def uniqT : List (Addr × Str) → Bool
  | [] => true
  | p :: r => r.all (fun q => !decide (q.1 = p.1) || decide (q.2 = p.2)) && uniqT r
def oexB (K : PySem.W.Frag) (C : Addr) : Bool := (match K.lookup C with
  | some ⟨.type "type", _, .cls cd, sl⟩ => (match cd.mro, sl.toList with
    | .ref C' :: bm, [_, _, _, _, some (.builtin n), _] => decide (C' = C) && (decide (n = "ValueError.__new__") && (!cd.hasDel && (cd.hasDict && PySem.HandSPX.refsVE bm)))
    | _, _ => false)
  | _ => false) && (decide (PySem.W.findIn K (.ref C) "__setattr__" = some (some (.builtin "object.__setattr__"))) && (decide (PySem.W.subIn K (.ref C) (.type "BaseException") = some true) && (decide (PySem.W.typeIn K (.ref C) = some (.type "type")) && PySem.W.keepIn K (.ref C))))
def exB (K : PySem.W.Frag) (q : Str × List Str) : Bool := if q.2 = [] then (He.Fa.exc q.1).ok K && !(q.1 == ("__debug__" : Str)) else oexB K (He.ga K q.1) && (q.2.all (fun f => decide (PySem.W.findIn K (.ref (He.ga K q.1)) f = some none)) && (decide (PySem.W.findIn K (.ref (He.ga K q.1)) "__init__" = some (some (.ref (He.ma K (He.ga K q.1) "__init__")))) &&
  (decide (PySem.W.typeIn K (.ref (He.ma K (He.ga K q.1) "__init__")) = some (.type "function")) && (decide (q.2 ≠ []) && (decide (q.2.length ≤ 900) && !(q.1 == ("__debug__" : Str)))))))
def clB (K : PySem.W.Frag) (c : Str) : Bool := (PySem.W.clsIn K (He.ga K c)).isSome && (xfB K (He.ga K c) && (decide (PySem.W.findIn K (.ref (He.ga K c)) "__class__" = some (some (.builtin "object.__class__"))) && (decide (PySem.W.mroIn K (He.ga K c) (.type "object") = some true) &&
  (!(c == ("__debug__" : Str)) && (decide (PySem.W.exmOne K (.ref (He.ga K c)) (.ref (He.ga K "RoomsError")) = some true) && decide (PySem.W.kitOne K (.ref (He.ga K c)) (.type "ValueError") = some true))))))
def kefs (l : List Ke) : List Str := l.filterMap fun k => match k with
  | .s _ => none
  | .f x => some x
  | .r x => some x
def ktB (K : PySem.W.Frag) (kt : List (Str × List Ke)) : Bool := decide (PySem.W.specialIn K (.builtin "object.__class__") "__get__" = some (some (.builtin "getset_descriptor.__get__"))) && (decide (PySem.W.takesIn K (.builtin "object.__class__") = some true) && (decide ((kt.map (·.1)).Nodup) && (kt.all (fun q => clB K q.1) &&
  (kt.all (fun q => kt.all fun r => decide (PySem.W.kitOne K (.ref (He.ga K q.1)) (.ref (He.ga K r.1)) = some (decide (r.1 = q.1)))) && kt.all fun q => ((kt.flatMap fun r => kefs r.2).eraseDups).all fun f => decide (PySem.W.findIn K (.ref (He.ga K q.1)) f = some none)))))
def dd (x : Str) (st : Stmt) : He.DefD := ⟨(x, none), x, x, defArgs st, defBody st, defScope st, [], []⟩
/-- the interpreter's dict of modules stands -/
def smB (g : Addr → Option Obj) : Bool := match g sysModules with
  | some o => (match o.data with
    | .dict _ _ => true
    | _ => false)
  | none => false
def lamH (K : PySem.W.Frag) (l : Bool) (nm qual : Str) : Bool := !l || (decide (qual = nm) && (decide (nm ∈ lamNames) && (PySem.W.tabIn K nm).isSome))
def exH (ls : List (Bool × Str)) (lw : Bool) (ln : Str) (tf : List He.Defn) (exc : List (Str × List Str)) (knd : Bool) (kt : List (Str × List Ke)) (gcd : Bool) (cs : List (Str × List Str)) (K : PySem.W.Frag) : Bool :=
  ls.all (fun p => lamH K p.1 p.2 p.2) && (lamH K lw ln "law" && (uniqT (tabsOf K) && (decide (tabCs K = tf.map (He.cT K)) && (exc.all (fun q => exB K q) && ((!knd || ktB K kt) && ((!gcd || He.eqO (PySem.W.nsIn K mainGlobals "gcd") (some (some (.builtin "math.gcd")))) && cs.all (fun c => clsB K c.1 && c.2.all (fun f => naB K c.1 f))))))))
def dIni (c : Str) (st : Stmt) : He.DefD := ⟨(c, some "__init__"), "__init__", c ++ (".__init__" : Str), defArgs st, defBody st, defScope st, [], []⟩
def clSt (st : Stmt) (j : Nat) : Stmt := match st with
  | .ClassDef _ _ _ body _ _ _ _ _ _ _ => body.getD j (.Pass ⟨0, 0, 0, 0⟩)
  | _ => .Pass ⟨0, 0, 0, 0⟩
/-! ### the heap's part that is looked at: the module's names, the defs' code, the classes' dicts -/
def codeG (g : Addr → Option Obj) (a : Addr) : List Addr := match g a with
  | some ⟨_, _, .func fd, _⟩ => He.refV fd.code
  | _ => []
def methG (g : Addr → Option Obj) (es : List DictEntry) : List Addr := es.flatMap fun e => match e.val with
  | .ref f => f :: codeG g f
  | _ => []
def overG (g : Addr → Option Obj) (a : Addr) : List Addr := match g a with
  | some ⟨_, _, .func fd, _⟩ => He.refV fd.code
  | some ⟨_, _, .cls cd, _⟩ => cd.ns :: (match g cd.ns with
    | some ⟨_, _, .dict es _, _⟩ => methG g es.toList
    | _ => [])
  | _ => []
def asH (g : Addr → Option Obj) : List Addr := mainGlobals :: (match g mainGlobals with
  | some ⟨_, _, .dict es _, _⟩ => es.toList.flatMap fun e => match e.val with
    | .ref a => a :: overG g a
    | _ => []
  | _ => [])
def kZ (g : Addr → Option Obj) : PySem.W.Frag := He.frT g (asH g)
def obsZ (fa : List He.Fa) (fn : List He.DefD) (tf : List He.Defn) (ex : PySem.W.Frag → Bool) (g : Addr → Option Obj) : He.AlX × Bool := ((He.obsT fa fn [] (kZ g), ex (kZ g) && He.tabsB g tf (kZ g)), smB g)
theorem smB_ok {g : Addr → Option Obj} (h : smB g = true) : ∃ o es n, g sysModules = some o ∧ o.data = .dict es n := by
  unfold smB at h
  split at h
  · rename_i o ho
    split at h
    · rename_i es n hd
      exact ⟨o, es, n, ho, hd⟩
    · cases h
  · cases h
theorem saysZ_of {as : List Addr} {fa : List He.Fa} {fn : List He.DefD} {tf : List He.Defn} {ex : PySem.W.Frag → Bool} {w : World} {h : Heap} (e1 : He.obsT fa fn [] (He.frT h.get? as) = He.valT fn [] w) (e2 : (ex (He.frT h.get? as) && He.tabsB h.get? tf (He.frT h.get? as)) = true) : He.SaysX fa fn [] tf ex w h (He.frT h.get? as) := by
  obtain ⟨h1, h2⟩ := He.ba e2
  have key : ∀ p ∈ tf, PySem.W.codeHdIn (He.frT h.get? as) (He.cT (He.frT h.get? as) p).1 (He.cT (He.frT h.get? as) p).2 = true ∧ ∃ o, h.get? (He.cT (He.frT h.get? as) p).2 = some o ∧ He.emptyTab o = true := fun p hp => by
    obtain ⟨h3, h4⟩ := He.ba (List.all_eq_true.mp h2 p hp)
    refine ⟨h3, ?_⟩
    cases q : h.get? (He.cT (He.frT h.get? as) p).2 with
    | none =>
      rw [q] at h4
      cases h4
    | some o =>
      rw [q] at h4
      exact ⟨o, rfl, h4⟩
  exact ⟨e1, h1, fun p hp => (key p hp).1, fun p hp => by
    obtain ⟨_, o, q, z⟩ := key p hp
    exact He.frT_none q z, fun p hp => by
    obtain ⟨_, o, q, z⟩ := key p hp
    rw [q, He.emptyTab_eq z]⟩
def hookZ (fa : List He.Fa) (fn : List He.DefD) (tf : List He.Defn) (ex : PySem.W.Frag → Bool) : PySem.W.Hook where
  α := He.AlX × Bool
  obs := fun s => obsZ fa fn tf ex s.heap.get?
  val := fun w => (He.valX fn [] w, true)
  says := fun w h => ∃ K : PySem.W.Frag, K.In h ∧ He.SaysX fa fn [] tf ex w h K ∧ ∃ o es n, h.get? sysModules = some o ∧ o.data = .dict es n
  of := fun _ _ e => ⟨_, He.frT_in, saysZ_of (congrArg (fun z => z.1.1) e) (congrArg (fun z => z.1.2) e), smB_ok (congrArg (·.2) e)⟩
  keeps := fun _ _ _ ⟨K, hK, c, o, es, n, h1, h2⟩ k => ⟨K, PySem.W.Frag.In.keeps hK k, ⟨c.t, c.more, c.hd, c.out, fun p hp => k _ _ (c.empty p hp)⟩, o, es, n, k _ _ h1, h2⟩
theorem obsZ_eq {fa : List He.Fa} {fn : List He.DefD} {tf : List He.Defn} {ex : PySem.W.Frag → Bool} {g : Addr → Option Obj} {s : Shared} (h : ∀ a, g a = s.heap.get? a) : obsZ fa fn tf ex g = (hookZ fa fn tf ex).obs s := by
  have e : g = s.heap.get? := funext h
  rw [e] <;> rfl
/-- the looks one by one -/
theorem looks_join {α β : Type} {o : Option α} {f1 : α → Bool} {f2 : α → β} {f3 : α → He.AlT} {f4 f5 : α → Bool} {b : β} {c : He.AlT} (h1 : o.map f1 = some true) (h2 : o.map f2 = some b) (h3 : o.map f3 = some c) (h4 : o.map (fun x => f4 x && f5 x) = some true) :
    o.map (fun x => (f1 x, f2 x, ((f3 x, f4 x), f5 x))) = some (true, b, ((c, true), true)) := by
  cases o with
  | none => cases h1
  | some x =>
    simp only [Option.map_some, Option.some.injEq] at h1 h2 h3 h4 ⊢
    rw [Bool.and_eq_true] at h4
    rw [h1, h2, h3, h4.1, h4.2]
end Mc

namespace Wl
open PySem PySem.Spec PyProof.Rows L2 Mc
def top (i : Nat) : Stmt := PySem.Challenge.pw_ballsmeet_k13_whole_rows_that_grow.main.body.getD i (.Pass ⟨0, 0, 0, 0⟩)
def k1 : List (Str × List Ke) := [("BadNumber", [.s "number", .f "what", .r "number"]), ("BadRow", [.s "row", .f "what", .r "row"]), ("BadTable", [.s "table", .f "what"]), ("BadDistances", [.s "distances", .f "what", .r "one", .r "other"]), ("BadLot", [.s "lot", .f "what", .r "lot"]), ("BadName", [.s "badname", .r "name"]), ("BadText", [.s "text", .f "line", .f "word"]), ("NoPoint", [.s "point", .r "point"])]
def k2 : List (Str × List Ke) := [("NoName", [.s "noname", .r "name"]), ("TakenName", [.s "taken", .r "name"]), ("Unlike", [.s "unlike", .f "what"]), ("NotTight", [.s "nottight", .f "what", .f "one", .f "other"]), ("TooMany", [.s "many", .f "what", .f "many", .f "limit"]), ("NotKept", [.s "kept", .f "promise", .f "witness"]), ("NothingToUndo", [.s "undo"]), ("NothingToRedo", [.s "redo"])]
def ktab : List (Str × List Ke) := k1 ++ k2
def names_0 : List PySem.Str := ["__name__", "RoomsError", "BadNumber", "BadRow", "BadTable", "BadDistances", "BadLot", "BadName", "BadText", "NoPoint", "NoName", "TakenName", "Unlike", "NotTight", "TooMany", "NotKept", "NothingToUndo", "NothingToRedo", "is_integer", "is_ratio"]
def names_1 : List PySem.Str := ["pair", "in_lowest", "added", "opposite", "sign_of", "is_below", "less_by", "size_of", "as_tuples", "is_list", "is_row", "is_index", "MOST_POINTS", "Distances", "need_even", "is_detour", "first_detour", "need_point", "need_row", "Ungrown"]
def names_2 : List PySem.Str := ["is_nought", "is_far", "is_near_by", "first_ungrown", "grows", "ungrown", "ungrown_holds", "with_point", "grown", "_law_pen", "_law_draw", "_law_pick", "_law_shuffled", "_law_is", "_law_says", "_law_divisor", "_law_low", "_law_pair", "_law_plus", "_law_opposite"]
def names_3 : List PySem.Str := ["_law_minus", "_law_times", "_law_sign", "_law_less", "_law_is_whole", "_law_number", "_law_wide", "_law_row", "_law_odd", "_law_bent_row", "_law_kinds", "_law_more_kinds", "_law_fault", "_law_more", "_law_most", "_law_size_of", "_law_shortest", "_law_evened", "_law_sides", "_law_tree_table"]
def names_4 : List PySem.Str := ["_law_table", "_law_some_table", "_law_over_by", "_law_lowered", "_law_covering", "_law_tight_row", "_law_ungrown_due", "_law_grows", "_law_row_right", "_law_grown_right", "_law_refused"]
def names : List PySem.Str := names_0 ++ names_1 ++ names_2 ++ names_3 ++ names_4
def hfa_0 : List He.Fa := [.glo "law", .glo "_law_pen", .glo "_law_kinds", .glo "_law_more_kinds", .glo "RoomsError", .glo "BadNumber", .glo "BadRow", .glo "BadTable", .glo "BadDistances", .glo "BadLot", .glo "BadName", .glo "BadText", .glo "NoPoint", .glo "NoName", .glo "TakenName", .glo "Unlike", .glo "NotTight", .glo "TooMany", .glo "NotKept", .glo "NothingToUndo"]
def hfa_1 : List He.Fa := [.glo "NothingToRedo", .glo "_law_fault", .glo "is_integer", .glo "is_ratio", .glo "pair", .glo "in_lowest", .glo "added", .glo "opposite", .glo "sign_of", .glo "is_below", .glo "less_by", .glo "size_of", .glo "as_tuples", .glo "is_list", .glo "is_row", .glo "is_index", .glo "need_even", .glo "is_detour", .glo "first_detour", .glo "need_row"]
def hfa_2 : List He.Fa := [.glo "is_nought", .glo "is_far", .glo "is_near_by", .glo "first_ungrown", .glo "grows", .glo "ungrown", .glo "ungrown_holds", .glo "with_point", .glo "grown", .glo "_law_draw", .glo "_law_pick", .glo "_law_shuffled", .glo "_law_is", .glo "_law_says", .glo "_law_divisor", .glo "_law_low", .glo "_law_pair", .glo "_law_plus", .glo "_law_opposite", .glo "_law_minus"]
def hfa_3 : List He.Fa := [.glo "_law_times", .glo "_law_sign", .glo "_law_less", .glo "_law_is_whole", .glo "_law_number", .glo "_law_wide", .glo "_law_row", .glo "_law_odd", .glo "_law_bent_row", .glo "_law_more", .glo "_law_most", .glo "_law_size_of", .glo "_law_shortest", .glo "_law_evened", .glo "_law_sides", .glo "_law_tree_table", .glo "_law_table", .glo "_law_some_table", .glo "_law_over_by", .glo "_law_lowered"]
def hfa_4 : List He.Fa := [.glo "_law_covering", .glo "_law_tight_row", .glo "_law_ungrown_due", .glo "_law_grows", .glo "_law_row_right", .glo "_law_grown_right", .glo "_law_refused", .glo "BadTable", .glo "BadDistances", .glo "BadRow", .glo "Unlike", .glo "TooMany", .free "int", .free "list", .free "isinstance", .free "repr", .free "len", .free "ValueError", .free "tuple", .free "str"]
def hfa_5 : List He.Fa := [.free "bool", .free "dict", .free "all", .free "any", .free "abs", .free "max", .free "min", .free "sorted", .free "range", .free "zip", .free "enumerate", .int "MOST_POINTS" 8, .glo "Distances", .glo "Ungrown", .mkr "Distances", .mkr "Ungrown"]
def hfa : List He.Fa := hfa_0 ++ hfa_1 ++ hfa_2 ++ hfa_3 ++ hfa_4 ++ hfa_5
def hfn_0 : List He.DefD := [dd "law" (top 98), dd "_law_pen" (top 56), dd "_law_kinds" (top 77), dd "_law_more_kinds" (top 78), dd "_law_fault" (top 79), dd "is_integer" (top 20), dd "is_ratio" (top 21), dd "pair" (top 22), dd "in_lowest" (top 23), dd "added" (top 24), dd "opposite" (top 25), dd "sign_of" (top 26), dd "is_below" (top 27), dd "less_by" (top 28), dd "size_of" (top 29), dd "as_tuples" (top 31), dd "is_list" (top 32), dd "is_row" (top 33), dd "is_index" (top 34), dd "need_even" (top 38)]
def hfn_1 : List He.DefD := [dd "is_detour" (top 39), dd "first_detour" (top 40), dd "need_row" (top 43), dd "is_nought" (top 46), dd "is_far" (top 47), dd "is_near_by" (top 48), dd "first_ungrown" (top 49), dd "grows" (top 50), dd "ungrown" (top 51), dd "ungrown_holds" (top 52), dd "with_point" (top 53), dd "grown" (top 54), dd "_law_draw" (top 57), dd "_law_pick" (top 58), dd "_law_shuffled" (top 59), dd "_law_is" (top 60), dd "_law_says" (top 61), dd "_law_divisor" (top 62), dd "_law_low" (top 63), dd "_law_pair" (top 64)]
def hfn_2 : List He.DefD := [dd "_law_plus" (top 65), dd "_law_opposite" (top 66), dd "_law_minus" (top 67), dd "_law_times" (top 68), dd "_law_sign" (top 69), dd "_law_less" (top 70), dd "_law_is_whole" (top 71), dd "_law_number" (top 72), dd "_law_wide" (top 73), dd "_law_row" (top 74), dd "_law_odd" (top 75), dd "_law_bent_row" (top 76), dd "_law_more" (top 80), dd "_law_most" (top 81), dd "_law_size_of" (top 82), dd "_law_shortest" (top 83), dd "_law_evened" (top 84), dd "_law_sides" (top 85), dd "_law_tree_table" (top 86), dd "_law_table" (top 87)]
def hfn_3 : List He.DefD := [dd "_law_some_table" (top 88), dd "_law_over_by" (top 89), dd "_law_lowered" (top 90), dd "_law_covering" (top 91), dd "_law_tight_row" (top 92), dd "_law_ungrown_due" (top 93), dd "_law_grows" (top 94), dd "_law_row_right" (top 95), dd "_law_grown_right" (top 96), dd "_law_refused" (top 97), dIni "BadTable" (clSt (top 5) 0), dIni "BadDistances" (clSt (top 6) 0), dIni "BadRow" (clSt (top 4) 0), dIni "Unlike" (clSt (top 13) 0), dIni "TooMany" (clSt (top 15) 0), dIni "Distances" (clSt (top 37) 0), dIni "Ungrown" (clSt (top 45) 0)]
def hfn : List He.DefD := hfn_0 ++ hfn_1 ++ hfn_2 ++ hfn_3
def htf : List He.Defn := [("_law_grown_right", none), ("_law_refused", none), ("law", none)]
def hls_0 : List (Bool × Str) := [(false, "is_integer"), (false, "is_ratio"), (false, "pair"), (false, "in_lowest"), (false, "added"), (false, "opposite"), (false, "sign_of"), (false, "is_below"), (false, "less_by"), (false, "size_of"), (false, "as_tuples"), (false, "is_list"), (false, "is_row"), (false, "is_index"), (false, "need_even"), (false, "is_detour"), (false, "first_detour"), (false, "need_row"), (false, "is_nought"), (false, "is_far")]
def hls_1 : List (Bool × Str) := [(false, "is_near_by"), (false, "first_ungrown"), (false, "grows"), (false, "ungrown"), (false, "ungrown_holds"), (false, "with_point"), (false, "grown"), (false, "_law_draw"), (false, "_law_pick"), (false, "_law_shuffled"), (false, "_law_is"), (false, "_law_says"), (false, "_law_divisor"), (false, "_law_low"), (false, "_law_pair"), (false, "_law_plus"), (false, "_law_opposite"), (false, "_law_minus"), (false, "_law_times"), (false, "_law_sign")]
def hls_2 : List (Bool × Str) := [(false, "_law_less"), (false, "_law_is_whole"), (false, "_law_number"), (false, "_law_wide"), (false, "_law_row"), (false, "_law_odd"), (false, "_law_bent_row"), (false, "_law_more"), (false, "_law_most"), (false, "_law_size_of"), (false, "_law_shortest"), (false, "_law_evened"), (false, "_law_sides"), (false, "_law_tree_table"), (false, "_law_table"), (false, "_law_some_table"), (false, "_law_over_by"), (false, "_law_lowered"), (false, "_law_covering"), (false, "_law_tight_row")]
def hls_3 : List (Bool × Str) := [(false, "_law_ungrown_due"), (false, "_law_grows"), (false, "_law_row_right"), (true, "_law_grown_right"), (true, "_law_refused")]
def hls : List (Bool × Str) := hls_0 ++ hls_1 ++ hls_2 ++ hls_3
def hex : PySem.W.Frag → Bool := exH hls false "law" htf [("BadTable", ["what"]), ("BadDistances", ["what", "one", "other"]), ("BadRow", ["what", "row"]), ("Unlike", ["what"]), ("TooMany", ["what", "many", "limit"])] true ktab true [("Distances", ["rows"]), ("Ungrown", ["kind", "one", "other"])]
abbrev RowO : PySem.W.OpenRow := PySem.W.OpenLaw.row PySem.Challenge.rw_ballsmeet_k13_whole_rows_that_grow
abbrev hkO : PySem.W.Hook := hookZ hfa hfn htf hex
def ob (s : PySem.W.SharedT) : He.AlX × Bool := obsZ hfa hfn htf hex (HandSHeadRun.getT s)
theorem ob_eq (s : PySem.W.SharedT) : ob s = hkO.obs s.abs := obsZ_eq (HandSHeadRun.getT_eq s)
noncomputable abbrev Wd (w : World) := HandSHeadRun.wholeF (fun p => HandSHeadRun.stepQ (HandSHeadRun.denQ HandSHeadRun.tabQ) p w) HandSHeadRun.fenceQ 30000 RowO.prog
abbrev Vw := PySem.W.view RowO.prog [0, 98]
set_option maxHeartbeats 0 in
theorem run1 (w : World) : (Wd w).map (fun x => HandSHeadRun.looksF RowO.prog x.1.heap x.2.abs) = some (true) := by
  kernel_rfl
set_option maxHeartbeats 0 in
theorem run2 (w : World) : (Wd w).map (fun x => HandSHeadRun.seenQ Vw names (PySem.importedModules RowO.prog.main.body) (fun s => PySem.W.xlAt Vw [] s && PySem.W.recOk RowO.toRowW.records s) x.2.abs) = some (PySem.W.openGood Vw names) := by
  kernel_rfl
set_option maxHeartbeats 0 in
theorem run3 (w : World) : (Wd w).map (fun x => He.obsT hfa hfn [] (kZ (HandSHeadRun.getT x.2))) = some (He.valT hfn [] w) := by
  kernel_rfl
set_option maxHeartbeats 0 in
theorem run4 (w : World) : (Wd w).map (fun x => (hex (kZ (HandSHeadRun.getT x.2)) && He.tabsB (HandSHeadRun.getT x.2) htf (kZ (HandSHeadRun.getT x.2))) && smB (HandSHeadRun.getT x.2)) = some (true) := by
  kernel_rfl
theorem run (w : World) : HandSHeadRun.RunEqI RowO Vw hkO ob 30000 names w := looks_join (run1 w) (run2 w) (run3 w) (run4 w)
end Wl

/-! Mc1: the machine: values as data, code, its evaluation. -/
namespace Mc
open PySem

/-- the built-in classes that isinstance is asked of -/
inductive Ty where
  | non | int | bool | str | tuple | list | dict
  deriving DecidableEq
def Ty.name : Ty → String
  | .non => "NoneType"
  | .int => "int"
  | .bool => "bool"
  | .str => "str"
  | .tuple => "tuple"
  | .list => "list"
  | .dict => "dict"
/-- a value as data -/
inductive D where
  | non | bl (b : Bool) | int (i : Int) | str (s : Str)
  | tup (l : List D) | lst (l : List D) | dic (k v : List D)
  | obj (c : Str) (n : List Str) (l : List D)
  | fn (x : Str) | cls (x : Str) | ty (x : Ty) | pen
  deriving Inhabited
/-- an error: its class, the names of its fields, the fields -/
structure Ex where
  c : Str
  n : List Str
  l : List D
/-- the pen's state -/
structure Pen where
  cells : List Int
  at_ : Int
  digits : Int
  count : Int
  fold : Int
abbrev P := Pen
/-- the pen's numbers -/
inductive Pf where
  | at_ | digits | count | fold
  deriving DecidableEq
def Pf.name : Pf → Str
  | .at_ => "at"
  | .digits => "digits"
  | .count => "count"
  | .fold => "fold"
def Pen.get (p : Pen) : Pf → Int
  | .at_ => p.at_
  | .digits => p.digits
  | .count => p.count
  | .fold => p.fold
def Pen.put (p : Pen) (f : Pf) (i : Int) : Pen := match f with
  | .at_ => { p with at_ := i }
  | .digits => { p with digits := i }
  | .count => { p with count := i }
  | .fold => { p with fold := i }
/-- an end -/
inductive R (α : Type) where
  | ok (a : α) (p : P) | err (x : Ex) (p : P) | bad
def R.bd {α β : Type} : R α → (α → P → R β) → R β
  | .ok a p, f => f a p
  | .err x p, _ => .err x p
  | .bad, _ => .bad
abbrev Sl := List (Option D)

/-- where the pen's dict and its cells stand, and the tables of code objects (with the names they tell) -/
structure Pa where
  d : Addr
  c : Addr
  T : List (Addr × Str)
def Pa.No (pa : Pa) (a : Addr) : Prop := a ≠ pa.d ∧ ∀ p ∈ pa.T, a ≠ p.1
/-! ### data as PyData -/
mutual
def py : D → Option PyData
  | .non => some .none
  | .bl b => some (.bool b)
  | .int i => some (.int i)
  | .str s => some (.str s)
  | .tup l => match pys l with
    | some r => some (.tuple r)
    | none => none
  | .lst l => match pys l with
    | some r => some (.list r)
    | none => none
  | .dic _ _ => none
  | .obj _ _ _ => none
  | .fn _ => none
  | .cls _ => none
  | .ty _ => none
  | .pen => none
def pys : List D → Option (List PyData)
  | [] => some []
  | d :: r => match py d, pys r with
    | some x, some y => some (x :: y)
    | _, _ => none
end
/-- lists of two lengths -/
def lnD : D → D → Bool
  | .lst x, .lst y => decide (x.length ≠ y.length)
  | _, _ => false
/-- == of data -/
def eqD (a b : D) : Option Bool := match lnD a b with
  | true => some false
  | false => match py a, py b with
    | some x, some y => if SeqAt.shaped x = true ∧ SeqAt.shaped y = true then some (PyData.eqv x y) else none
    | _, _ => none
/-- x in l -/
def inD (x : D) (l : List D) : Option Bool := match py x, pys l with
  | some d, some ds => if SeqAt.shaped d = true ∧ SeqAt.shaped (.list ds) = true then some (ds.any fun z => PyData.eqv z d) else none
  | _, _ => none
mutual
/-- dicts too -/
def pyd : D → Option PyData
  | .non => some .none
  | .bl b => some (.bool b)
  | .int i => some (.int i)
  | .str s => some (.str s)
  | .tup l => match pyds l with
    | some r => some (.tuple r)
    | none => none
  | .lst l => match pyds l with
    | some r => some (.list r)
    | none => none
  | .dic ks vs => match pyds ks, pyds vs with
    | some a, some b => some (.dict (a.zip b))
    | _, _ => none
  | .obj _ _ _ => none
  | .fn _ => none
  | .cls _ => none
  | .ty _ => none
  | .pen => none
def pyds : List D → Option (List PyData)
  | [] => some []
  | d :: r => match pyd d, pyds r with
    | some x, some y => some (x :: y)
    | _, _ => none
end
/-- repr -/
def repD (a : D) : Option Str := match pyd a with
  | some x => if x.showable = true ∧ x.depth ≤ 60 ∧ x.shown.length ≤ sizeLine then some x.shown else none
  | none => none

/-! ### sorted -/
def datD (d : D) : PyData := (py d).getD .none
def leD : D → D → Bool := PySem.W.dataLe false datD
mutual
/-- of the same make -/
def sameP : PyData → PyData → Bool
  | .none, .none => true
  | .bool _, .bool _ => true
  | .int _, .int _ => true
  | .str _, .str _ => true
  | .list xs, .list ys => samePs xs ys
  | .tuple xs, .tuple ys => samePs xs ys
  | _, _ => false
def samePs : List PyData → List PyData → Bool
  | [], [] => true
  | x :: xs, y :: ys => sameP x y && samePs xs ys
  | _, _ => false
end
def allAl (ds : List PyData) : Bool := match ds with
  | [] => true
  | z :: _ => (ds.all fun d => sameP z d) || ds.all fun d => ds.all fun e => PySem.W.alike d e
def sortB (ds : List PyData) : Bool := (ds.all fun d => match d with
  | .tuple (_ :: _) => true
  | _ => false) || ds.all fun d => match d with
  | .none => false
  | .tuple _ => false
  | _ => true
def adjB : List D → Bool
  | [] => true
  | x :: l => match l with
    | [] => true
    | y :: _ => leD x y && adjB l
def sortD (l : List D) : Option (List D) := match pys l with
  | some ds => if allAl ds = true ∧ sortB ds = true ∧ (ds.all fun d => decide (d.depth ≤ 60)) = true ∧ l.length ≤ sizeLine then some (if adjB l = true then l else l.mergeSort leD) else none
  | none => none
/-! ### operations -/
def mulOk (i j : Int) : Bool := decide (i.natAbs.log2 + j.natAbs.log2 < 1000000)
def binD : Operator → D → D → Option D
  | .Add, .int i, .int j => some (.int (i + j))
  | .Add, .str x, .str y => if x.length + y.length ≤ sizeLine then some (.str (x ++ y)) else none
  | .Add, .tup x, .tup y => if x.length + y.length ≤ sizeLine then some (.tup (x ++ y)) else none
  | .Add, .lst x, .lst y => if x.length + y.length ≤ sizeLine then some (.lst (x ++ y)) else none
  | .Sub, .int i, .int j => some (.int (i - j))
  | .Mult, .int i, .int j => if mulOk i j = true then some (.int (i * j)) else none
  | .FloorDiv, .int i, .int j => if j ≠ 0 ∧ j.natAbs.log2 < 9000 then some (.int (i.fdiv j)) else none
  | .Mod, .int i, .int j => if j ≠ 0 then some (.int (i.fmod j)) else none
  | .Pow, .int i, .int j => if 0 ≤ j ∧ j ≤ 1000000 ∧ i.natAbs < 2 ^ 64 then some (.int (i ^ j.toNat)) else none
  | _, _, _ => none
def isNon : D → Bool
  | .non => true
  | _ => false
def isBl (c : Bool) : D → Bool
  | .bl b => b == c
  | _ => false
def cmpD : CmpOp → D → D → Option Bool
  | .Eq, a, b => eqD a b
  | .NotEq, a, b => (eqD a b).map not
  | .Lt, .int i, .int j => some (decide (i < j))
  | .LtE, .int i, .int j => some (decide (i ≤ j))
  | .Gt, .int i, .int j => some (decide (j < i))
  | .GtE, .int i, .int j => some (decide (j ≤ i))
  | .Is, a, .non => some (isNon a)
  | .IsNot, a, .non => some (!isNon a)
  | .Is, a, .bl b => some (isBl b a)
  | .IsNot, a, .bl b => some (!isBl b a)
  | .In, a, .tup l => inD a l
  | .In, a, .lst l => inD a l
  | .NotIn, a, .tup l => (inD a l).map not
  | .NotIn, a, .lst l => (inD a l).map not
  | _, _, _ => none
def truD : D → Option Bool
  | .non => some false
  | .bl b => some b
  | .int i => some (i != 0)
  | .str s => if s.length ≤ sizeLine then some ((s.length : Int) != 0) else none
  | .tup l => some (!l.isEmpty)
  | .lst l => some (!l.isEmpty)
  | _ => none
open L2 (atI ixN)
def idxD : D → D → Option D
  | .tup l, .int i => atI l i
  | .lst l, .int i => atI l i
  | _, _ => none
def cut {α : Type} (xs : List α) (lo hi : Option Int) : List α := (xs.drop (HT.sIx xs.length 0 lo)).take (HT.sIx xs.length xs.length hi - HT.sIx xs.length 0 lo)
def endD : List D → Option (Option Int)
  | [] => some none
  | [.int i] => some (some i)
  | _ => none
def slcD (l h : Option Int) : D → Option D
  | .tup x => some (.tup (cut x l h))
  | .lst x => some (.lst (cut x l h))
  | _ => none
/-- x[::-1] -/
def revD : D → Option D
  | .tup x => some (.tup x.reverse)
  | .lst x => some (.lst x.reverse)
  | _ => none
def rangeD (a b : Int) : List D := (List.range (b - a).toNat).map fun (k : Nat) => D.int (a + k)
/-- what is walked -/
inductive Ik where
  | val | rng | zip | rg3 | enm
  deriving DecidableEq
/-- a, a + c, .. short of b -/
def rangeC (a b c : Int) : List D := (List.range (Builtin.Range.rangeSize a b c).toNat).map fun (k : Nat) => D.int (a + k * c)
def small62 (i : Int) : Bool := decide (-(2 ^ 62) ≤ i) && decide (i < 2 ^ 62)
def zipD : List D → List D → List D
  | a :: x, b :: y => .tup [a, b] :: zipD x y
  | _, _ => []
def itemsD : D → Option (List D)
  | .tup l => some l
  | .lst l => some l
  | _ => none
/-- enumerate -/
def enumD : Nat → List D → List D
  | _, [] => []
  | n, d :: l => .tup [.int (n : Int), d] :: enumD (n + 1) l
def items : Ik → List D → Option (List D)
  | .val, [a] => itemsD a
  | .rng, [.int b] => if small62 b = true then some (rangeD 0 b) else none
  | .rng, [.int a, .int b] => if small62 a = true ∧ small62 b = true then some (rangeD a b) else none
  | .rg3, [.int a, .int b, .int c] => if c ≠ 0 ∧ c.natAbs < 1073741824 ∧ Builtin.Range.small a b c = true then some (rangeC a b c) else none
  | .zip, [x, y] => match itemsD x, itemsD y with
    | some l, some r => some (zipD l r)
    | _, _ => none
  | .enm, [.tup l] => some (enumD 0 l)
  | _, _ => none
/-- targets -/
inductive Pat where
  | nm (i : Nat) | tp (l : List Pat)
mutual
def bindP : Pat → D → Sl → Option Sl
  | .nm i, d, s => some (s.set i (some d))
  | .tp l, .tup ds, s => bindPs l ds s
  | .tp l, .lst ds, s => bindPs l ds s
  | .tp _, _, _ => none
def bindPs : List Pat → List D → Sl → Option Sl
  | [], [], s => some s
  | q :: r, d :: ds, s => match bindP q d s with
    | some s' => bindPs r ds s'
    | none => none
  | _, _, _ => none
end
/-- builtins by their names -/
inductive Bi where
  | len | isi | int | tuple | list | repr | str | all | any | abs | gcd | sorted | min | max
  deriving DecidableEq
def allD : List D → Option Bool
  | [] => some true
  | .bl b :: r => match allD r with
    | some c => some (b && c)
    | none => none
  | _ :: _ => none
def anyD : List D → Option Bool
  | [] => some false
  | .bl b :: r => match anyD r with
    | some c => some (b || c)
    | none => none
  | _ :: _ => none
def tyOf : D → Option Ty
  | .non => some .non
  | .bl _ => some .bool
  | .int _ => some .int
  | .str _ => some .str
  | .tup _ => some .tuple
  | .lst _ => some .list
  | .dic _ _ => some .dict
  | _ => none
/-- isinstance of a built-in class -/
def isTy (t : Ty) (d : D) : Option Bool := match d with
  | .obj _ _ _ => some false
  | d => (tyOf d).map fun a => decide (a = t) || (decide (a = .bool) && decide (t = .int))
/-- isinstance of a class of the text -/
def isCl (x : Str) : D → Option Bool
  | .obj c _ _ => some (decide (c = x))
  | d => (tyOf d).map fun _ => false
def isOne (a : D) : D → Option Bool
  | .ty t => if t = .non then none else isTy t a
  | .cls x => isCl x a
  | _ => none
def isAny (a : D) : List D → Option Bool
  | [] => some false
  | t :: r => match isOne a t, isAny a r with
    | some b, some c => some (b || c)
    | _, _ => none
def isiD (a : D) : D → Option Bool
  | .tup (t :: l) => isAny a (t :: l)
  | t => isOne a t
def biD : Bi → List D → Option D
  | .len, [.tup l] => some (.int l.length)
  | .len, [.lst l] => some (.int l.length)
  | .isi, [a, t] => (isiD a t).map .bl
  | .int, [.int i] => some (.int i)
  | .int, [.bl b] => some (.int (if b then 1 else 0))
  | .tuple, [.lst l] => some (.tup l)
  | .tuple, [.tup l] => some (.tup l)
  | .list, [.lst l] => some (.lst l)
  | .list, [.tup l] => some (.lst l)
  | .repr, [a] => (repD a).map .str
  | .sorted, [.lst l] => (sortD l).map .lst
  | .sorted, [.tup l] => (sortD l).map .lst
  | .all, [.lst l] => (allD l).map .bl
  | .any, [.lst l] => (anyD l).map .bl
  | .abs, [.int i] => some (.int (if i < 0 then -i else i))
  | .gcd, [.int i, .int j] => some (.int (Nat.gcd i.natAbs j.natAbs : Nat))
  | .max, [.int i, .int j] => some (.int (if j > i then j else i))
  | .min, [.int i, .int j] => some (.int (if j < i then j else i))
  | _, _ => none

/-- how a slot holds its value: for now, for good, as its own list -/
inductive Kd where
  | bo | sh | fr (n : Nat)
  deriving DecidableEq
/-! ### code -/
inductive E where
  | var (i : Nat)
  | cst (d : D)
  | tup (l : List E) | lst (l : List E)
  | bin (o : Operator) (a b : E)
  | neg (a : E)
  | cmp (o : CmpOp) (a b : E)
  | cmp2 (o1 o2 : CmpOp) (a b c : E)
  | cmp3 (o1 o2 o3 : CmpOp) (a b c d : E)
  | and (a b : E) | or (a b : E) | not (a : E)
  | ite (c a b : E)
  | idx (a i : E) | slc (a : E) (lo hi : List E)
  | call (f : Str) (l : List E)
  | cval (i : Nat) (fs : List Str) (l : List E)
  | mk (c : Str) (l : List E)
  | att (a : E) (f : Str)
  | bi (b : Bi) (l : List E)
  | comp (vs : List Nat) (q : Pat) (k : Ik) (l : List E) (e : E)
  | compC (vs : List Nat) (q : Pat) (k : Ik) (l : List E) (c e : E)
  | comp2 (vs vs2 : List Nat) (q : Pat) (k : Ik) (l : List E) (q2 : Pat) (k2 : Ik) (l2 : List E) (c e : E)
  | nest (vs : List Nat) (q : Pat) (k : Ik) (l : List E) (e : E)
  | rep (a n : E)
  | lr1 (a : E)
  | lr2 (a b : E)
  | tr1 (a : E)
  | rev (a : E)
  | fault (e : E)
  | lamc (f : Str) (c : E) (l : List E)
  | flat (e : E)
  | pf (a : E) (f : Pf)
  | pl (a : E)
  | pc (a i : E)
def keD (x : Ex) : Ke → Option D
  | .s t => some (.str t)
  | .f n => (x.n.zip x.l).lookup n
  | .r n => match (x.n.zip x.l).lookup n with
    | some d => (repD d).map .str
    | none => none
def kesD (x : Ex) : List Ke → Option (List D)
  | [] => some []
  | e :: r => match keD x e, kesD x r with
    | some d, some ds => some (d :: ds)
    | _, _ => none
inductive S where
  | set (q : Pat) (e : E)
  | par (is : List Nat) (l : List E)
  | frz (i : Nat)
  | drop (vs : List Nat) (κ : Kd)
  | own (i : Nat) (e : E)
  | setI (i : Nat) (x : E) (e : E) (bs : List Nat)
  | setII (i : Nat) (x y : E) (e : E) (bs : List Nat)
  | popa (i j : Nat) (e : E) (bs : List Nat)
  | app (i : Nat) (e : E) (bs : List Nat)
  | ext (i : Nat) (e : E) (bs : List Nat)
  | exp (e : E)
  | ret (e : E)
  | ife (c : E) (a b : List S)
  | loop (q : Pat) (k : Ik) (l : List E) (b : List S)
  | whl (c : E) (b : List S)
  | rai (c : Str) (ns : List Str) (l : List E)
  | tryk (kt : List (Str × List Ke)) (i j : Nat) (l : List E)
  | pset (i : Nat) (f : Pf) (e : E)
  | brk | cont | pass
inductive Fl where
  | nx | bk | ct | rt (d : D)

def R.of {α : Type} (o : Option α) (p : P) : R α := match o with
  | some a => .ok a p
  | none => .bad
def getS (s : Sl) (i : Nat) (p : P) : R D := match s[i]? with
  | some (some d) => .ok d p
  | _ => .bad
def mapR (f : D → P → R D) : List D → P → R (List D)
  | [], p => .ok [] p
  | d :: r, p => (f d p).bd fun y p => (mapR f r p).bd fun ys p => .ok (y :: ys) p
def filR (c : D → P → R Bool) (f : D → P → R D) : List D → P → R (List D)
  | [], p => .ok [] p
  | d :: r, p => (c d p).bd fun b p => if b = true then (f d p).bd fun y p => (filR c f r p).bd fun ys p => .ok (y :: ys) p else filR c f r p
def catR (f : D → P → R (List D)) : List D → P → R (List D)
  | [], p => .ok [] p
  | d :: r, p => (f d p).bd fun y p => (catR f r p).bd fun ys p => .ok (y ++ ys) p
def wipeS (s : Sl) : List Nat → Sl
  | [] => s
  | v :: vs => (wipeS s vs).set v none
mutual
/-- no list, no dict, no object within -/
def flat : D → Bool
  | .lst _ => false
  | .dic _ _ => false
  | .obj _ _ _ => false
  | .tup l => flats l
  | _ => true
def flats : List D → Bool
  | [] => true
  | d :: r => flat d && flats r
end
def withP {α : Type} (q : Pat) (s : Sl) (d : D) (f : Sl → R α) : R α := match bindP q d s with
  | some s' => f s'
  | none => .bad
def lstR : R (List D) → R D
  | .ok l p => if l.length ≤ sizeLine then .ok (.lst l) p else .bad
  | _ => .bad
def attD : D → Str → Option D
  | .obj _ n l, f => ((n.zip l).lookup f)
  | _, _ => none

/-- [x] * n -/
def repR (x : D) (p : P) : D → R D
  | .int n => if -(2 ^ 63) ≤ n ∧ n < 2 ^ 63 ∧ n.toNat ≤ sizeLine then .ok (.lst (List.replicate n.toNat x)) p else .bad
  | _ => .bad
/-- list(range(..)) -/
def lrngR (p : P) : List D → R D
  | [.int b] => if -(2 ^ 62) ≤ b ∧ b < 2 ^ 62 ∧ b.toNat ≤ 2 ^ 24 then .ok (.lst (rangeD 0 b)) p else .bad
  | [.int a, .int b] => if -(2 ^ 62) ≤ a ∧ a < 2 ^ 62 ∧ -(2 ^ 62) ≤ b ∧ b < 2 ^ 62 ∧ (b - a).toNat ≤ 2 ^ 24 then .ok (.lst (rangeD a b)) p else .bad
  | _ => .bad
def trngR (p : P) : D → R D
  | .int b => if -(2 ^ 62) ≤ b ∧ b < 2 ^ 62 ∧ b.toNat ≤ 2 ^ 24 then .ok (.tup (rangeD 0 b)) p else .bad
  | _ => .bad
/-- a call of a def that is a value -/
def cvalR (C : Str → List D → P → R D) (fs : List Str) (d : D) (r : R (List D)) : R D := match d with
  | .fn f => if f ∈ fs then r.bd fun ds p => C f ds p else .bad
  | _ => .bad
section
variable (C : Str → List D → P → R D) (F : R D → R D)
mutual
def evE : E → Sl → P → R D
  | .var i, s, p => getS s i p
  | .cst d, _, p => .ok d p
  | .tup l, s, p => (evEs l s p).bd fun ds p => .ok (.tup ds) p
  | .lst l, s, p => (evEs l s p).bd fun ds p => .ok (.lst ds) p
  | .bin o a b, s, p => (evE a s p).bd fun x p => (evE b s p).bd fun y p => .of (binD o x y) p
  | .neg a, s, p => (evE a s p).bd fun x p => match x with
    | .int i => .ok (.int (-i)) p
    | _ => .bad
  | .cmp o a b, s, p => (evE a s p).bd fun x p => (evE b s p).bd fun y p => .of ((cmpD o x y).map .bl) p
  | .cmp2 o1 o2 a b c, s, p => (evE a s p).bd fun x p => (evE b s p).bd fun y p => (R.of (cmpD o1 x y) p).bd fun k p =>
    if k = true then (evE c s p).bd fun z p => .of ((cmpD o2 y z).map .bl) p else .ok (.bl false) p
  | .cmp3 o1 o2 o3 a b c d, s, p => (evE a s p).bd fun x p => (evE b s p).bd fun y p => (R.of (cmpD o1 x y) p).bd fun k p =>
    if k = true then (evE c s p).bd fun z p => (R.of (cmpD o2 y z) p).bd fun k p => if k = true then (evE d s p).bd fun w p => .of ((cmpD o3 z w).map .bl) p else .ok (.bl false) p else .ok (.bl false) p
  | .and a b, s, p => (evE a s p).bd fun x p => match x with
    | .bl true => evE b s p
    | .bl false => .ok (.bl false) p
    | _ => .bad
  | .or a b, s, p => (evE a s p).bd fun x p => match x with
    | .bl true => .ok (.bl true) p
    | .bl false => evE b s p
    | _ => .bad
  | .not a, s, p => (evE a s p).bd fun x p => match x with
    | .bl b => .ok (.bl (!b)) p
    | _ => .bad
  | .ite c a b, s, p => (evE c s p).bd fun x p => (R.of (truD x) p).bd fun k p => if k = true then evE a s p else evE b s p
  | .idx a i, s, p => (evE a s p).bd fun x p => (evE i s p).bd fun y p => .of (idxD x y) p
  | .slc a lo hi, s, p => (evE a s p).bd fun x p => ((evEs lo s p).bd fun y p => R.of (endD y) p).bd fun l p => ((evEs hi s p).bd fun z p => R.of (endD z) p).bd fun h p => .of (slcD l h x) p
  | .call f l, s, p => (evEs l s p).bd fun ds p => C f ds p
  | .cval i fs l, s, p => (getS s i p).bd fun x p => cvalR C fs x (evEs l s p)
  | .mk c l, s, p => (evEs l s p).bd fun ds p => C c ds p
  | .att a f, s, p => (evE a s p).bd fun x p => .of (attD x f) p
  | .bi b l, s, p => (evEs l s p).bd fun ds p => .of (biD b ds) p
  | .comp vs q k l e, s, p => (evEs l s p).bd fun ds p => (R.of (items k ds) p).bd fun xs p => lstR (filR (fun d p => withP q (wipeS s vs) d fun s' => .ok true p) (fun d p => withP q (wipeS s vs) d fun s' => evE e s' p) xs p)
  | .compC vs q k l c e, s, p => (evEs l s p).bd fun ds p => (R.of (items k ds) p).bd fun xs p =>
    lstR (filR (fun d p => withP q (wipeS s vs) d fun s' => (evE c s' p).bd fun x p => .of (truD x) p) (fun d p => withP q (wipeS s vs) d fun s' => evE e s' p) xs p)
  | .comp2 vs vs2 q k l q2 k2 l2 c e, s, p => (evEs l s p).bd fun ds p => (R.of (items k ds) p).bd fun xs p =>
    lstR (catR (fun d p => withP q (wipeS s vs) d fun s' => ((evEs l2 s' p).bd fun ds2 p => R.of (items k2 ds2) p).bd fun ys p =>
      filR (fun d2 p => withP q2 (wipeS s' vs2) d2 fun s2 => (evE c s2 p).bd fun x p => .of (truD x) p) (fun d2 p => withP q2 (wipeS s' vs2) d2 fun s2 => evE e s2 p) ys p) xs p)
  | .nest vs q k l e, s, p => (evEs l s p).bd fun ds p => (R.of (items k ds) p).bd fun xs p => lstR (filR (fun d p => withP q (wipeS s vs) d fun s' => .ok true p) (fun d p => withP q (wipeS s vs) d fun s' => evE e s' p) xs p)
  | .rep a n, s, p => (evE a s p).bd fun x p => (evE n s p).bd fun y p => repR x p y
  | .lr1 a, s, p => (evE a s p).bd fun d p => lrngR p [d]
  | .tr1 a, s, p => (evE a s p).bd fun d p => trngR p d
  | .rev a, s, p => (evE a s p).bd fun x p => .of (revD x) p
  | .lr2 a b, s, p => (evE a s p).bd fun d p => (evE b s p).bd fun d2 p => lrngR p [d, d2]
  | .flat e, s, p => (evE e s p).bd fun d p => if flat d = true then .ok d p else .bad
  | .fault e, s, p => F (evE e s p)
  | .lamc f c l, s, p => (evEs l s p).bd fun ds p => (F (evE c s p)).bd fun d p => C f (d :: ds) p
  | .pf a f, s, p => (evE a s p).bd fun x p => match x with
    | .pen => .ok (.int (p.get f)) p
    | _ => .bad
  | .pl a, s, p => (evE a s p).bd fun x p => match x with
    | .pen => .ok (.int p.cells.length) p
    | _ => .bad
  | .pc a i, s, p => (evE a s p).bd fun x p => match x with
    | .pen => (evE i s p).bd fun y p => match y with
      | .int j => .of ((atI p.cells j).map .int) p
      | _ => .bad
    | _ => .bad
def evEs : List E → Sl → P → R (List D)
  | [], _, p => .ok [] p
  | e :: r, s, p => (evE e s p).bd fun d p => (evEs r s p).bd fun ds p => .ok (d :: ds) p
end
end

/-! ### statements -/
def loopR (f : D → Sl → P → R (Fl × Sl)) : List D → Sl → P → R (Fl × Sl)
  | [], s, p => .ok (.nx, s) p
  | d :: r, s, p => (f d s p).bd fun x p => match x with
    | (.nx, s') => loopR f r s' p
    | (.ct, s') => loopR f r s' p
    | (.bk, s') => .ok (.nx, s') p
    | (.rt v, s') => .ok (.rt v, s') p
def whlR (c : Sl → P → R Bool) (f : Sl → P → R (Fl × Sl)) : Nat → Sl → P → R (Fl × Sl)
  | 0, _, _ => .bad
  | w + 1, s, p => (c s p).bd fun k p => if k = true then (f s p).bd fun x p => match x with
    | (.nx, s') => whlR c f w s' p
    | (.ct, s') => whlR c f w s' p
    | (.bk, s') => .ok (.nx, s') p
    | (.rt v, s') => .ok (.rt v, s') p
    else .ok (.nx, s) p
def setAll : List Nat → List D → Sl → Option Sl
  | [], [], s => some s
  | i :: r, d :: ds, s => setAll r ds (s.set i (some d))
  | _, _, _ => none
/-- x[i] = v -/
def putL : List D → D → D → Option (List D)
  | l, .int i, v => match ixN l.length i with
    | some j => some (l.set j v)
    | none => none
  | _, _, _ => none
def getL (s : Sl) (i : Nat) : Option (List D) := match s[i]? with
  | some (some (.lst l)) => some l
  | _ => none
/-- a list's list -/
def subL (l : List D) : D → Option (List D)
  | .int i => (match atI l i with
    | some (.lst r) => some r
    | _ => none)
  | _ => none
/-- what is popped, and what is left -/
def popL (l : List D) : D → Option (D × List D)
  | .int i => if -(2 ^ 63) ≤ i ∧ i < 2 ^ 63 then (match seqIndex? i l.length with
    | some k => (match l[k]? with
      | some d => some (d, l.eraseIdx k)
      | none => none)
    | none => none) else none
  | _ => none
/-- expressions, one by one, for what they raise -/
def evX (C : Str → List D → P → R D) (F : R D → R D) : List E → Sl → P → R Unit
  | [], _, p => .ok () p
  | e :: r, s, p => (evE C F e s p).bd fun _ p => evX C F r s p
/-- try: .., except RoomsError as e (slot i): found (slot j) = _law_kinds(e) -/
def tryR (kt : List (Str × List Ke)) (i j : Nat) (s : Sl) : R Unit → R (Fl × Sl)
  | .ok _ p => .ok (.nx, s) p
  | .err x p => (match kt.lookup x.c with
    | some l => (match kesD x l with
      | some ds => .ok (.nx, (s.set j (some (.lst [.tup ds]))).set i none) p
      | none => .bad)
    | none => .bad)
  | .bad => .bad
section
variable (C : Str → List D → P → R D) (F : R D → R D) (w : Nat)
mutual
def evS : S → Sl → P → R (Fl × Sl)
  | .set q e, s, p => (evE C F e s p).bd fun d p => match bindP q d s with
    | some s' => .ok (.nx, s') p
    | none => .bad
  | .par is l, s, p => (evEs C F l s p).bd fun ds p => match setAll is ds s with
    | some s' => .ok (.nx, s') p
    | none => .bad
  | .own i e, s, p => (evE C F e s p).bd fun d p => match bindP (.nm i) d s with
    | some s' => .ok (.nx, s') p
    | none => .bad
  | .frz _, s, p => .ok (.nx, s) p
  | .drop vs _, s, p => .ok (.nx, wipeS s vs) p
  | .setI i x e bs, s, p => (evE C F e s p).bd fun d p => (R.of (getL s i) p).bd fun l p => (evE C F x s p).bd fun j p => (R.of (putL l j d) p).bd fun l' p => .ok (.nx, (wipeS s bs).set i (some (.lst l'))) p
  | .setII i x y e bs, s, p => (evE C F e s p).bd fun d p => (R.of (getL s i) p).bd fun l p => (evE C F x s p).bd fun j p => (R.of (subL l j) p).bd fun r p => (evE C F y s p).bd fun k p => (R.of (putL r k d) p).bd fun r' p => (R.of (putL l j (.lst r')) p).bd fun l' p => .ok (.nx, (wipeS s bs).set i (some (.lst l'))) p
  | .popa i j e bs, s, p => (R.of (getL s i) p).bd fun l p => (R.of (getL s j) p).bd fun r p => (evE C F e s p).bd fun k p => (R.of (popL r k) p).bd fun q p => if l.length < sizeLine then .ok (.nx, (wipeS ((wipeS s bs).set j (some (.lst q.2))) bs).set i (some (.lst (l ++ [q.1])))) p else .bad
  | .app i e bs, s, p => (R.of (getL s i) p).bd fun l p => (evE C F e s p).bd fun d p => if l.length < sizeLine then .ok (.nx, (wipeS s bs).set i (some (.lst (l ++ [d])))) p else .bad
  | .ext i e bs, s, p => (R.of (getL s i) p).bd fun l p => (evE C F e s p).bd fun d p => match itemsD d with
    | some r => if l.length + r.length ≤ sizeLine then .ok (.nx, (wipeS s bs).set i (some (.lst (l ++ r)))) p else .bad
    | none => .bad
  | .exp e, s, p => (evE C F e s p).bd fun _ p => .ok (.nx, s) p
  | .ret e, s, p => (evE C F e s p).bd fun d p => .ok (.rt d, s) p
  | .ife c a b, s, p => (evE C F c s p).bd fun x p => (R.of (truD x) p).bd fun k p => if k = true then evSs a s p else evSs b s p
  | .loop q k l b, s, p => (evEs C F l s p).bd fun ds p => (R.of (items k ds) p).bd fun xs p => loopR (fun d s p => withP q s d fun s' => evSs b s' p) xs s p
  | .whl c b, s, p => whlR (fun s p => (evE C F c s p).bd fun x p => .of (truD x) p) (fun s p => evSs b s p) w s p
  | .rai c ns l, s, p => (evEs C F l s p).bd fun ds p => .err ⟨c, ns, ds⟩ p
  | .pset i f e, s, p => (evE C F e s p).bd fun d p => (getS s i p).bd fun x p => match x, d with
    | .pen, .int j => .ok (.nx, s) (p.put f j)
    | _, _ => .bad
  | .tryk kt i j l, s, p => tryR kt i j s (evX C F l s p)
  | .brk, s, p => .ok (.bk, s) p
  | .cont, s, p => .ok (.ct, s) p
  | .pass, s, p => .ok (.nx, s) p
def evSs : List S → Sl → P → R (Fl × Sl)
  | [], s, p => .ok (.nx, s) p
  | e :: r, s, p => (evS e s p).bd fun x p => match x with
    | (.nx, s') => evSs r s' p
    | y => .ok y p
end
end
/-- a def of the text: its name, its arity, its slots (the parameters ahead), their kinds, the kind of its answer, its code; does it want guards, does it make lambdas -/
structure Df where
  nm : Str
  n : Nat
  N : List Str
  k : List Kd
  rk : Nat
  b : List S
  g : Bool
  l : Bool
def startS (k : Nat) (ds : List D) : Sl := ds.map some ++ List.replicate (k - ds.length) none
def evF (C : Str → List D → P → R D) (F : R D → R D) (w k rk : Nat) (b : List S) (ds : List D) (p : P) : R D :=
  (evSs C F w b (startS k ds) p).bd fun x p => match x with
    | (.rt d, _) => .ok d p
    | (.nx, _) => if rk = 0 then .ok .non p else .bad
    | _ => .bad
/-- a class: its name, the arity of its __init__ (without self), its slots (self ahead), their kinds, its code, its fields -/
structure Cd where
  c : Str
  n : Nat
  N : List Str
  k : List Kd
  b : List S
  ns : List Str
  es : List E
def evI (C : Str → List D → P → R D) (F : R D → R D) (w : Nat) (d : Cd) (ds : List D) (p : P) : R D :=
  (evSs C F w d.b (none :: startS (d.N.length - 1) ds) p).bd fun x p => match x with
    | (.nx, s) => (evEs C F d.es s p).bd fun l p => .ok (.obj d.c d.ns l) p
    | _ => .bad
/-- the pen's draw -/
def drawP (p : Pen) (many : Int) : Int × Pen :=
  let c := p.count + 1
  let p1 : Pen := { p with count := c }
  let p2 : Pen := if p1.digits = 0 ∧ p1.at_ < p1.cells.length then
    let cell := p1.cells.getD p1.at_.toNat 0
    let q := { p1 with at_ := p1.at_ + 1 }
    if cell ≥ 10 ^ 18 then { q with digits := cell - 10 ^ 18 } else { q with fold := (q.fold * 69069 + cell).fmod 2147483587 }
    else p1
  if p2.digits > 0 then (p2.digits.fmod many, { p2 with digits := p2.digits.fdiv many })
  else
    let b := (p2.fold * 48271 + p2.count * 7919 + 13).fmod 2147483647
    let b := (b * b + 31 * b + p2.count).fmod 2147483629
    ((b.fdiv 64).fmod many, { p2 with fold := (b * 16807 + 7).fmod 2147483647 })
end Mc

/-! Mc2: data and the layer's values. -/
namespace Mc
open PySem PySem.Spec PyProof.Rows L2
/-- a dict's key -/
def keyD : Key → D
  | .inl i => .int i
  | .inr x => .str x
section
variable (K : PySem.W.Frag) (pa : Pa) (M : Addr → Prop) (H : Hp)
mutual
/-- v stands for the data d; no list, tuple or object of it is at an address of M -/
def RD : D → V → Prop
  | .non, v => v = .non
  | .bl b, v => v = .bl b
  | .int i, v => v = .int i
  | .str s, v => v = .str s
  | .tup l, v => ∃ a xs, v = .ref a ∧ ¬ M a ∧ H a = some (.tup xs) ∧ RDs l xs
  | .lst l, v => ∃ a xs, v = .ref a ∧ ¬ M a ∧ H a = some (.lst xs) ∧ RDs l xs
  | .dic ks vs, v => ∃ (a : Addr) (kvs : List (Key × V)), v = .ref a ∧ ¬ M a ∧ H a = some (.dK kvs) ∧ ks = kvs.map (fun kv => keyD kv.1) ∧ RDs vs (kvs.map (·.2))
  | .obj c n l, v => ∃ a dx xs, v = .ref a ∧ ¬ M a ∧ H a = some (.ins (He.ga K c) dx (n.zip xs)) ∧ n.length = xs.length ∧ RDs l xs ∧ clsB K c = true ∧ (n.all fun f => naB K c f) = true
  | .fn x, v => v = .ref (He.ga K x)
  | .cls x, v => v = .ref (He.ga K x) ∧ clsB K x = true
  | .ty n, v => v = .ty n.name
  | .pen, v => v = .ref pa.1
def RDs : List D → List V → Prop
  | [], xs => xs = []
  | d :: l, xs => ∃ v r, xs = v :: r ∧ RD d v ∧ RDs l r
end
end
section
variable {K : PySem.W.Frag} {pa : Pa} {M M' : Addr → Prop} {H H' : Hp}
theorem rd_stay {a : Addr} {u : HO} (hk : ∀ a o, ¬ M a → H a = some o → H' a = some o) (n : ¬ M a) (h : Rd H a u) : Rd H' a u := by
  rcases h with h | ⟨o, h⟩
  · exact .inl (hk _ _ n h)
  · exact .inr ⟨o, hk _ _ n h⟩
theorem rd_ne {a : Addr} {u : HO} (h : Rd H a u) : H a ≠ none := by
  rcases h with h | ⟨o, h⟩
  · rw [h]; exact fun z => nomatch z
  · rw [h]; exact fun z => nomatch z
mutual
/-- the heap behind a step that leaves all but M as it was; M may shrink, or grow by what is new -/
theorem RD.stay (hk : ∀ a o, ¬ M a → H a = some o → H' a = some o) (hm : ∀ a, ¬ M a → H a ≠ none → ¬ M' a) : ∀ (d : D) (v : V), RD K pa M H d v → RD K pa M' H' d v
  | .non, _, h => by simpa only [RD] using h
  | .bl _, _, h => by simpa only [RD] using h
  | .int _, _, h => by simpa only [RD] using h
  | .str _, _, h => by simpa only [RD] using h
  | .fn _, _, h => by simpa only [RD] using h
  | .cls _, _, h => by simpa only [RD] using h
  | .ty _, _, h => by simpa only [RD] using h
  | .pen, _, h => by simpa only [RD] using h
  | .tup l, v, h => by
    simp only [RD] at h ⊢
    obtain ⟨a, xs, e, n, s, r⟩ := h
    exact ⟨a, xs, e, hm a n (by rw [s]; exact fun z => nomatch z), hk _ _ n s, RDs.stay hk hm l xs r⟩
  | .lst l, v, h => by
    simp only [RD] at h ⊢
    obtain ⟨a, xs, e, n, s, r⟩ := h
    exact ⟨a, xs, e, hm a n (by rw [s]; exact fun z => nomatch z), hk _ _ n s, RDs.stay hk hm l xs r⟩
  | .dic ks vs, v, h => by
    simp only [RD] at h ⊢
    obtain ⟨a, kvs, e, n, s, e1, r⟩ := h
    exact ⟨a, kvs, e, hm a n (by rw [s]; exact fun z => nomatch z), hk _ _ n s, e1, RDs.stay hk hm vs _ r⟩
  | .obj c ns l, v, h => by
    simp only [RD] at h ⊢
    obtain ⟨a, dx, xs, e, n, s, hl, r, hb⟩ := h
    exact ⟨a, dx, xs, e, hm a n (by rw [s]; exact fun z => nomatch z), hk _ _ n s, hl, RDs.stay hk hm l xs r, hb⟩
theorem RDs.stay (hk : ∀ a o, ¬ M a → H a = some o → H' a = some o) (hm : ∀ a, ¬ M a → H a ≠ none → ¬ M' a) : ∀ (l : List D) (xs : List V), RDs K pa M H l xs → RDs K pa M' H' l xs
  | [], xs, h => by simpa only [RDs] using h
  | d :: l, xs, h => by
    simp only [RDs] at h ⊢
    obtain ⟨v, r, e, h1, h2⟩ := h
    exact ⟨v, r, e, RD.stay hk hm d v h1, RDs.stay hk hm l r h2⟩
end
theorem RDs.length : ∀ {l : List D} {xs : List V}, RDs K pa M H l xs → l.length = xs.length
  | [], xs, h => by
    simp only [RDs] at h
    rw [h] <;> rfl
  | d :: l, xs, h => by
    simp only [RDs] at h
    obtain ⟨v, r, e, h1, h2⟩ := h
    rw [e, List.length_cons, List.length_cons, RDs.length h2]
theorem RDs.get : ∀ {l : List D} {xs : List V} {i : Nat} {d : D}, RDs K pa M H l xs → l[i]? = some d → ∃ v, xs[i]? = some v ∧ RD K pa M H d v
  | [], _, _, _, _, e => by simp at e
  | d :: l, xs, i, d', h, e => by
    simp only [RDs] at h
    obtain ⟨v, r, ex, h1, h2⟩ := h
    subst ex
    cases i with
    | zero =>
      simp at e
      subst e
      exact ⟨v, rfl, h1⟩
    | succ i =>
      have e' : l[i]? = some d' := by simpa using e
      obtain ⟨w, a, b⟩ := RDs.get h2 e'
      exact ⟨w, by simpa using a, b⟩
theorem RDs.append : ∀ {l m : List D} {xs ys : List V}, RDs K pa M H l xs → RDs K pa M H m ys → RDs K pa M H (l ++ m) (xs ++ ys)
  | [], m, xs, ys, h, h' => by
    simp only [RDs] at h
    subst h
    exact h'
  | d :: l, m, xs, ys, h, h' => by
    simp only [RDs] at h
    obtain ⟨v, r, ex, h1, h2⟩ := h
    subst ex
    show RDs K pa M H (d :: (l ++ m)) (v :: (r ++ ys))
    simp only [RDs]
    exact ⟨v, _, rfl, h1, RDs.append h2 h'⟩
theorem RDs.take : ∀ {l : List D} {xs : List V} (n : Nat), RDs K pa M H l xs → RDs K pa M H (l.take n) (xs.take n)
  | [], xs, n, h => by
    simp only [RDs] at h
    subst h
    simp [RDs]
  | d :: l, xs, 0, h => by simp [RDs]
  | d :: l, xs, n + 1, h => by
    simp only [RDs] at h
    obtain ⟨v, r, ex, h1, h2⟩ := h
    subst ex
    show RDs K pa M H (d :: l.take n) (v :: r.take n)
    simp only [RDs]
    exact ⟨v, _, rfl, h1, RDs.take n h2⟩
theorem RDs.drop : ∀ {l : List D} {xs : List V} (n : Nat), RDs K pa M H l xs → RDs K pa M H (l.drop n) (xs.drop n)
  | [], xs, n, h => by
    simp only [RDs] at h
    subst h
    simp [RDs]
  | d :: l, xs, 0, h => h
  | d :: l, xs, n + 1, h => by
    simp only [RDs] at h
    obtain ⟨v, r, ex, h1, h2⟩ := h
    subst ex
    exact RDs.drop n h2
theorem RDs.set {d : D} {v : V} (hd : RD K pa M H d v) : ∀ {l : List D} {xs : List V} (n : Nat), RDs K pa M H l xs → RDs K pa M H (l.set n d) (xs.set n v)
  | [], xs, n, h => by
    simp only [RDs] at h
    subst h
    simp [RDs]
  | e :: l, xs, 0, h => by
    simp only [RDs] at h
    obtain ⟨w, r, ex, h1, h2⟩ := h
    subst ex
    show RDs K pa M H (d :: l) (v :: r)
    simp only [RDs]
    exact ⟨v, _, rfl, hd, h2⟩
  | e :: l, xs, n + 1, h => by
    simp only [RDs] at h
    obtain ⟨w, r, ex, h1, h2⟩ := h
    subst ex
    show RDs K pa M H (e :: l.set n d) (w :: r.set n v)
    simp only [RDs]
    exact ⟨w, _, rfl, h1, RDs.set hd n h2⟩
theorem RDs.one {d : D} {v : V} (h : RD K pa M H d v) : RDs K pa M H [d] [v] := by
  simp only [RDs]
  exact ⟨v, [], rfl, h, rfl⟩
theorem RDs.nil : RDs K pa M H [] [] := by simp only [RDs]
theorem RDs.cons {d : D} {v : V} {l : List D} {xs : List V} (h : RD K pa M H d v) (h' : RDs K pa M H l xs) : RDs K pa M H (d :: l) (v :: xs) := by
  simp only [RDs]
  exact ⟨v, xs, rfl, h, h'⟩
end
end Mc

/-! Mc3: owned lists, the state, what a step leaves. -/
namespace Mc
open PySem PySem.Spec PyProof.Rows L2
inductive All3 {α β γ : Type} (F : α → β → γ → Prop) : List α → List β → List γ → Prop
  | nil : All3 F [] [] []
  | cons {a b c x y z} : F a b c → All3 F x y z → All3 F (a :: x) (b :: y) (c :: z)
theorem All3.imp {α β γ : Type} {F G : α → β → γ → Prop} : ∀ {x : List α} {y : List β} {z : List γ}, All3 F x y z → (∀ a b c, c ∈ z → F a b c → G a b c) → All3 G x y z
  | _, _, _, .nil, _ => .nil
  | _, _, _, .cons h t, f => .cons (f _ _ _ List.mem_cons_self h) (All3.imp t fun a b c hc => f a b c (List.mem_cons_of_mem _ hc))
theorem All3.append {α β γ : Type} {F : α → β → γ → Prop} : ∀ {x x' : List α} {y y' : List β} {z z' : List γ}, All3 F x y z → All3 F x' y' z' → All3 F (x ++ x') (y ++ y') (z ++ z')
  | _, _, _, _, _, _, .nil, h => h
  | _, _, _, _, _, _, .cons h t, h' => .cons h (All3.append t h')
theorem All3.len {α β γ : Type} {F : α → β → γ → Prop} : ∀ {x : List α} {y : List β} {z : List γ}, All3 F x y z → x.length = y.length
  | _, _, _, .nil => rfl
  | _, _, _, .cons _ t => by rw [List.length_cons, List.length_cons, All3.len t]
section
variable (K : PySem.W.Frag) (pa : Pa) (M : Addr → Prop) (H : Hp)
/-- a list of one's own, to the depth n; fp: where its lists stand -/
def Own : Nat → D → V → List Addr → Prop
  | 0, d, v, fp => fp = [] ∧ RD K pa M H d v
  | n + 1, d, v, fp => ∃ l a xs fps, d = .lst l ∧ v = .ref a ∧ H a = some (.lst xs) ∧ fp = a :: fps.flatten ∧ All3 (Own n) l xs fps
end
section
variable {K : PySem.W.Frag} {pa : Pa} {M M' : Addr → Prop} {H H' : Hp}
theorem Own.stay : ∀ {n : Nat} {d : D} {v : V} {fp : List Addr}, (∀ a o, ¬ M a ∨ a ∈ fp → H a = some o → H' a = some o) → (∀ a, ¬ M a → H a ≠ none → ¬ M' a) → Own K pa M H n d v fp → Own K pa M' H' n d v fp
  | 0, d, v, fp, hk, hm, h => ⟨h.1, RD.stay (fun a o n => hk a o (.inl n)) hm d v h.2⟩
  | n + 1, d, v, fp, hk, hm, h => by
    obtain ⟨l, a, xs, fps, e1, e2, e3, e4, r⟩ := h
    subst e4
    refine ⟨l, a, xs, fps, e1, e2, hk a _ (.inr List.mem_cons_self) e3, rfl, r.imp fun d' v' fp' hf h' => ?_⟩
    exact Own.stay (fun b o hb => hk b o (hb.imp id fun z => List.mem_cons_of_mem _ (List.mem_flatten.mpr ⟨fp', hf, z⟩))) hm h'
theorem all3_rds {n : Nat} {N : Addr → Prop} (step : ∀ d v fp, (∀ a ∈ fp, ¬ N a) → Own K pa M H n d v fp → RD K pa N H d v) : ∀ {l : List D} {xs : List V} {fps : List (List Addr)}, (∀ a ∈ fps.flatten, ¬ N a) → All3 (Own K pa M H n) l xs fps → RDs K pa N H l xs
  | _, _, _, _, .nil => RDs.nil
  | _, _, _, hn, .cons h t => RDs.cons (step _ _ _ (fun a ha => hn a (List.mem_flatten.mpr ⟨_, List.mem_cons_self, ha⟩)) h) (all3_rds step (fun a ha => hn a (by rw [List.flatten_cons]; exact List.mem_append_right _ ha)) t)
theorem Own.rd {N : Addr → Prop} (hm : ∀ a, ¬ M a → H a ≠ none → ¬ N a) : ∀ {n : Nat} {d : D} {v : V} {fp : List Addr}, (∀ a ∈ fp, ¬ N a) → Own K pa M H n d v fp → RD K pa N H d v
  | 0, d, v, fp, hn, h => RD.stay (fun _ _ _ e => e) hm d v h.2
  | n + 1, d, v, fp, hn, h => by
    obtain ⟨l, a, xs, fps, e1, e2, e3, e4, r⟩ := h
    subst e1 e2 e4
    simp only [RD]
    exact ⟨a, xs, rfl, hn a List.mem_cons_self, e3, all3_rds (fun d v fp => Own.rd hm) (fun b hb => hn b (List.mem_cons_of_mem _ hb)) r⟩
theorem Own.at : ∀ {n : Nat} {d : D} {v : V} {fp : List Addr}, Own K pa M H n d v fp → ∀ a ∈ fp, ∃ xs, H a = some (.lst xs)
  | 0, _, _, fp, h, a, ha => by rw [h.1] at ha; cases ha
  | n + 1, d, v, fp, h, a, ha => by
    obtain ⟨l, b, xs, fps, e1, e2, e3, e4, r⟩ := h
    subst e4
    rcases List.mem_cons.mp ha with e | hb
    · exact ⟨xs, by rw [e]; exact e3⟩
    · have sub : ∀ {l : List D} {xs : List V} {fps : List (List Addr)}, All3 (Own K pa M H n) l xs fps → ∀ a ∈ fps.flatten, ∃ xs, H a = some (.lst xs) := by
        intro l xs fps r
        induction r with
        | nil => intro a ha; cases ha
        | cons h t ih =>
          intro a ha
          rw [List.flatten_cons] at ha
          rcases List.mem_append.mp ha with z | z
          · exact Own.at h a z
          · exact ih a z
      exact sub r a hb
end

/-! ### the state -/
/-- what one pen holds -/
def penK (p : Pen) (ca : Addr) : List (Key × V) := [(.inr "cells", .ref ca), (.inr "at", .int p.at_), (.inr "digits", .int p.digits), (.inr "count", .int p.count), (.inr "fold", .int p.fold)]
/-- the pen's dict stands at pa.1, its cells at pa.2 -/
structure PenR (pa : Pa) (M0 : Addr → Prop) (p : Pen) (H : Hp) : Prop where
  m1 : M0 pa.d
  m2 : M0 pa.c
  ne : pa.d ≠ pa.c
  d : H pa.d = some (.dK (penK p pa.c))
  c : H pa.c = some (.lst (p.cells.map V.int))
  tm : ∀ p ∈ pa.T, M0 p.1
  tb : LamX.Tabs pa.T H
def Keep (pa : Pa) (H H' : Hp) : Prop := ∀ a o, pa.No a → H a = some o → H' a = some o
theorem Keep.refl {pa : Pa} {H : Hp} : Keep pa H H := fun _ _ _ h => h
theorem Keep.trans {pa : Pa} {H H1 H2 : Hp} (a : Keep pa H H1) (b : Keep pa H1 H2) : Keep pa H H2 := fun c o n h => b c o n (a c o n h)
theorem Keep.new {pa : Pa} {H : Hp} {p : Addr} {o : HO} (h : H p = none) : Keep pa H (upd H p o) := fun a u _ e => by
  rw [upd_ne (ne_of_none e h)]; exact e
theorem PenR.new {pa : Pa} {M0 : Addr → Prop} {p : Pen} {H : Hp} {a : Addr} {o : HO} (h : PenR pa M0 p H) (n : H a = none) : PenR pa M0 p (upd H a o) :=
  ⟨h.m1, h.m2, h.ne, by rw [upd_ne (ne_of_none h.d n)]; exact h.d, by rw [upd_ne (ne_of_none h.c n)]; exact h.c, h.tm, h.tb.ext fun b u e => by rw [upd_ne (ne_of_none e n)]; exact e⟩
theorem tabs_upd {T : List (Addr × Str)} {H : Hp} {a : Addr} {u o : HO} (h : LamX.Tabs T H) (ha : H a = some u) (n1 : ∀ ps, u ≠ .tbl ps) (n2 : ∀ c q, u ≠ LamX.CodeO c q) : LamX.Tabs T (upd H a o) := fun p hp => by
  obtain ⟨ps, h1, h2, h3⟩ := h p hp
  have ne1 : p.1 ≠ a := fun z => by
    rw [z, ha] at h1
    exact n1 _ (Option.some.inj h1)
  refine ⟨ps, by rw [upd_ne ne1]; exact h1, h2, fun pos cv hc => ?_⟩
  obtain ⟨c, e1, e2⟩ := h3 pos cv hc
  have ne2 : c ≠ a := fun z => by
    rw [z, ha] at e2
    exact n2 _ _ (Option.some.inj e2)
  exact ⟨c, e1, by rw [upd_ne ne2]; exact e2⟩
theorem Pa.no_of {pa : Pa} {M : Addr → Prop} {a : Addr} (hp : ∀ a, ¬ pa.No a → M a) (n : ¬ M a) : pa.No a := Classical.byContradiction fun z => n (hp a z)
/-- the machine's side: H0 the heap at the def's entry, M0 what the callers hold, fp the lists of the slots -/
structure Ms where
  H0 : Hp
  M0 : Addr → Prop
  fp : Nat → List Addr
  s : Sl
  p : Pen
def Ms.M (m : Ms) : Addr → Prop := fun a => m.M0 a ∨ ∃ i, a ∈ m.fp i
def Kd.base (m : Ms) : Kd → Addr → Prop
  | .bo => m.M0
  | _ => m.M
section
variable (K : PySem.W.Frag) (pa : Pa)
/-- the tables of those defs that make lambdas are among pa's -/
def TK : Prop := ∀ x ∈ lamNames, ∀ c P, PySem.W.tabIn K x = some (c, P) → (P, lamQ x) ∈ pa.T ∧ ∀ p ∈ pa.T, p.1 = P → p.2 = lamQ x
/-- a slot -/
def SlotR (m : Ms) (H : Hp) : Kd → D → V → List Addr → Prop
  | .bo, d, v, fp => fp = [] ∧ RD K pa m.M0 H d v
  | .sh, d, v, fp => fp = [] ∧ RD K pa m.M H d v
  | .fr n, d, v, fp => Own K pa m.M H n d v fp
structure Rel (k : Nat → Kd) (σ : L2.St) (H : Hp) (m : Ms) : Prop where
  dom : ∀ a, m.M0 a → H a ≠ none
  pen : PenR pa m.M0 m.p H
  sl : ∀ i d, m.s[i]? = some (some d) → ∃ v, σ[i]? = some (some v) ∧ SlotR K pa m H (k i) d v (m.fp i)
  no : ∀ i, (∀ d, m.s[i]? ≠ some (some d)) → m.fp i = []
  disj : ∀ i j a, i ≠ j → a ∈ m.fp i → a ∉ m.fp j
  nd : ∀ i, (m.fp i).Nodup
  free : ∀ i a, a ∈ m.fp i → ¬ m.M0 a
  len : σ.length = m.s.length
  kp : Keep pa m.H0 H
  fr0 : ∀ i a, a ∈ m.fp i → m.H0 a = none
  tk : TK K pa
/-- a value's relation: H the heap ahead, H' behind -/
def VR (m : Ms) (H H' : Hp) : Kd → D → V → Prop
  | .bo, d, v => RD K pa m.M0 H' d v
  | .sh, d, v => RD K pa m.M H' d v
  | .fr n, d, v => ∃ fp, Own K pa (fun a => m.M a ∨ a ∈ fp) H' n d v fp ∧ fp.Nodup ∧ ∀ a ∈ fp, H a = none
/-- an error -/
def ExR (M0 : Addr → Prop) (x : Ex) (cls : Value) (dd : Option Addr) (H : Hp) : Prop := cls = .ref (He.ga K x.c) ∧ ((x.n = [] ∧ x.l = [] ∧ dd = none) ∨
  ∃ e fs xs, dd = some e ∧ H e = some (.xd fs) ∧ ¬ M0 e ∧ x.n.length = xs.length ∧ RDs K pa M0 H x.l xs ∧ ∀ f, fs.lookup f = (x.n.zip xs).lookup f)
def Post (W : WX) (σ : L2.St) (m : Ms) (H : Hp) (κ : Kd) (r : R D) (Q : VK) : Prop := match r with
  | .ok d p => ∀ v H', Keep pa H H' → PenR pa m.M0 p H' → VR K pa m H H' κ d v → Q v H'
  | .err x p => ∀ cls dd H', Keep pa H H' → PenR pa m.M0 p H' → ExR K pa m.M0 x cls dd H' → W cls dd σ H'
  | .bad => False
/-- several values -/
def Posts (W : WX) (σ : L2.St) (m : Ms) (H : Hp) (κ : Kd) (r : R (List D)) (Q : List V → Hp → Prop) : Prop := match r with
  | .ok d p => ∀ v H', Keep pa H H' → PenR pa m.M0 p H' → RDs K pa (κ.base m) H' d v → Q v H'
  | .err x p => ∀ cls dd H', Keep pa H H' → PenR pa m.M0 p H' → ExR K pa m.M0 x cls dd H' → W cls dd σ H'
  | .bad => False
def tev (W : WX) (k : Nat → Kd) (κ : Kd) (r : Sl → P → R D) : TE := fun σ H Q => ∃ m pa, Rel K pa k σ H m ∧ Post K pa W σ m H κ (r m.s m.p) Q
def tevs (W : WX) (k : Nat → Kd) (κ : Kd) (r : Sl → P → R (List D)) : TA := fun σ H Q => ∃ m pa, Rel K pa k σ H m ∧ Posts K pa W σ m H κ (r m.s m.p) Q
/-- as a test -/
def tevT (W : WX) (k : Nat → Kd) (r : Sl → P → R D) : TT := fun σ H Q => ∃ m pa, Rel K pa k σ H m ∧ match (r m.s m.p).bd fun x p => R.of (truD x) p with
  | .ok b p => ∀ H', Keep pa H H' → PenR pa m.M0 p H' → Q b H'
  | .err x p => ∀ cls dd H', Keep pa H H' → PenR pa m.M0 p H' → ExR K pa m.M0 x cls dd H' → W cls dd σ H'
  | .bad => False
end
section
variable {K : PySem.W.Frag} {pa : Pa} {k : Nat → Kd} {σ : L2.St} {H H' H1 : Hp} {m : Ms} {W : WX} {κ κ1 : Kd}
theorem Rel.Mdom (h : Rel K pa k σ H m) {a : Addr} (ha : m.M a) : H a ≠ none := by
  rcases ha with ha | ⟨i, ha⟩
  · exact h.dom a ha
  · by_cases e : ∃ d, m.s[i]? = some (some d)
    · obtain ⟨d, e⟩ := e
      obtain ⟨v, _, r⟩ := h.sl i d e
      cases q : k i with
      | bo => rw [q] at r; rw [r.1] at ha; cases ha
      | sh => rw [q] at r; rw [r.1] at ha; cases ha
      | fr n =>
        rw [q] at r
        obtain ⟨xs, z⟩ := Own.at r a ha
        rw [z]; exact fun w => nomatch w
    · rw [h.no i fun d z => e ⟨d, z⟩] at ha
      cases ha
theorem PenR.pa0 {M0 : Addr → Prop} {p : Pen} (h : PenR pa M0 p H) : ∀ a, ¬ pa.No a → M0 a := fun a n => by
  by_cases e : a = pa.d
  · rw [e]; exact h.m1
  · refine Classical.byContradiction fun z => n ⟨e, fun q hq y => z ?_⟩
    rw [y]; exact h.tm q hq
theorem Rel.pa0 (h : Rel K pa k σ H m) : ∀ a, ¬ pa.No a → m.M0 a := h.pen.pa0
theorem PenR.at {M0 : Addr → Prop} {p : Pen} (h : PenR pa M0 p H) : ∀ a, ¬ pa.No a → H a ≠ none := fun a n => by
  by_cases e : a = pa.d
  · rw [e, h.d]; exact fun z => nomatch z
  · refine fun hn => n ⟨e, fun q hq y => ?_⟩
    obtain ⟨ps, h1, _⟩ := h.tb q hq
    rw [← y, hn] at h1; cases h1
theorem stay_of {M : Addr → Prop} (hk : Keep pa H H') (hp : ∀ a, ¬ pa.No a → M a) : ∀ a o, ¬ M a → H a = some o → H' a = some o := fun a o n e => hk a o (Pa.no_of hp n) e
theorem Rel.keep {p' : Pen} (h : Rel K pa k σ H m) (hk : Keep pa H H') (hp : PenR pa m.M0 p' H') : Rel K pa k σ H' { m with p := p' } where
  dom := fun a ha => by
    by_cases e : pa.No a
    · cases q : H a with
      | none => exact absurd q (h.dom a ha)
      | some o => rw [hk a o e q]; exact fun z => nomatch z
    · exact hp.at a e
  pen := hp
  sl := fun i d e => by
    obtain ⟨v, e1, r⟩ := h.sl i d e
    refine ⟨v, e1, ?_⟩
    cases q : k i with
    | bo =>
      rw [q] at r
      exact ⟨r.1, RD.stay (stay_of hk h.pa0) (fun _ n _ => n) d v r.2⟩
    | sh =>
      rw [q] at r
      exact ⟨r.1, RD.stay (stay_of hk fun a n => .inl (h.pa0 a n)) (fun _ n _ => n) d v r.2⟩
    | fr n =>
      rw [q] at r
      refine Own.stay (fun a o ha e => hk a o (Pa.no_of h.pa0 fun z => ?_) e) (fun _ n _ => n) r
      rcases ha with ha | ha
      · exact ha (.inl z)
      · exact h.free i a ha z
  no := h.no
  disj := h.disj
  nd := h.nd
  free := h.free
  len := h.len
  kp := h.kp.trans hk
  fr0 := h.fr0
  tk := h.tk
theorem VR.base {d : D} {v : V} (h : VR K pa m H H' κ d v) (hd : ∀ a, m.M a → H a ≠ none) : RD K pa (κ.base m) H' d v := by
  cases κ with
  | bo => exact h
  | sh => exact h
  | fr n =>
    obtain ⟨fp, o, _, f⟩ := h
    exact Own.rd (fun _ n _ z => n (.inl z)) (fun a ha z => hd a z (f a ha)) o
theorem RD.weak {d : D} {v : V} (h : RD K pa m.M H d v) : RD K pa m.M0 H d v := RD.stay (fun _ _ _ e => e) (fun a n _ z => n (.inl z)) d v h
theorem RDs.weak {d : List D} {v : List V} (h : RDs K pa m.M H d v) : RDs K pa m.M0 H d v := RDs.stay (fun _ _ _ e => e) (fun a n _ z => n (.inl z)) d v h
theorem VR.bo {d : D} {v : V} (h : VR K pa m H H' κ d v) (hd : ∀ a, m.M a → H a ≠ none) : RD K pa m.M0 H' d v := by
  have z := h.base hd
  cases κ with
  | bo => exact z
  | sh => exact RD.weak z
  | fr n => exact RD.weak z
theorem back_none (hk : Keep pa H H1) (hp : ∀ a, ¬ pa.No a → H1 a ≠ none) {a : Addr} (e : H1 a = none) : H a = none := by
  by_cases q : pa.No a
  · cases z : H a with
    | none => rfl
    | some o => rw [hk a o q z] at e; cases e
  · exact absurd e (hp a q)
theorem VR.move {d : D} {v : V} {p1 : Pen} (hk : Keep pa H H1) (hp : PenR pa m.M0 p1 H1) (h : VR K pa m H1 H' κ d v) : VR K pa m H H' κ d v := by
  cases κ with
  | bo => exact h
  | sh => exact h
  | fr n =>
    obtain ⟨fp, o, nd, f⟩ := h
    exact ⟨fp, o, nd, fun a ha => back_none hk hp.at (f a ha)⟩
theorem Post.move {r : R D} {Q : VK} {p1 : Pen} (hk : Keep pa H H1) (hp : PenR pa m.M0 p1 H1) (h : Post K pa W σ m H κ r Q) : Post K pa W σ { m with p := p1 } H1 κ r Q := by
  cases r with
  | ok d p => exact fun v H' k2 p2 r2 => h v H' (hk.trans k2) p2 (VR.move (m := m) hk hp r2)
  | err x p => exact fun cls dd H' k2 p2 r2 => h cls dd H' (hk.trans k2) p2 r2
  | bad => exact h
theorem Posts.move {r : R (List D)} {Q : List V → Hp → Prop} {p1 : Pen} (hk : Keep pa H H1) (h : Posts K pa W σ m H κ r Q) : Posts K pa W σ { m with p := p1 } H1 κ r Q := by
  cases r with
  | ok d p => exact fun v H' k2 p2 r2 => h v H' (hk.trans k2) p2 r2
  | err x p => exact fun cls dd H' k2 p2 r2 => h cls dd H' (hk.trans k2) p2 r2
  | bad => exact h
/-- one step, then the rest -/
theorem tev_bd {r : Sl → P → R D} {f : D → P → R D} {Q : VK} {Z : VK} (hr : Rel K pa k σ H m) (h : Post K pa W σ m H κ ((r m.s m.p).bd f) Q)
    (go : ∀ d p v H1, r m.s m.p = .ok d p → Keep pa H H1 → Rel K pa k σ H1 { m with p := p } → VR K pa m H H1 κ1 d v → Post K pa W σ { m with p := p } H1 κ (f d p) Q → Z v H1) : tev K W k κ1 r σ H Z := by
  refine ⟨m, pa, hr, ?_⟩
  cases e : r m.s m.p with
  | ok d p =>
    rw [e] at h
    exact fun v H1 hk hp hv => go d p v H1 e hk (hr.keep hk hp) hv (Post.move hk hp h)
  | err x p =>
    rw [e] at h
    exact h
  | bad =>
    rw [e] at h
    exact h
theorem tev_bds {r : Sl → P → R D} {f : D → P → R (List D)} {Q : List V → Hp → Prop} {Z : VK} (hr : Rel K pa k σ H m) (h : Posts K pa W σ m H κ ((r m.s m.p).bd f) Q)
    (go : ∀ d p v H1, r m.s m.p = .ok d p → Keep pa H H1 → Rel K pa k σ H1 { m with p := p } → VR K pa m H H1 κ1 d v → Posts K pa W σ { m with p := p } H1 κ (f d p) Q → Z v H1) : tev K W k κ1 r σ H Z := by
  refine ⟨m, pa, hr, ?_⟩
  cases e : r m.s m.p with
  | ok d p =>
    rw [e] at h
    exact fun v H1 hk hp hv => go d p v H1 e hk (hr.keep hk hp) hv (Posts.move hk h)
  | err x p =>
    rw [e] at h
    exact h
  | bad =>
    rw [e] at h
    exact h
theorem tevs_bd {r : Sl → P → R (List D)} {f : List D → P → R D} {Q : VK} {Z : List V → Hp → Prop} (hr : Rel K pa k σ H m) (h : Post K pa W σ m H κ ((r m.s m.p).bd f) Q)
    (go : ∀ d p v H1, r m.s m.p = .ok d p → Keep pa H H1 → Rel K pa k σ H1 { m with p := p } → RDs K pa (κ1.base m) H1 d v → Post K pa W σ { m with p := p } H1 κ (f d p) Q → Z v H1) : tevs K W k κ1 r σ H Z := by
  refine ⟨m, pa, hr, ?_⟩
  cases e : r m.s m.p with
  | ok d p =>
    rw [e] at h
    exact fun v H1 hk hp hv => go d p v H1 e hk (hr.keep hk hp) hv (Post.move hk hp h)
  | err x p =>
    rw [e] at h
    exact h
  | bad =>
    rw [e] at h
    exact h
theorem tevs_bds {r : Sl → P → R (List D)} {f : List D → P → R (List D)} {Q Z : List V → Hp → Prop} (hr : Rel K pa k σ H m) (h : Posts K pa W σ m H κ ((r m.s m.p).bd f) Q)
    (go : ∀ d p v H1, r m.s m.p = .ok d p → Keep pa H H1 → Rel K pa k σ H1 { m with p := p } → RDs K pa (κ1.base m) H1 d v → Posts K pa W σ { m with p := p } H1 κ (f d p) Q → Z v H1) : tevs K W k κ1 r σ H Z := by
  refine ⟨m, pa, hr, ?_⟩
  cases e : r m.s m.p with
  | ok d p =>
    rw [e] at h
    exact fun v H1 hk hp hv => go d p v H1 e hk (hr.keep hk hp) hv (Posts.move hk h)
  | err x p =>
    rw [e] at h
    exact h
  | bad =>
    rw [e] at h
    exact h
end
end Mc

/-! Mc4: the operations, by data. -/
namespace Mc
open PySem PySem.Spec PyProof.Rows L2
/-- new objects alone -/
def Grow (H H' : Hp) : Prop := ∀ a o, H a = some o → H' a = some o
theorem Grow.refl {H : Hp} : Grow H H := fun _ _ h => h
theorem Grow.new {H : Hp} {p : Addr} {o : HO} (h : H p = none) : Grow H (upd H p o) := fun a u e => by
  rw [upd_ne (ne_of_none e h)]; exact e
theorem OpR.or {X : Cx} {f : Value → Value → Sem Value} {r r' : R2} (h : OpR X f r) (h' : OpR X f r') : OpR X f (fun x y H Q => r x y H Q ∨ r' x y H Q) := by
  intro pins s σ H x y v u Q I rx ry q
  rcases q with q | q
  · exact h pins s σ H x y v u Q I rx ry q
  · exact h' pins s σ H x y v u Q I rx ry q
section
variable {K : PySem.W.Frag} {pa : Pa} {N : Addr → Prop} {H H' : Hp}
theorem RD.grow {d : D} {v : V} (g : Grow H H') (h : RD K pa N H d v) : RD K pa N H' d v := RD.stay (fun a o _ => g a o) (fun _ n _ => n) d v h
theorem RDs.grow {d : List D} {v : List V} (g : Grow H H') (h : RDs K pa N H d v) : RDs K pa N H' d v := RDs.stay (fun a o _ => g a o) (fun _ n _ => n) d v h
mutual
theorem RD.dp : ∀ (d : D) (v : V) (x : PyData), py d = some x → RD K pa N H d v → Dp K H v x
  | .non, v, x, e, h => by
    simp only [py, Option.some.injEq] at e
    simp only [RD] at h
    subst e h
    exact .non
  | .bl b, v, x, e, h => by
    simp only [py, Option.some.injEq] at e
    simp only [RD] at h
    subst e h
    exact .bl b
  | .int i, v, x, e, h => by
    simp only [py, Option.some.injEq] at e
    simp only [RD] at h
    subst e h
    exact .int i
  | .str s, v, x, e, h => by
    simp only [py, Option.some.injEq] at e
    simp only [RD] at h
    subst e h
    exact .str s
  | .tup l, v, x, e, h => by
    simp only [py] at e
    simp only [RD] at h
    obtain ⟨a, xs, rfl, _, ha, r⟩ := h
    cases q : pys l with
    | none => rw [q] at e; cases e
    | some y =>
      rw [q] at e
      cases e
      exact .tup (.of ha) (RDs.dp l xs y q r)
  | .lst l, v, x, e, h => by
    simp only [py] at e
    simp only [RD] at h
    obtain ⟨a, xs, rfl, _, ha, r⟩ := h
    cases q : pys l with
    | none => rw [q] at e; cases e
    | some y =>
      rw [q] at e
      cases e
      exact .lst (.of ha) (RDs.dp l xs y q r)
  | .dic _ _, v, x, e, h => by simp only [py] at e; cases e
  | .obj _ _ _, v, x, e, h => by simp only [py] at e; cases e
  | .fn _, v, x, e, h => by simp only [py] at e; cases e
  | .cls _, v, x, e, h => by simp only [py] at e; cases e
  | .ty _, v, x, e, h => by simp only [py] at e; cases e
  | .pen, v, x, e, h => by simp only [py] at e; cases e
theorem RDs.dp : ∀ (l : List D) (xs : List V) (y : List PyData), pys l = some y → RDs K pa N H l xs → DpAll K H xs y
  | [], xs, y, e, h => by
    simp only [pys, Option.some.injEq] at e
    simp only [RDs] at h
    subst e h
    exact .nil
  | d :: l, xs, y, e, h => by
    simp only [pys] at e
    simp only [RDs] at h
    obtain ⟨v, r, rfl, h1, h2⟩ := h
    cases q : py d with
    | none => rw [q] at e; cases e
    | some a =>
      cases q2 : pys l with
      | none => rw [q, q2] at e; cases e
      | some b =>
        rw [q, q2] at e
        cases e
        exact .cons (RD.dp d v a q h1) (RDs.dp l r b q2 h2)
end
end
/-- two values in, one out -/
def rD2 (K : PySem.W.Frag) (pa : Pa) (N : Addr → Prop) (f : D → D → Option D) : R2 := fun x y H Q => ∃ d e z, (∀ a, N a → H a ≠ none) ∧ RD K pa N H d x ∧ RD K pa N H e y ∧ f d e = some z ∧ ∀ v H', Grow H H' → RD K pa N H' z v → Q v H'
def rDn (K : PySem.W.Frag) (pa : Pa) (N : Addr → Prop) (f : List D → Option D) : List V → Hp → VK → Prop := fun xs H Q => ∃ ds z, (∀ a, N a → H a ≠ none) ∧ RDs K pa N H ds xs ∧ f ds = some z ∧ ∀ v H', Grow H H' → RD K pa N H' z v → Q v H'
section
variable {X : Cx} {pa : Pa} {N : Addr → Prop} {H : Hp} {Q : VK} {z : D}
theorem fin_int {i : Int} (q : ∀ v H', Grow H H' → RD X.K pa N H' (.int i) v → Q v H') : Q (.int i) H := q _ _ .refl (by simp only [RD])
theorem fin_bl' {i : Bool} (q : ∀ v H', Grow H H' → RD X.K pa N H' (.bl i) v → Q v H') : Q (.bl i) H := q _ _ .refl (by simp only [RD])
theorem fin_str {i : Str} (q : ∀ v H', Grow H H' → RD X.K pa N H' (.str i) v → Q v H') : Q (.str i) H := q _ _ .refl (by simp only [RD])
theorem fin_tup {l : List D} {xs : List V} (hN : ∀ a, N a → H a ≠ none) (r : RDs X.K pa N H l xs) (q : ∀ v H', Grow H H' → RD X.K pa N H' (.tup l) v → Q v H') : ∀ p, H p = none → Q (.ref p) (upd H p (.tup xs)) := fun p hp =>
  q _ _ (.new hp) (by
    simp only [RD]
    exact ⟨p, xs, rfl, fun z => hN p z hp, upd_same, r.grow (.new hp)⟩)
theorem fin_lst {l : List D} {xs : List V} (hN : ∀ a, N a → H a ≠ none) (r : RDs X.K pa N H l xs) (q : ∀ v H', Grow H H' → RD X.K pa N H' (.lst l) v → Q v H') : ∀ p, H p = none → Q (.ref p) (upd H p (.lst xs)) := fun p hp =>
  q _ _ (.new hp) (by
    simp only [RD]
    exact ⟨p, xs, rfl, fun z => hN p z hp, upd_same, r.grow (.new hp)⟩)
theorem op_fdivD : OpR X (binaryOp .FloorDiv) (rI (fun _ j => j ≠ 0 ∧ j.natAbs.log2 < 9000) fun i j => .int (i.fdiv j)) := opI fun _ _ _ _ _ _ _ hc q => floordiv_int hc.1 q (.inl (PyProof.noPylong_of_log2 hc.2))
theorem op_mulD : OpR X (binaryOp .Mult) (rI (fun i j => mulOk i j = true) fun i j => .int (i * j)) := opI fun i j _ _ _ _ _ hc q => mul_int q (CMulW.ok (i := i) (j := j) (by unfold CMulW; unfold mulOk at hc; exact of_decide_eq_true hc))
theorem op_binD {o : Operator} : OpR X (binaryOp o) (rD2 X.K pa N (binD o)) := by
  intro pins s σ H x y v u Q I rx ry h
  obtain ⟨d, e, z, hN, hd, he, hz, q⟩ := h
  unfold binD at hz
  split at hz
  · -- ints
    simp only [RD] at hd he
    subst hd he
    cases hz
    exact op_add pins s σ H _ _ v u Q I rx ry ⟨_, _, rfl, rfl, fin_int q⟩
  · simp only [RD] at hd he
    subst hd he
    split at hz
    · rename_i hl
      cases hz
      exact op_add_str pins s σ H _ _ v u Q I rx ry ⟨_, _, rfl, rfl, hl, fin_str q⟩
    · cases hz
  · simp only [RD] at hd he
    obtain ⟨a, xs, rfl, na, ha, r⟩ := hd
    obtain ⟨b, ys, rfl, nb, hb, r'⟩ := he
    split at hz
    · rename_i hl
      cases hz
      refine op_catA pins s σ H _ _ v u Q I rx ry ⟨a, b, xs, ys, rfl, rfl, .of ha, .of hb, by rw [← r.length, ← r'.length]; exact hl, fun e => ?_, fun _ e => ?_, fun _ _ => fin_tup hN (r.append r') q⟩
      · subst e
        refine q _ _ .refl ?_
        have e0 : _ = [] := List.length_eq_zero_iff.mp (show _ = 0 from r.length)
        rw [e0, List.nil_append]
        simp only [RD]
        exact ⟨b, ys, rfl, nb, hb, r'⟩
      · subst e
        refine q _ _ .refl ?_
        have e0 : _ = [] := List.length_eq_zero_iff.mp (show _ = 0 from r'.length)
        rw [e0, List.append_nil]
        simp only [RD]
        exact ⟨a, xs, rfl, na, ha, r⟩
    · cases hz
  · simp only [RD] at hd he
    obtain ⟨a, xs, rfl, na, ha, r⟩ := hd
    obtain ⟨b, ys, rfl, nb, hb, r'⟩ := he
    split at hz
    · rename_i hl
      cases hz
      exact op_cat pins s σ H _ _ v u Q I rx ry ⟨a, b, xs, ys, rfl, rfl, ha, hb, by rw [← r.length, ← r'.length]; exact hl, fin_lst hN (r.append r') q⟩
    · cases hz
  · simp only [RD] at hd he
    subst hd he
    cases hz
    exact op_sub pins s σ H _ _ v u Q I rx ry ⟨_, _, rfl, rfl, fin_int q⟩
  · simp only [RD] at hd he
    subst hd he
    split at hz
    · rename_i hl
      cases hz
      exact op_mulD pins s σ H _ _ v u Q I rx ry ⟨_, _, rfl, rfl, hl, fin_int q⟩
    · cases hz
  · simp only [RD] at hd he
    subst hd he
    split at hz
    · rename_i hl
      cases hz
      exact op_fdivD pins s σ H _ _ v u Q I rx ry ⟨_, _, rfl, rfl, hl, fin_int q⟩
    · cases hz
  · simp only [RD] at hd he
    subst hd he
    split at hz
    · rename_i hl
      cases hz
      exact op_modN pins s σ H _ _ v u Q I rx ry ⟨_, _, rfl, rfl, hl, fin_int q⟩
    · cases hz
  · simp only [RD] at hd he
    subst hd he
    split at hz
    · rename_i hl
      cases hz
      exact op_pow pins s σ H _ _ v u Q I rx ry ⟨_, _, rfl, rfl, hl, fin_int q⟩
    · cases hz
  · cases hz
theorem is_bool_gen {M : Model} {A : Around} {E : Value → Shared → Prop} {s : Shared} {Q : Value → Shared → Prop} {x : V} {v : Value} {b : Bool} (r : RelV x v) (h : Q (.bool (v == .bool b)) s) : wpAny M A (compareOp .Is v (.bool b)) Q E s := by
  cases x with
  | non => cases r; exact wpAny_pure h
  | bl c => cases r; exact wpAny_pure h
  | int _ => obtain ⟨t, rfl⟩ := r; exact wpAny_pure h
  | str _ => obtain ⟨t, rfl⟩ := r; exact wpAny_pure h
  | byt _ => obtain ⟨t, rfl⟩ := r; exact wpAny_pure h
  | flt _ => obtain ⟨t, rfl⟩ := r; exact wpAny_pure h
  | ref _ => cases r; exact wpAny_pure h
  | ty _ => cases r; exact wpAny_pure h
theorem isnot_bool_gen {M : Model} {A : Around} {E : Value → Shared → Prop} {s : Shared} {Q : Value → Shared → Prop} {x : V} {v : Value} {b : Bool} (r : RelV x v) (h : Q (.bool (!(v == .bool b))) s) : wpAny M A (compareOp .IsNot v (.bool b)) Q E s := by
  cases x with
  | non => cases r; exact wpAny_pure h
  | bl c => cases r; exact wpAny_pure h
  | int _ => obtain ⟨t, rfl⟩ := r; exact wpAny_pure h
  | str _ => obtain ⟨t, rfl⟩ := r; exact wpAny_pure h
  | byt _ => obtain ⟨t, rfl⟩ := r; exact wpAny_pure h
  | flt _ => obtain ⟨t, rfl⟩ := r; exact wpAny_pure h
  | ref _ => cases r; exact wpAny_pure h
  | ty _ => cases r; exact wpAny_pure h
theorem rel_is_bool {x : V} {v : Value} {b : Bool} (r : RelV x v) : (v == Value.bool b) = decide (x = .bl b) := by
  cases x with
  | non => cases r; rfl
  | bl c => cases r; cases b <;> cases c <;> rfl
  | int _ => obtain ⟨t, rfl⟩ := r; rfl
  | str _ => obtain ⟨t, rfl⟩ := r; rfl
  | byt _ => obtain ⟨t, rfl⟩ := r; rfl
  | flt _ => obtain ⟨t, rfl⟩ := r; rfl
  | ref _ => cases r; rfl
  | ty _ => cases r; rfl
theorem op_isBD : OpR X (compareOp .Is) (fun x y H Q => ∃ b, y = .bl b ∧ Q (.bl (decide (x = .bl b))) H) := by
  intro pins s σ H x y v u Q I rx ry h
  obtain ⟨b, rfl, q⟩ := h
  cases ry
  exact is_bool_gen rx (fin_bl I q (rel_is_bool rx).symm)
theorem op_notBD : OpR X (compareOp .IsNot) (fun x y H Q => ∃ b, y = .bl b ∧ Q (.bl (!decide (x = .bl b))) H) := by
  intro pins s σ H x y v u Q I rx ry h
  obtain ⟨b, rfl, q⟩ := h
  cases ry
  exact isnot_bool_gen rx (fin_bl I q (by rw [rel_is_bool rx]))
theorem rd_non {d : D} {x : V} (h : RD X.K pa N H d x) : decide (x = .non) = isNon d := by
  cases d with
  | non => simp only [RD] at h; subst h; rfl
  | bl b => simp only [RD] at h; subst h; rfl
  | int b => simp only [RD] at h; subst h; rfl
  | str b => simp only [RD] at h; subst h; rfl
  | tup b => simp only [RD] at h; obtain ⟨a, xs, rfl, _⟩ := h; rfl
  | lst b => simp only [RD] at h; obtain ⟨a, xs, rfl, _⟩ := h; rfl
  | dic b c => simp only [RD] at h; obtain ⟨a, _, rfl, _⟩ := h; rfl
  | obj b n l => simp only [RD] at h; obtain ⟨a, dx, xs, rfl, _⟩ := h; rfl
  | fn b => simp only [RD] at h; subst h; rfl
  | cls b => simp only [RD] at h; obtain ⟨rfl, _⟩ := h; rfl
  | ty b => simp only [RD] at h; subst h; rfl
  | pen => simp only [RD] at h; subst h; rfl
theorem rd_bl {d : D} {x : V} {c : Bool} (h : RD X.K pa N H d x) : decide (x = .bl c) = isBl c d := by
  cases d with
  | non => simp only [RD] at h; subst h; rfl
  | bl b => simp only [RD] at h; subst h; cases b <;> cases c <;> rfl
  | int b => simp only [RD] at h; subst h; rfl
  | str b => simp only [RD] at h; subst h; rfl
  | tup b => simp only [RD] at h; obtain ⟨a, xs, rfl, _⟩ := h; rfl
  | lst b => simp only [RD] at h; obtain ⟨a, xs, rfl, _⟩ := h; rfl
  | dic b c => simp only [RD] at h; obtain ⟨a, _, rfl, _⟩ := h; rfl
  | obj b n l => simp only [RD] at h; obtain ⟨a, dx, xs, rfl, _⟩ := h; rfl
  | fn b => simp only [RD] at h; subst h; rfl
  | cls b => simp only [RD] at h; obtain ⟨rfl, _⟩ := h; rfl
  | ty b => simp only [RD] at h; subst h; rfl
  | pen => simp only [RD] at h; subst h; rfl
theorem notIn_tuple_reads' {prog : Program} {w : World} {A : Around} {E : Value → Shared → Prop} {s : Shared} {c x : Value} {xs : List PyData} {d : PyData} {as bs : List Addr} {Q : Value → Shared → Prop} (rc : Reads s.heap c (.tuple xs) as) (rx : Reads s.heap x d bs) (hxs : PyData.canLayAll0 xs = true) (hd : d.canLay0 = true)
    (hu : A.units + 1 + min (PyData.depthAll xs) d.depth < cLine) (h : Q (.bool (!xs.any fun y => PyData.eqv y d)) s) : wpAny (model prog w) A (compareOp .NotIn x c) Q E s := by
  first
    | exact SeqAt.notIn_tuple_reads rc rx hxs hd hu h
    | exact P3.notIn_tuple_reads rc rx hxs hd hu h
theorem op_cmpD {o : CmpOp} (hu : X.A.units + 65 < cLine) : OpR X (compareOp o) (rD2 X.K pa N fun a b => (cmpD o a b).map .bl) := by
  intro pins s σ H x y v u Q I rx ry h
  obtain ⟨d, e, z, hN, hd, he, hz, q⟩ := h
  obtain ⟨k, hk, rfl⟩ := Option.map_eq_some_iff.mp hz
  have qb := fin_bl' (X := X) q
  have eqq : ∀ a b : D, ∀ k, eqD a b = some k → (lnD a b = true ∧ k = false) ∨ ∃ x y, py a = some x ∧ py b = some y ∧ SeqAt.shaped x = true ∧ SeqAt.shaped y = true ∧ k = PyData.eqv x y := fun a b k h => by
    unfold eqD at h
    split at h
    · cases h
      exact .inl ⟨by assumption, rfl⟩
    · right
      split at h
      · rename_i x y e1 e2
        split at h
        · rename_i c
          cases h
          exact ⟨x, y, e1, e2, c.1, c.2, rfl⟩
        · cases h
      · cases h
  have lnn : ∀ a b : D, lnD a b = true → ∃ l m, a = .lst l ∧ b = .lst m ∧ l.length ≠ m.length := fun a b h => by
    cases a <;> first | (cases b <;> first | exact ⟨_, _, rfl, rfl, of_decide_eq_true h⟩ | cases h) | cases h
  have inn : ∀ (a : D) (l : List D) (k : Bool), inD a l = some k → ∃ x ys, py a = some x ∧ pys l = some ys ∧ SeqAt.shaped x = true ∧ SeqAt.shaped (.list ys) = true ∧ k = ys.any fun z => PyData.eqv z x := fun a l k h => by
    unfold inD at h
    split at h
    · rename_i x y e1 e2
      split at h
      · rename_i c
        cases h
        exact ⟨x, y, e1, e2, c.1, c.2, rfl⟩
      · cases h
    · cases h
  unfold cmpD at hk
  split at hk
  · rcases eqq _ _ _ hk with ⟨hl, rfl⟩ | ⟨x', y', e1, e2, s1, s2, rfl⟩
    · obtain ⟨l, m, rfl, rfl, hn⟩ := lnn _ _ hl
      simp only [RD] at hd he
      obtain ⟨a1, xs, rfl, _, g1, r1⟩ := hd
      obtain ⟨a2, ys, rfl, _, g2, r2⟩ := he
      cases rx; cases ry
      obtain ⟨is1, v1, p1, _⟩ := I.list (.of g1)
      obtain ⟨is2, v2, p2, _⟩ := I.list (.of g2)
      have n1 := v1.length; have n2 := v2.length; have n3 := r1.length; have n4 := r2.length
      exact SeqAt.RcAt.lists_lengths p1.isList p2.isList (by simp; omega) (by omega) _ _ _ _ ⟨.bl _, H, I, rfl, qb⟩
    exact op_eqD (by omega) pins s σ H _ _ v u Q I rx ry ⟨x', y', RD.dp _ _ _ e1 hd, RD.dp _ _ _ e2 he, s1, s2, qb⟩
  · obtain ⟨k', hk', rfl⟩ := Option.map_eq_some_iff.mp hk
    rcases eqq _ _ _ hk' with ⟨hl, rfl⟩ | ⟨x', y', e1, e2, s1, s2, rfl⟩
    · obtain ⟨l, m, rfl, rfl, hn⟩ := lnn _ _ hl
      simp only [RD] at hd he
      obtain ⟨a1, xs, rfl, _, g1, r1⟩ := hd
      obtain ⟨a2, ys, rfl, _, g2, r2⟩ := he
      cases rx; cases ry
      obtain ⟨is1, v1, p1, _⟩ := I.list (.of g1)
      obtain ⟨is2, v2, p2, _⟩ := I.list (.of g2)
      have n1 := v1.length; have n2 := v2.length; have n3 := r1.length; have n4 := r2.length
      exact SeqAt.RcNeAt.lists_lengths p1.isList p2.isList (by simp; omega) (by omega) _ _ _ _ ⟨.bl _, H, I, rfl, qb⟩
    exact op_neD (by omega) pins s σ H _ _ v u Q I rx ry ⟨x', y', RD.dp _ _ _ e1 hd, RD.dp _ _ _ e2 he, s1, s2, qb⟩
  · simp only [RD] at hd he
    subst hd he
    cases hk
    exact op_lt pins s σ H _ _ v u Q I rx ry ⟨_, _, rfl, rfl, qb⟩
  · simp only [RD] at hd he
    subst hd he
    cases hk
    exact op_le pins s σ H _ _ v u Q I rx ry ⟨_, _, rfl, rfl, qb⟩
  · simp only [RD] at hd he
    subst hd he
    cases hk
    exact op_gt pins s σ H _ _ v u Q I rx ry ⟨_, _, rfl, rfl, qb⟩
  · simp only [RD] at hd he
    subst hd he
    cases hk
    exact op_ge pins s σ H _ _ v u Q I rx ry ⟨_, _, rfl, rfl, qb⟩
  · have z := rd_non hd
    simp only [RD] at he
    subst he
    refine op_isN pins s σ H _ _ v u Q I rx ry ⟨rfl, ?_⟩
    rw [z]
    cases hk
    exact qb
  · have z := rd_non hd
    simp only [RD] at he
    subst he
    refine op_notN pins s σ H _ _ v u Q I rx ry ⟨rfl, ?_⟩
    rw [z]
    cases hk
    exact qb
  · rename_i b
    have z := rd_bl (c := b) hd
    simp only [RD] at he
    subst he
    refine op_isBD pins s σ H _ _ v u Q I rx ry ⟨_, rfl, ?_⟩
    rw [z]
    cases hk
    exact qb
  · rename_i b
    have z := rd_bl (c := b) hd
    simp only [RD] at he
    subst he
    refine op_notBD pins s σ H _ _ v u Q I rx ry ⟨_, rfl, ?_⟩
    rw [z]
    cases hk
    exact qb
  · obtain ⟨x', ys, e1, e2, s1, s2, rfl⟩ := inn _ _ _ hk
    have dx := RD.dp _ _ _ e1 hd
    have dl := RD.dp _ _ (.tuple ys) (by simp only [py, e2]) he
    obtain ⟨as, r1⟩ := Dp.reads I x' x v dx rx
    obtain ⟨bs, r2⟩ := Dp.reads I (.tuple ys) y u dl ry
    have cl := SeqAt.canLay_of_shaped s2
    exact SeqAt.in_tuple_reads r2 r1 (by simpa [PyData.canLay0] using cl) (SeqAt.canLay_of_shaped s1) (by
      have h64 : x'.depth ≤ 64 := by
        unfold SeqAt.shaped at s1
        simp only [Bool.and_eq_true, decide_eq_true_eq] at s1
        exact s1.2
      omega) ⟨.bl _, H, I, rfl, qb⟩
  · obtain ⟨x', ys, e1, e2, s1, s2, rfl⟩ := inn _ _ _ hk
    exact op_inD hu pins s σ H _ _ v u Q I rx ry ⟨x', ys, RD.dp _ _ _ e1 hd, RD.dp _ _ (.list ys) (by simp only [py, e2]) he, s1, s2, qb⟩
  · obtain ⟨k', hk', rfl⟩ := Option.map_eq_some_iff.mp hk
    obtain ⟨x', ys, e1, e2, s1, s2, rfl⟩ := inn _ _ _ hk'
    have dx := RD.dp _ _ _ e1 hd
    have dl := RD.dp _ _ (.tuple ys) (by simp only [py, e2]) he
    obtain ⟨as, r1⟩ := Dp.reads I x' x v dx rx
    obtain ⟨bs, r2⟩ := Dp.reads I (.tuple ys) y u dl ry
    have cl := SeqAt.canLay_of_shaped s2
    exact notIn_tuple_reads' r2 r1 (by simpa [PyData.canLay0] using cl) (SeqAt.canLay_of_shaped s1) (by
      have h64 : x'.depth ≤ 64 := by
        unfold SeqAt.shaped at s1
        simp only [Bool.and_eq_true, decide_eq_true_eq] at s1
        exact s1.2
      omega) ⟨.bl _, H, I, rfl, qb⟩
  · obtain ⟨k', hk', rfl⟩ := Option.map_eq_some_iff.mp hk
    obtain ⟨x', ys, e1, e2, s1, s2, rfl⟩ := inn _ _ _ hk'
    exact op_notInD hu pins s σ H _ _ v u Q I rx ry ⟨x', ys, RD.dp _ _ _ e1 hd, RD.dp _ _ (.list ys) (by simp only [py, e2]) he, s1, s2, qb⟩
  · cases hk
end
end Mc

/-! Mc5: items, slices, built-in functions, by data. -/
namespace Mc
open PySem PySem.Spec PyProof.Rows L2
theorem atI_of {α : Type} {l : List α} {i : Int} {d : α} (e : atI l i = some d) : ∃ j, L2.ixN l.length i = some j ∧ l[j]? = some d := by
  unfold atI at e
  obtain ⟨j, e1, e2⟩ := Option.bind_eq_some_iff.mp e
  exact ⟨j, e1, e2⟩
section
variable {X : Cx} {pa : Pa} {N : Addr → Prop}
theorem rds_at {K : PySem.W.Frag} {H : Hp} {l : List D} {xs : List V} {i : Int} {d : D} (r : RDs K pa N H l xs) (e : atI l i = some d) : ∃ v, atI xs i = some v ∧ RD K pa N H d v := by
  obtain ⟨j, e1, e2⟩ := atI_of e
  obtain ⟨v, a, b⟩ := r.get e2
  refine ⟨v, ?_, b⟩
  unfold atI
  rw [← r.length, e1]
  exact a
theorem ix_D : IxR X (rD2 X.K pa N idxD) := by
  intro value slice pins s σ H x y v u Q I rx ry h hs
  obtain ⟨d, e, z, hN, hd, he, hz, q⟩ := h
  unfold idxD at hz
  split at hz
  · simp only [RD] at hd he
    obtain ⟨a, xs, rfl, na, ha, r⟩ := hd
    subst he
    obtain ⟨w, e1, e2⟩ := rds_at r hz
    exact ix_tup value slice pins s σ H _ _ v u Q I rx ry ⟨a, xs, _, w, rfl, rfl, .of ha, e1, q _ _ .refl e2⟩ hs
  · simp only [RD] at hd he
    obtain ⟨a, xs, rfl, na, ha, r⟩ := hd
    subst he
    obtain ⟨w, e1, e2⟩ := rds_at r hz
    exact ix_list value slice pins s σ H _ _ v u Q I rx ry ⟨a, xs, _, w, rfl, rfl, .of ha, e1, q _ _ .refl e2⟩ hs
  · cases hz
/-- a slice -/
def rSlD (K : PySem.W.Frag) (pa : Pa) (N : Addr → Prop) : V → Option Int → Option Int → Hp → VK → Prop := fun x lo hi H Q => ∃ d z, (∀ a, N a → H a ≠ none) ∧ RD K pa N H d x ∧ slcD lo hi d = some z ∧ ∀ v H', Grow H H' → RD K pa N H' z v → Q v H'
theorem sl_D : SlR X (rSlD X.K pa N) := by
  intro pins s σ H x v vl vu lo hi sl Q I rx hs pl pu h
  obtain ⟨d, z, hN, hd, hz, q⟩ := h
  unfold slcD at hz
  split at hz
  · cases hz
    rename_i l
    simp only [RD] at hd
    obtain ⟨a, xs, rfl, na, ha, r⟩ := hd
    have hlen := r.length
    refine sl_tupA pins s σ H _ v vl vu lo hi sl Q I rx hs pl pu ⟨a, xs, rfl, .of ha, fun w => q _ _ .refl ?_, fun w => ?_⟩
    · have e : cut l lo hi = l := by
        unfold cut
        rw [hlen, w.1, w.2, List.drop_zero, Nat.sub_zero, ← hlen, List.take_length]
      rw [e]
      simp only [RD]
      exact ⟨a, xs, rfl, na, ha, r⟩
    · refine fin_tup hN ?_ q
      unfold cut cutV
      rw [hlen]
      exact (r.drop _).take _
  · cases hz
    rename_i l
    simp only [RD] at hd
    obtain ⟨a, xs, rfl, na, ha, r⟩ := hd
    have hlen := r.length
    refine sl_list pins s σ H _ v vl vu lo hi sl Q I rx hs pl pu ⟨a, xs, rfl, .of ha, fin_lst hN ?_ q⟩
    unfold cut cutV
    rw [hlen]
    exact (r.drop _).take _
  · cases hz
/-! ### built-in functions -/
section
variable {K : PySem.W.Frag} {H : Hp}
theorem rds1 {d : D} {xs : List V} (h : RDs K pa N H [d] xs) : ∃ v, xs = [v] ∧ RD K pa N H d v := by
  simp only [RDs] at h
  obtain ⟨v, r, rfl, h1, rfl⟩ := h
  exact ⟨v, rfl, h1⟩
theorem rds2 {d e : D} {xs : List V} (h : RDs K pa N H [d, e] xs) : ∃ v u, xs = [v, u] ∧ RD K pa N H d v ∧ RD K pa N H e u := by
  simp only [RDs] at h
  obtain ⟨v, r, rfl, h1, u, r', rfl, h2, rfl⟩ := h
  exact ⟨v, u, rfl, h1, h2⟩
theorem rds_bools : ∀ {l : List D} {xs : List V} {b : Bool}, allD l = some b → RDs K pa N H l xs → ∃ bs : List Bool, xs = bs.map V.bl ∧ b = bs.all id
  | [], xs, b, e, h => by
    simp only [RDs] at h
    simp only [allD, Option.some.injEq] at e
    subst h e
    exact ⟨[], rfl, rfl⟩
  | d :: l, xs, b, e, h => by
    simp only [RDs] at h
    obtain ⟨v, r, rfl, h1, h2⟩ := h
    cases d with
    | bl c =>
      simp only [allD] at e
      cases q : allD l with
      | none => rw [q] at e; cases e
      | some c' =>
        rw [q] at e
        cases e
        obtain ⟨bs, rfl, rfl⟩ := rds_bools q h2
        simp only [RD] at h1
        subst h1
        exact ⟨c :: bs, rfl, by simp⟩
    | _ => simp only [allD] at e; cases e
theorem rds_bools' : ∀ {l : List D} {xs : List V} {b : Bool}, anyD l = some b → RDs K pa N H l xs → ∃ bs : List Bool, xs = bs.map V.bl ∧ b = bs.any id
  | [], xs, b, e, h => by
    simp only [RDs] at h
    simp only [anyD, Option.some.injEq] at e
    subst h e
    exact ⟨[], rfl, rfl⟩
  | d :: l, xs, b, e, h => by
    simp only [RDs] at h
    obtain ⟨v, r, rfl, h1, h2⟩ := h
    cases d with
    | bl c =>
      simp only [anyD] at e
      cases q : anyD l with
      | none => rw [q] at e; cases e
      | some c' =>
        rw [q] at e
        cases e
        obtain ⟨bs, rfl, rfl⟩ := rds_bools' q h2
        simp only [RD] at h1
        subst h1
        exact ⟨c :: bs, rfl, by simp⟩
    | _ => simp only [anyD] at e; cases e
end
theorem call_lenD : CallR X (.builtin "len") (rDn X.K pa N (biD .len)) := by
  intro pins s σ H xs us Q I r h
  obtain ⟨ds, z, hN, hd, hz, q⟩ := h
  unfold biD at hz
  split at hz <;> first | cases hz | skip
  · obtain ⟨v, rfl, h1⟩ := rds1 hd
    simp only [RD] at h1
    obtain ⟨a, ys, rfl, na, ha, rr⟩ := h1
    refine call_len pins s σ H _ us Q I r ⟨_, _, rfl, .inr ⟨ys, .of ha, rr.length⟩, fin_int q⟩
  · obtain ⟨v, rfl, h1⟩ := rds1 hd
    simp only [RD] at h1
    obtain ⟨a, ys, rfl, na, ha, rr⟩ := h1
    refine call_len pins s σ H _ us Q I r ⟨_, _, rfl, .inl ⟨ys, .of ha, rr.length⟩, fin_int q⟩
  all_goals simp_all
theorem call_intD : CallR X (.type "int") (rDn X.K pa N (biD .int)) := by
  intro pins s σ H xs us Q I r h
  obtain ⟨ds, z, hN, hd, hz, q⟩ := h
  unfold biD at hz
  split at hz <;> first | (simp at *; done) | skip
  · cases hz
    obtain ⟨v, rfl, h1⟩ := rds1 hd
    simp only [RD] at h1
    subst h1
    exact call_int1 pins s σ H _ us Q I r (.inl ⟨_, rfl, fin_int q⟩)
  · cases hz
    obtain ⟨v, rfl, h1⟩ := rds1 hd
    simp only [RD] at h1
    subst h1
    exact call_int1 pins s σ H _ us Q I r (.inr ⟨_, rfl, fin_int q⟩)
theorem call_tupleD : CallR X (.type "tuple") (rDn X.K pa N (biD .tuple)) := by
  intro pins s σ H xs us Q I r h
  obtain ⟨ds, z, hN, hd, hz, q⟩ := h
  unfold biD at hz
  split at hz <;> first | (simp at *; done) | skip
  · cases hz
    obtain ⟨v, rfl, h1⟩ := rds1 hd
    simp only [RD] at h1
    obtain ⟨a, ys, rfl, na, ha, rr⟩ := h1
    exact call_tuple_of pins s σ H _ us Q I r ⟨a, ys, rfl, .inl ⟨.of ha, fin_tup hN rr q⟩⟩
  · cases hz
    obtain ⟨v, rfl, h1⟩ := rds1 hd
    have h1' := h1
    simp only [RD] at h1
    obtain ⟨a, ys, rfl, na, ha, rr⟩ := h1
    exact call_tuple_of pins s σ H _ us Q I r ⟨a, ys, rfl, .inr ⟨.of ha, q _ _ .refl h1'⟩⟩
theorem call_listD' : CallR X (.type "list") (rDn X.K pa N (biD .list)) := by
  intro pins s σ H xs us Q I r h
  obtain ⟨ds, z, hN, hd, hz, q⟩ := h
  unfold biD at hz
  split at hz <;> first | (simp at *; done) | skip
  · cases hz
    obtain ⟨v, rfl, h1⟩ := rds1 hd
    simp only [RD] at h1
    obtain ⟨a, ys, rfl, na, ha, rr⟩ := h1
    exact call_list_of pins s σ H _ us Q I r ⟨a, ys, rfl, .inl (.of ha), fin_lst hN rr q⟩
  · cases hz
    obtain ⟨v, rfl, h1⟩ := rds1 hd
    simp only [RD] at h1
    obtain ⟨a, ys, rfl, na, ha, rr⟩ := h1
    exact call_list_of pins s σ H _ us Q I r ⟨a, ys, rfl, .inr (.of ha), fin_lst hN rr q⟩
theorem call_allD (hc : X.calm = true) : CallR X (.builtin "all") (rDn X.K pa N (biD .all)) := by
  intro pins s σ H xs us Q I r h
  obtain ⟨ds, z, hN, hd, hz, q⟩ := h
  unfold biD at hz
  split at hz <;> first | (simp at *; done) | skip
  · obtain ⟨b, hb, rfl⟩ := Option.map_eq_some_iff.mp hz
    obtain ⟨v, rfl, h1⟩ := rds1 hd
    simp only [RD] at h1
    obtain ⟨a, ys, rfl, na, ha, rr⟩ := h1
    obtain ⟨bs, rfl, rfl⟩ := rds_bools hb rr
    exact cr_all hc pins s σ H _ us Q I r ⟨a, bs, rfl, .of ha, fin_bl' q⟩
theorem call_anyD (hc : X.calm = true) : CallR X (.builtin "any") (rDn X.K pa N (biD .any)) := by
  intro pins s σ H xs us Q I r h
  obtain ⟨ds, z, hN, hd, hz, q⟩ := h
  unfold biD at hz
  split at hz <;> first | (simp at *; done) | skip
  · obtain ⟨b, hb, rfl⟩ := Option.map_eq_some_iff.mp hz
    obtain ⟨v, rfl, h1⟩ := rds1 hd
    simp only [RD] at h1
    obtain ⟨a, ys, rfl, na, ha, rr⟩ := h1
    obtain ⟨bs, rfl, rfl⟩ := rds_bools' hb rr
    exact cr_any hc pins s σ H _ us Q I r ⟨a, bs, rfl, .of ha, fin_bl' q⟩
theorem call_absD : CallR X (.builtin "abs") (rDn X.K pa N (biD .abs)) := by
  intro pins s σ H xs us Q I r h
  obtain ⟨ds, z, hN, hd, hz, q⟩ := h
  unfold biD at hz
  split at hz <;> first | (simp at *; done) | skip
  · cases hz
    obtain ⟨v, rfl, h1⟩ := rds1 hd
    simp only [RD] at h1
    subst h1
    exact call_abs pins s σ H _ us Q I r ⟨_, rfl, fin_int q⟩
theorem call_gcdD : CallR X (.builtin "math.gcd") (rDn X.K pa N (biD .gcd)) := by
  intro pins s σ H xs us Q I r h
  obtain ⟨ds, z, hN, hd, hz, q⟩ := h
  unfold biD at hz
  split at hz <;> first | (simp at *; done) | skip
  · cases hz
    obtain ⟨v, w, rfl, h1, h2⟩ := rds2 hd
    simp only [RD] at h1 h2
    subst h1 h2
    exact cr_gcd pins s σ H _ us Q I r ⟨_, _, rfl, fin_int q⟩
theorem call_maxD (hc : X.calm = true) : CallR X (.builtin "max") (rDn X.K pa N (biD .max)) := by
  intro pins s σ H xs us Q I r h
  obtain ⟨ds, z, hN, hd, hz, q⟩ := h
  unfold biD at hz
  split at hz <;> first | (simp at *; done) | skip
  · cases hz
    obtain ⟨v, w, rfl, h1, h2⟩ := rds2 hd
    simp only [RD] at h1 h2
    subst h1 h2
    exact call_max2 hc pins s σ H _ us Q I r ⟨_, _, rfl, fin_int q⟩
theorem call_minD (hc : X.calm = true) : CallR X (.builtin "min") (rDn X.K pa N (biD .min)) := by
  intro pins s σ H xs us Q I r h
  obtain ⟨ds, z, hN, hd, hz, q⟩ := h
  unfold biD at hz
  split at hz <;> first | (simp at *; done) | skip
  · cases hz
    obtain ⟨v, w, rfl, h1, h2⟩ := rds2 hd
    simp only [RD] at h1 h2
    subst h1 h2
    exact call_min2 hc pins s σ H _ us Q I r ⟨_, _, rfl, fin_int q⟩
/-! ### isinstance -/
section
variable {K : PySem.W.Frag}
/-- what a class of the text is to isinstance -/
structure ClsF (K : PySem.W.Frag) (x : Str) : Prop where
  ty : ∀ t ∈ tyNames, PySem.W.kitOne K (.type t) (.ref (He.ga K x)) = some false
  ob : ∀ t ∈ tyNames, PySem.W.kitOne K (.ref (He.ga K x)) (.type t) = some false
  cl : Cls K (He.ga K x)
  ha : PySem.W.findIn K (.ref (He.ga K x)) "__class__" = some (some (.builtin "object.__class__"))
  hn : PySem.W.specialIn K (.builtin "object.__class__") "__get__" = some (some (.builtin "getset_descriptor.__get__"))
  ht : PySem.W.takesIn K (.builtin "object.__class__") = some true
  hm : PySem.W.mroIn K (He.ga K x) (.type "object") = some true
  cd : ∃ cd, PySem.W.clsIn K (He.ga K x) = some cd ∧ cd.name = x ∧ cd.mro = [.ref (He.ga K x), .type "object"]
  tt : PySem.W.typeIn K (.ref (He.ga K x)) = some (.type "type")
theorem clsF {x : Str} (h : clsB K x = true) : ClsF K x := by
  unfold clsB at h
  simp only [Bool.and_eq_true, decide_eq_true_eq, List.all_eq_true] at h
  obtain ⟨h1, h2, h3, h4, h5, h6, h7, h8⟩ := h
  have hcd : ∃ cd, PySem.W.clsIn K (He.ga K x) = some cd ∧ cd.name = x ∧ cd.mro = [.ref (He.ga K x), .type "object"] := by
    cases q : PySem.W.clsIn K (He.ga K x) with
    | none => rw [q] at h1; cases h1
    | some cd =>
      rw [q] at h1
      simp only [Bool.and_eq_true, decide_eq_true_eq] at h1
      exact ⟨cd, rfl, h1.1, h1.2⟩
  refine ⟨h4, h5, He.cls_ok h2, h6, h7, h8, ?_, hcd, h3⟩
  obtain ⟨cd, e1, e2, e3⟩ := hcd
  unfold PySem.W.mroIn
  rw [e1]
  simp [e3]
theorem ClsF.cc {x y : Str} (F : ClsF K x) (G : ClsF K y) : PySem.W.kitOne K (.ref (He.ga K x)) (.ref (He.ga K y)) = some (decide (x = y)) := by
  obtain ⟨cd, e1, e2, e3⟩ := F.cd
  obtain ⟨cd', f1, f2, f3⟩ := G.cd
  unfold PySem.W.kitOne
  by_cases h : x = y
  · subst h
    rw [if_pos (beq_self_eq_true _)]
    simp
  · have hne : He.ga K x ≠ He.ga K y := fun z => by
      rw [z, f1] at e1
      cases e1
      exact h (e2.symm.trans f2)
    rw [if_neg (by simpa using hne)]
    unfold PySem.W.kitCls
    show (if ((PySem.W.clsIn K (He.ga K y)).isSome && PySem.W.typeIn K (.ref (He.ga K y)) == some (.type "type")) = true then PySem.W.subIn K (.ref (He.ga K x)) (.ref (He.ga K y)) else none) = _
    rw [if_pos (by rw [G.tt, f1] <;> rfl)]
    show PySem.W.mroIn K _ _ = _
    unfold PySem.W.mroIn
    rw [e1]
    simp [e3, h, Ne.symm hne, hne]
end
theorem kitB_tab : ∀ a ∈ tyNames, ∀ t ∈ tyNames, t ≠ "NoneType" → kitB a t = some (a == t || (a == "bool" && t == "int")) := by decide +kernel
theorem name_mem (t : Ty) : t.name ∈ tyNames := by cases t <;> decide
theorem name_inj : ∀ a t : Ty, (a.name == t.name) = decide (a = t) := by
  intro a t
  cases a <;> cases t <;> rfl
/-- the class of a value -/
def TyD (K : PySem.W.Frag) (d : D) (t : Value) : Prop := (∃ a, tyOf d = some a ∧ t = .type a.name) ∨ ∃ c n l, d = .obj c n l ∧ t = .ref (He.ga K c) ∧ clsB K c = true
theorem rd_ty {K : PySem.W.Frag} {H : Hp} {d : D} {x : V} (h : RD K pa N H d x) (hd : (∃ a, tyOf d = some a) ∨ ∃ c n l, d = .obj c n l) : ∃ t, TyX K H x t ∧ TyD K d t := by
  cases d with
  | non => simp only [RD] at h; subst h; exact ⟨_, .base .non, .inl ⟨.non, rfl, rfl⟩⟩
  | bl b => simp only [RD] at h; subst h; exact ⟨_, .base (.bl b), .inl ⟨.bool, rfl, rfl⟩⟩
  | int b => simp only [RD] at h; subst h; exact ⟨_, .base (.int b), .inl ⟨.int, rfl, rfl⟩⟩
  | str b => simp only [RD] at h; subst h; exact ⟨_, .base (.str b), .inl ⟨.str, rfl, rfl⟩⟩
  | tup b => simp only [RD] at h; obtain ⟨a, xs, rfl, _, ha, _⟩ := h; exact ⟨_, .base (.tup ha), .inl ⟨.tuple, rfl, rfl⟩⟩
  | lst b => simp only [RD] at h; obtain ⟨a, xs, rfl, _, ha, _⟩ := h; exact ⟨_, .base (.lst ha), .inl ⟨.list, rfl, rfl⟩⟩
  | dic b c => simp only [RD] at h; obtain ⟨a, _, rfl, _, ha, _⟩ := h; exact ⟨_, .base (.dK ha), .inl ⟨.dict, rfl, rfl⟩⟩
  | obj c n l =>
    simp only [RD] at h
    obtain ⟨a, dx, xs, rfl, _, ha, _, _, hb, _⟩ := h
    have F := clsF hb
    exact ⟨_, .base (.ins ha F.cl F.ha F.hn F.ht F.hm), .inr ⟨c, n, l, rfl, rfl, hb⟩⟩
  | fn b => rcases hd with ⟨a, e⟩ | ⟨c', n', l', e⟩ <;> cases e
  | cls b => rcases hd with ⟨a, e⟩ | ⟨c', n', l', e⟩ <;> cases e
  | ty b => rcases hd with ⟨a, e⟩ | ⟨c', n', l', e⟩ <;> cases e
  | pen => rcases hd with ⟨a, e⟩ | ⟨c', n', l', e⟩ <;> cases e
theorem isOne_known {d t : D} {b : Bool} (h : isOne d t = some b) : (∃ a, tyOf d = some a) ∨ ∃ c n l, d = .obj c n l := by
  unfold isOne at h
  split at h
  · split at h
    · cases h
    · unfold isTy at h
      split at h
      · exact .inr ⟨_, _, _, rfl⟩
      · obtain ⟨a, e, _⟩ := Option.map_eq_some_iff.mp h
        exact .inl ⟨a, e⟩
  · unfold isCl at h
    split at h
    · exact .inr ⟨_, _, _, rfl⟩
    · obtain ⟨a, e, _⟩ := Option.map_eq_some_iff.mp h
      exact .inl ⟨a, e⟩
  · cases h
theorem isOne_kit {K : PySem.W.Frag} {H : Hp} {d t : D} {b : Bool} {tv : Value} {y : V} (hy : RD K pa N H t y) (hd : TyD K d tv) (h : isOne d t = some b) : ∃ u, ClsV y u ∧ PySem.W.kitOne K tv u = some b := by
  unfold isOne at h
  split at h
  · rename_i t
    simp only [RD] at hy
    subst hy
    split at h
    · cases h
    · rename_i hne
      refine ⟨_, .ty _, ?_⟩
      have hnn : t.name ≠ "NoneType" := by cases t <;> first | decide | exact absurd rfl hne
      rcases hd with ⟨a, e, rfl⟩ | ⟨c, n, l, rfl, rfl, hb⟩
      · have e2 : isTy t d = some (decide (a = t) || (decide (a = .bool) && decide (t = .int))) := by
          cases d <;> simp_all [isTy, tyOf]
        rw [e2] at h
        cases h
        refine kit_ty ?_
        rw [kitB_tab _ (name_mem a) _ (name_mem t) hnn, name_inj]
        have z1 : (a.name == "bool") = decide (a = .bool) := name_inj a .bool
        have z2 : (t.name == "int") = decide (t = .int) := name_inj t .int
        rw [z1, z2]
      · cases h
        exact (clsF hb).ob _ (name_mem t)
  · rename_i x
    simp only [RD] at hy
    obtain ⟨rfl, hx⟩ := hy
    refine ⟨_, .own _, ?_⟩
    rcases hd with ⟨a, e, rfl⟩ | ⟨c, n, l, rfl, rfl, hb⟩
    · have e2 : isCl x d = some false := by
        cases d <;> simp_all [isCl, tyOf]
      rw [e2] at h
      cases h
      exact (clsF hx).ty _ (name_mem a)
    · cases h
      exact (clsF hb).cc (clsF hx)
  · cases h
theorem isAny_kit {K : PySem.W.Frag} {H : Hp} {d : D} {tv : Value} (hd : TyD K d tv) : ∀ {l : List D} {ys : List V} {b : Bool}, RDs K pa N H l ys → isAny d l = some b → ∃ us, Paired ClsV ys us ∧ PySem.W.kitAny K tv us = some b
  | [], ys, b, hy, h => by
    simp only [RDs] at hy
    subst hy
    cases h
    exact ⟨[], .nil, rfl⟩
  | t :: l, ys, b, hy, h => by
    simp only [RDs] at hy
    obtain ⟨v, r, rfl, h1, h2⟩ := hy
    simp only [isAny] at h
    cases hc : isOne d t with
    | none => rw [hc] at h; cases h
    | some c =>
      cases hb : isAny d l with
      | none => rw [hc, hb] at h; cases h
      | some c' =>
        rw [hc, hb] at h
        cases h
        obtain ⟨u, cu, ku⟩ := isOne_kit h1 hd hc
        obtain ⟨us, p, e⟩ := isAny_kit hd h2 hb
        refine ⟨u :: us, .cons cu p, ?_⟩
        cases c <;> simp [PySem.W.kitAny, ku, e]
theorem isAny_known {d : D} : ∀ {l : List D} {b : Bool}, l ≠ [] → isAny d l = some b → (∃ a, tyOf d = some a) ∨ ∃ c n l, d = .obj c n l
  | [], _, h, _ => absurd rfl h
  | t :: l, b, _, h => by
    simp only [isAny] at h
    cases hc : isOne d t with
    | none => rw [hc] at h; cases h
    | some c => exact isOne_known hc
theorem isiD_cases {d t : D} {b : Bool} (h : isiD d t = some b) : (∃ l, l ≠ [] ∧ t = .tup l ∧ isAny d l = some b) ∨ isOne d t = some b := by
  unfold isiD at h
  split at h
  · exact .inl ⟨_, List.cons_ne_nil _ _, rfl, h⟩
  · exact .inr h
theorem call_isiD : CallR X (.builtin "isinstance") (rDn X.K pa N (biD .isi)) := by
  intro pins s σ H xs us Q I r h
  obtain ⟨ds, z, hN, hd, hz, q⟩ := h
  unfold biD at hz
  split at hz <;> first | (simp at *; done) | skip
  · rename_i d t
    obtain ⟨b, hb, rfl⟩ := Option.map_eq_some_iff.mp hz
    obtain ⟨v, w, rfl, h1, h2⟩ := rds2 hd
    rcases isiD_cases hb with ⟨l, hl, rfl, ha⟩ | ho
    · simp only [RD] at h2
      obtain ⟨a, ys, rfl, na, hat, rr⟩ := h2
      obtain ⟨tv, ty, td⟩ := rd_ty h1 (isAny_known hl ha)
      obtain ⟨us', p, e⟩ := isAny_kit td rr ha
      exact call_isiT pins s σ H _ us Q I r ⟨v, a, ys, tv, us', b, rfl, hat, p, ty, e, fin_bl' q⟩
    · obtain ⟨tv, ty, td⟩ := rd_ty h1 (isOne_known ho)
      obtain ⟨u, cu, ku⟩ := isOne_kit h2 td ho
      exact call_isi pins s σ H _ us Q I r ⟨v, w, tv, u, b, rfl, cu, ty, ku, fin_bl' q⟩
end
end Mc

/-! Mc5b: sorted. -/
namespace Mc
open PySem PySem.Spec PyProof.Rows L2
section
variable {prog : Program} {w : World} {A : Around} {E : Value → Shared → Prop} {s : Shared}
theorem tup_isList {h : Heap} {l : Addr} {vs : Array Value} (t : h.IsTuple l vs) : ∃ o, h.get? l = some o ∧ o.cls = .type "tuple" ∧ ∃ n, o.data = .seq vs n := t
/-- a tuple's items collected -/
theorem collect_tup {l : Addr} {vs : List Value} {Q : List Value → Shared → Prop} (hl : s.heap.IsTuple l vs.toArray) (hsz : vs.length ≤ sizeLine)
    (h : Q vs { s with heap := (s.heap.push (seqObj "list" #[] 0)).update s.heap.objs.size (Obj.mapSeq (· ++ vs.toArray)) }) : wpAny (model prog w) A (collect (.ref l)) Q E s := by
  obtain ⟨ob, g0, cl, num, dat⟩ := tup_isList hl
  unfold collect
  refine wpAny_bind (wpAny_runValue (codeAny_builtin PyProof.Rows.entry_proto_collect' ?_))
  show wpAny _ _ (newList [] >>= fun acc => again (.builtin "list.__iadd__" ⟨[acc, .ref l], []⟩)) _ _ s
  refine wpAny_bind (wpAny_newList (wpAny_pure ⟨Code.quiet_builtin _ (by decide +kernel), codeAny_builtin PyProof.Rows.entry_list_iadd' ?_⟩))
  show wpAny _ _ (Builtin.List.listExtendWith (.ref s.heap.objs.size) (.ref l) (.ref s.heap.objs.size)) _ _ { s with heap := s.heap.push (seqObj "list" #[] 0) }
  unfold Builtin.List.listExtendWith
  have g1 : (s.heap.push (seqObj "list" #[] 0)).get? l = some ob := Heap.get?_push_of_some _ g0
  refine wpAny_bind (wpAny_typeOf (T := "tuple") ⟨ob, g1, cl⟩ ?_)
  have isT : (Value.type "tuple" == Value.type "tuple") = true := by rfl
  rw [if_pos (by rw [isT]; simp)]
  refine wpAny_bind (listItems_at g1 dat ?_)
  refine wpAny_bind (listItems_at (n := 0) (xs := #[]) (Heap.get?_push_size _ rfl) rfl ?_)
  rw [if_neg (by simp)]
  refine wpAny_bind (listUpdate_at (n := 0) (xs := #[]) (Heap.get?_push_size _ rfl) rfl ?_ (Nat.zero_le _) (by show (#[] ++ vs.toArray).size ≤ sizeLine + 1; simp only [Array.size_append, List.size_toArray, List.length_nil]; omega))
  refine wpAny_pure (wpAny_bind (wpAny_load (get?_update_seq (Heap.get?_push_size _ rfl) _) ?_))
  show wpAny _ _ (pure ((#[] : Array Value) ++ vs.toArray).toList) Q E _
  have same : ((#[] : Array Value) ++ vs.toArray).toList = vs := by simp
  rw [same]
  exact wpAny_pure h
/-- sorted of what is collected -/
theorem sorted_col {l : Addr} {vs : List Value} {Q : Value → Shared → Prop} {κ : PyProof.Rows.KeyKind} (hc : ∀ (A' : Around) (E' : Value → Shared → Prop) (Q' : List Value → Shared → Prop), Q' vs { s with heap := (s.heap.push (seqObj "list" #[] 0)).update s.heap.objs.size (Obj.mapSeq (· ++ vs.toArray)) } → wpAny (model prog w) A' (collect (.ref l)) Q' E' s)
    (S : PySem.W.SortsAt prog w A.in1.in1 { s with heap := PySem.W.sortingHeap (PySem.W.copyHeap s.heap vs) (s.heap.objs.size + 1) vs } κ vs) (hL : vs.length ≤ sizeLine)
    (h : Q (.ref (s.heap.objs.size + 1)) { s with heap := sortedAll s.heap vs (PySem.W.sortVals κ false vs vs).toArray }) : wpAny (model prog w) A (call (.builtin "sorted") [.ref l]) Q E s := by
  refine call_function_entry_kw kind_sorted plain_sorted entry_sorted (args_sorted1 _) ?_
  unfold Builtin.«sorted»
  refine wpAny_bind (m := checkCount "sorted" 1 1 _) (wpAny_pure (wpAny_bind (hc _ _ _ (wpAny_bind (wpAny_newList ?_ hL)))))
  have at2 : ((s.heap.push (seqObj "list" #[] 0)).update s.heap.objs.size (Obj.mapSeq (· ++ vs.toArray))).objs.size = s.heap.objs.size + 1 := by rw [Heap.size_update, size_push']
  show wpAny _ _ _ _ _ { s with heap := PySem.W.copyHeap s.heap vs }
  rw [at2]
  refine wpAny_bind (wpAny_holding (wpAny_call_entry_kw slot_list_sort ⟨_, PySem.W.copyHeap_at s.heap vs, rfl⟩ entry_list_sort ?_ (args_list_sort _)))
  exact PySem.W.list_sort_vals (s := { s with heap := PySem.W.copyHeap s.heap vs }) (PySem.W.copyHeap_at s.heap vs) S hL ⟨_, rfl, wpAny_pure ⟨_, rfl, h⟩⟩
end
/-! ### it is right -/
mutual
theorem sameP_alike : ∀ (z x y : PyData), sameP z x = true → sameP z y = true → PySem.W.alike x y = true
  | .none, x, y, h1, h2 => by cases x <;> first | (cases h1; done) | (cases y <;> first | (cases h2; done) | rfl)
  | .bool _, x, y, h1, h2 => by cases x <;> first | (cases h1; done) | (cases y <;> first | (cases h2; done) | rfl)
  | .int _, x, y, h1, h2 => by cases x <;> first | (cases h1; done) | (cases y <;> first | (cases h2; done) | rfl)
  | .str _, x, y, h1, h2 => by cases x <;> first | (cases h1; done) | (cases y <;> first | (cases h2; done) | rfl)
  | .list zs, x, y, h1, h2 => by
    cases x <;> first | (cases h1; done) | skip
    cases y <;> first | (cases h2; done) | skip
    exact samePs_alike zs _ _ h1 h2
  | .tuple zs, x, y, h1, h2 => by
    cases x <;> first | (cases h1; done) | skip
    cases y <;> first | (cases h2; done) | skip
    exact samePs_alike zs _ _ h1 h2
  | .dict _, x, y, h1, h2 => by cases x <;> cases h1
theorem samePs_alike : ∀ (z x y : List PyData), samePs z x = true → samePs z y = true → PySem.W.alikeAll x y = true
  | [], x, y, h1, h2 => by cases x with
    | nil => simp [PySem.W.alikeAll]
    | cons a b => simp [samePs] at h1
  | z :: zs, x, y, h1, h2 => by
    cases x with
    | nil => simp [samePs] at h1
    | cons a b =>
      cases y with
      | nil => simp [samePs] at h2
      | cons c d =>
        simp only [samePs, Bool.and_eq_true] at h1 h2
        simp only [PySem.W.alikeAll, Bool.and_eq_true]
        exact ⟨sameP_alike z a c h1.1 h2.1, samePs_alike zs b d h1.2 h2.2⟩
end
theorem allAl_ok {ds : List PyData} (h : allAl ds = true) : PySem.W.AllAlike ds := by
  unfold allAl at h
  split at h
  · intro d hd; cases hd
  · rename_i z r
    intro d hd e he
    rcases Bool.or_eq_true_iff.mp h with h | h
    · exact sameP_alike z d e (List.all_eq_true.mp h d hd) (List.all_eq_true.mp h e he)
    · exact List.all_eq_true.mp (List.all_eq_true.mp h d hd) e he
theorem sortB_ok {ds : List PyData} (h : sortB ds = true) : PySem.W.Sortable ds := by
  rcases Bool.or_eq_true_iff.mp h with h | h
  · refine .inl fun d hd => ?_
    have z := List.all_eq_true.mp h d hd
    split at z
    · exact ⟨_, _, rfl⟩
    · cases z
  · refine .inr fun d hd => ?_
    have z := List.all_eq_true.mp h d hd
    split at z
    · cases z
    · cases z
    · rename_i h1 h2
      exact ⟨h1, h2⟩
theorem leD_trans (a b c : D) (h1 : leD a b = true) (h2 : leD b c = true) : leD a c = true := (PySem.W.sortLe_total (listOrd itemOrd) false fun b => PySem.W.keyToks (datD b)).trans a b c h1 h2
theorem adjB_pw : ∀ {l : List D}, adjB l = true → l.Pairwise fun a b => leD a b = true
  | [], _ => .nil
  | [x], _ => List.pairwise_singleton _ _
  | x :: y :: l, h => by
    have h' : (leD x y && adjB (y :: l)) = true := h
    rw [Bool.and_eq_true] at h'
    have ih := adjB_pw h'.2
    refine List.pairwise_cons.mpr ⟨fun z hz => ?_, ih⟩
    rcases List.mem_cons.mp hz with e | hz
    · rw [e]; exact h'.1
    · exact leD_trans _ _ _ h'.1 ((List.pairwise_cons.mp ih).1 z hz)
theorem sortD_eq {l r : List D} (h : sortD l = some r) : ∃ ds, pys l = some ds ∧ allAl ds = true ∧ sortB ds = true ∧ (∀ d ∈ ds, d.depth ≤ 60) ∧ l.length ≤ sizeLine ∧ r = l.mergeSort leD := by
  unfold sortD at h
  split at h
  · rename_i ds e
    split at h
    · rename_i hc
      refine ⟨ds, e, hc.1, hc.2.1, fun d hd => by simpa using List.all_eq_true.mp hc.2.2.1 d hd, hc.2.2.2, ?_⟩
      split at h
      · rename_i ha
        cases h
        exact (List.mergeSort_of_pairwise (adjB_pw ha)).symm
      · cases h; rfl
    · cases h
  · cases h
theorem pys_dat : ∀ {l : List D} {ds : List PyData}, pys l = some ds → l.map datD = ds
  | [], ds, e => by simp only [pys, Option.some.injEq] at e; subst e; rfl
  | d :: l, ds, e => by
    simp only [pys] at e
    split at e
    · rename_i x y h1 h2
      cases e
      rw [List.map_cons, pys_dat h2]
      unfold datD
      rw [h1]; rfl
    · cases e
theorem pys_mem : ∀ {l : List D} {ds : List PyData}, pys l = some ds → ∀ d ∈ l, py d = some (datD d)
  | [], _, _, d, hd => by cases hd
  | a :: l, ds, e, d, hd => by
    simp only [pys] at e
    split at e
    · rename_i x y h1 h2
      rcases List.mem_cons.mp hd with rfl | hd
      · unfold datD; rw [h1]; rfl
      · exact pys_mem h2 d hd
    · cases e
section
variable {X : Cx} {pa : Pa} {N : Addr → Prop}
theorem each_rds {H : Hp} : ∀ {l : List D} {xs : List V} {us : List Value}, RDs X.K pa N H l xs → Vals xs us → PySem.W.EachIs (fun u d => ∃ x, RelV x u ∧ RD X.K pa N H d x) us l
  | [], xs, us, h, r => by
    simp only [RDs] at h
    subst h
    cases r
    exact .nil
  | d :: l, xs, us, h, r => by
    simp only [RDs] at h
    obtain ⟨v, ys, rfl, h1, h2⟩ := h
    cases r with
    | cons r1 r2 => exact .cons ⟨v, r1, h1⟩ (each_rds h2 r2)
theorem rds_each {H : Hp} : ∀ {l : List D} {us : List Value}, PySem.W.EachIs (fun u d => ∃ x, RelV x u ∧ RD X.K pa N H d x) us l → ∃ xs, RDs X.K pa N H l xs ∧ Vals xs us
  | [], _, .nil => ⟨[], RDs.nil, .nil⟩
  | d :: l, _, .cons ⟨x, r, h⟩ t => by
    obtain ⟨xs, h1, h2⟩ := rds_each t
    exact ⟨x :: xs, RDs.cons h h1, .cons r h2⟩
theorem each_reads {pins : List (Addr × Obj)} {σ : L2.St} {H : Hp} {s : Shared} (I : Inv X pins σ H s) : ∀ {l : List D} {us : List Value}, (∀ d ∈ l, py d = some (datD d)) → PySem.W.EachIs (fun u d => ∃ x, RelV x u ∧ RD X.K pa N H d x) us l → PySem.W.EachIs (fun u d => ∃ as, Reads s.heap u (datD d) as) us l
  | [], _, _, .nil => .nil
  | d :: l, _, hp, .cons ⟨x, r, h⟩ t => .cons (Dp.reads I _ _ _ (RD.dp _ _ _ (hp d List.mem_cons_self) h) r) (each_reads I (fun e he => hp e (List.mem_cons_of_mem _ he)) t)
theorem run_sorted {pins : List (Addr × Obj)} {σ : L2.St} {H : Hp} {s : Shared} {l r : List D} {xs : List V} {its : List Value} {a : Addr} {Q : VK} (hu : X.A.units + 65 < cLine) (I : Inv X pins σ H s) (rv : Vals xs its) (rd : RDs X.K pa N H l xs) (e : sortD l = some r)
    (hc : ∀ (A' : Around) (E' : Value → Shared → Prop) (Q' : List Value → Shared → Prop), Q' its { s with heap := (s.heap.push (seqObj "list" #[] 0)).update s.heap.objs.size (Obj.mapSeq (· ++ its.toArray)) } → wpAny (model X.prog X.w) A' (collect (.ref a)) Q' E' s)
    (hN : ∀ a, N a → H a ≠ none) (q : ∀ p ys, H p = none → RDs X.K pa N H r ys → Q (.ref p) (upd H p (.lst ys))) : wpAny (model X.prog X.w) X.A (call (.builtin "sorted") [.ref a]) (EP X pins σ Q) X.xe s := by
  obtain ⟨ds, e1, e2, e3, e4, e5, rfl⟩ := sortD_eq e
  have hR := each_rds rd rv
  have hrd := each_reads I (pys_mem e1) hR
  have hlen : its.length = l.length := hR.length
  have er' : PySem.W.EachIs (fun v b => ∃ as, Reads (PySem.W.sortingHeap (PySem.W.copyHeap s.heap its) (s.heap.objs.size + 1) its) v (datD b) as) its l := hrd.mono fun _ _ ⟨as, r⟩ => ⟨as, PyProof.Rows.Reads.keeps (fun _ _ => PySem.W.sorting_copy_old) r⟩
  refine sorted_col hc (PySem.W.SortsAt.data (s := { s with heap := PySem.W.sortingHeap (PySem.W.copyHeap s.heap its) (s.heap.objs.size + 1) its }) (PySem.W.each_map (R := fun v d => ∃ as, Reads (PySem.W.sortingHeap (PySem.W.copyHeap s.heap its) (s.heap.objs.size + 1) its) v d as) datD er') (by rw [pys_dat e1]; exact allAl_ok e2) (by rw [pys_dat e1]; exact sortB_ok e3) (fun d hd => ?_)) (by rw [hlen]; exact e5) ?_
  · rw [pys_dat e1] at hd
    have := e4 d hd
    show X.A.units + 1 + 1 + d.depth < cLine
    omega
  · have hout := PySem.W.sortVals_data false hR er' (by rw [pys_dat e1]; exact allAl_ok e2)
    obtain ⟨ys, h1, h2⟩ := rds_each hout
    obtain ⟨ep, he'⟩ := PyProof.Rows.sortedAll_at s.heap its (PySem.W.sortVals (PySem.W.dataKind (PySem.W.sortingHeap (PySem.W.copyHeap s.heap its) (s.heap.objs.size + 1) its) (l.map datD)) false its its).toArray
    have hz : ys.length ≤ sizeLine := by rw [← h1.length, List.length_mergeSort]; exact e5
    exact ⟨.ref _, upd H (s.heap.objs.size + 1) (.lst ys), I.laid (t' := s.toks) (fun _ _ => PyProof.Rows.sortedAll_old) (Nat.le_succ _) ⟨hz, _, ep, h2, he'⟩, rfl, q _ _ (I.hok.fresh (Nat.le_succ _)) h1⟩
def rSrt (K : PySem.W.Frag) (pa : Pa) (N : Addr → Prop) : List V → Hp → VK → Prop := fun vs H Q => ∃ a xs l r, vs = [.ref a] ∧ (SqL K H a xs ∨ SqT K H a xs) ∧ RDs K pa N H l xs ∧ sortD l = some r ∧ (∀ a, N a → H a ≠ none) ∧
  ∀ p ys, H p = none → RDs K pa N H r ys → Q (.ref p) (upd H p (.lst ys))
theorem call_srt (hu : X.A.units + 65 < cLine) : CallR X (.builtin "sorted") (rSrt X.K pa N) := by
  intro pins s σ H vs us Q I r h
  obtain ⟨a, xs, l, rr, rfl, hs, rd, e, hN, q⟩ := h
  rw [Vals.ref1 r]
  rcases hs with hs | hs
  · obtain ⟨its, rv, hl, hz⟩ := I.list hs
    exact run_sorted hu I rv rd e (fun A' E' Q' h => PyProof.Rows.collect_list hl.isList h (by rw [← rv.length]; exact hz)) hN q
  · obtain ⟨its, rv, ht, hz⟩ := I.tuple hs
    exact run_sorted hu I rv rd e (fun A' E' Q' h => collect_tup ht (by rw [← rv.length]; exact hz) h) hN q
theorem call_sortedD (hu : X.A.units + 65 < cLine) : CallR X (.builtin "sorted") (rDn X.K pa N (biD .sorted)) := by
  intro pins s σ H xs us Q I r h
  obtain ⟨ds, z, hN, hd, hz, q⟩ := h
  unfold biD at hz
  split at hz <;> first | (simp at *; done) | skip
  · obtain ⟨rr, er, rfl⟩ := Option.map_eq_some_iff.mp hz
    obtain ⟨v, rfl, h1⟩ := rds1 hd
    simp only [RD] at h1
    obtain ⟨a, ys, rfl, na, ha, rd⟩ := h1
    exact call_srt hu pins s σ H _ us Q I r ⟨a, ys, _, rr, rfl, .inl (.of ha), rd, er, hN, fun p zs hp hr => fin_lst hN hr q p hp⟩
  · obtain ⟨rr, er, rfl⟩ := Option.map_eq_some_iff.mp hz
    obtain ⟨v, rfl, h1⟩ := rds1 hd
    simp only [RD] at h1
    obtain ⟨a, ys, rfl, na, ha, rd⟩ := h1
    exact call_srt hu pins s σ H _ us Q I r ⟨a, ys, _, rr, rfl, .inr (.of ha), rd, er, hN, fun p zs hp hr => fin_lst hN hr q p hp⟩
end
end Mc

/-! Mc6: the rules of expressions. -/
namespace L2
open PySem PySem.Spec PyProof.Rows
theorem PE.weak {X : Cx} {e : Expr} {t t' : TE} (h : PE X e t) (hw : ∀ σ H Q, t' σ H Q → t σ H Q) : PE X e t' := ⟨fun pins s σ H Q I q => h.run pins s σ H Q I (hw σ H Q q)⟩
theorem PT.weak {X : Cx} {e : Expr} {t t' : TT} (h : PT X e t) (hw : ∀ σ H Q, t' σ H Q → t σ H Q) : PT X e t' := ⟨fun pins s σ H Q I q => h.run pins s σ H Q I (hw σ H Q q)⟩
theorem PW.weak {X : Cx} {e : Expr} {t t' : TT} (h : PW X e t) (hw : ∀ σ H Q, t' σ H Q → t σ H Q) : PW X e t' := ⟨fun wh pins s σ H Q I q => h.run wh pins s σ H Q I (hw σ H Q q)⟩
theorem PA.weak {X : Cx} {e : List Expr} {t t' : TA} (h : PA X e t) (hw : ∀ σ H Q, t' σ H Q → t σ H Q) : PA X e t' := ⟨fun pos pins s σ H Q I q => h.run pos pins s σ H Q I (hw σ H Q q)⟩
theorem PI.weak {X : Cx} {tg e : Expr} {t t' : TI} (h : PI X tg e t) (hw : ∀ σ H Q, t' σ H Q → t σ H Q) : PI X tg e t' := ⟨fun pins s σ H Q I q => h.run pins s σ H Q I (hw σ H Q q)⟩
theorem PS.weak {X : Cx} {e : Stmt} {t t' : TS} (h : PS X e t) (hw : ∀ D σ H, t' D σ H → t D σ H) : PS X e t' := ⟨fun pins s σ H D I q => h.run pins s σ H D I (hw D σ H q)⟩
theorem PSs.weak {X : Cx} {e : List Stmt} {t t' : TS} (h : PSs X e t) (hw : ∀ D σ H, t' D σ H → t D σ H) : PSs X e t' := ⟨fun pins s σ H D I q => h.run pins s σ H D I (hw D σ H q)⟩
end L2
namespace Mc
open PySem PySem.Spec PyProof.Rows L2
/-! ### kinds -/
def jn (a b : Kd) : Kd := if a = .bo then .bo else if b = .bo then .bo else .sh
/-- a slot, read -/
def rdK : Kd → Kd
  | .fr _ => .bo
  | c => c
def shK : Kd → Kd
  | .bo => .bo
  | _ => .sh
section
variable {K : PySem.W.Frag} {pa : Pa} {k : Nat → Kd} {σ : L2.St} {H H' H1 : Hp} {m : Ms} {W : WX} {κ κ1 κ2 : Kd}
theorem jn_bo {a b : Kd} (h : jn a b ≠ .bo) : a ≠ .bo ∧ b ≠ .bo := by
  unfold jn at h
  refine ⟨fun z => h (if_pos z), fun z => ?_⟩
  by_cases y : a = .bo
  · exact h (if_pos y)
  · exact h (by rw [if_neg y, if_pos z])
theorem jn_cases (a b : Kd) : jn a b = .bo ∨ jn a b = .sh := by
  unfold jn
  split
  · exact .inl rfl
  · split
    · exact .inl rfl
    · exact .inr rfl
theorem base_sh {c : Kd} (h : c ≠ .bo) : c.base m = m.M := by cases c <;> first | rfl | exact absurd rfl h
theorem VR.up {d : D} {v : V} (h : VR K pa m H H' κ1 d v) (hd : ∀ a, m.M a → H a ≠ none) (hb : κ ≠ .bo → κ1 ≠ .bo) : RD K pa (κ.base m) H' d v := by
  by_cases z : κ = .bo
  · rw [z]; exact h.bo hd
  · have y := h.base hd
    rw [base_sh (hb z)] at y
    rw [base_sh z]; exact y
theorem RD.move {N : Addr → Prop} {d : D} {v : V} (h : RD K pa N H d v) (hk : Keep pa H H') (hp : ∀ a, ¬ pa.No a → N a) : RD K pa N H' d v := RD.stay (stay_of hk hp) (fun _ n _ => n) d v h
theorem RDs.move {N : Addr → Prop} {d : List D} {v : List V} (h : RDs K pa N H d v) (hk : Keep pa H H') (hp : ∀ a, ¬ pa.No a → N a) : RDs K pa N H' d v := RDs.stay (stay_of hk hp) (fun _ n _ => n) d v h
theorem Rel.basePa (h : Rel K pa k σ H m) (c : Kd) : ∀ a, ¬ pa.No a → c.base m a := fun a n => by
  cases c with
  | bo => exact h.pa0 a n
  | sh => exact .inl (h.pa0 a n)
  | fr _ => exact .inl (h.pa0 a n)
theorem Rel.baseDom (h : Rel K pa k σ H m) (c : Kd) : ∀ a, c.base m a → H a ≠ none := by
  cases c with
  | bo => exact h.dom
  | sh => exact fun a => h.Mdom
  | fr n => exact fun a => h.Mdom
theorem Kd.base_p {p : Pen} {c : Kd} : c.base { m with p := p } = c.base m := by cases c <;> rfl
theorem Grow.keep {pa : Pa} (g : Grow H H') : Keep pa H H' := fun a o _ e => g a o e
theorem PenR.grow {M0 : Addr → Prop} {p : Pen} (h : PenR pa M0 p H) (g : Grow H H') : PenR pa M0 p H' := ⟨h.m1, h.m2, h.ne, g _ _ h.d, g _ _ h.c, h.tm, h.tb.ext g⟩
/-- an operation's end -/
theorem Post.fin {d : D} {Q : VK} {c : Kd} {p : Pen} (hr : Rel K pa k σ H m) (h : Post K pa W σ m H c (.ok d p) Q) (hp : PenR pa m.M0 p H) (hc : c = .bo ∨ c = .sh) : ∀ v H', Grow H H' → RD K pa (c.base m) H' d v → Q v H' := fun v H' g r => h v H' g.keep (hp.grow g) (by
  rcases hc with rfl | rfl
  · exact r
  · exact r)
end
/-! ### expressions -/
section
variable {X : Cx} {W : WX} {k : Nat → Kd} {κa κb κc : Kd} {a b c : Expr} {ra rb rc : Sl → P → R D} {pos : Pos}
theorem ev_var {i : Nat} {x : Str} (hN : X.N[i]? = some x) (hv : Vis X.env.scope x) (hd : (x == ("__debug__" : Str)) = false) (hcd : (x == ("__classdict__" : Str)) = false) : PE X (.Name x pos) (tev X.K W k (rdK (k i)) fun s p => getS s i p) := by
  refine (pe_var hN hv hd hcd).weak fun σ H Q ⟨m, pa, hr, h⟩ => ?_
  have h : Post X.K pa W σ m H (rdK (k i)) (getS m.s i m.p) Q := h
  unfold getS at h
  split at h
  · rename_i d e
    obtain ⟨v, e1, r⟩ := hr.sl i d e
    refine ⟨v, e1, h v H .refl hr.pen ?_⟩
    cases q : k i with
    | bo => rw [q] at r; exact r.2
    | sh => rw [q] at r; exact r.2
    | fr n =>
      rw [q] at r
      have r' : Own X.K pa m.M H n d v (m.fp i) := r
      exact Own.rd (fun a n _ z => n (.inl z)) (fun a ha => hr.free i a ha) r'
  · exact h.elim
theorem ev_cst {d : D} {v : V} (he : PE X a (tC v)) (hv : ∀ pa N H, RD X.K pa N H d v) : PE X a (tev X.K W k .sh fun _ p => .ok d p) :=
  he.weak fun σ H Q ⟨m, pa, hr, h⟩ => h v H .refl hr.pen (hv pa _ H)
theorem of_ok {α : Type} {o : Option α} {p : P} {f : α → P → R D} {K pa σ m H κ Q} (h : Post K pa W σ m H κ ((R.of o p).bd f) Q) : ∃ x, o = some x ∧ Post K pa W σ m H κ (f x p) Q := by
  cases o with
  | none => exact h.elim
  | some x => exact ⟨x, rfl, h⟩
theorem of_ok' {o : Option D} {p : P} {K pa σ m H κ Q} (h : Post K pa W σ m H κ (R.of o p) Q) : ∃ x, o = some x ∧ Post K pa W σ m H κ (.ok x p) Q := by
  cases o with
  | none => exact h.elim
  | some x => exact ⟨x, rfl, h⟩
theorem ev_bin {o : Operator} (ha : PE X a (tev X.K W k κa ra)) (hb : PE X b (tev X.K W k κb rb)) : PE X (.BinOp a o b pos) (tev X.K W k (jn κa κb) fun s p => (ra s p).bd fun x p => (rb s p).bd fun y p => .of (binD o x y) p) := by
  refine ⟨fun pins s σ H Q I h => ?_⟩
  obtain ⟨m, pa, hr, h⟩ := h
  refine (pe_op (op_binD (pa := pa) (N := (jn κa κb).base m)) ha hb).run pins s σ H Q I ?_
  refine tev_bd hr h fun d p v H1 e hk hr1 hv h1 => ?_
  refine tev_bd hr1 h1 fun d2 p2 v2 H2 e2 hk2 hr2 hv2 h2 => ?_
  obtain ⟨z, ez, h3⟩ := of_ok' h2
  have r1 := (hv.up (κ := jn κa κb) (fun a => hr.Mdom) fun z => (jn_bo z).1).move hk2 (hr.basePa _)
  have r2 := VR.up (m := { m with p := p }) (κ := jn κa κb) hv2 (fun a => hr1.Mdom) fun z => (jn_bo z).2
  rw [Kd.base_p] at r2
  refine ⟨d, d2, z, fun a ha => hr2.baseDom (jn κa κb) a (by rw [Kd.base_p, Kd.base_p]; exact ha), r1, r2, ez, fun v H' g r => ?_⟩
  exact h3.fin hr2 hr2.pen (jn_cases _ _) v H' g (by rw [Kd.base_p, Kd.base_p]; exact r)
theorem ev_cmp {o : CmpOp} (hu : X.A.units + 65 < cLine) (hm : behindInMarks o b = false) (ha : PE X a (tev X.K W k κa ra)) (hb : PE X b (tev X.K W k κb rb)) : PE X (.Compare a [o] [b] pos) (tev X.K W k .sh fun s p => (ra s p).bd fun x p => (rb s p).bd fun y p => .of ((cmpD o x y).map .bl) p) := by
  refine ⟨fun pins s σ H Q I h => ?_⟩
  obtain ⟨m, pa, hr, h⟩ := h
  refine (pe_cmpR (op_cmpD (pa := pa) (N := m.M0) hu) ha hb hm).run pins s σ H Q I ?_
  refine tev_bd hr h fun d p v H1 e hk hr1 hv h1 => ?_
  refine tev_bd hr1 h1 fun d2 p2 v2 H2 e2 hk2 hr2 hv2 h2 => ?_
  obtain ⟨z, ez, h3⟩ := of_ok' h2
  obtain ⟨bb, eb, rfl⟩ := Option.map_eq_some_iff.mp ez
  have r1 := (hv.bo fun a => hr.Mdom).move hk2 hr.pa0
  have r2 := VR.bo (m := { m with p := p }) hv2 fun a => hr1.Mdom
  refine ⟨d, d2, .bl bb, hr2.dom, r1, r2, ez, fun v H' g r => h3 v H' g.keep (hr2.pen.grow g) ?_⟩
  simp only [RD] at r
  show RD _ _ _ _ _ _
  simp only [RD]; exact r
/-- a op b op c op d -/
def tChain3 (r r' r'' : R2) (ta tb tc td : TE) : TE := fun σ H Q => ta σ H fun x H1 => tb σ H1 fun y H2 => r x y H2 fun z H3 => ∃ k, z = .bl k ∧
  (if k = true then tc σ H3 fun u H4 => r' y u H4 fun z H5 => ∃ k, z = .bl k ∧ (if k = true then td σ H5 fun w H6 => r'' u w H6 Q else Q (.bl false) H5) else Q (.bl false) H3)
theorem pe_chain3 {d : Expr} {td : TE} {ta tb tc : TE} {o o' o'' : CmpOp} {r r' r'' : R2} (ho : OpR X (compareOp o) r) (ho' : OpR X (compareOp o') r') (ho'' : OpR X (compareOp o'') r'') (ha : PE X a ta) (hb : PE X b tb) (hc : PE X c tc) (hd : PE X d td)
    (hm : lastMarks [o, o', o''] [b, c, d] = false) : PE X (.Compare a [o, o', o''] [b, c, d] pos) (tChain3 r r' r'' ta tb tc td) := by
  refine ⟨fun pins s σ H Q I h => ?_⟩
  refine Compare_chain (thn (ha.run pins s σ H _ I h) fun v s1 ⟨x, H1, I1, r1, q1⟩ => chain_link (thn (hb.run pins s1 σ H1 _ I1 q1) fun u s2 ⟨y, H2, I2, r2, q2⟩ =>
    thn (ho pins s2 σ H2 x y v u _ I2 r1 r2 q2) fun d s3 ⟨z, H3, I3, r3, k, e, q3⟩ => ?_)) hm
  subst e
  cases r3
  refine wpAny_truthy_bool ?_
  cases k with
  | false => exact ite_ff ⟨.bl false, H3, I3, rfl, q3⟩
  | true =>
    refine ite_tt (chain_link (thn (hc.run pins s3 σ H3 _ I3 q3) fun w' s4 ⟨z', H4, I4, r4, q4⟩ => thn (ho' pins s4 σ H4 y z' u w' _ I4 r2 r4 q4) fun d s5 ⟨z2, H5, I5, r5, k2, e2, q5⟩ => ?_))
    subst e2
    cases r5
    refine wpAny_truthy_bool ?_
    cases k2 with
    | false => exact ite_ff ⟨.bl false, H5, I5, rfl, q5⟩
    | true => exact ite_tt (chain_last (thn (hd.run pins s5 σ H5 _ I5 q5) fun w2 s6 ⟨z3, H6, I6, r6, q6⟩ => ho'' pins s6 σ H6 z' z3 w' w2 Q I6 r4 r6 q6))
theorem pt_chain3 {d : Expr} {td : TE} {ta tb tc : TE} {o o' o'' : CmpOp} {r r' r'' : R2} (ho : OpR X (compareOp o) r) (ho' : OpR X (compareOp o') r') (ho'' : OpR X (compareOp o'') r'') (ha : PE X a ta) (hb : PE X b tb) (hc : PE X c tc) (hd : PE X d td)
    (hm : lastMarks [o, o', o''] [b, c, d] = false) : PT X (.Compare a [o, o', o''] [b, c, d] pos) (tTest (tChain3 r r' r'' ta tb tc td)) := by
  refine ⟨fun pins s σ H Q I h => ?_⟩
  refine isTrue_chain (thn (ha.run pins s σ H _ I h) fun v s1 ⟨x, H1, I1, r1, q1⟩ => test_link (thn (hb.run pins s1 σ H1 _ I1 q1) fun u s2 ⟨y, H2, I2, r2, q2⟩ =>
    thn (ho pins s2 σ H2 x y v u _ I2 r1 r2 q2) fun d s3 ⟨z, H3, I3, r3, k, e, q3⟩ => ?_)) hm
  subst e
  cases r3
  refine wpAny_truthy_bool ?_
  cases k with
  | false =>
    obtain ⟨k', e', q'⟩ := q3
    cases e'
    exact ite_ff ⟨H3, I3, q'⟩
  | true =>
    refine ite_tt (test_link (thn (hc.run pins s3 σ H3 _ I3 q3) fun w' s4 ⟨z', H4, I4, r4, q4⟩ => thn (ho' pins s4 σ H4 y z' u w' _ I4 r2 r4 q4) fun d s5 ⟨z2, H5, I5, r5, k2, e2, q5⟩ => ?_))
    subst e2
    cases r5
    refine wpAny_truthy_bool ?_
    cases k2 with
    | false =>
      obtain ⟨k', e', q'⟩ := q5
      cases e'
      exact ite_ff ⟨H5, I5, q'⟩
    | true =>
      refine ite_tt (test_last (thn (hd.run pins s5 σ H5 _ I5 q5) fun w2 s6 ⟨z3, H6, I6, r6, q6⟩ => thn (ho'' pins s6 σ H6 z' z3 w' w2 _ I6 r4 r6 q6) fun d' s7 ⟨z4, H7, I7, r7, k3, e3, q7⟩ => ?_))
      subst e3
      cases r7
      exact wpAny_truthy_bool ⟨H7, I7, q7⟩
theorem ev_cmp3 {d : Expr} {κd : Kd} {rd : Sl → P → R D} {o o' o'' : CmpOp} (hu : X.A.units + 65 < cLine) (hm : lastMarks [o, o', o''] [b, c, d] = false) (ha : PE X a (tev X.K W k κa ra)) (hb : PE X b (tev X.K W k κb rb)) (hc : PE X c (tev X.K W k κc rc)) (hd : PE X d (tev X.K W k κd rd)) :
    PE X (.Compare a [o, o', o''] [b, c, d] pos) (tev X.K W k .sh fun s p => (ra s p).bd fun x p => (rb s p).bd fun y p => (R.of (cmpD o x y) p).bd fun k p => if k = true then (rc s p).bd fun z p => (R.of (cmpD o' y z) p).bd fun k p => if k = true then (rd s p).bd fun w p => .of ((cmpD o'' z w).map .bl) p else .ok (.bl false) p else .ok (.bl false) p) := by
  refine ⟨fun pins s σ H Q I h => ?_⟩
  obtain ⟨m, pa, hr, h⟩ := h
  refine (pe_chain3 (op_cmpD (pa := pa) (N := m.M0) hu) (op_cmpD (pa := pa) (N := m.M0) hu) (op_cmpD (pa := pa) (N := m.M0) hu) ha hb hc hd hm).run pins s σ H Q I ?_
  refine tev_bd hr h fun d p v H1 e hk hr1 hv h1 => ?_
  refine tev_bd hr1 h1 fun d2 p2 v2 H2 e2 hk2 hr2 hv2 h2 => ?_
  obtain ⟨kk, ek, h3⟩ := of_ok h2
  have r1 := (hv.bo fun a => hr.Mdom).move hk2 hr.pa0
  have r2 := VR.bo (m := { m with p := p }) hv2 fun a => hr1.Mdom
  refine ⟨d, d2, .bl kk, hr2.dom, r1, r2, by simp only [ek, Option.map_some], fun v H' g r => ?_⟩
  simp only [RD] at r
  refine ⟨kk, r, ?_⟩
  have hr3 : Rel X.K pa k σ H' { m with p := p2 } := hr2.keep (p' := p2) g.keep (hr2.pen.grow g)
  have h3' := Post.move (m := { m with p := p2 }) (p1 := p2) g.keep (hr2.pen.grow g) h3
  cases kk with
  | true =>
    rw [if_pos rfl] at h3' ⊢
    refine tev_bd hr3 h3' fun d4 p4 v4 H4 e4 hk4 hr4 hv4 h4 => ?_
    obtain ⟨kk2, ek2, h5⟩ := of_ok h4
    have r2' := (r2.move g.keep hr.pa0).move hk4 hr.pa0
    have r4 := VR.bo (m := { m with p := p2 }) hv4 fun a => hr3.Mdom
    refine ⟨d2, d4, .bl kk2, hr4.dom, r2', r4, by simp only [ek2, Option.map_some], fun v H' g2 r => ?_⟩
    simp only [RD] at r
    refine ⟨kk2, r, ?_⟩
    have hr5 : Rel X.K pa k σ H' { m with p := p4 } := hr4.keep (p' := p4) g2.keep (hr4.pen.grow g2)
    have h5' := Post.move (m := { m with p := p4 }) (p1 := p4) g2.keep (hr4.pen.grow g2) h5
    cases kk2 with
    | true =>
      rw [if_pos rfl] at h5' ⊢
      refine tev_bd hr5 h5' fun d6 p6 v6 H6 e6 hk6 hr6 hv6 h6 => ?_
      obtain ⟨z, ez, h7⟩ := of_ok' h6
      obtain ⟨bb, eb, rfl⟩ := Option.map_eq_some_iff.mp ez
      have r4' := (r4.move g2.keep hr.pa0).move hk6 hr.pa0
      have r6 := VR.bo (m := { m with p := p4 }) hv6 fun a => hr5.Mdom
      refine ⟨d4, d6, .bl bb, hr6.dom, r4', r6, ez, fun v H' g r => h7 v H' g.keep (hr6.pen.grow g) ?_⟩
      simp only [RD] at r
      show RD _ _ _ _ _ _
      simp only [RD]; exact r
    | false =>
      rw [if_neg Bool.false_ne_true] at h5' ⊢
      exact h5' _ _ .refl hr5.pen (by show RD _ _ _ _ _ _; simp only [RD])
  | false =>
    rw [if_neg Bool.false_ne_true] at h3' ⊢
    exact h3' _ _ .refl hr3.pen (by show RD _ _ _ _ _ _; simp only [RD])
theorem ev_cmp2 {o o' : CmpOp} (hu : X.A.units + 65 < cLine) (hm : lastMarks [o, o'] [b, c] = false) (ha : PE X a (tev X.K W k κa ra)) (hb : PE X b (tev X.K W k κb rb)) (hc : PE X c (tev X.K W k κc rc)) :
    PE X (.Compare a [o, o'] [b, c] pos) (tev X.K W k .sh fun s p => (ra s p).bd fun x p => (rb s p).bd fun y p => (R.of (cmpD o x y) p).bd fun k p => if k = true then (rc s p).bd fun z p => .of ((cmpD o' y z).map .bl) p else .ok (.bl false) p) := by
  refine ⟨fun pins s σ H Q I h => ?_⟩
  obtain ⟨m, pa, hr, h⟩ := h
  refine (pe_chain (op_cmpD (pa := pa) (N := m.M0) hu) (op_cmpD (pa := pa) (N := m.M0) hu) ha hb hc hm).run pins s σ H Q I ?_
  refine tev_bd hr h fun d p v H1 e hk hr1 hv h1 => ?_
  refine tev_bd hr1 h1 fun d2 p2 v2 H2 e2 hk2 hr2 hv2 h2 => ?_
  obtain ⟨kk, ek, h3⟩ := of_ok h2
  have r1 := (hv.bo fun a => hr.Mdom).move hk2 hr.pa0
  have r2 := VR.bo (m := { m with p := p }) hv2 fun a => hr1.Mdom
  refine ⟨d, d2, .bl kk, hr2.dom, r1, r2, by simp only [ek, Option.map_some], fun v H' g r => ?_⟩
  simp only [RD] at r
  refine ⟨kk, r, ?_⟩
  have hr3 : Rel X.K pa k σ H' { m with p := p2 } := hr2.keep (p' := p2) g.keep (hr2.pen.grow g)
  have h3' := Post.move (m := { m with p := p2 }) (p1 := p2) g.keep (hr2.pen.grow g) h3
  cases kk with
  | true =>
    rw [if_pos rfl] at h3' ⊢
    refine tev_bd hr3 h3' fun d4 p4 v4 H4 e4 hk4 hr4 hv4 h4 => ?_
    obtain ⟨z, ez, h5⟩ := of_ok' h4
    obtain ⟨bb, eb, rfl⟩ := Option.map_eq_some_iff.mp ez
    have r2' := (r2.move g.keep hr.pa0).move hk4 hr.pa0
    have r4 := VR.bo (m := { m with p := p2 }) hv4 fun a => hr3.Mdom
    refine ⟨d2, d4, .bl bb, hr4.dom, r2', r4, ez, fun v H' g r => h5 v H' g.keep (hr4.pen.grow g) ?_⟩
    simp only [RD] at r
    show RD _ _ _ _ _ _
    simp only [RD]; exact r
  | false =>
    rw [if_neg Bool.false_ne_true] at h3' ⊢
    exact h3' _ _ .refl hr3.pen (by show RD _ _ _ _ _ _; simp only [RD])
theorem ev_neg (ha : PE X a (tev X.K W k κa ra)) : PE X (.UnaryOp .USub a pos) (tev X.K W k .sh fun s p => (ra s p).bd fun x p => match x with | .int i => .ok (.int (-i)) p | _ => .bad) := by
  refine (pe_un un_neg ha).weak fun σ H Q ⟨m, pa, hr, h⟩ => ?_
  refine tev_bd hr h fun d p v H1 e hk hr1 hv h1 => ?_
  have r1 := hv.bo fun a => hr.Mdom
  cases d with
  | int i =>
    simp only [RD] at r1
    subst r1
    exact ⟨i, rfl, h1 _ _ .refl hr1.pen (by show RD _ _ _ _ _ _; simp only [RD])⟩
  | _ => exact h1.elim
theorem ev_not (ha : PE X a (tev X.K W k κa ra)) : PE X (.UnaryOp .Not a pos) (tev X.K W k .sh fun s p => (ra s p).bd fun x p => match x with | .bl b => .ok (.bl (!b)) p | _ => .bad) := by
  refine (pe_not ha).weak fun σ H Q ⟨m, pa, hr, h⟩ => ?_
  refine tev_bd hr h fun d p v H1 e hk hr1 hv h1 => ?_
  have r1 := hv.bo fun a => hr.Mdom
  cases d with
  | bl i =>
    simp only [RD] at r1
    subst r1
    exact ⟨i, rfl, h1 _ _ .refl hr1.pen (by show RD _ _ _ _ _ _; simp only [RD])⟩
  | _ => exact h1.elim
theorem VR.sh_of {K : PySem.W.Frag} {pa : Pa} {H H' : Hp} {m : Ms} {κ c : Kd} {d : D} {v : V} (h : VR K pa m H H' κ d v) (hd : ∀ a, m.M a → H a ≠ none) (hc : c = .bo ∨ c = .sh) (hb : c ≠ .bo → κ ≠ .bo) : VR K pa m H H' c d v := by
  have z := h.up hd hb
  rcases hc with rfl | rfl
  · exact z
  · exact z
theorem shK_cases (c : Kd) : shK c = .bo ∨ shK c = .sh := by cases c <;> first | exact .inl rfl | exact .inr rfl
theorem shK_bo {c : Kd} (h : shK c ≠ .bo) : c ≠ .bo := by cases c <;> first | exact absurd rfl h | (intro z; cases z)
/-- the value's kind weakened -/
theorem tev_sh {K : PySem.W.Frag} {e : Expr} {r : Sl → P → R D} {c : Kd} (hc : c = .bo ∨ c = .sh) (hb : c ≠ .bo → κa ≠ .bo) {σ : L2.St} {H : Hp} {Q : VK} (h : tev K W k c r σ H Q) : tev K W k κa r σ H Q := by
  obtain ⟨m, pa, hr, h⟩ := h
  refine ⟨m, pa, hr, ?_⟩
  cases q : r m.s m.p with
  | ok d p =>
    rw [q] at h
    exact fun v H' hk hp hv => h v H' hk hp (hv.sh_of (fun a => hr.Mdom) hc hb)
  | err x p =>
    rw [q] at h
    exact h
  | bad =>
    rw [q] at h
    exact h
theorem ev_and {rest : List Expr} (ha : PE X a (tev X.K W k κa ra)) (hb : PE X (.BoolOp .And (b :: rest) pos) (tev X.K W k κb rb)) : PE X (.BoolOp .And (a :: b :: rest) pos) (tev X.K W k (shK κb) fun s p => (ra s p).bd fun x p => match x with
    | .bl true => rb s p
    | .bl false => .ok (.bl false) p
    | _ => .bad) := by
  refine (pe_and ha hb).weak fun σ H Q ⟨m, pa, hr, h⟩ => ?_
  refine tev_bd hr h fun d p v H1 e hk hr1 hv h1 => ?_
  have r1 := hv.bo fun a => hr.Mdom
  cases d with
  | bl i =>
    simp only [RD] at r1
    subst r1
    refine ⟨i, rfl, ?_⟩
    cases i with
    | true =>
      rw [if_pos rfl]
      exact tev_sh (e := a) (shK_cases _) shK_bo ⟨_, pa, hr1, h1⟩
    | false =>
      rw [if_neg Bool.false_ne_true]
      refine h1 _ _ .refl hr1.pen ?_
      rcases shK_cases κb with z | z <;> rw [z] <;> · show RD _ _ _ _ _ _; simp only [RD]
  | _ => exact h1.elim
theorem ev_or {rest : List Expr} (ha : PE X a (tev X.K W k κa ra)) (hb : PE X (.BoolOp .Or (b :: rest) pos) (tev X.K W k κb rb)) : PE X (.BoolOp .Or (a :: b :: rest) pos) (tev X.K W k (shK κb) fun s p => (ra s p).bd fun x p => match x with
    | .bl true => .ok (.bl true) p
    | .bl false => rb s p
    | _ => .bad) := by
  refine (pe_or ha hb).weak fun σ H Q ⟨m, pa, hr, h⟩ => ?_
  refine tev_bd hr h fun d p v H1 e hk hr1 hv h1 => ?_
  have r1 := hv.bo fun a => hr.Mdom
  cases d with
  | bl i =>
    simp only [RD] at r1
    subst r1
    refine ⟨i, rfl, ?_⟩
    cases i with
    | false =>
      rw [if_neg Bool.false_ne_true]
      exact tev_sh (e := a) (shK_cases _) shK_bo ⟨_, pa, hr1, h1⟩
    | true =>
      rw [if_pos rfl]
      refine h1 _ _ .refl hr1.pen ?_
      rcases shK_cases κb with z | z <;> rw [z] <;> · show RD _ _ _ _ _ _; simp only [RD]
  | _ => exact h1.elim
/-! ### as tests -/
theorem tevT_bd {K : PySem.W.Frag} {pa : Pa} {σ : L2.St} {H : Hp} {m : Ms} {κ : Kd} {r : Sl → P → R D} {f : Bool → P → R D} {Q : VK} {Z : Bool → Hp → Prop} (hr : Rel K pa k σ H m) (h : Post K pa W σ m H κ (((r m.s m.p).bd fun x p => R.of (truD x) p).bd f) Q)
    (go : ∀ b p H1, Keep pa H H1 → Rel K pa k σ H1 { m with p := p } → Post K pa W σ { m with p := p } H1 κ (f b p) Q → Z b H1) : tevT K W k r σ H Z := by
  refine ⟨m, pa, hr, ?_⟩
  cases e : (r m.s m.p).bd fun x p => R.of (truD x) p with
  | ok d p =>
    rw [e] at h
    exact fun H1 hk hp => go d p H1 hk (hr.keep hk hp) (Post.move hk hp h)
  | err x p =>
    rw [e] at h
    exact h
  | bad =>
    rw [e] at h
    exact h
theorem bd_bd {α β γ : Type} (r : R α) (f : α → P → R β) (g : β → P → R γ) : (r.bd f).bd g = r.bd fun a p => (f a p).bd g := by cases r <;> rfl
theorem ev_ite (hc : PT X c (tevT X.K W k rc)) (ha : PE X a (tev X.K W k κa ra)) (hb : PE X b (tev X.K W k κb rb)) : PE X (.IfExp c a b pos) (tev X.K W k (jn κa κb) fun s p => (rc s p).bd fun x p => (R.of (truD x) p).bd fun k p => if k = true then ra s p else rb s p) := by
  refine (pe_ifExp hc ha hb).weak fun σ H Q ⟨m, pa, hr, h⟩ => ?_
  have h : Post X.K pa W σ m H (jn κa κb) ((rc m.s m.p).bd fun x p => (R.of (truD x) p).bd fun k p => if k = true then ra m.s p else rb m.s p) Q := h
  rw [← bd_bd] at h
  refine tevT_bd hr h fun bb p H1 hk hr1 h1 => ?_
  cases bb with
  | true =>
    rw [if_pos rfl] at h1 ⊢
    exact tev_sh (e := a) (jn_cases _ _) (fun z => (jn_bo z).1) ⟨_, pa, hr1, h1⟩
  | false =>
    rw [if_neg Bool.false_ne_true] at h1 ⊢
    exact tev_sh (e := a) (jn_cases _ _) (fun z => (jn_bo z).2) ⟨_, pa, hr1, h1⟩
end
end Mc

/-! Mc7: tests, arguments, displays, built-ins, items. -/
namespace Mc
open PySem PySem.Spec PyProof.Rows L2
section
variable {K : PySem.W.Frag} {pa : Pa} {k : Nat → Kd} {σ : L2.St} {H H' H1 : Hp} {m : Ms} {W : WX} {κ κ1 κ2 : Kd} {N : Addr → Prop}
theorem rd_tru {d : D} {v : V} {b : Bool} (h : RD K pa N H d v) (e : truD d = some b) : TruV K v H b := by
  cases d with
  | non => simp only [RD] at h; subst h; cases e; rfl
  | bl c => simp only [RD] at h; subst h; cases e; rfl
  | int c => simp only [RD] at h; subst h; cases e; rfl
  | str c =>
    simp only [RD] at h
    subst h
    simp only [truD] at e
    split at e
    · rename_i hl
      cases e
      exact ⟨hl, rfl⟩
    · cases e
  | tup l =>
    simp only [RD] at h
    obtain ⟨a, xs, rfl, _, ha, r⟩ := h
    cases e
    refine .inr (.inl ⟨xs, .of ha, ?_⟩)
    have z := r.length
    cases l <;> cases xs <;> first | rfl | cases z
  | lst l =>
    simp only [RD] at h
    obtain ⟨a, xs, rfl, _, ha, r⟩ := h
    cases e
    refine .inl ⟨xs, .of ha, ?_⟩
    have z := r.length
    cases l <;> cases xs <;> first | rfl | cases z
  | _ => cases e
theorem own1 {d : D} {v : V} {fp : List Addr} {M : Addr → Prop} (h : Own K pa M H 1 d v fp) : ∃ l a xs, d = .lst l ∧ v = .ref a ∧ H a = some (.lst xs) ∧ fp = [a] ∧ RDs K pa M H l xs := by
  obtain ⟨l, a, xs, fps, e1, e2, e3, e4, r⟩ := h
  have key : ∀ {l : List D} {xs : List V} {fps : List (List Addr)}, All3 (Own K pa M H 0) l xs fps → fps.flatten = [] ∧ RDs K pa M H l xs := by
    intro l xs fps r
    induction r with
    | nil => exact ⟨rfl, RDs.nil⟩
    | cons h t ih =>
      obtain ⟨h1, h2⟩ := h
      subst h1
      exact ⟨by rw [List.flatten_cons]; exact ih.1, RDs.cons h2 ih.2⟩
  obtain ⟨q1, q2⟩ := key r
  exact ⟨l, a, xs, e1, e2, e3, by rw [e4, q1], q2⟩
theorem own1_mk {l : List D} {a : Addr} {xs : List V} {M : Addr → Prop} (ha : H a = some (.lst xs)) (r : RDs K pa M H l xs) : Own K pa M H 1 (.lst l) (.ref a) [a] := by
  have key : ∀ {l : List D} {xs : List V}, RDs K pa M H l xs → ∃ fps, All3 (Own K pa M H 0) l xs fps ∧ fps.flatten = [] := by
    intro l
    induction l with
    | nil =>
      intro xs h
      simp only [RDs] at h
      subst h
      exact ⟨[], .nil, rfl⟩
    | cons d l ih =>
      intro xs h
      simp only [RDs] at h
      obtain ⟨v, r, rfl, h1, h2⟩ := h
      obtain ⟨fps, a, b⟩ := ih h2
      exact ⟨[] :: fps, .cons ⟨rfl, h1⟩ a, by rw [List.flatten_cons]; exact b⟩
  obtain ⟨fps, q, e⟩ := key r
  exact ⟨l, a, xs, fps, rfl, rfl, ha, by rw [e], q⟩
/-- a new list -/
theorem VR.new_lst {l : List D} {xs : List V} {a : Addr} {p : Pen} (hr : Rel K pa k σ H m) (r : RDs K pa m.M H l xs) (ha : H a = none) : VR K pa m H (upd H a (.lst xs)) (.fr 1) (.lst l) (.ref a) :=
  ⟨[a], own1_mk upd_same (RDs.stay (fun b o _ e => by rw [upd_ne (ne_of_none e ha)]; exact e) (fun b n e z => z.elim n fun w => e (by rw [List.mem_singleton.mp w]; exact ha)) _ _ r), by simp, fun b hb => by
    have e : b = a := by simpa using hb
    rw [e]; exact ha⟩
end
/-! ### stars -/
def noStar : Expr → Bool
  | .Starred _ _ => false
  | _ => true
theorem star_cons {e : Expr} {es : List Expr} {env : Env} (h : noStar e = true) : starEach (e :: es) env = (false, eval e env) :: starEach es env := by
  cases e <;> first | rfl | cases h
theorem star_any {pos : Pos} {env : Env} : ∀ {es : List Expr}, es.all noStar = true → (backTo pos (starEach es env)).any (·.1) = false
  | [], _ => rfl
  | e :: es, h => by
    rw [List.all_cons, Bool.and_eq_true] at h
    rw [star_cons h.1]
    show (false || (backTo pos (starEach es env)).any (·.1)) = false
    rw [star_any h.2]; rfl
section
variable {X : Cx} {W : WX} {k : Nat → Kd} {κ κa κb κc : Kd} {a b c e : Expr} {es : List Expr} {ra rb rc re : Sl → P → R D} {rs : Sl → P → R (List D)} {pos p : Pos}
/-! ### tests -/
def plainT : Expr → Bool
  | .UnaryOp .Not _ _ => false
  | .BoolOp _ _ _ => false
  | .IfExp _ _ _ _ => false
  | .Compare _ _ _ _ => false
  | _ => true
theorem plainT_eq {env : Env} (h : plainT a = true) : ∀ whole, isTrue a env whole = (do let v ← whole; standAt a.pos; holding [v] (truthy v)) := by
  intro whole
  cases a <;> first | rfl | cases h | skip
  rename_i op x y
  cases op <;> first | rfl | cases h
theorem et_plain (ha : PE X a (tev X.K W k κa ra)) (hp : plainT a = true) : PT X a (tevT X.K W k ra) := by
  refine (pt_truth ha (plainT_eq hp)).weak fun σ H Q ⟨m, pa, hr, h⟩ => ⟨m, pa, hr, ?_⟩
  try dsimp only at h
  cases q : ra m.s m.p with
  | ok d p =>
    rw [q] at h
    show ∀ v H', _ → _ → _ → _
    have h : (match R.of (truD d) p with
      | .ok b p => ∀ H', Keep pa H H' → PenR pa m.M0 p H' → Q b H'
      | .err x p => ∀ cls dd H', Keep pa H H' → PenR pa m.M0 p H' → ExR X.K pa m.M0 x cls dd H' → W cls dd σ H'
      | .bad => False) := h
    intro v H' hk hp hv
    cases t : truD d with
    | none => rw [t] at h; exact h.elim
    | some b =>
      rw [t] at h
      exact ⟨b, rd_tru (hv.bo fun a => hr.Mdom) t, h H' hk hp⟩
  | err x p =>
    rw [q] at h
    exact h
  | bad =>
    rw [q] at h
    exact h
theorem et_not (ha : PT X a (tevT X.K W k ra)) : PT X (.UnaryOp .Not a pos) (tevT X.K W k fun s p => (ra s p).bd fun x p => match x with | .bl b => .ok (.bl (!b)) p | _ => .bad) := by
  refine (pt_not ha).weak fun σ H Q ⟨m, pa, hr, h⟩ => ⟨m, pa, hr, ?_⟩
  try dsimp only at h
  cases q : ra m.s m.p with
  | ok d p =>
    rw [q] at h
    cases d with
    | bl b => exact h
    | _ => exact h.elim
  | err x p =>
    rw [q] at h
    exact h
  | bad =>
    rw [q] at h
    exact h
theorem et_and {rest : List Expr} (ha : PT X a (tevT X.K W k ra)) (hb : PW X (.BoolOp .And (b :: rest) pos) (tevT X.K W k rb)) : PW X (.BoolOp .And (a :: b :: rest) pos) (tevT X.K W k fun s p => (ra s p).bd fun x p => match x with
    | .bl true => rb s p
    | .bl false => .ok (.bl false) p
    | _ => .bad) := by
  refine (pw_and ha hb).weak fun σ H Q ⟨m, pa, hr, h⟩ => ⟨m, pa, hr, ?_⟩
  try dsimp only at h
  cases q : ra m.s m.p with
  | ok d p =>
    rw [q] at h
    cases d with
    | bl bb =>
      cases bb with
      | true =>
        intro H' hk hp
        rw [if_pos rfl]
        refine ⟨{ m with p := p }, pa, hr.keep hk hp, ?_⟩
        have h : (match (rb m.s p).bd fun x p => R.of (truD x) p with
          | .ok b p => ∀ H', Keep pa H H' → PenR pa m.M0 p H' → Q b H'
          | .err x p => ∀ cls dd H', Keep pa H H' → PenR pa m.M0 p H' → ExR X.K pa m.M0 x cls dd H' → W cls dd σ H'
          | .bad => False) := h
        show (match (rb m.s p).bd fun x p => R.of (truD x) p with
          | .ok b p => ∀ H'', Keep pa H' H'' → PenR pa m.M0 p H'' → Q b H''
          | .err x p => ∀ cls dd H'', Keep pa H' H'' → PenR pa m.M0 p H'' → ExR X.K pa m.M0 x cls dd H'' → W cls dd σ H''
          | .bad => False)
        cases q2 : (rb m.s p).bd fun x p => R.of (truD x) p with
        | ok b2 p2 =>
          rw [q2] at h
          exact fun H'' k2 => h H'' (hk.trans k2)
        | err x p2 =>
          rw [q2] at h
          exact fun cls dd H'' k2 => h cls dd H'' (hk.trans k2)
        | bad =>
          rw [q2] at h
          exact h
      | false =>
        intro H' hk hp
        rw [if_neg Bool.false_ne_true]
        exact h H' hk hp
    | _ => exact h.elim
  | err x p =>
    rw [q] at h
    exact h
  | bad =>
    rw [q] at h
    exact h
theorem et_or {rest : List Expr} (ha : PT X a (tevT X.K W k ra)) (hb : PW X (.BoolOp .Or (b :: rest) pos) (tevT X.K W k rb)) : PW X (.BoolOp .Or (a :: b :: rest) pos) (tevT X.K W k fun s p => (ra s p).bd fun x p => match x with
    | .bl true => .ok (.bl true) p
    | .bl false => rb s p
    | _ => .bad) := by
  refine (pw_or ha hb).weak fun σ H Q ⟨m, pa, hr, h⟩ => ⟨m, pa, hr, ?_⟩
  try dsimp only at h
  cases q : ra m.s m.p with
  | ok d p =>
    rw [q] at h
    cases d with
    | bl bb =>
      cases bb with
      | false =>
        intro H' hk hp
        rw [if_neg Bool.false_ne_true]
        refine ⟨{ m with p := p }, pa, hr.keep hk hp, ?_⟩
        have h : (match (rb m.s p).bd fun x p => R.of (truD x) p with
          | .ok b p => ∀ H', Keep pa H H' → PenR pa m.M0 p H' → Q b H'
          | .err x p => ∀ cls dd H', Keep pa H H' → PenR pa m.M0 p H' → ExR X.K pa m.M0 x cls dd H' → W cls dd σ H'
          | .bad => False) := h
        show (match (rb m.s p).bd fun x p => R.of (truD x) p with
          | .ok b p => ∀ H'', Keep pa H' H'' → PenR pa m.M0 p H'' → Q b H''
          | .err x p => ∀ cls dd H'', Keep pa H' H'' → PenR pa m.M0 p H'' → ExR X.K pa m.M0 x cls dd H'' → W cls dd σ H''
          | .bad => False)
        cases q2 : (rb m.s p).bd fun x p => R.of (truD x) p with
        | ok b2 p2 =>
          rw [q2] at h
          exact fun H'' k2 => h H'' (hk.trans k2)
        | err x p2 =>
          rw [q2] at h
          exact fun cls dd H'' k2 => h cls dd H'' (hk.trans k2)
        | bad =>
          rw [q2] at h
          exact h
      | true =>
        intro H' hk hp
        rw [if_pos rfl]
        exact h H' hk hp
    | _ => exact h.elim
  | err x p =>
    rw [q] at h
    exact h
  | bad =>
    rw [q] at h
    exact h
theorem tevT_post {K : PySem.W.Frag} {pa : Pa} {σ : L2.St} {H : Hp} {m : Ms} {r : R D} {Q : Bool → Hp → Prop} (h : match r.bd fun x p => R.of (truD x) p with
  | .ok b p => ∀ H', Keep pa H H' → PenR pa m.M0 p H' → Q b H'
  | .err x p => ∀ cls dd H', Keep pa H H' → PenR pa m.M0 p H' → ExR K pa m.M0 x cls dd H' → W cls dd σ H'
  | .bad => False) (hr : ∀ d p, r = .ok d p → ∃ b, d = .bl b) : Post K pa W σ m H .sh r fun x H' => ∃ c, x = .bl c ∧ Q c H' := by
  cases q : r with
  | ok d p =>
    obtain ⟨b, rfl⟩ := hr d p q
    rw [q] at h
    intro v H' hk hp hv
    have hv : RD K pa m.M H' (.bl b) v := hv
    simp only [RD] at hv
    exact ⟨b, hv, h H' hk hp⟩
  | err x p =>
    rw [q] at h
    exact h
  | bad =>
    rw [q] at h
    exact h
theorem map_bl {o : Option Bool} {p p' : P} {d : D} (h : R.of (o.map D.bl) p = .ok d p') : ∃ b, d = .bl b := by
  cases o with
  | none => cases h
  | some b => cases h; exact ⟨b, rfl⟩
theorem bd_ok {α β : Type} {r : R α} {f : α → P → R β} {b : β} {p : P} (h : r.bd f = .ok b p) : ∃ a q, r = .ok a q ∧ f a q = .ok b p := by
  cases r with
  | ok a q => exact ⟨a, q, rfl, h⟩
  | err x q => cases h
  | bad => cases h
theorem et_cmp {o : CmpOp} (hu : X.A.units + 65 < cLine) (hm : behindInMarks o b = false) (ha : PE X a (tev X.K W k κa ra)) (hb : PE X b (tev X.K W k κb rb)) : PT X (.Compare a [o] [b] pos) (tevT X.K W k fun s p => (ra s p).bd fun x p => (rb s p).bd fun y p => .of ((cmpD o x y).map .bl) p) := by
  refine ⟨fun pins s σ H Q I h => ?_⟩
  obtain ⟨m, pa, hr, h⟩ := h
  refine (pt_cmpR (op_cmpD (pa := pa) (N := m.M0) hu) ha hb hm).run pins s σ H Q I ?_
  have h := tevT_post (K := X.K) (W := W) (pa := pa) (σ := σ) (m := m) h fun d p e => by
    obtain ⟨_, _, _, e⟩ := bd_ok e
    obtain ⟨_, _, _, e⟩ := bd_ok e
    exact map_bl e
  refine tev_bd hr h fun d p v H1 e hk hr1 hv h1 => ?_
  refine tev_bd hr1 h1 fun d2 p2 v2 H2 e2 hk2 hr2 hv2 h2 => ?_
  obtain ⟨z, ez, h3⟩ := of_ok' h2
  obtain ⟨bb, eb, rfl⟩ := Option.map_eq_some_iff.mp ez
  have r1 := (hv.bo fun a => hr.Mdom).move hk2 hr.pa0
  have r2 := VR.bo (m := { m with p := p }) hv2 fun a => hr1.Mdom
  refine ⟨d, d2, .bl bb, hr2.dom, r1, r2, ez, fun v H' g r => h3 v H' g.keep (hr2.pen.grow g) ?_⟩
  simp only [RD] at r
  show RD _ _ _ _ _ _
  simp only [RD]; exact r
theorem et_cmp3 {d : Expr} {κd : Kd} {rd : Sl → P → R D} {o o' o'' : CmpOp} (hu : X.A.units + 65 < cLine) (hm : lastMarks [o, o', o''] [b, c, d] = false) (ha : PE X a (tev X.K W k κa ra)) (hb : PE X b (tev X.K W k κb rb)) (hc : PE X c (tev X.K W k κc rc)) (hd : PE X d (tev X.K W k κd rd)) :
    PT X (.Compare a [o, o', o''] [b, c, d] pos) (tevT X.K W k fun s p => (ra s p).bd fun x p => (rb s p).bd fun y p => (R.of (cmpD o x y) p).bd fun k p => if k = true then (rc s p).bd fun z p => (R.of (cmpD o' y z) p).bd fun k p => if k = true then (rd s p).bd fun w p => .of ((cmpD o'' z w).map .bl) p else .ok (.bl false) p else .ok (.bl false) p) := by
  refine ⟨fun pins s σ H Q I h => ?_⟩
  obtain ⟨m, pa, hr, h⟩ := h
  refine (pt_chain3 (op_cmpD (pa := pa) (N := m.M0) hu) (op_cmpD (pa := pa) (N := m.M0) hu) (op_cmpD (pa := pa) (N := m.M0) hu) ha hb hc hd hm).run pins s σ H Q I ?_
  have h := tevT_post (K := X.K) (W := W) (pa := pa) (σ := σ) (m := m) h fun d p e => by
    obtain ⟨_, _, _, e⟩ := bd_ok e
    obtain ⟨_, _, _, e⟩ := bd_ok e
    obtain ⟨kk, _, _, e⟩ := bd_ok e
    cases kk with
    | true =>
      rw [if_pos rfl] at e
      obtain ⟨_, _, _, e⟩ := bd_ok e
      obtain ⟨kk, _, _, e⟩ := bd_ok e
      cases kk with
      | true =>
        rw [if_pos rfl] at e
        obtain ⟨_, _, _, e⟩ := bd_ok e
        exact map_bl e
      | false =>
        rw [if_neg Bool.false_ne_true] at e
        cases e
        exact ⟨false, rfl⟩
    | false =>
      rw [if_neg Bool.false_ne_true] at e
      cases e
      exact ⟨false, rfl⟩
  refine tev_bd hr h fun d p v H1 e hk hr1 hv h1 => ?_
  refine tev_bd hr1 h1 fun d2 p2 v2 H2 e2 hk2 hr2 hv2 h2 => ?_
  obtain ⟨kk, ek, h3⟩ := of_ok h2
  have r1 := (hv.bo fun a => hr.Mdom).move hk2 hr.pa0
  have r2 := VR.bo (m := { m with p := p }) hv2 fun a => hr1.Mdom
  refine ⟨d, d2, .bl kk, hr2.dom, r1, r2, by simp only [ek, Option.map_some], fun v H' g r => ?_⟩
  simp only [RD] at r
  refine ⟨kk, r, ?_⟩
  have hr3 : Rel X.K pa k σ H' { m with p := p2 } := hr2.keep (p' := p2) g.keep (hr2.pen.grow g)
  have h3' := Post.move (m := { m with p := p2 }) (p1 := p2) g.keep (hr2.pen.grow g) h3
  cases kk with
  | true =>
    rw [if_pos rfl] at h3' ⊢
    refine tev_bd hr3 h3' fun d4 p4 v4 H4 e4 hk4 hr4 hv4 h4 => ?_
    obtain ⟨kk2, ek2, h5⟩ := of_ok h4
    have r2' := (r2.move g.keep hr.pa0).move hk4 hr.pa0
    have r4 := VR.bo (m := { m with p := p2 }) hv4 fun a => hr3.Mdom
    refine ⟨d2, d4, .bl kk2, hr4.dom, r2', r4, by simp only [ek2, Option.map_some], fun v H' g2 r => ?_⟩
    simp only [RD] at r
    refine ⟨kk2, r, ?_⟩
    have hr5 : Rel X.K pa k σ H' { m with p := p4 } := hr4.keep (p' := p4) g2.keep (hr4.pen.grow g2)
    have h5' := Post.move (m := { m with p := p4 }) (p1 := p4) g2.keep (hr4.pen.grow g2) h5
    cases kk2 with
    | true =>
      rw [if_pos rfl] at h5' ⊢
      refine tev_bd hr5 h5' fun d6 p6 v6 H6 e6 hk6 hr6 hv6 h6 => ?_
      obtain ⟨z, ez, h7⟩ := of_ok' h6
      obtain ⟨bb, eb, rfl⟩ := Option.map_eq_some_iff.mp ez
      have r4' := (r4.move g2.keep hr.pa0).move hk6 hr.pa0
      have r6 := VR.bo (m := { m with p := p4 }) hv6 fun a => hr5.Mdom
      refine ⟨d4, d6, .bl bb, hr6.dom, r4', r6, ez, fun v H' g r => h7 v H' g.keep (hr6.pen.grow g) ?_⟩
      simp only [RD] at r
      show RD _ _ _ _ _ _
      simp only [RD]; exact r
    | false =>
      rw [if_neg Bool.false_ne_true] at h5' ⊢
      exact h5' _ _ .refl hr5.pen (by show RD _ _ _ _ _ _; simp only [RD])
  | false =>
    rw [if_neg Bool.false_ne_true] at h3' ⊢
    exact h3' _ _ .refl hr3.pen (by show RD _ _ _ _ _ _; simp only [RD])
theorem et_cmp2 {o o' : CmpOp} (hu : X.A.units + 65 < cLine) (hm : lastMarks [o, o'] [b, c] = false) (ha : PE X a (tev X.K W k κa ra)) (hb : PE X b (tev X.K W k κb rb)) (hc : PE X c (tev X.K W k κc rc)) :
    PT X (.Compare a [o, o'] [b, c] pos) (tevT X.K W k fun s p => (ra s p).bd fun x p => (rb s p).bd fun y p => (R.of (cmpD o x y) p).bd fun k p => if k = true then (rc s p).bd fun z p => .of ((cmpD o' y z).map .bl) p else .ok (.bl false) p) := by
  refine ⟨fun pins s σ H Q I h => ?_⟩
  obtain ⟨m, pa, hr, h⟩ := h
  refine (pt_chain (op_cmpD (pa := pa) (N := m.M0) hu) (op_cmpD (pa := pa) (N := m.M0) hu) ha hb hc hm).run pins s σ H Q I ?_
  have h := tevT_post (K := X.K) (W := W) (pa := pa) (σ := σ) (m := m) h fun d p e => by
    obtain ⟨_, _, _, e⟩ := bd_ok e
    obtain ⟨_, _, _, e⟩ := bd_ok e
    obtain ⟨kk, _, _, e⟩ := bd_ok e
    cases kk with
    | true =>
      rw [if_pos rfl] at e
      obtain ⟨_, _, _, e⟩ := bd_ok e
      exact map_bl e
    | false =>
      rw [if_neg Bool.false_ne_true] at e
      cases e
      exact ⟨false, rfl⟩
  refine tev_bd hr h fun d p v H1 e hk hr1 hv h1 => ?_
  refine tev_bd hr1 h1 fun d2 p2 v2 H2 e2 hk2 hr2 hv2 h2 => ?_
  obtain ⟨kk, ek, h3⟩ := of_ok h2
  have r1 := (hv.bo fun a => hr.Mdom).move hk2 hr.pa0
  have r2 := VR.bo (m := { m with p := p }) hv2 fun a => hr1.Mdom
  refine ⟨d, d2, .bl kk, hr2.dom, r1, r2, by simp only [ek, Option.map_some], fun v H' g r => ?_⟩
  simp only [RD] at r
  refine ⟨kk, r, ?_⟩
  have hr3 : Rel X.K pa k σ H' { m with p := p2 } := hr2.keep (p' := p2) g.keep (hr2.pen.grow g)
  have h3' := Post.move (m := { m with p := p2 }) (p1 := p2) g.keep (hr2.pen.grow g) h3
  cases kk with
  | true =>
    rw [if_pos rfl] at h3' ⊢
    refine tev_bd hr3 h3' fun d4 p4 v4 H4 e4 hk4 hr4 hv4 h4 => ?_
    obtain ⟨z, ez, h5⟩ := of_ok' h4
    obtain ⟨bb, eb, rfl⟩ := Option.map_eq_some_iff.mp ez
    have r2' := (r2.move g.keep hr.pa0).move hk4 hr.pa0
    have r4 := VR.bo (m := { m with p := p2 }) hv4 fun a => hr3.Mdom
    refine ⟨d2, d4, .bl bb, hr4.dom, r2', r4, ez, fun v H' g r => h5 v H' g.keep (hr4.pen.grow g) ?_⟩
    simp only [RD] at r
    show RD _ _ _ _ _ _
    simp only [RD]; exact r
  | false =>
    rw [if_neg Bool.false_ne_true] at h3' ⊢
    exact h3' _ _ .refl hr3.pen (by show RD _ _ _ _ _ _; simp only [RD])
/-! ### arguments, displays -/
theorem ea_nil : PA X [] (tevs X.K W k κ fun _ p => .ok [] p) := pa_nil.weak fun σ H Q ⟨m, pa, hr, h⟩ => h [] H .refl hr.pen RDs.nil
theorem ea_cons (he : PE X e (tev X.K W k κa re)) (hs : PA X es (tevs X.K W k κ rs)) (hst : noStar e = true) (hb : κ ≠ .bo → κa ≠ .bo) : PA X (e :: es) (tevs X.K W k κ fun s p => (re s p).bd fun d p => (rs s p).bd fun ds p => .ok (d :: ds) p) := by
  refine (pa_cons he hs (star_cons hst)).weak fun σ H Q ⟨m, pa, hr, h⟩ => ?_
  refine tev_bds hr h fun d p v H1 e hk hr1 hv h1 => ?_
  refine tevs_bds (κ1 := κ) hr1 h1 fun d2 p2 v2 H2 e2 hk2 hr2 hv2 h2 => ?_
  refine h2 _ _ .refl hr2.pen (RDs.cons ?_ ?_)
  · rw [Kd.base_p, Kd.base_p]
    exact (hv.up (κ := κ) (fun a => hr.Mdom) hb).move hk2 (hr.basePa _)
  · rw [Kd.base_p]; exact hv2
theorem ev_tup {x1 : Nat} (hs : PA X es (tevs X.K W k κ rs)) (hκ : κ = .bo ∨ κ = .sh) (hl : ∀ s p ds p', rs s p = .ok ds p' → ds.length ≤ sizeLine) : PE X (.Tuple es x1 pos) (tev X.K W k κ fun s p => (rs s p).bd fun ds p => .ok (.tup ds) p) := by
  refine (pe_tup hs).weak fun σ H Q ⟨m, pa, hr, h⟩ => ?_
  refine tevs_bd (κ1 := κ) hr h fun d p v H1 e hk hr1 hv h1 => ?_
  refine ⟨by rw [← hv.length]; exact hl _ _ _ _ e, ?_⟩
  exact fin_tup (X := X) (hr1.baseDom κ) (by rw [Kd.base_p]; exact hv) (h1.fin hr1 hr1.pen hκ)
theorem ev_lst (hs : PA X es (tevs X.K W k .sh rs)) (hl : ∀ s p ds p', rs s p = .ok ds p' → ds.length ≤ sizeLine) : PE X (.List es pos) (tev X.K W k (.fr 1) fun s p => (rs s p).bd fun ds p => .ok (.lst ds) p) := by
  refine (pe_lst hs).weak fun σ H Q ⟨m, pa, hr, h⟩ => ?_
  refine tevs_bd (κ1 := .sh) hr h fun d p v H1 e hk hr1 hv h1 => ?_
  refine ⟨by rw [← hv.length]; exact hl _ _ _ _ e, fun q hq => ?_⟩
  exact h1 _ _ (Grow.new hq).keep (hr1.pen.new hq) (VR.new_lst (p := p) hr1 hv hq)
theorem ev_lstB (hs : PA X es (tevs X.K W k .bo rs)) (hl : ∀ s p ds p', rs s p = .ok ds p' → ds.length ≤ sizeLine) : PE X (.List es pos) (tev X.K W k .bo fun s p => (rs s p).bd fun ds p => .ok (.lst ds) p) := by
  refine (pe_lst hs).weak fun σ H Q ⟨m, pa, hr, h⟩ => ?_
  refine tevs_bd (κ1 := .bo) hr h fun d p v H1 e hk hr1 hv h1 => ?_
  refine ⟨by rw [← hv.length]; exact hl _ _ _ _ e, ?_⟩
  exact fin_lst (X := X) hr1.dom hv (h1.fin hr1 hr1.pen (.inl rfl))
/-! ### built-in functions -/
/-- a value without parts -/
def atom : D → Bool
  | .non => true
  | .bl _ => true
  | .int _ => true
  | .str _ => true
  | _ => false
theorem RD.atom {K : PySem.W.Frag} {pa : Pa} {N N' : Addr → Prop} {H : Hp} {d : D} {v : V} (ha : atom d = true) (h : RD K pa N H d v) : RD K pa N' H d v := by
  cases d <;> first | (simp only [RD] at h ⊢; exact h) | cases ha
/-- the kind of a call's answer -/
theorem ev_callG {x : Str} {tc : TE} {f : List D → Option D} {κr : Kd} (hpe : ∀ pa N, PE X e (tCB (rDn X.K pa N f) (tevs X.K W k κ rs))) (hκ : (κr = κ ∧ (κ = .bo ∨ κ = .sh)) ∨ (κr = .sh ∧ ∀ ds z, f ds = some z → atom z = true)) :
    PE X e (tev X.K W k κr fun s p => (rs s p).bd fun ds p => .of (f ds) p) := by
  refine ⟨fun pins s σ H Q I h => ?_⟩
  obtain ⟨m, pa, hr, h⟩ := h
  refine (hpe pa (κ.base m)).run pins s σ H Q I ?_
  refine tevs_bd (κ1 := κ) hr h fun d p v H1 e hk hr1 hv h1 => ?_
  obtain ⟨z, ez, h2⟩ := of_ok' h1
  refine ⟨d, z, fun a ha => hr1.baseDom κ a (by rw [Kd.base_p]; exact ha), hv, ez, fun v H' g r => ?_⟩
  rcases hκ with ⟨rfl, hκ⟩ | ⟨rfl, ha⟩
  · exact h2.fin hr1 hr1.pen hκ v H' g (by rw [Kd.base_p]; exact r)
  · exact h2 v H' g.keep (hr1.pen.grow g) (RD.atom (ha _ _ ez) r)
end
end Mc

/-! Mc8: items, slices, calls. -/
namespace Mc
open PySem PySem.Spec PyProof.Rows L2
section
variable (K : PySem.W.Frag) (pa : Pa)
/-- what a def hands back: rk: so deep is it a new list -/
def RetR (M0 : Addr → Prop) (H H' : Hp) : Nat → D → V → Prop
  | 0, d, v => RD K pa M0 H' d v
  | n + 1, d, v => ∃ fp, Own K pa (fun a => M0 a ∨ a ∈ fp) H' (n + 1) d v fp ∧ fp.Nodup ∧ ∀ a ∈ fp, H a = none
/-- what is wanted of the machine's end, for a call -/
def CallR' (M0 : Addr → Prop) (H : Hp) (rk : Nat) (r : R D) (Q : VK) (E : XK) : Prop := match r with
  | .ok d p => ∀ v H', Keep pa H H' → PenR pa M0 p H' → RetR K pa M0 H H' rk d v → Q v H'
  | .err x p => ∀ cls dd H', Keep pa H H' → PenR pa M0 p H' → ExR K pa M0 x cls dd H' → E cls dd H'
  | .bad => False
end
/-- the promise of a def whose machine is C f -/
def spC (K : PySem.W.Frag) (n : Nat) (C : List D → P → R D) (rk : Nat) : Sp := fun vs H Q E => vs.length = n ∧ ∃ pa M0 p ds, TK K pa ∧ (∀ a, M0 a → H a ≠ none) ∧ PenR pa M0 p H ∧ RDs K pa M0 H ds vs ∧ CallR' K pa M0 H rk (C ds p) Q E
/-- what a def of a text keeps; g: it wants to know that no repr is under way -/
structure Fg (g : Bool) (P : Program) (w : World) (K : PySem.W.Frag) (mg : Str → Option Value) (base : Heap) (k : Nat) (f : Addr) (fd : FuncData) (ps : List Str) (sp : Sp) : Prop where
  len : ∀ vs H Q E, sp vs H Q E → vs.length = ps.length
  run : ∀ (A : Around) (outer : List Env) (s : Shared) (H : Hp) (args : Args) (us : List Value) (vs : List V) (Q : VK) (E : XK), Room k A → (g = true → A.guards = some []) → Env0 P w K mg base A outer s H →
    BindsTo s fd args (ps.zip us) → Vals vs us → sp vs H Q E → codeAny (model P w) A (.call (.ref f) args) (CR (L2.CX P w) outer P w H s Q E) s
theorem Fg.mono {g : Bool} {P : Program} {w : World} {K : PySem.W.Frag} {mg : Str → Option Value} {base : Heap} {j k : Nat} {f : Addr} {fd : FuncData} {ps : List Str} {sp : Sp} (F : Fg g P w K mg base j f fd ps sp) (h : j ≤ k) : Fg g P w K mg base k f fd ps sp :=
  ⟨F.len, fun A outer s H args us vs Q E hr => F.run A outer s H args us vs Q E (hr.mono h)⟩
section
variable {K : PySem.W.Frag} {pa : Pa} {k : Nat → Kd} {σ : L2.St} {H H' H1 : Hp} {m : Ms} {W : WX} {κ κ1 κ2 : Kd} {N : Addr → Prop}
theorem PenR.re {M M' : Addr → Prop} {p p' : Pen} (h : PenR pa M p H) (h' : PenR pa M' p' H') : PenR pa M' p H := ⟨h'.m1, h'.m2, h.ne, h.d, h.c, h'.tm, h.tb⟩
theorem base_M0 (c : Kd) {a : Addr} (h : ¬ c.base m a) : ¬ m.M0 a := by
  cases c with
  | bo => exact h
  | sh => exact fun z => h (.inl z)
  | fr n => exact fun z => h (.inl z)
theorem M_base (c : Kd) {a : Addr} (h : m.M0 a) : c.base m a := by
  cases c with
  | bo => exact h
  | sh => exact .inl h
  | fr n => exact .inl h
theorem ExR.weak {c : Kd} {x : Ex} {cls : Value} {dd : Option Addr} (h : ExR K pa (c.base m) x cls dd H) : ExR K pa m.M0 x cls dd H := by
  obtain ⟨h1, h2⟩ := h
  refine ⟨h1, ?_⟩
  rcases h2 with h2 | ⟨e, fs, xs, a1, a2, a3, a4, a5, a6⟩
  · exact .inl h2
  · exact .inr ⟨e, fs, xs, a1, a2, base_M0 c a3, a4, RDs.stay (fun _ _ _ e => e) (fun a n _ => base_M0 c n) _ _ a5, a6⟩
def callK (rk : Nat) : Kd → Kd
  | .bo => .bo
  | _ => match rk with
    | 0 => .sh
    | n + 1 => .fr (n + 1)
theorem RetR.vr {rk : Nat} {d : D} {v : V} (hκ : κ = .bo ∨ κ = .sh) (hd : ∀ a, m.M0 a → H a ≠ none) (h : RetR K pa (κ.base m) H H' rk d v) : VR K pa m H H' (callK rk κ) d v := by
  rcases hκ with rfl | rfl
  · cases rk with
    | zero => exact h
    | succ n =>
      obtain ⟨fp, o, nd, f⟩ := h
      exact Own.rd (fun _ n _ z => n (.inl z)) (fun a ha z => hd a z (f a ha)) o
  · cases rk with
    | zero => exact h
    | succ n => exact h
end
section
variable {X : Cx} {W : WX} {k : Nat → Kd} {κ κa κb κc : Kd} {a b c e : Expr} {es : List Expr} {ra rb rc re : Sl → P → R D} {rs rs2 : Sl → P → R (List D)} {pos p : Pos}
theorem run_fg {g : Bool} {f : Addr} {fd : FuncData} {j : Nat} {ps : List Str} {sp : Sp} {pins : List (Addr × Obj)} {σ : L2.St} {H : Hp} {s : Shared} {Q : VK} {us : List Value} {vs : List V} (F : Fg g X.prog X.w X.K X.mg X.base j f fd ps sp) (hr : Room j X.A) (hgd : g = true → X.A.guards = some [])
    (hb : Binds X.K fd ps []) (tk : Takes X W) (I : Inv X pins σ H s) (r : Vals vs us) (h : sp vs H Q (WE W σ)) : wpAny (model X.prog X.w) X.A (call (.ref f) us) (EP X pins σ Q) X.xe s := by
  have hlen : (us ++ []).length = ps.length := by rw [List.append_nil, ← r.length, F.len _ _ _ _ h]
  have hbd := hb s us I.kIn hlen
  rw [List.append_nil] at hbd
  refine wpAny_call (codeAny_mono (F.run _ _ _ _ _ _ _ _ _ hr hgd I.env0 hbd r h) ?_)
  rintro (e | fl) s2 hq
  · exact passAt tk σ pins H s e s2 I hq
  · cases fl with
    | ret u => exact I.after hq
    | next => exact hq.elim
    | brk => exact hq.elim
    | cont => exact hq.elim
theorem call_tail {n rk : Nat} {C : List D → P → R D} {pa : Pa} {m : Ms} {σ : L2.St} {H : Hp} {Q : VK} (hr : Rel X.K pa k σ H m) (hκ : κ = .bo ∨ κ = .sh) (hn : ∀ s p ds p', rs s p = .ok ds p' → ds.length = n) (h : Post X.K pa W σ m H (callK rk κ) ((rs m.s m.p).bd fun ds p => C ds p) Q) :
    tevs X.K W k κ rs σ H fun vs H1 => spC X.K n C rk vs H1 Q (WE W σ) := by
  refine tevs_bd (κ1 := κ) hr h fun d p v H1 e hk hr1 hv h1 => ?_
  refine ⟨by rw [← hv.length]; exact hn _ _ _ _ e, pa, κ.base m, p, d, hr1.tk, fun a ha => hr1.baseDom κ a (by rw [Kd.base_p]; exact ha), ⟨M_base κ hr1.pen.m1, M_base κ hr1.pen.m2, hr1.pen.ne, hr1.pen.d, hr1.pen.c, fun q hq => M_base κ (hr1.pen.tm q hq), hr1.pen.tb⟩, hv, ?_⟩
  cases q : C d p with
  | ok d2 p2 =>
    rw [q] at h1
    intro v2 H2 k2 pn2 r2
    refine h1 v2 H2 k2 (pn2.re hr1.pen) ?_
    have r3 : RetR X.K pa (κ.base { m with p := p }) H1 H2 rk d2 v2 := by rw [Kd.base_p]; exact r2
    exact RetR.vr hκ hr1.dom r3
  | err x p2 =>
    rw [q] at h1
    intro cls dd H2 k2 pn2 r2
    exact h1 cls dd H2 k2 (pn2.re hr1.pen) r2.weak
  | bad =>
    rw [q] at h1
    exact h1
/-- a call of a def that stands in a slot -/
theorem ev_callV {g : Bool} {i n j : Nat} {x : Str} {fs : List Str} {C : Str → List D → P → R D} (hN : X.N[i]? = some x) (hv : Vis X.env.scope x) (hd : (x == ("__debug__" : Str)) = false) (hcd : (x == ("__classdict__" : Str)) = false) (hki : k i = .sh)
    (hF : ∀ f ∈ fs, ∃ (g : Bool) (fd : FuncData) (ps : List Str), Fg g X.prog X.w X.K X.mg X.base j (He.ga X.K f) fd ps (spC X.K n (C f) 0) ∧ (g = true → X.A.guards = some []) ∧ PySem.W.keepIn X.K (.ref (He.ga X.K f)) = true ∧ Binds X.K fd ps []) (hr : Room j X.A)
    (tk : Takes X W) (hs : PA X (e :: es) (tevs X.K W k κ rs)) (hκ : κ = .bo ∨ κ = .sh) (hn : ∀ s p ds p', rs s p = .ok ds p' → ds.length = n)
    (hst : (e :: es).all noStar = true) : PE X (.Call (.Name x p) (e :: es) [] pos) (tev X.K W k (callK 0 κ) fun s p => (getS s i p).bd fun v p => cvalR C fs v (rs s p)) := by
  rw [List.all_cons, Bool.and_eq_true] at hst
  refine ⟨fun pins s σ H Q I ⟨m, pa, hR, h⟩ => ?_⟩
  replace h : Post X.K pa W σ m H (callK 0 κ) ((getS m.s i m.p).bd fun v p => cvalR C fs v (rs m.s p)) Q := h
  unfold getS at h
  split at h
  · rename_i d e1
    obtain ⟨v, e2, r⟩ := hR.sl i d e1
    rw [hki] at r
    replace h : Post X.K pa W σ m H (callK 0 κ) (cvalR C fs d (rs m.s m.p)) Q := h
    unfold cvalR at h
    split at h
    · rename_i f
      split at h
      · rename_i hf
        obtain ⟨g, fd, ps, Fo, hgd, hk, hb⟩ := hF f hf
        have r2 := r.2
        simp only [RD] at r2
        subst r2
        refine wpAny_Call_Name_kw (thn ((pe_var (pos := p) hN hv hd hcd).run pins s σ H (fun v H1 => v = .ref (He.ga X.K f) ∧ H1 = H) I ⟨.ref (He.ga X.K f), e2, rfl, rfl⟩) fun u s1 ⟨v, H1, I1, r1, q1⟩ => ?_)
        obtain ⟨rfl, rfl⟩ := q1
        cases r1
        exact PySem.W.callWith_K (h₀ := X.base) I.ok.mod.kin hk (thn (hs.run pos pins s1 σ _ _ I1 (call_tail hR hκ hn h)) fun us s2 ⟨vs, H2, I2, r, q⟩ => ⟨I2.kIn, run_fg Fo hr hgd hb tk I2 r q⟩) (star_cons hst.1) (star_any hst.2)
      · exact h.elim
    · exact h.elim
  · exact h.elim
theorem ev_call {g : Bool} {f : Str} {fd : FuncData} {n j rk : Nat} {ps : List Str} {C : List D → P → R D} (F : Fg g X.prog X.w X.K X.mg X.base j (He.ga X.K f) fd ps (spC X.K n C rk)) (hr : Room j X.A) (hgd : g = true → X.A.guards = some []) (hg : Gl X f) (hm : X.mg f = some (.ref (He.ga X.K f)))
    (hk : PySem.W.keepIn X.K (.ref (He.ga X.K f)) = true) (hb : Binds X.K fd ps []) (tk : Takes X W) (hs : PA X (e :: es) (tevs X.K W k κ rs)) (hκ : κ = .bo ∨ κ = .sh) (hn : ∀ s p ds p', rs s p = .ok ds p' → ds.length = n)
    (hst : (e :: es).all noStar = true) (hdb : (f == ("__debug__" : Str)) = false) : PE X (.Call (.Name f p) (e :: es) [] pos) (tev X.K W k (callK rk κ) fun s p => (rs s p).bd fun ds p => C ds p) := by
  rw [List.all_cons, Bool.and_eq_true] at hst
  have key : PE X (.Call (.Name f p) (e :: es) [] pos) (tCallS (spC X.K n C rk) (WE W) (tevs X.K W k κ rs)) := ⟨fun pins s σ H Q I h => wpAny_Call_Name_kw (ld_glob I hg hm (PySem.W.callWith_K (h₀ := X.base) I.ok.mod.kin hk
    (thn (hs.run pos pins s σ H _ I h) fun us s1 ⟨vs, H1, I1, r, q⟩ => ⟨I1.kIn, run_fg F hr hgd hb tk I1 r q⟩) (star_cons hst.1) (star_any hst.2)) hdb)⟩
  refine key.weak fun σ H Q ⟨m, pa, hr, h⟩ => ?_
  refine tevs_bd (κ1 := κ) hr h fun d p v H1 e hk hr1 hv h1 => ?_
  refine ⟨by rw [← hv.length]; exact hn _ _ _ _ e, pa, κ.base m, p, d, hr1.tk, fun a ha => hr1.baseDom κ a (by rw [Kd.base_p]; exact ha), ⟨M_base κ hr1.pen.m1, M_base κ hr1.pen.m2, hr1.pen.ne, hr1.pen.d, hr1.pen.c, fun q hq => M_base κ (hr1.pen.tm q hq), hr1.pen.tb⟩, hv, ?_⟩
  cases q : C d p with
  | ok d2 p2 =>
    rw [q] at h1
    intro v2 H2 k2 pn2 r2
    refine h1 v2 H2 k2 (pn2.re hr1.pen) ?_
    have r3 : RetR X.K pa (κ.base { m with p := p }) H1 H2 rk d2 v2 := by rw [Kd.base_p]; exact r2
    exact RetR.vr hκ hr1.dom r3
  | err x p2 =>
    rw [q] at h1
    intro cls dd H2 k2 pn2 r2
    exact h1 cls dd H2 k2 (pn2.re hr1.pen) r2.weak
  | bad =>
    rw [q] at h1
    exact h1
/-! ### checked -/
mutual
theorem RD.flat {K : PySem.W.Frag} {pa : Pa} {M M' : Addr → Prop} {H : Hp} (hm : ∀ a xs, ¬ M a → H a = some (.tup xs) → ¬ M' a) : ∀ (d : D) (v : V), flat d = true → RD K pa M H d v → RD K pa M' H d v
  | .non, _, _, h => by simpa only [RD] using h
  | .bl _, _, _, h => by simpa only [RD] using h
  | .int _, _, _, h => by simpa only [RD] using h
  | .str _, _, _, h => by simpa only [RD] using h
  | .fn _, _, _, h => by simpa only [RD] using h
  | .cls _, _, _, h => by simpa only [RD] using h
  | .ty _, _, _, h => by simpa only [RD] using h
  | .pen, _, _, h => by simpa only [RD] using h
  | .lst _, _, f, _ => by cases f
  | .dic _ _, _, f, _ => by cases f
  | .obj _ _ _, _, f, _ => by cases f
  | .tup l, v, f, h => by
    simp only [RD] at h ⊢
    obtain ⟨a, xs, e, n, s, r⟩ := h
    exact ⟨a, xs, e, hm a _ n s, s, RDs.flat hm l xs (by simpa only [Mc.flat] using f) r⟩
theorem RDs.flat {K : PySem.W.Frag} {pa : Pa} {M M' : Addr → Prop} {H : Hp} (hm : ∀ a xs, ¬ M a → H a = some (.tup xs) → ¬ M' a) : ∀ (l : List D) (xs : List V), flats l = true → RDs K pa M H l xs → RDs K pa M' H l xs
  | [], xs, _, h => by simpa only [RDs] using h
  | d :: l, xs, f, h => by
    simp only [RDs] at h ⊢
    simp only [flats, Bool.and_eq_true] at f
    obtain ⟨v, r, e, h1, h2⟩ := h
    exact ⟨v, r, e, RD.flat hm d v f.1 h1, RDs.flat hm l r f.2 h2⟩
end
/-- the slots' lists are lists -/
theorem Rel.fpl {K : PySem.W.Frag} {pa : Pa} {σ : L2.St} {H : Hp} {m : Ms} (h : Rel K pa k σ H m) {i : Nat} {a : Addr} (ha : a ∈ m.fp i) : ∃ xs, H a = some (.lst xs) := by
  by_cases e : ∃ d, m.s[i]? = some (some d)
  · obtain ⟨d, e⟩ := e
    obtain ⟨v, _, r⟩ := h.sl i d e
    cases q : k i with
    | bo => rw [q] at r; rw [r.1] at ha; cases ha
    | sh => rw [q] at r; rw [r.1] at ha; cases ha
    | fr n =>
      rw [q] at r
      exact Own.at r a ha
  · rw [h.no i fun d z => e ⟨d, z⟩] at ha
    cases ha
theorem ev_flat (ha : PE X a (tev X.K W k κa ra)) : PE X a (tev X.K W k .sh fun s p => (ra s p).bd fun d p => if flat d = true then .ok d p else .bad) := by
  refine ha.weak fun σ H Q ⟨m, pa, hr, h⟩ => ?_
  refine tev_bd hr h fun d p v H1 e hk hr1 hv h1 => ?_
  split at h1
  · rename_i f
    refine h1 v H1 .refl hr1.pen ?_
    refine RD.flat (fun a xs n e z => ?_) d v f (hv.bo fun a => hr.Mdom)
    rcases z with z | ⟨i, z⟩
    · exact n z
    · obtain ⟨ys, y⟩ := hr1.fpl z
      rw [e] at y
      cases y
  · exact h1.elim
/-! ### items, slices -/
def plainIx : Expr → Bool
  | .Slice _ _ _ _ => false
  | _ => true
theorem plainIx_ok {b : Expr} (h : plainIx b = true) : PlainIx b := by
  intro o i
  cases b <;> first | rfl | cases h
theorem ev_idx (ha : PE X a (tev X.K W k κa ra)) (hb : PE X b (tev X.K W k κb rb)) (hp : plainIx b = true) : PE X (.Subscript a b pos) (tev X.K W k (shK κa) fun s p => (ra s p).bd fun x p => (rb s p).bd fun y p => .of (idxD x y) p) := by
  refine ⟨fun pins s σ H Q I h => ?_⟩
  obtain ⟨m, pa, hr, h⟩ := h
  refine (pe_ix (ix_D (pa := pa) (N := (shK κa).base m)) ha hb (plainIx_ok hp)).run pins s σ H Q I ?_
  refine tev_bd hr h fun d p v H1 e hk hr1 hv h1 => ?_
  refine tev_bd hr1 h1 fun d2 p2 v2 H2 e2 hk2 hr2 hv2 h2 => ?_
  obtain ⟨z, ez, h3⟩ := of_ok' h2
  have r1 := (hv.up (κ := shK κa) (fun a => hr.Mdom) fun z => shK_bo z).move hk2 (hr.basePa _)
  have r2 : RD X.K pa ((shK κa).base m) H2 d2 v2 := by
    have z : ∃ i, d2 = .int i := by
      unfold idxD at ez
      split at ez <;> first | exact ⟨_, rfl⟩ | cases ez
    obtain ⟨i, rfl⟩ := z
    exact RD.atom rfl (VR.bo (m := { m with p := p }) hv2 fun a => hr1.Mdom)
  refine ⟨d, d2, z, fun a ha => hr2.baseDom (shK κa) a (by rw [Kd.base_p, Kd.base_p]; exact ha), r1, r2, ez, fun v H' g r => ?_⟩
  exact h3.fin hr2 hr2.pen (shK_cases _) v H' g (by rw [Kd.base_p, Kd.base_p]; exact r)
/-- x[i], x a list of the def's own, one deep -/
theorem ev_idxV {i : Nat} {x : Str} {q : Pos} (hN : X.N[i]? = some x) (hv : Vis X.env.scope x) (hd : (x == ("__debug__" : Str)) = false) (hcd : (x == ("__classdict__" : Str)) = false) (hki : k i = .fr 1) (hb : PE X b (tev X.K W k κb rb)) (hp : plainIx b = true) :
    PE X (.Subscript (.Name x q) b pos) (tev X.K W k .sh fun s p => (getS s i p).bd fun x p => (rb s p).bd fun y p => .of (idxD x y) p) := by
  refine (pe_ix ix_list (pe_var hN hv hd hcd) hb (plainIx_ok hp)).weak fun σ H Q ⟨m, pa, hr, h⟩ => ?_
  have h : Post X.K pa W σ m H .sh ((getS m.s i m.p).bd fun x p => (rb m.s p).bd fun y p => .of (idxD x y) p) Q := h
  unfold getS at h
  split at h
  · rename_i d e
    obtain ⟨v, e1, r⟩ := hr.sl i d e
    rw [hki] at r
    obtain ⟨l, a, xs, rfl, rfl, ha, hf, rr⟩ := own1 (show Own X.K pa m.M H 1 d v (m.fp i) from r)
    refine ⟨_, e1, ?_⟩
    have h : Post X.K pa W σ m H .sh ((rb m.s m.p).bd fun y p => .of (idxD (.lst l) y) p) Q := h
    refine tev_bd hr h fun d2 p2 v2 H2 e2 hk2 hr2 hv2 h2 => ?_
    obtain ⟨z, ez, h3⟩ := of_ok' h2
    have hi : ∃ n, d2 = .int n ∧ atI l n = some z := by
      unfold idxD at ez
      split at ez <;> first | exact ⟨_, rfl, by simp_all⟩ | cases ez | skip
      all_goals simp_all
    obtain ⟨n, rfl, en⟩ := hi
    have r2 := hv2.bo fun a => hr.Mdom
    simp only [RD] at r2
    subst r2
    obtain ⟨w, ew, rw⟩ := rds_at (rr.move hk2 (hr.basePa .sh)) en
    have ha2 : H2 a = some (.lst xs) := hk2 a _ (Pa.no_of hr.pa0 fun z => hr.free i a (by rw [hf]; exact List.mem_cons_self) z) ha
    exact ⟨a, xs, n, w, rfl, rfl, .of ha2, ew, h3 w H2 .refl hr2.pen rw⟩
  · exact h.elim
end
end Mc

set_option maxHeartbeats 1000000
/-! Mc8z: zip, a list or a tuple on either side. -/
namespace Mc
open PySem PySem.Spec PyProof.Rows L2
/-- a list (true) or a tuple -/
def SA : Bool → Heap → Addr → Array Value → Prop
  | true => Heap.IsList
  | false => Heap.IsTuple
/-- its iterator -/
def IA : Bool → Heap → Addr → Addr → Nat → Prop
  | true => Heap.IsListIter
  | false => Heap.IsTupleIter
section
variable {u v : Bool} {g g' : Heap} {c d l : Addr} {j n : Nat} {q : Array Value}
theorem SA.but (t : SA u g c q) (k : Heap.ExtBut d g g') (ne : c ≠ d) : SA u g' c q := by cases u <;> exact t.extBut k ne
theorem IA.but (t : IA u g c l j) (k : Heap.ExtBut d g g') (ne : c ≠ d) : IA u g' c l j := by cases u <;> exact t.extBut k ne
theorem IA.mv (t : IA u g c l j) (e : ∀ o, g.get? c = some o → g'.get? c = some o) : IA u g' c l j := by cases u <;> exact t.at e
theorem IA.lt (t : IA u g c l j) : c < g.objs.size := by cases u <;> (obtain ⟨_, e, _⟩ := t; exact Heap.lt_size e)
theorem IA.ob (t : IA u g c l j) : ∃ o, g.get? c = some o ∧ ∃ f, o.data = .fields f := by
  cases u <;> (obtain ⟨o, e, _, f⟩ := t; exact ⟨o, e, _, f⟩)
end
section
variable {prog : Program} {w : World} {A : Around} {E : Value → Shared → Prop} {s : Shared}
theorem nxI {u : Bool} {it l : Addr} {i : Nat} {items : Array Value} {x : Value} {Q : Value → Shared → Prop} (t : IA u s.heap it l i) (r : SA u s.heap l items) (e : items[i]? = some x)
    (f : ∀ g, IA u g it l (i + 1) → Heap.SameBut it s.heap g → Q x { s with heap := g }) : wpAny (model prog w) A (Builtin.SmallTypes.nextOf (Value.ref it)) Q E s := by
  cases u
  · exact RZ.nextOf_tuple_item t r e f
  · exact wpAny_nextOf_list_item t r e f
theorem nxE {u : Bool} {it l : Addr} {i : Nat} {items : Array Value} {Q : Value → Shared → Prop} (no : A.handled = none) (t : IA u s.heap it l i) (r : SA u s.heap l items) (e : items[i]? = none)
    (f : ∀ g x, Heap.ExtBut it s.heap g → (∃ o, g.get? x = some o ∧ o.cls = .type "StopIteration") → E (.ref x) { s with heap := g }) : wpAny (model prog w) A (Builtin.SmallTypes.nextOf (Value.ref it)) Q E s := by
  cases u
  · exact RZ.nextOf_tuple_end no t r e f
  · exact wpAny_nextOf_list_end no t r e f
variable {u v : Bool} {z p r i j l m : Addr} {k n : Nat} {xs ys : Array Value} {x y a b : Value}
theorem zipM_item {Q : Value → Shared → Prop} (D : ZipApart z p r i j l m) (gz : IsZip s.heap z p r .none) (gp : IsPair s.heap p (.ref i) (.ref j)) (gr : IsPair s.heap r a b)
    (gi : IA u s.heap i l k) (gj : IA v s.heap j m n) (gl : SA u s.heap l xs) (gm : SA v s.heap m ys) (ex : xs[k]? = some x) (ey : ys[n]? = some y)
    (f : ∀ h', IsZip h' z p r (rawInt s.heap.objs.size) → IsPair h' r x y → IA u h' i l (k + 1) → IA v h' j m (n + 1) → IsPair h' s.heap.objs.size x y → h'.objs.size = s.heap.objs.size + 1 →
      (∀ c o, c ≠ z → c ≠ r → c ≠ i → c ≠ j → s.heap.get? c = some o → h'.get? c = some o) → Q (.ref s.heap.objs.size) { s with heap := h' }) :
    wpAny (model prog w) A (Builtin.«zip.__next__» ⟨[.ref z], []⟩) (fun fin s' => ∃ o, fin = .done (.ret o) ∧ Q o s') E s := by
  show wpAny _ _ (field (Value.ref z) 2 >>= _) _ _ _
  refine (wpAny_bind (wpAny_field gz rfl (x := .bool false) rfl ?_))
  show wpAny _ _ (field (Value.ref z) 3 >>= _) _ _ _
  refine (wpAny_bind (wpAny_field gz rfl (x := .ref p) rfl ?_))
  refine (wpAny_bind (wpAny_seqItems gp rfl ?_))
  refine (wpAny_bind ?_); unfold Builtin.SmallTypes.ownedTupleIsFree
  refine (wpAny_bind (wpAny_field gz rfl (x := .none) rfl (wpAny_pure ?_)))
  simp only [if_true]
  refine (wpAny_bind (wpAny_rule ?_))
  refine (wpAny_bind (wpAny_field gz rfl (x := .ref r) rfl ?_))
  refine (wpAny_bind (wpAny_setField_rec gz (by simp) fun ha za qa => ?_))
  replace za : IsZip ha z p r .ellipsis := za
  have qa' := qa.extBut
  refine (wpAny_bind ?_)
  simp only [List.forIn_cons, List.forIn_nil, List.zipIdx_cons, List.zipIdx_nil]
  refine (wpAny_bind (wpAny_bind (wpAny_onRaise ?_)))
  show wpAny _ _ (Builtin.SmallTypes.nextOf (Value.ref i) >>= _) _ _ _
  refine (wpAny_bind (nxI (gi.but qa' D.i1z) (gl.but qa' D.l1z) ex fun hb ib qb => wpAny_pure ?_))
  have qb' := qb.extBut
  have rb : IsPair hb r a b := qb' _ _ D.TOi1 (qa' _ _ D.TOz gr)
  refine (wpAny_bind (wpAny_seqItems rb rfl ?_))
  refine (wpAny_bind (wpAny_updateSeq_pair rb fun hc rc qc => ?_))
  have qc' := qc.extBut
  replace rc : IsPair hc r x b := rc
  refine (wpAny_bind (wpAny_letGo (wpAny_pure ?_)))
  refine (wpAny_bind (wpAny_bind (wpAny_onRaise ?_)))
  show wpAny _ _ (Builtin.SmallTypes.nextOf (Value.ref j) >>= _) _ _ _
  have jc : IA v hc j m n := ((gj.but qa' D.i2z).but qb' D.i12.symm).but qc' D.TOi2.symm
  have mc : SA v hc m ys := ((gm.but qa' D.l2z).but qb' D.l2i1).but qc' D.l2TO
  refine (wpAny_bind (nxI jc mc ey fun hd jd qd => wpAny_pure ?_))
  have qd' := qd.extBut
  have rd : IsPair hd r x b := qd' _ _ D.TOi2 rc
  refine (wpAny_bind (wpAny_seqItems rd rfl ?_))
  refine (wpAny_bind (wpAny_updateSeq_pair rd fun he re qe => ?_))
  have qe' := qe.extBut
  replace re : IsPair he r x y := re
  refine (wpAny_bind (wpAny_letGo (wpAny_pure (wpAny_pure ?_))))
  refine (wpAny_bind (wpAny_seqItems re rfl ?_))
  refine (wpAny_bind (wpAny_newTuple ?_))
  have sz : he.objs.size = s.heap.objs.size := by rw [qe.1, qd.1, qc.1, qb.1, qa.1]
  have all : ∀ c o, c ≠ r → c ≠ i → c ≠ j → ha.get? c = some o → he.get? c = some o := fun c o nr ni nj w => qe' _ _ nr (qd' _ _ nj (qc' _ _ nr (qb' _ _ ni w)))
  have ze : IsZip he z p r .ellipsis := all _ _ D.TOz.symm D.i1z.symm D.i2z.symm za
  have ie : IA u he i l (k + 1) := ((ib.but qc' D.TOi1.symm).but qd' D.i12).but qe' D.TOi1.symm
  have je : IA v he j m (n + 1) := jd.but qe' D.TOi2.symm
  have zlt := Heap.lt_size ze
  show wpAny _ _ (Builtin.SmallTypes.ownedTupleHandOut (Value.ref z) (.ref he.objs.size) >>= _) _ _ _
  refine (wpAny_bind ?_); unfold Builtin.SmallTypes.ownedTupleHandOut
  have zf : IsZip (he.push { cls := .type "tuple", data := .seq #[x, y] }) z p r .ellipsis := Heap.get?_push_of_some _ ze
  refine (wpAny_bind (wpAny_setField_rec zf (by simp) fun hg zg qg => ?_))
  replace zg : IsZip hg z p r (rawInt he.objs.size) := zg
  refine wpAny_setField_rec zg (by simp) fun hh zh qh => ?_
  replace zh : IsZip hh z p r (rawInt he.objs.size) := zh
  have up : ∀ c o, c ≠ z → (he.push { cls := .type "tuple", data := .seq #[x, y] }).get? c = some o → hh.get? c = some o := fun c o nz w => qh.extBut _ _ nz (qg.extBut _ _ nz w)
  have up2 : ∀ c o, c ≠ z → he.get? c = some o → hh.get? c = some o := fun c o nz w => up c o nz (Heap.get?_push_of_some _ w)
  have th : IsPair hh he.objs.size x y := up _ _ (Nat.ne_of_gt zlt) (Heap.get?_push_size _ rfl)
  have sh : hh.objs.size = he.objs.size + 1 := by rw [qh.1, qg.1, Heap.size_push]
  rw [sz] at zh th sh
  refine wpAny_pure ⟨_, rfl, ?_⟩
  show Q (.ref he.objs.size) _
  rw [sz]
  exact f hh zh (up2 _ _ D.TOz re) (ie.mv fun o w => up2 _ o D.i1z w) (je.mv fun o w => up2 _ o D.i2z w) th sh fun c o nz nr ni nj w => up2 c o nz (all c o nr ni nj (qa' _ _ nz w))
theorem zipM_end {Q : Fin → Shared → Prop} (no : A.handled = none) (D : ZipApart z p r i j l m) (gz : IsZip s.heap z p r .none) (gp : IsPair s.heap p (.ref i) (.ref j)) (gr : IsPair s.heap r a b)
    (gi : IA u s.heap i l k) (gj : IA v s.heap j m n) (gl : SA u s.heap l xs) (gm : SA v s.heap m ys) (fin : xs[k]? = none ∨ ys[n]? = none)
    (f : ∀ h' e, (∀ c o, c ≠ z → c ≠ r → c ≠ i → c ≠ j → s.heap.get? c = some o → h'.get? c = some o) → (∃ o, h'.get? e = some o ∧ o.cls = .type "StopIteration") → E (.ref e) { s with heap := h' }) :
    wpAny (model prog w) A (Builtin.«zip.__next__» ⟨[.ref z], []⟩) Q E s := by
  show wpAny _ _ (field (Value.ref z) 2 >>= _) _ _ _
  refine (wpAny_bind (wpAny_field gz rfl (x := .bool false) rfl ?_))
  show wpAny _ _ (field (Value.ref z) 3 >>= _) _ _ _
  refine (wpAny_bind (wpAny_field gz rfl (x := .ref p) rfl ?_))
  refine (wpAny_bind (wpAny_seqItems gp rfl ?_))
  refine (wpAny_bind ?_); unfold Builtin.SmallTypes.ownedTupleIsFree
  refine (wpAny_bind (wpAny_field gz rfl (x := .none) rfl (wpAny_pure ?_)))
  simp only [if_true]
  refine (wpAny_bind (wpAny_rule ?_))
  refine (wpAny_bind (wpAny_field gz rfl (x := .ref r) rfl ?_))
  refine (wpAny_bind (wpAny_setField_rec gz (by simp) fun ha za qa => ?_))
  replace za : IsZip ha z p r .ellipsis := za
  have qa' := qa.extBut
  refine (wpAny_bind ?_)
  simp only [List.forIn_cons, List.forIn_nil, List.zipIdx_cons, List.zipIdx_nil]
  refine (wpAny_bind (wpAny_bind (wpAny_onRaise ?_)))
  show wpAny _ _ (Builtin.SmallTypes.nextOf (Value.ref i) >>= _) _ _ _
  cases ex : xs[k]? with
  | none =>
    refine (wpAny_bind (nxE no (gi.but qa' D.i1z) (gl.but qa' D.l1z) ex fun hb e qb ee => ?_))
    obtain ⟨oe, h1, h2⟩ := ee
    have zb : IsZip hb z p r .ellipsis := qb _ _ D.i1z.symm za
    have ne : e ≠ z := fun w => by subst w; rw [zb] at h1; cases h1; simp at h2
    refine wpAny_setField_rec zb (by simp) fun hc _ qc => f hc e (fun c o nz _ ni _ w => ?_) ⟨oe, qc.extBut _ _ ne h1, h2⟩
    exact qc.extBut _ _ nz (qb _ _ ni (qa' _ _ nz w))
  | some x =>
    have ey : ys[n]? = none := by
      rcases fin with w | w
      · rw [ex] at w; cases w
      · exact w
    refine (wpAny_bind (nxI (gi.but qa' D.i1z) (gl.but qa' D.l1z) ex fun hb ib qb => wpAny_pure ?_))
    have qb' := qb.extBut
    have rb : IsPair hb r a b := qb' _ _ D.TOi1 (qa' _ _ D.TOz gr)
    refine (wpAny_bind (wpAny_seqItems rb rfl ?_))
    refine (wpAny_bind (wpAny_updateSeq_pair rb fun hc rc qc => ?_))
    have qc' := qc.extBut
    refine (wpAny_bind (wpAny_letGo (wpAny_pure ?_)))
    refine (wpAny_bind (wpAny_bind (wpAny_onRaise ?_)))
    show wpAny _ _ (Builtin.SmallTypes.nextOf (Value.ref j) >>= _) _ _ _
    have jc : IA v hc j m n := ((gj.but qa' D.i2z).but qb' D.i12.symm).but qc' D.TOi2.symm
    have mc : SA v hc m ys := ((gm.but qa' D.l2z).but qb' D.l2i1).but qc' D.l2TO
    refine (wpAny_bind (nxE no jc mc ey fun hd e qd ee => ?_))
    obtain ⟨oe, h1, h2⟩ := ee
    have zd : IsZip hd z p r .ellipsis := qd _ _ D.i2z.symm (qc' _ _ D.TOz.symm (qb' _ _ D.i1z.symm za))
    have ne : e ≠ z := fun w => by subst w; rw [zd] at h1; cases h1; simp at h2
    refine wpAny_setField_rec zd (by simp) fun he _ qe => f he e (fun c o nz nr ni nj w => ?_) ⟨oe, qe.extBut _ _ ne h1, h2⟩
    exact qe.extBut _ _ nz (qd _ _ nj (qc' _ _ nr (qb' _ _ ni (qa' _ _ nz w))))
theorem nextM_item {Q : Option Value → Shared → Prop} (D : ZipApart z p r i j l m) (gz : IsZip s.heap z p r .none) (gp : IsPair s.heap p (.ref i) (.ref j)) (gr : IsPair s.heap r a b)
    (gi : IA u s.heap i l k) (gj : IA v s.heap j m n) (gl : SA u s.heap l xs) (gm : SA v s.heap m ys) (ex : xs[k]? = some x) (ey : ys[n]? = some y)
    (f : ∀ h', IsZip h' z p r (rawInt s.heap.objs.size) → IsPair h' r x y → IA u h' i l (k + 1) → IA v h' j m (n + 1) → IsPair h' s.heap.objs.size x y → h'.objs.size = s.heap.objs.size + 1 →
      (∀ c o, c ≠ z → c ≠ r → c ≠ i → c ≠ j → s.heap.get? c = some o → h'.get? c = some o) → Q (some (.ref s.heap.objs.size)) { s with heap := h' }) : wpAny (model prog w) A (pyNext (.ref z)) Q E s := by
  have ty : s.TypeIs (.ref z) "zip" := ⟨_, gz, rfl⟩
  have := zipM_item (prog := prog) (w := w) (A := A.in1) (E := fun _ _ => True) D gz gp gr gi gj gl gm ex ey (Q := fun o t => Q (some o) t) f
  unfold pyNext
  refine wpAny_bind (wpAny_attempt (wpAny_callSpecial?_slot (name := Str.ofString "__next__") ty F.slot_zip_next (wpAny_call_entry F.slot_zip_next ty F.entry_zip_next ?_ (F.args_zip_next_1 _))))
  exact zipM_item D gz gp gr gi gj gl gm ex ey fun h' a1 a2 a3 a4 a5 a6 a7 => wpAny_pure (f h' a1 a2 a3 a4 a5 a6 a7)
theorem nextM_end {Q : Option Value → Shared → Prop} (no : A.handled = none) (D : ZipApart z p r i j l m) (gz : IsZip s.heap z p r .none) (gp : IsPair s.heap p (.ref i) (.ref j)) (gr : IsPair s.heap r a b)
    (gi : IA u s.heap i l k) (gj : IA v s.heap j m n) (gl : SA u s.heap l xs) (gm : SA v s.heap m ys) (fin : xs[k]? = none ∨ ys[n]? = none)
    (f : ∀ h', (∀ c o, c ≠ z → c ≠ r → c ≠ i → c ≠ j → s.heap.get? c = some o → h'.get? c = some o) → Q none { s with heap := h' }) : wpAny (model prog w) A (pyNext (.ref z)) Q E s := by
  have ty : s.TypeIs (.ref z) "zip" := ⟨_, gz, rfl⟩
  unfold pyNext
  refine wpAny_bind (wpAny_attempt (wpAny_callSpecial?_slot (name := Str.ofString "__next__") ty F.slot_zip_next (wpAny_call_entry F.slot_zip_next ty F.entry_zip_next ?_ (F.args_zip_next_1 _))))
  refine zipM_end no D gz gp gr gi gj gl gm fin fun h' e kp ⟨o, h1, h2⟩ => ?_
  exact wpAny_bind (wpAny_isInstance (T := "StopIteration") (b := true) ⟨o, h1, h2⟩ isSubtype_stop (wpAny_pure (f _ kp)))
end
/-! the call -/
def itN (u : Bool) : String := if u then "list_iterator" else "tuple_iterator"
abbrev zM1 (u : Bool) (h : Heap) (l : Addr) : Heap := h.push { cls := .type (itN u), data := .fields #[.ref l, .int 0 0] }
abbrev zM3 (u v : Bool) (h : Heap) (l m : Addr) : Heap := (zM1 v (zM1 u h l) m).push { cls := .type "tuple", data := .seq #[.ref h.objs.size, .ref (zM1 u h l).objs.size] }
abbrev zM4 (u v : Bool) (h : Heap) (l m : Addr) : Heap := (zM3 u v h l m).push { cls := .type "tuple", data := .seq #[.none, .none] }
abbrev zM5 (u v : Bool) (h : Heap) (l m : Addr) : Heap := (zM4 u v h l m).push { cls := .type "zip", data := .fields #[.none, .bool false, .bool false, .ref (zM1 v (zM1 u h l) m).objs.size, .ref (zM3 u v h l m).objs.size] }
theorem meetsM (u v : Bool) (l m : Addr) (xs ys : Array Value) :
    Meets (Builtin.«zip.__new__» ⟨[.type "zip", .ref l, .ref m], []⟩) (fun _ R s => SA u s.heap l xs ∧ SA v s.heap m ys ∧ R (.ok (.ret (.ref (zM4 u v s.heap l m).objs.size))) { s with heap := zM5 u v s.heap l m }) :=
  .of_wp fun prog w A R s h => by
    obtain ⟨hp, g, d, tk, os⟩ := s
    obtain ⟨gl, gm, h⟩ := h
    have sub := sub_zip
    cases u <;> cases v
    · have a1 : Heap.IsTuple (Shared.heap ⟨hp, g, d, tk, os⟩) l xs := gl
      have a2 : Heap.IsTuple (Shared.heap ⟨hp.push { cls := .type "tuple_iterator", data := .fields #[.ref l, .int 0 0] }, g, d, tk, os⟩) m ys := Heap.IsTuple.push gm _
      wp_walk using wpAny_pyIter_tuple a1, wpAny_pyIter_tuple a2
      exact ⟨_, rfl, h⟩
    · have a1 : Heap.IsTuple (Shared.heap ⟨hp, g, d, tk, os⟩) l xs := gl
      have a2 : Heap.IsList (Shared.heap ⟨hp.push { cls := .type "tuple_iterator", data := .fields #[.ref l, .int 0 0] }, g, d, tk, os⟩) m ys := Heap.IsList.push gm _
      wp_walk using wpAny_pyIter_tuple a1, wpAny_pyIter_list a2
      exact ⟨_, rfl, h⟩
    · have a1 : Heap.IsList (Shared.heap ⟨hp, g, d, tk, os⟩) l xs := gl
      have a2 : Heap.IsTuple (Shared.heap ⟨hp.push { cls := .type "list_iterator", data := .fields #[.ref l, .int 0 0] }, g, d, tk, os⟩) m ys := Heap.IsTuple.push gm _
      wp_walk using wpAny_pyIter_list a1, wpAny_pyIter_tuple a2
      exact ⟨_, rfl, h⟩
    · have a1 : Heap.IsList (Shared.heap ⟨hp, g, d, tk, os⟩) l xs := gl
      have a2 : Heap.IsList (Shared.heap ⟨hp.push { cls := .type "list_iterator", data := .fields #[.ref l, .int 0 0] }, g, d, tk, os⟩) m ys := Heap.IsList.push gm _
      wp_walk using wpAny_pyIter_list a1, wpAny_pyIter_list a2
      exact ⟨_, rfl, h⟩
theorem callM {prog : Program} {w : World} {A : Around} {E : Value → Shared → Prop} {s : Shared} {u v : Bool} {l m : Addr} {xs ys : Array Value} {Q : Value → Shared → Prop} (gl : SA u s.heap l xs) (gm : SA v s.heap m ys)
    (f : ∀ h', IsZip h' (s.heap.objs.size + 4) (s.heap.objs.size + 2) (s.heap.objs.size + 3) .none → IsPair h' (s.heap.objs.size + 2) (.ref s.heap.objs.size) (.ref (s.heap.objs.size + 1)) → IsPair h' (s.heap.objs.size + 3) .none .none →
      IA u h' s.heap.objs.size l 0 → IA v h' (s.heap.objs.size + 1) m 0 → (∀ c o, s.heap.get? c = some o → h'.get? c = some o) → Q (.ref (s.heap.objs.size + 4)) { s with heap := h' }) :
    wpAny (model prog w) A (call (.type "zip") [.ref l, .ref m]) Q E s := by
  refine callType_new F.called_zip (by decide) (F.typeCall_zip_2 _ _) (F.newCall_zip_2 _ _) (fun obj => F.args_object_init_3 obj _ _) F.entry_zip_new (meetsM u v l m xs ys) ⟨gl, gm, ?_⟩
  have y1 : (zM1 u s.heap l).objs.size = s.heap.objs.size + 1 := Heap.size_push ..
  have y2 : (zM1 v (zM1 u s.heap l) m).objs.size = s.heap.objs.size + 2 := by rw [Heap.size_push, y1]
  have y3 : (zM3 u v s.heap l m).objs.size = s.heap.objs.size + 3 := by rw [Heap.size_push, y2]
  have y4 : (zM4 u v s.heap l m).objs.size = s.heap.objs.size + 4 := by rw [Heap.size_push, y3]
  have up {h : Heap} {o o' : Obj} {c : Addr} (t : h.get? c = some o) : (h.push o').get? c = some o := Heap.get?_push_of_some _ t
  have k5 : (zM5 u v s.heap l m).get? (zM4 u v s.heap l m).objs.size = some _ := Heap.get?_push_size _ rfl
  have k4 : (zM5 u v s.heap l m).get? (zM3 u v s.heap l m).objs.size = some _ := up (Heap.get?_push_size _ rfl)
  have k3 : (zM5 u v s.heap l m).get? (zM1 v (zM1 u s.heap l) m).objs.size = some _ := up (up (Heap.get?_push_size _ rfl))
  have k2 : (zM5 u v s.heap l m).get? (zM1 u s.heap l).objs.size = some _ := up (up (up (Heap.get?_push_size _ rfl)))
  have k1 : (zM5 u v s.heap l m).get? s.heap.objs.size = some _ := up (up (up (up (Heap.get?_push_size _ rfl))))
  show _ ∧ _
  rw [y2, y3, y4] at k5
  rw [y1, y2] at k3
  rw [y3] at k4
  rw [y1] at k2
  rw [y4]
  have i1 : IA u (zM5 u v s.heap l m) s.heap.objs.size l 0 := by cases u <;> exact ⟨_, k1, rfl, rfl⟩
  have i2 : IA v (zM5 u v s.heap l m) (s.heap.objs.size + 1) m 0 := by cases v <;> exact ⟨_, k2, rfl, rfl⟩
  exact ⟨⟨_, k5, rfl⟩, f _ k5 k3 k4 i1 i2 fun c o t => up (up (up (up (up t))))⟩
/-! what is walked -/
def SqB : Bool → PySem.W.Frag → Hp → Addr → List V → Prop
  | true => SqL
  | false => SqT
theorem SqB.to {X : Cx} {pins : List (Addr × Obj)} {σ : L2.St} {H : Hp} {s : Shared} {u : Bool} {a : Addr} {xs : List V} (I : Inv X pins σ H s) (h : SqB u X.K H a xs) : ∃ its : List Value, Vals xs its ∧ SA u s.heap a its.toArray ∧ a < s.heap.objs.size := by
  cases u
  · obtain ⟨its, r, p, _⟩ := I.tuple h
    obtain ⟨o, e, _⟩ := id p
    exact ⟨its, r, p, Heap.lt_size e⟩
  · obtain ⟨its, r, p, _⟩ := I.list h
    exact ⟨its, r, p.isList, p.lt⟩
theorem SqB.inj {X : Cx} {pins : List (Addr × Obj)} {σ : L2.St} {H : Hp} {s : Shared} {u : Bool} {a : Addr} {xs ys : List V} (I : Inv X pins σ H s) (h : SqB u X.K H a xs) (h' : SqB u X.K H a ys) : xs = ys := by
  cases u
  · exact I.tuple_inj h h'
  · exact I.list_inj h h'
/-- both as they stand at each turn, the items in new pairs -/
def ItM (u v : Bool) (K : PySem.W.Frag) (a b : Addr) : It :=
  ⟨fun i H => ∃ (xs ys : List V) (x y : V), SqB u K H a xs ∧ SqB v K H b ys ∧ xs[i]? = some x ∧ ys[i]? = some y,
    fun i H o H' => ∃ T x y, o = .ref T ∧ H T = none ∧ H' = upd H T (.tup [x, y]) ∧ (∀ xs, SqB u K H a xs → xs[i]? = some x) ∧ ∀ ys, SqB v K H b ys → ys[i]? = some y,
    fun i H => ∃ xs ys : List V, SqB u K H a xs ∧ SqB v K H b ys ∧ (xs.length ≤ i ∨ ys.length ≤ i)⟩
theorem in5 {c n a b d e : Addr} (h : c ∈ [n, a, b, d, e]) : c = n ∨ c = a ∨ c = b ∨ c = d ∨ c = e := by simpa using h
theorem turnM {P : Program} {w : World} {K : PySem.W.Frag} {u v : Bool} {elts : List Expr} {kk : Nat} {tpos : Pos} {a b z p r i1 i2 : Addr} (D : ZipApart z p r i1 i2 a b) :
    Turn P w K (.Tuple elts kk tpos) (ItM u v K a b) [z, p, r, i1, i2] z (fun i h => IsZip h z p r .none ∧ IsPair h p (.ref i1) (.ref i2) ∧ (∃ x y, IsPair h r x y) ∧ IA u h i1 a i ∧ IA v h i2 b i) where
  mem := by simp
  obj := fun i h st c hc => by
    obtain ⟨gz, gp, ⟨x, y, gr⟩, g1, g2⟩ := st
    obtain ⟨o1, e1, y1, d1⟩ := g1.ob
    obtain ⟨o2, e2, y2, d2⟩ := g2.ob
    rcases in5 hc with rfl | rfl | rfl | rfl | rfl
    · exact ⟨_, gz, fun _ w => nomatch w⟩
    · exact ⟨_, gp, fun _ w => nomatch w⟩
    · exact ⟨_, gr, fun _ w => nomatch w⟩
    · exact ⟨o1, e1, fun _ w => by rw [d1] at w; cases w⟩
    · exact ⟨o2, e2, fun _ w => by rw [d2] at w; cases w⟩
  keep := fun i h h' st k => by
    obtain ⟨gz, gp, ⟨x, y, gr⟩, g1, g2⟩ := st
    exact ⟨k z (by simp) _ gz, k p (by simp) _ gp, ⟨x, y, k r (by simp) _ gr⟩, g1.mv fun o t => k i1 (by simp) o t, g2.mv fun o t => k i2 (by simp) o t⟩
  item := by
    intro X hP hw hK hc i pins s σ H E I hf st hg
    subst hP hw hK
    obtain ⟨gz, gp, ⟨x0, y0, gr⟩, g1, g2⟩ := st
    obtain ⟨xs, ys, x, y, qx, qy, ex, ey⟩ := hg
    obtain ⟨as, ra, sa, _⟩ := qx.to I
    obtain ⟨bs, rb, sb, _⟩ := qy.to I
    obtain ⟨c1, f1, r1⟩ := ra.get ex
    obtain ⟨c2, f2, r2⟩ := rb.get ey
    have zl : z < s.heap.objs.size := Heap.lt_size gz
    refine nextM_item D gz gp gr g1 g2 sa sb (x := c1) (y := c2) (by simpa using f1) (by simpa using f2) fun h' z' r' g1' g2' hT _ kp => ?_
    refine ⟨_, rfl, wpAny_letOwnedTupleGo_zip (s := { s with heap := h' }) z' fun h'' z'' bt => ?_⟩
    have hT2 : h''.get? s.heap.objs.size = some { cls := .type "tuple", data := .seq #[c1, c2] } := (bt.2 _ (Nat.ne_of_gt zl)).trans hT
    have new : ObjOk X.prog X.w (upd H s.heap.objs.size (.tup [x, y])) h'' s.heap.objs.size (.tup [x, y]) := ⟨by show 2 ≤ sizeLine; decide, [c1, c2], .cons r1 (.cons r2 .nil), _, hT2, rfl, _, rfl⟩
    have I1 : Inv X pins σ (upd H s.heap.objs.size (.tup [x, y])) { s with heap := h'' } :=
      I.turnedNew (t' := s.toks) (ch := [z, p, r, i1, i2]) (fun c o hb t => (bt.2 c (fun e => hb (by simp [e]))).trans (kp c o (fun e => hb (by simp [e])) (fun e => hb (by simp [e])) (fun e => hb (by simp [e])) (fun e => hb (by simp [e])) t)) hf (Nat.le_refl _) new
    refine ⟨.ref s.heap.objs.size, _, I1, rfl, ⟨_, x, y, rfl, I.hok.fresh (Nat.le_refl _), rfl, fun t ht => by rw [SqB.inj I ht qx]; exact ex, fun t ht => by rw [SqB.inj I ht qy]; exact ey⟩, ⟨z'', ?_, ⟨c1, c2, ?_⟩, ?_, ?_⟩, fun c hcm => ?_⟩
    · exact (bt.2 _ D.TIz).trans (kp _ _ D.TIz D.TITO D.TIi1 D.TIi2 gp)
    · exact (bt.2 _ D.TOz).trans r'
    · exact g1'.mv fun o t => (bt.2 _ D.i1z).trans t
    · exact g2'.mv fun o t => (bt.2 _ D.i2z).trans t
    · have lt : c < s.heap.objs.size := by
        rcases in5 hcm with rfl | rfl | rfl | rfl | rfl
        · exact zl
        · exact Heap.lt_size gp
        · exact Heap.lt_size gr
        · exact g1.lt
        · exact g2.lt
      rw [upd_ne (Nat.ne_of_lt lt)]
      exact (hf c hcm).1
  done := by
    intro X hP hw hK hc i pins s σ H E I hf st hg
    subst hP hw hK
    obtain ⟨gz, gp, ⟨x0, y0, gr⟩, g1, g2⟩ := st
    obtain ⟨xs, ys, qx, qy, fin⟩ := hg
    obtain ⟨as, ra, sa, _⟩ := qx.to I
    obtain ⟨bs, rb, sb, _⟩ := qy.to I
    have n1 := ra.length
    have n2 := rb.length
    have fe : as.toArray[i]? = none ∨ bs.toArray[i]? = none := by
      rcases fin with t | t
      · exact .inl (by simp; omega)
      · exact .inr (by simp; omega)
    exact nextM_end (I.ok.hd hc) D gz gp gr g1 g2 sa sb fe fun h' kp => ⟨rfl, I.turnedL (t' := s.toks) (ch := [z, p, r, i1, i2]) (fun c o hb t => kp c o (fun e => hb (by simp [e])) (fun e => hb (by simp [e])) (fun e => hb (by simp [e])) (fun e => hb (by simp [e])) t) hf⟩
  self := fun A i s Q E st h => wpAny_pyIter_zip st.1 h
def iZipM (K : PySem.W.Frag) (ta : TA) : TI := fun σ H R => ta σ H fun vs H1 => ∃ (u v : Bool) (a b : Addr) (xs ys : List V), vs = [.ref a, .ref b] ∧ SqB u K H1 a xs ∧ SqB v K H1 b ys ∧ R (ItM u v K a b) H1
theorem pi_zipM {X : Cx} {e e2 : Expr} {ta : TA} {p pos tpos : Pos} {elts : List Expr} {kk : Nat} (hg : Gl X "zip") (hm : X.mg "zip" = none) (ha : PA X [e, e2] ta)
    (hs : starEach [e, e2] X.env = (false, eval e X.env) :: starEach [e2] X.env := by rfl) (hp : (backTo pos (starEach [e2] X.env)).any (·.1) = false := by rfl) :
    PI X (.Tuple elts kk tpos) (.Call (.Name "zip" p) [e, e2] [] pos) (iZipM X.K ta) := by
  refine ⟨fun pins s σ H R I h => Call_ (ld_blt I hg hm PyProof.Rows.boot_zip (PyProof.Rows.callWith_type1 (thn (ha.run pos pins s σ H _ I h) fun us t ⟨vs, H1, I1, r1, q1⟩ => ?_) hs hp))⟩
  obtain ⟨u, v, a, b, xs, ys, ex, qa, qb, q1⟩ := q1
  subst ex
  cases r1 with
  | cons r rr =>
    cases rr with
    | cons r' rr =>
      cases rr
      cases r
      cases r'
      obtain ⟨as, ra, sa, la⟩ := qa.to I1
      obtain ⟨bs, rb, sb, lb⟩ := qb.to I1
      refine callM sa sb fun h' gz gp gr g1 g2 kp => wpAny_pyIter_zip gz ?_
      have I2 : Inv X pins σ H1 { t with heap := h' } := I1.kept (t' := t.toks) kp
      refine ⟨t.heap.objs.size + 4, [t.heap.objs.size + 4, t.heap.objs.size + 2, t.heap.objs.size + 3, t.heap.objs.size, t.heap.objs.size + 1], _, _, H1, rfl, I2, turnM (PySem.W.ktu_apart t.heap.objs.size a b la lb), ⟨gz, gp, ⟨_, _, gr⟩, g1, g2⟩, fun c hcm => ?_, q1⟩
      have le : t.heap.objs.size ≤ c := by rcases in5 hcm with rfl | rfl | rfl | rfl | rfl <;> omega
      exact I1.fpOk le (I1.hok.fresh le)
end Mc

/-! Mc9: slices, what is walked, comprehensions. -/
namespace Mc
open PySem PySem.Spec PyProof.Rows L2
section
variable (K : PySem.W.Frag)
/-- an end by cases, its value without a kind -/
def PostV {α : Type} (pa : Pa) (W : WX) (σ : L2.St) (m : Ms) (H : Hp) (r : R α) (Z : α → Hp → Prop) : Prop := match r with
  | .ok a p => ∀ H', Keep pa H H' → PenR pa m.M0 p H' → Rel K pa (fun _ => .sh) σ H' m → Z a H'
  | .err x p => ∀ cls dd H', Keep pa H H' → PenR pa m.M0 p H' → ExR K pa m.M0 x cls dd H' → W cls dd σ H'
  | .bad => False
def tevO (W : WX) (k : Nat → Kd) (r : Sl → P → R (Option Int)) : TO := fun σ H Q => ∃ m pa, Rel K pa k σ H m ∧ match r m.s m.p with
  | .ok o p => ∀ H', Keep pa H H' → PenR pa m.M0 p H' → Q o H'
  | .err x p => ∀ cls dd H', Keep pa H H' → PenR pa m.M0 p H' → ExR K pa m.M0 x cls dd H' → W cls dd σ H'
  | .bad => False
end
section
variable {X : Cx} {W : WX} {k : Nat → Kd} {κ κa κb κc : Kd} {a b c e : Expr} {es : List Expr} {ra rb rc re : Sl → P → R D} {rs rs2 : Sl → P → R (List D)} {ro rh : Sl → P → R (Option Int)} {pos p : Pos}
theorem eo_none : PO X none (tevO X.K W k fun _ p => .ok none p) := by
  refine ⟨fun pins s σ H Q I h => po_none.run pins s σ H Q I ?_⟩
  obtain ⟨m, pa, hr, h⟩ := h
  exact h H .refl hr.pen
theorem eo_some (he : PE X e (tev X.K W k κa re)) : PO X (some e) (tevO X.K W k fun s p => (re s p).bd fun d p => R.of (endD [d]) p) := by
  refine ⟨fun pins s σ H Q I h => (po_some he).run pins s σ H Q I ?_⟩
  obtain ⟨m, pa, hr, h⟩ := h
  refine ⟨m, pa, hr, ?_⟩
  dsimp only at h
  cases q : re m.s m.p with
  | ok d p =>
    rw [q] at h
    intro v H' hk hp hv
    have r1 := hv.bo fun a => hr.Mdom
    cases d with
    | int i =>
      simp only [RD] at r1
      exact ⟨i, r1, h H' hk hp⟩
    | _ => exact h.elim
  | err x p =>
    rw [q] at h
    exact h
  | bad =>
    rw [q] at h
    exact h
theorem tevO_bd {K : PySem.W.Frag} {pa : Pa} {σ : L2.St} {H : Hp} {m : Ms} {f : Option Int → P → R D} {Q : VK} {Z : Option Int → Hp → Prop} (hr : Rel K pa k σ H m) (h : Post K pa W σ m H κ ((ro m.s m.p).bd f) Q)
    (go : ∀ b p H1, Keep pa H H1 → Rel K pa k σ H1 { m with p := p } → Post K pa W σ { m with p := p } H1 κ (f b p) Q → Z b H1) : tevO K W k ro σ H Z := by
  refine ⟨m, pa, hr, ?_⟩
  cases e : ro m.s m.p with
  | ok d p =>
    rw [e] at h
    exact fun H1 hk hp => go d p H1 hk (hr.keep hk hp) (Post.move hk hp h)
  | err x p =>
    rw [e] at h
    exact h
  | bad =>
    rw [e] at h
    exact h
theorem ev_slc {lo hi : Option Expr} {p2 : Pos} (ha : PE X a (tev X.K W k κa ra)) (hl : PO X lo (tevO X.K W k ro)) (hh : PO X hi (tevO X.K W k rh)) : PE X (.Subscript a (.Slice lo hi none p2) pos) (tev X.K W k (shK κa) fun s p => (ra s p).bd fun x p => (ro s p).bd fun l p => (rh s p).bd fun h p => .of (slcD l h x) p) := by
  refine ⟨fun pins s σ H Q I h => ?_⟩
  obtain ⟨m, pa, hr, h⟩ := h
  refine (pe_slice (sl_D (pa := pa) (N := (shK κa).base m)) ha hl hh).run pins s σ H Q I ?_
  refine tev_bd hr h fun d p v H1 e hk hr1 hv h1 => ?_
  refine tevO_bd hr1 h1 fun l p1 H2 hk2 hr2 h2 => ?_
  refine tevO_bd hr2 h2 fun l2 p2 H3 hk3 hr3 h3 => ?_
  obtain ⟨z, ez, h4⟩ := of_ok' h3
  have r1 := (hv.up (κ := shK κa) (fun a => hr.Mdom) fun z => shK_bo z).move (hk2.trans hk3) (hr.basePa _)
  refine ⟨d, z, fun a ha => hr3.baseDom (shK κa) a (by rw [Kd.base_p, Kd.base_p, Kd.base_p]; exact ha), r1, ez, fun v H' g r => ?_⟩
  exact h4.fin hr3 hr3.pen (shK_cases _) v H' g (by rw [Kd.base_p, Kd.base_p, Kd.base_p]; exact r)
/-! ### new lists, tuples of a list of one's own -/
/-- list(e): a new list -/
theorem ev_list {x : Str} (hx : x = "list") (hg : Gl X x) (hm : X.mg x = none) (ha : PA X [a] (tevs X.K W k .sh rs)) (hst : noStar a = true) : PE X (.Call (.Name x p) [a] [] pos) (tev X.K W k (.fr 1) fun s p => (rs s p).bd fun ds p => .of (biD .list ds) p) := by
  subst hx
  refine (pe_callTy call_list_of hg hm (by decide +kernel) ha (by decide) (by decide) (star_cons hst) (star_any (es := []) rfl)).weak fun σ H Q ⟨m, pa, hr, h⟩ => ?_
  refine tevs_bd (κ1 := .sh) hr h fun d p v H1 e hk hr1 hv h1 => ?_
  obtain ⟨z, ez, h2⟩ := of_ok' h1
  have fin : ∀ (l : List D) (ys : List V), z = .lst l → RDs X.K pa m.M H1 l ys → ∀ q, H1 q = none → Q (.ref q) (upd H1 q (.lst ys)) := fun l ys ez r q hq => by
    subst ez
    exact h2 _ _ (Grow.new hq).keep (hr1.pen.new hq) (VR.new_lst (p := p) hr1 r hq)
  unfold biD at ez
  split at ez <;> first | (simp at *; done) | skip
  · cases ez
    obtain ⟨v, rfl, h3⟩ := rds1 hv
    simp only [RD] at h3
    obtain ⟨a, ys, rfl, na, ha, rr⟩ := h3
    exact ⟨a, ys, rfl, .inl (.of ha), fin _ ys rfl rr⟩
  · cases ez
    obtain ⟨v, rfl, h3⟩ := rds1 hv
    simp only [RD] at h3
    obtain ⟨a, ys, rfl, na, ha, rr⟩ := h3
    exact ⟨a, ys, rfl, .inr (.of ha), fin _ ys rfl rr⟩
/-- tuple(x), x a list of the def's own, one deep -/
theorem ev_tupleV {i : Nat} {x y : Str} {q : Pos} (hy : y = "tuple") (hg : Gl X y) (hm : X.mg y = none) (hN : X.N[i]? = some x) (hv : Vis X.env.scope x) (hd : (x == ("__debug__" : Str)) = false) (hcd : (x == ("__classdict__" : Str)) = false) (hki : k i = .fr 1) :
    PE X (.Call (.Name y p) [.Name x q] [] pos) (tev X.K W k .sh fun s p => (getS s i p).bd fun d p => .of (biD .tuple [d]) p) := by
  subst hy
  refine (pe_callTy call_tuple_of hg hm (by decide +kernel) (pa_cons (pe_var hN hv hd hcd) pa_nil (star_cons rfl)) (by decide) (by decide) (star_cons rfl) (star_any (es := []) rfl)).weak fun σ H Q ⟨m, pa, hr, h⟩ => ?_
  have h : Post X.K pa W σ m H .sh ((getS m.s i m.p).bd fun d p => .of (biD .tuple [d]) p) Q := h
  unfold getS at h
  split at h
  · rename_i d e
    obtain ⟨v, e1, r⟩ := hr.sl i d e
    rw [hki] at r
    obtain ⟨l, a, xs, rfl, rfl, ha, hf, rr⟩ := own1 (show Own X.K pa m.M H 1 d v (m.fp i) from r)
    refine ⟨_, e1, a, xs, rfl, .inl ⟨.of ha, ?_⟩⟩
    exact fin_tup (X := X) (hr.baseDom .sh) rr (Post.fin (c := .sh) (p := m.p) hr h hr.pen (.inr rfl))
  · exact h.elim
/-- list(x) of such a one -/
theorem ev_listV {i : Nat} {x y : Str} {q : Pos} (hy : y = "list") (hg : Gl X y) (hm : X.mg y = none) (hN : X.N[i]? = some x) (hv : Vis X.env.scope x) (hd : (x == ("__debug__" : Str)) = false) (hcd : (x == ("__classdict__" : Str)) = false) (hki : k i = .fr 1) :
    PE X (.Call (.Name y p) [.Name x q] [] pos) (tev X.K W k (.fr 1) fun s p => (getS s i p).bd fun d p => .of (biD .list [d]) p) := by
  subst hy
  refine (pe_callTy call_list_of hg hm (by decide +kernel) (pa_cons (pe_var hN hv hd hcd) pa_nil (star_cons rfl)) (by decide) (by decide) (star_cons rfl) (star_any (es := []) rfl)).weak fun σ H Q ⟨m, pa, hr, h⟩ => ?_
  have h : Post X.K pa W σ m H (.fr 1) ((getS m.s i m.p).bd fun d p => .of (biD .list [d]) p) Q := h
  unfold getS at h
  split at h
  · rename_i d e
    obtain ⟨v, e1, r⟩ := hr.sl i d e
    rw [hki] at r
    obtain ⟨l, a, xs, rfl, rfl, ha, hf, rr⟩ := own1 (show Own X.K pa m.M H 1 d v (m.fp i) from r)
    refine ⟨_, e1, a, xs, rfl, .inl (.of ha), fun q hq => ?_⟩
    exact h _ _ (Grow.new hq).keep (hr.pen.new hq) (VR.new_lst (p := m.p) hr rr hq)
  · exact h.elim
/-- sorted(e): a new list -/
theorem ev_sorted {x : Str} (hu : X.A.units + 65 < cLine) (hx : x = "sorted") (hg : Gl X x) (hm : X.mg x = none) (ha : PA X [a] (tevs X.K W k .sh rs)) (hst : noStar a = true) : PE X (.Call (.Name x p) [a] [] pos) (tev X.K W k (.fr 1) fun s p => (rs s p).bd fun ds p => .of (biD .sorted ds) p) := by
  subst hx
  refine ⟨fun pins s σ H Q I h => ?_⟩
  obtain ⟨m, pa, hr, h⟩ := h
  refine (pe_callB (call_srt (pa := pa) (N := m.M) hu) hg hm (by decide +kernel) ha (by decide) (by decide) (star_cons hst) (star_any (es := []) rfl)).run pins s σ H Q I ?_
  refine tevs_bd (κ1 := .sh) hr h fun d p v H1 e hk hr1 hv h1 => ?_
  obtain ⟨z, ez, h2⟩ := of_ok' h1
  have fin : ∀ (r : List D), z = .lst r → ∀ q ys, H1 q = none → RDs X.K pa m.M H1 r ys → Q (.ref q) (upd H1 q (.lst ys)) := fun r ez q ys hq rr => by
    subst ez
    exact h2 _ _ (Grow.new hq).keep (hr1.pen.new hq) (VR.new_lst (p := p) hr1 rr hq)
  unfold biD at ez
  split at ez <;> first | (simp at *; done) | skip
  · obtain ⟨r, er, rfl⟩ := Option.map_eq_some_iff.mp ez
    obtain ⟨v, rfl, h3⟩ := rds1 hv
    simp only [RD] at h3
    obtain ⟨a, ys, rfl, na, ha, rr⟩ := h3
    exact ⟨a, ys, _, r, rfl, .inl (.of ha), rr, er, fun a => hr1.Mdom, fin r rfl⟩
  · obtain ⟨r, er, rfl⟩ := Option.map_eq_some_iff.mp ez
    obtain ⟨v, rfl, h3⟩ := rds1 hv
    simp only [RD] at h3
    obtain ⟨a, ys, rfl, na, ha, rr⟩ := h3
    exact ⟨a, ys, _, r, rfl, .inr (.of ha), rr, er, fun a => hr1.Mdom, fin r rfl⟩
/-- sorted(x), x a list of the def's own -/
theorem ev_sortedV {i : Nat} {x y : Str} {q : Pos} (hu : X.A.units + 65 < cLine) (hy : y = "sorted") (hg : Gl X y) (hm : X.mg y = none) (hN : X.N[i]? = some x) (hv : Vis X.env.scope x) (hd : (x == ("__debug__" : Str)) = false) (hcd : (x == ("__classdict__" : Str)) = false) (hki : k i = .fr 1) :
    PE X (.Call (.Name y p) [.Name x q] [] pos) (tev X.K W k (.fr 1) fun s p => (getS s i p).bd fun d p => .of (biD .sorted [d]) p) := by
  subst hy
  refine ⟨fun pins s σ H Q I h => ?_⟩
  obtain ⟨m, pa, hr, h⟩ := h
  refine (pe_callB (call_srt (pa := pa) (N := m.M) hu) hg hm (by decide +kernel) (pa_cons (pe_var hN hv hd hcd) pa_nil (star_cons rfl)) (by decide) (by decide) (star_cons rfl) (star_any (es := []) rfl)).run pins s σ H Q I ?_
  have h : Post X.K pa W σ m H (.fr 1) ((getS m.s i m.p).bd fun d p => .of (biD .sorted [d]) p) Q := h
  unfold getS at h
  split at h
  · rename_i d e
    obtain ⟨v, e1, r⟩ := hr.sl i d e
    rw [hki] at r
    obtain ⟨l, a, xs, rfl, rfl, ha, hf, rr⟩ := own1 (show Own X.K pa m.M H 1 d v (m.fp i) from r)
    have h : Post X.K pa W σ m H (.fr 1) (.of ((sortD l).map .lst) m.p) Q := h
    cases er : sortD l with
    | none => rw [er] at h; exact h.elim
    | some r2 =>
      rw [er] at h
      exact ⟨_, e1, a, xs, l, r2, rfl, .inl (.of ha), rr, er, fun a => hr.Mdom, fun q ys hq rr2 => h _ _ (Grow.new hq).keep (hr.pen.new hq) (VR.new_lst (p := m.p) hr rr2 hq)⟩
  · exact h.elim
/-! ### what is walked -/
/-- J yields the data l, one after another, while Iv holds -/
def Walk (K : PySem.W.Frag) (pa : Pa) (N : Addr → Prop) (J : It) (l : List D) (H : Hp) : Prop := (∀ i d, l[i]? = some d → J.go i H ∧ ∀ y H', J.yld i H y H' → Grow H H' ∧ RD K pa N H' d y) ∧ ∀ i, l.length ≤ i → J.stop i H
/-- a list or a tuple -/
def iSeq (K : PySem.W.Frag) (tl : TE) : TI := fun σ H R => tl σ H fun x H1 => ∃ a, x = .ref a ∧ (((∃ xs, SqL K H1 a xs) ∧ R (Itl K a) H1) ∨ ((∃ xs, SqT K H1 a xs) ∧ R (Itt K a) H1))
theorem pi_seq {tg l : Expr} {tl : TE} (hl : PE X l tl) : PI X tg l (iSeq X.K tl) := by
  refine ⟨fun pins s σ H R I h => ?_⟩
  refine thn (hl.run pins s σ H _ I h) fun v s1 ⟨x, H1, I1, r1, q1⟩ => ?_
  obtain ⟨a, e, q1⟩ := q1
  subst e
  cases r1
  rcases q1 with ⟨⟨xs, hq⟩, q⟩ | ⟨⟨xs, hq⟩, q⟩
  · obtain ⟨its, rv, p, hz⟩ := I1.list hq
    refine wpAny_pyIter_list p.isList ?_
    refine ⟨s1.heap.objs.size, [s1.heap.objs.size], _, _, H1, rfl, I1.kept (t' := s1.toks) fun b o e => Heap.get?_push_of_some _ e, turn_list a _, ⟨_, Heap.get?_push_size _ rfl, rfl, rfl⟩, fun b hb => ?_, q⟩
    have e : b = s1.heap.objs.size := by simpa using hb
    subst e
    exact I1.fpOk (Nat.le_refl _) (I1.hok.fresh (Nat.le_refl _))
  · obtain ⟨its, rv, p, hz⟩ := I1.tuple hq
    refine wpAny_pyIter_tuple (show s1.heap.IsTuple a its.toArray from p) ?_
    refine ⟨s1.heap.objs.size, [s1.heap.objs.size], _, _, H1, rfl, I1.kept (t' := s1.toks) fun b o e => Heap.get?_push_of_some _ e, turn_tuple a _, ⟨_, Heap.get?_push_size _ rfl, rfl, rfl⟩, fun b hb => ?_, q⟩
    have e : b = s1.heap.objs.size := by simpa using hb
    subst e
    exact I1.fpOk (Nat.le_refl _) (I1.hok.fresh (Nat.le_refl _))
/-- the machine's walk: the items of κ's kind -/
def tit (K : PySem.W.Frag) (W : WX) (k : Nat → Kd) (κ : Kd) (r : Sl → P → R (List D)) : TI := fun σ H R => ∃ m pa, Rel K pa k σ H m ∧ match r m.s m.p with
  | .ok l p => ∀ J H', Keep pa H H' → PenR pa m.M0 p H' → (∀ H'' M', (∀ a o, ¬ κ.base m a → H' a = some o → H'' a = some o) → (∀ a, ¬ κ.base m a → H' a ≠ none → ¬ M' a) → (∀ a, M' a → H'' a ≠ none) → Walk K pa M' J l H'') → R J H'
  | .err x p => ∀ cls dd H', Keep pa H H' → PenR pa m.M0 p H' → ExR K pa m.M0 x cls dd H' → W cls dd σ H'
  | .bad => False
theorem walk_list {K : PySem.W.Frag} {pa : Pa} {M : Addr → Prop} {H : Hp} {a : Addr} {l : List D} {xs : List V} (ha : SqL K H a xs) (r : RDs K pa M H l xs) : Walk K pa M (Itl K a) l H := by
  refine ⟨fun i d e => ?_, fun i hi => ⟨xs, ha, by rw [← r.length]; exact hi⟩⟩
  obtain ⟨v, ev, rv⟩ := r.get e
  refine ⟨⟨xs, v, ha, ev⟩, fun y H' hy => ?_⟩
  obtain ⟨e', hy⟩ := hy
  subst e'
  have z := hy xs ha
  rw [ev] at z
  cases z
  exact ⟨.refl, rv⟩
theorem walk_tup {K : PySem.W.Frag} {pa : Pa} {M : Addr → Prop} {H : Hp} {a : Addr} {l : List D} {xs : List V} (ha : SqT K H a xs) (r : RDs K pa M H l xs) : Walk K pa M (Itt K a) l H := by
  refine ⟨fun i d e => ?_, fun i hi => ⟨xs, ha, by rw [← r.length]; exact hi⟩⟩
  obtain ⟨v, ev, rv⟩ := r.get e
  refine ⟨⟨xs, v, ha, ev⟩, fun y H' hy => ?_⟩
  obtain ⟨e', hy⟩ := hy
  subst e'
  have z := hy xs ha
  rw [ev] at z
  cases z
  exact ⟨.refl, rv⟩
theorem rangeD_len (a b : Int) : (rangeD a b).length = (b - a).toNat := by
  unfold rangeD
  rw [List.length_map, List.length_range]
theorem rangeD_get {a b : Int} {i : Nat} {d : D} (h : (rangeD a b)[i]? = some d) : i < (b - a).toNat ∧ d = .int (a + i) := by
  unfold rangeD at h
  rw [List.getElem?_map] at h
  obtain ⟨j, hj, e⟩ := Option.map_eq_some_iff.mp h
  obtain ⟨h1, h2⟩ := List.getElem?_eq_some_iff.mp hj
  rw [List.length_range] at h1
  rw [List.getElem_range] at h2
  subst h2
  exact ⟨h1, e.symm⟩
theorem walk_range {K : PySem.W.Frag} {pa : Pa} {M : Addr → Prop} {H : Hp} (a b : Int) : Walk K pa M (Itr a (b - a).toNat) (rangeD a b) H := by
  refine ⟨fun i d e => ?_, fun i hi => by rw [rangeD_len] at hi; exact hi⟩
  obtain ⟨h1, rfl⟩ := rangeD_get e
  refine ⟨h1, fun y H' hy => ?_⟩
  obtain ⟨e1, e2⟩ := hy
  subst e1 e2
  exact ⟨.refl, by simp only [RD]⟩
theorem tit_bd {K : PySem.W.Frag} {σ : L2.St} {H : Hp} {f : D → P → R (List D)} {Z : VK} {RR : It → Hp → Prop} (h : tit K W k κ (fun s p => (ra s p).bd f) σ H RR)
    (go : ∀ m pa d p v H1, Rel K pa k σ H m → ra m.s m.p = .ok d p → Keep pa H H1 → Rel K pa k σ H1 { m with p := p } → VR K pa m H H1 κa d v →
      (match f d p with
        | .ok l p => ∀ J H', Keep pa H H' → PenR pa m.M0 p H' → (∀ H'' M', (∀ a o, ¬ κ.base m a → H' a = some o → H'' a = some o) → (∀ a, ¬ κ.base m a → H' a ≠ none → ¬ M' a) → (∀ a, M' a → H'' a ≠ none) → Walk K pa M' J l H'') → RR J H'
        | .err x p => ∀ cls dd H', Keep pa H H' → PenR pa m.M0 p H' → ExR K pa m.M0 x cls dd H' → W cls dd σ H'
        | .bad => False) → Z v H1) : tev K W k κa ra σ H Z := by
  obtain ⟨m, pa, hr, h⟩ := h
  refine ⟨m, pa, hr, ?_⟩
  dsimp only at h
  cases e : ra m.s m.p with
  | ok d p =>
    rw [e] at h
    exact fun v H1 hk hp hv => go m pa d p v H1 hr e hk (hr.keep hk hp) hv h
  | err x p =>
    rw [e] at h
    exact h
  | bad =>
    rw [e] at h
    exact h
theorem ei_val {tg : Expr} (ha : PE X a (tev X.K W k κa ra)) : PI X tg a (tit X.K W k (shK κa) fun s p => (ra s p).bd fun d p => R.of (items .val [d]) p) := by
  refine (pi_seq ha).weak fun σ H RR h => ?_
  refine tit_bd h fun m pa d p v H1 hr e hk hr1 hv h1 => ?_
  have r1 := hv.up (κ := shK κa) (fun a => hr.Mdom) fun z => shK_bo z
  cases d with
  | tup l =>
    simp only [RD] at r1
    obtain ⟨a, xs, rfl, na, ha, rr⟩ := r1
    refine ⟨a, rfl, .inr ⟨⟨xs, .of ha⟩, h1 _ _ hk hr1.pen fun H'' M' s1 s2 _ => ?_⟩⟩
    exact walk_tup (.of (s1 _ _ na ha)) (RDs.stay s1 s2 _ _ rr)
  | lst l =>
    simp only [RD] at r1
    obtain ⟨a, xs, rfl, na, ha, rr⟩ := r1
    refine ⟨a, rfl, .inl ⟨⟨xs, .of ha⟩, h1 _ _ hk hr1.pen fun H'' M' s1 s2 _ => ?_⟩⟩
    exact walk_list (.of (s1 _ _ na ha)) (RDs.stay s1 s2 _ _ rr)
  | _ => exact h1.elim
theorem small62_ok {i : Int} (h : small62 i = true) : -(2 ^ 62) ≤ i ∧ i < 2 ^ 62 := by
  unfold small62 at h
  simp only [Bool.and_eq_true, decide_eq_true_eq] at h
  exact h
theorem ei_rng1 {tg : Expr} {x : Str} (hx : x = "range") (hg : Gl X x) (hm : X.mg x = none) (hs : PA X [a] (tevs X.K W k κ rs)) (hst : noStar a = true) (hl : ∀ s p ds p', rs s p = .ok ds p' → ds.length = 1) : PI X tg (.Call (.Name x p) [a] [] pos) (tit X.K W k .sh fun s p => (rs s p).bd fun ds p => R.of (items .rng ds) p) := by
  subst hx
  refine (pi_range1 hg hm hs (by rw [star_cons hst]; rfl)).weak fun σ H RR ⟨m, pa, hr, h⟩ => ⟨m, pa, hr, ?_⟩
  dsimp only at h
  cases e : rs m.s m.p with
  | ok d p =>
    rw [e] at h
    have hlen := hl _ _ _ _ e
    intro v H1 hk hp hv
    have h : (match R.of (items .rng d) p with
      | .ok l p => ∀ J H', Keep pa H H' → PenR pa m.M0 p H' → (∀ H'' M', (∀ a o, ¬ m.M a → H' a = some o → H'' a = some o) → (∀ a, ¬ m.M a → H' a ≠ none → ¬ M' a) → (∀ a, M' a → H'' a ≠ none) → Walk X.K pa M' J l H'') → RR J H'
      | .err x p => ∀ cls dd H', Keep pa H H' → PenR pa m.M0 p H' → ExR X.K pa m.M0 x cls dd H' → W cls dd σ H'
      | .bad => False) := h
    cases q : items .rng d with
    | none => rw [q] at h; exact h.elim
    | some l =>
      rw [q] at h
      unfold items at q
      split at q <;> first | (simp at *; done) | skip
      · split at q
        · rename_i j _ hb
          cases q
          obtain ⟨v, rfl, h3⟩ := rds1 hv
          simp only [RD] at h3
          subst h3
          obtain ⟨b1, b2⟩ := small62_ok hb
          refine ⟨j, rfl, b1, b2, ?_⟩
          have z := h (Itr 0 (j - 0).toNat) H1 hk hp fun H'' M' _ _ _ => walk_range 0 j
          rw [Int.sub_zero] at z
          exact z
        · cases q
  | err x p =>
    rw [e] at h
    exact h
  | bad =>
    rw [e] at h
    exact h
theorem ei_rng2 {tg : Expr} {x : Str} (hx : x = "range") (hg : Gl X x) (hm : X.mg x = none) (hs : PA X [a, b] (tevs X.K W k κ rs)) (hst : noStar a = true) (hst2 : noStar b = true) (hl : ∀ s p ds p', rs s p = .ok ds p' → ds.length = 2) : PI X tg (.Call (.Name x p) [a, b] [] pos) (tit X.K W k .sh fun s p => (rs s p).bd fun ds p => R.of (items .rng ds) p) := by
  subst hx
  refine (pi_range2 hg hm hs (by rw [star_cons hst, star_cons hst2]; rfl) (by rw [star_cons hst2]; rfl)).weak fun σ H RR ⟨m, pa, hr, h⟩ => ⟨m, pa, hr, ?_⟩
  dsimp only at h
  cases e : rs m.s m.p with
  | ok d p =>
    rw [e] at h
    have hlen := hl _ _ _ _ e
    intro v H1 hk hp hv
    have h : (match R.of (items .rng d) p with
      | .ok l p => ∀ J H', Keep pa H H' → PenR pa m.M0 p H' → (∀ H'' M', (∀ a o, ¬ m.M a → H' a = some o → H'' a = some o) → (∀ a, ¬ m.M a → H' a ≠ none → ¬ M' a) → (∀ a, M' a → H'' a ≠ none) → Walk X.K pa M' J l H'') → RR J H'
      | .err x p => ∀ cls dd H', Keep pa H H' → PenR pa m.M0 p H' → ExR X.K pa m.M0 x cls dd H' → W cls dd σ H'
      | .bad => False) := h
    cases q : items .rng d with
    | none => rw [q] at h; exact h.elim
    | some l =>
      rw [q] at h
      unfold items at q
      split at q <;> first | (simp at *; done) | skip
      · split at q
        · rename_i i j _ hb
          cases q
          obtain ⟨v, w, rfl, h3, h4⟩ := rds2 hv
          simp only [RD] at h3 h4
          subst h3 h4
          obtain ⟨b1, b2⟩ := small62_ok hb.1
          obtain ⟨b3, b4⟩ := small62_ok hb.2
          exact ⟨i, j, rfl, ⟨b1, b2, b3, b4⟩, h (Itr i (j - i).toNat) H1 hk hp fun H'' M' _ _ _ => walk_range i j⟩
        · cases q
  | err x p =>
    rw [e] at h
    exact h
  | bad =>
    rw [e] at h
    exact h
end
def itB (ex : List Nat) (κ : Kd) (m : Ms) (a : Addr) : Prop := κ.base m a ∧ ∀ j ∈ ex, a ∉ m.fp j
/-- as tit, but the lists of ex stay -/
def titX (K : PySem.W.Frag) (W : WX) (k : Nat → Kd) (ex : List Nat) (κ : Kd) (r : Sl → P → R (List D)) : TI := fun σ H RR => ∃ m pa, Rel K pa k σ H m ∧ match r m.s m.p with
  | .ok l p => ∀ J H', Keep pa H H' → PenR pa m.M0 p H' → (∀ H'' M', (∀ a o, ¬ itB ex κ m a → H' a = some o → H'' a = some o) → (∀ a, ¬ κ.base m a → H' a ≠ none → ¬ M' a) → (∀ a, M' a → H'' a ≠ none) → Walk K pa M' J l H'') → RR J H'
  | .err x p => ∀ cls dd H', Keep pa H H' → PenR pa m.M0 p H' → ExR K pa m.M0 x cls dd H' → W cls dd σ H'
  | .bad => False
section
variable {X : Cx} {W : WX} {k : Nat → Kd} {κ : Kd} {tg iter : Expr} {rs : Sl → P → R (List D)} {ex : List Nat}
theorem ei_ex (h : PI X tg iter (tit X.K W k κ rs)) : PI X tg iter (titX X.K W k ex κ rs) := by
  refine h.weak fun σ H RR ⟨m, pa, hr, h⟩ => ⟨m, pa, hr, ?_⟩
  cases e : rs m.s m.p with
  | ok l p =>
    rw [e] at h
    exact fun J H' hk hp hw => h J H' hk hp fun H'' M' h1 h2 h3 => hw H'' M' (fun a o n e => h1 a o (fun z => n z.1) e) h2 h3
  | err x p => rw [e] at h; exact h
  | bad => rw [e] at h; exact h
theorem Rel.itPa {K : PySem.W.Frag} {pa : Pa} {σ : L2.St} {H : Hp} {m : Ms} (h : Rel K pa k σ H m) : ∀ a, ¬ pa.No a → itB ex κ m a := fun a n => ⟨h.basePa κ a n, fun j _ z => h.free j _ z (h.pa0 a n)⟩
end
section
variable {X : Cx} {W : WX} {k : Nat → Kd} {κ : Kd} {a b : Expr} {rs : Sl → P → R (List D)} {pos p : Pos}
theorem zipD_get : ∀ {l r : List D} {i : Nat} {d : D}, (zipD l r)[i]? = some d → ∃ x y, l[i]? = some x ∧ r[i]? = some y ∧ d = .tup [x, y]
  | [], _, _, _, h => by simp [zipD] at h
  | _ :: _, [], _, _, h => by simp [zipD] at h
  | x :: l, y :: r, 0, d, h => by
    simp [zipD] at h
    exact ⟨x, y, rfl, rfl, h.symm⟩
  | x :: l, y :: r, i + 1, d, h => by
    simp only [zipD, List.getElem?_cons_succ] at h
    obtain ⟨x', y', h1, h2, h3⟩ := zipD_get h
    exact ⟨x', y', by simpa using h1, by simpa using h2, h3⟩
theorem zipD_len : ∀ {l r : List D}, (zipD l r).length = min l.length r.length
  | [], r => by simp [zipD]
  | _ :: _, [] => by simp [zipD]
  | x :: l, y :: r => by
    simp only [zipD, List.length_cons, zipD_len (l := l) (r := r)]
    omega
def sqO : Bool → List V → HO
  | true, xs => .lst xs
  | false, xs => .tup xs
theorem sqO_of {K : PySem.W.Frag} {H : Hp} {a : Addr} {xs : List V} : ∀ {u : Bool}, H a = some (sqO u xs) → SqB u K H a xs
  | true, e => .of e
  | false, e => .of e
theorem rd_seq {K : PySem.W.Frag} {pa : Pa} {M : Addr → Prop} {H : Hp} : ∀ {d : D} {l : List D} {v : V}, itemsD d = some l → RD K pa M H d v → ∃ (u : Bool) (a : Addr) (xs : List V), v = .ref a ∧ ¬ M a ∧ H a = some (sqO u xs) ∧ RDs K pa M H l xs
  | .tup l, _, _, e, r => by
    cases e
    simp only [RD] at r
    obtain ⟨a, xs, h⟩ := r
    exact ⟨false, a, xs, h⟩
  | .lst l, _, _, e, r => by
    cases e
    simp only [RD] at r
    obtain ⟨a, xs, h⟩ := r
    exact ⟨true, a, xs, h⟩
theorem ei_zip {elts : List Expr} {kk : Nat} {tpos : Pos} {x : Str} (hx : x = "zip") (hκ : κ = .bo ∨ κ = .sh) (hg : Gl X x) (hm : X.mg x = none) (hs : PA X [a, b] (tevs X.K W k κ rs)) (hst : noStar a = true) (hst2 : noStar b = true) (hl : ∀ s p ds p', rs s p = .ok ds p' → ds.length = 2) : PI X (.Tuple elts kk tpos) (.Call (.Name x p) [a, b] [] pos) (tit X.K W k κ fun s p => (rs s p).bd fun ds p => R.of (items .zip ds) p) := by
  subst hx
  refine (pi_zipM hg hm hs (by rw [star_cons hst]) (by rw [star_cons hst2]; rfl)).weak fun σ H RR ⟨m, pa, hr, h⟩ => ⟨m, pa, hr, ?_⟩
  dsimp only at h
  cases e : rs m.s m.p with
  | ok d p =>
    rw [e] at h
    have hlen := hl _ _ _ _ e
    intro v H1 hk hp hv
    have h : (match R.of (items .zip d) p with
      | .ok l p => ∀ J H', Keep pa H H' → PenR pa m.M0 p H' → (∀ H'' M', (∀ a o, ¬ κ.base m a → H' a = some o → H'' a = some o) → (∀ a, ¬ κ.base m a → H' a ≠ none → ¬ M' a) → (∀ a, M' a → H'' a ≠ none) → Walk X.K pa M' J l H'') → RR J H'
      | .err x p => ∀ cls dd H', Keep pa H H' → PenR pa m.M0 p H' → ExR X.K pa m.M0 x cls dd H' → W cls dd σ H'
      | .bad => False) := h
    obtain ⟨x, y, rfl⟩ : ∃ x y, d = [x, y] := by
      match d, hlen with
      | [x, y], _ => exact ⟨x, y, rfl⟩
    cases ex : itemsD x with
    | none => simp only [items, ex] at h; exact h.elim
    | some l =>
      cases ey : itemsD y with
      | none => simp only [items, ex, ey] at h; exact h.elim
      | some r =>
        simp only [items, ex, ey, R.of] at h
        obtain ⟨v1, v2, rfl, q1, q2⟩ := rds2 hv
        obtain ⟨u1, a1, xs, rfl, n1, e1, r1⟩ := rd_seq ex q1
        obtain ⟨u2, a2, ys, rfl, n2, e2, r2⟩ := rd_seq ey q2
        refine ⟨u1, u2, a1, a2, xs, ys, rfl, sqO_of e1, sqO_of e2, h (ItM u1 u2 X.K a1 a2) H1 hk hp fun H'' M' s1 s2 s3 => ⟨fun i d' e => ?_, fun i hi => ?_⟩⟩
        · obtain ⟨x, y, g1, g2, rfl⟩ := zipD_get e
          obtain ⟨vx, f1, rx⟩ := r1.get g1
          obtain ⟨vy, f2, ry⟩ := r2.get g2
          refine ⟨⟨xs, ys, vx, vy, sqO_of (s1 _ _ n1 e1), sqO_of (s1 _ _ n2 e2), f1, f2⟩, fun yv H3 ⟨T, x', y', ev, hT, eH, gx, gy⟩ => ?_⟩
          have ex := gx xs (sqO_of (s1 _ _ n1 e1))
          have ey := gy ys (sqO_of (s1 _ _ n2 e2))
          rw [f1] at ex; rw [f2] at ey
          cases ex; cases ey
          subst ev eH
          refine ⟨.new hT, ?_⟩
          simp only [RD]
          refine ⟨T, [vx, vy], rfl, fun z => s3 T z hT, upd_same, ?_⟩
          have st : ∀ a o, ¬ M' a → H'' a = some o → upd H'' T (.tup [vx, vy]) a = some o := fun a o _ e => by rw [upd_ne (ne_of_none e hT)]; exact e
          exact RDs.cons (RD.stay st (fun _ n _ => n) _ _ (RD.stay s1 s2 _ _ rx)) (RDs.one (RD.stay st (fun _ n _ => n) _ _ (RD.stay s1 s2 _ _ ry)))
        · rw [zipD_len] at hi
          refine ⟨xs, ys, sqO_of (s1 _ _ n1 e1), sqO_of (s1 _ _ n2 e2), ?_⟩
          rw [← r1.length, ← r2.length]
          omega
  | err x p =>
    rw [e] at h
    exact h
  | bad =>
    rw [e] at h
    exact h
end
/-! ### x[::-1] -/
namespace Rv
variable {prog : Program} {w : World} {A : Around} {E : Value → Shared → Prop} {s : Shared}
theorem places_rev (n : Nat) : Builtin.Slice.slicePlaces ((n : Int) - 1) (-1) (-1) = n := by
  unfold Builtin.Slice.slicePlaces
  have h1 : ¬ ((-1 : Int) > 0) := by decide
  simp only [h1, if_false]
  by_cases h : (n : Int) - 1 > -1
  · rw [if_pos h, show (- -1 : Int) = 1 by decide, Int.ediv_one]
    omega
  · rw [if_neg h]
    omega
theorem pick_rev (xs : Array Value) : ((List.range xs.size).filterMap fun (k : Nat) => xs[(((xs.size : Int) - 1) + (k : Int) * (-1)).toNat]?).toArray = xs.toList.reverse.toArray := by
  have e : (List.range xs.size).filterMap (fun (k : Nat) => xs[(((xs.size : Int) - 1) + (k : Int) * (-1)).toNat]?) = ((List.range xs.size).map fun k => xs.size - 1 - k).filterMap (xs[·]?) := by
    rw [List.filterMap_map]
    have : ∀ l : List Nat, (∀ k ∈ l, k < xs.size) → l.filterMap (fun (k : Nat) => xs[(((xs.size : Int) - 1) + (k : Int) * (-1)).toNat]?) = l.filterMap ((xs[·]?) ∘ fun k => xs.size - 1 - k) := fun l => by
      induction l with
      | nil => exact fun _ => rfl
      | cons a l ih =>
        intro h
        have ha := h a List.mem_cons_self
        rw [List.filterMap_cons, List.filterMap_cons, ih fun k hk => h k (List.mem_cons_of_mem _ hk)]
        have : (((xs.size : Int) - 1) + (a : Int) * (-1)).toNat = xs.size - 1 - a := by omega
        rw [this]; rfl
    exact this _ fun k hk => List.mem_range.mp hk
  rw [e, PySem.W.krv_range, List.filterMap_reverse, PySem.W.krv_all]
theorem applied {sl : Addr} {vl vu vs : Value} {n : Nat} {Q : Int × Int × Nat → Shared → Prop} (hs : s.heap.IsSliceOf sl vl vu vs) (pl : IsPart vl none) (pu : IsPart vu none) (ps : IsPart vs (some (-1)))
    (h : Q ((n : Int) - 1, -1, n) s) : wpAny (model prog w) A (Builtin.Slice.sliceApplied (.ref sl) (pure (n : Int))) Q E s := by
  obtain ⟨os, hos, hcs, hds⟩ := id hs
  unfold Builtin.Slice.sliceApplied Builtin.Slice.sliceFields
  refine wpAny_bind (wpAny_bind (wpAny_field hos hds (x := vl) rfl (wpAny_bind (wpAny_field hos hds (x := vu) rfl (wpAny_bind (wpAny_field hos hds (x := vs) rfl (wpAny_pure ?_)))))))
  refine wpAny_bind (HT.slicePart_ ps ?_)
  show wpAny _ _ (if ((-1 : Int) == 0) = true then _ else _) _ _ s
  rw [if_neg (by decide)]
  refine wpAny_bind (HT.slicePart_ pl (wpAny_bind (HT.slicePart_ pu (wpAny_bind (wpAny_pure ?_)))))
  show wpAny _ _ (pure ((n : Int) - 1, (-1 : Int), Builtin.Slice.slicePlaces ((n : Int) - 1) (-1) (-1))) _ _ s
  rw [places_rev]
  exact wpAny_pure h
theorem getItem_tuple {t sl : Addr} {items : Array Value} {vl vu vs : Value} {Q : Value → Shared → Prop} (ht : IsTup s.heap t items) (hs : s.heap.IsSliceOf sl vl vu vs) (pl : IsPart vl none) (pu : IsPart vu none) (ps : IsPart vs (some (-1)))
    (h : Q (.ref s.heap.objs.size) { s with heap := s.heap.push { cls := .type "tuple", data := .seq items.toList.reverse.toArray } })
    (hsz : items.size ≤ sizeLine) : wpAny (model prog w) A (getItem (.ref t) (.ref sl)) Q E s := by
  have htake : sizeOk (.seq items.toList.reverse.toArray) := by
    show items.toList.reverse.toArray.size ≤ sizeLine
    rw [List.size_toArray, List.length_reverse, Array.length_toList]
    exact hsz
  obtain ⟨os, hos, hcs, hds⟩ := id hs
  have hTs : s.TypeIs (.ref sl) "slice" := ⟨os, hos, hcs⟩
  unfold getItem
  try with_reducible refine wpAny_holding ?_
  first | refine wpAny_bind (wpAny_pure ?_) | skip
  refine wpAny_bind (wpAny_sequenceKey ht.typeIs (by decide) ?_)
  refine wpAny_bind (wpAny_callSpecial?_slot (name := Str.ofString "__getitem__") ht.typeIs PyProof.Rows.slot_tuple_getitem
    (wpAny_call_entry PyProof.Rows.slot_tuple_getitem ht.typeIs entry_tuple_getitem ?_ (args_tuple_getitem _ _)))
  show wpAny _ _ (Builtin.Tuple.tupleItemsOf (.ref t) >>= _) _ _ s
  refine wpAny_bind (tupleItemsOf_ ht ?_)
  refine wpAny_bind (wpAny_typeOf hTs ?_)
  rw [if_pos (by decide)]
  refine wpAny_bind (applied hs pl pu ps ?_)
  have hno : ¬ ((((items.size : Int) - 1) == 0 && (-1 : Int) == 1 && items.size == items.size) = true) := by
    intro q
    rw [Bool.and_eq_true, Bool.and_eq_true] at q
    exact absurd q.1.2 (by decide)
  show wpAny _ _ (if (((items.size : Int) - 1) == 0 && (-1 : Int) == 1 && items.size == items.size) = true then _ else _) _ _ s
  rw [if_neg hno, pick_rev]
  first
    | exact wpAny_bind (m := Builtin.Tuple.tupleExact _) (wpAny_newObj_type (wpAny_pure ⟨_, rfl, wpAny_pure h⟩) htake)
    | exact wpAny_bind (m := Builtin.Tuple.tupleExact _) (wpAny_newObj_type (wpAny_bind (wpAny_pure (wpAny_pure ⟨_, rfl, wpAny_pure h⟩))) htake)
    | exact wpAny_bind (wpAny_bind (m := Builtin.Tuple.tupleExact _) (wpAny_newObj_type (wpAny_pure (wpAny_pure ⟨_, rfl, wpAny_pure h⟩)) htake))
    | exact wpAny_bind (wpAny_bind (m := Builtin.Tuple.tupleExact _) (wpAny_newObj_type (wpAny_pure ⟨_, rfl, wpAny_pure h⟩) htake))
end Rv
section
variable {X : Cx}
def tRevA (K : PySem.W.Frag) (te : TE) : TE := fun σ H Q => te σ H fun x H1 => (∃ a xs, x = .ref a ∧ SqL K H1 a xs ∧ ∀ p, H1 p = none → Q (.ref p) (upd H1 p (.lst xs.reverse))) ∨ ∃ a xs, x = .ref a ∧ SqT K H1 a xs ∧ ∀ p, H1 p = none → Q (.ref p) (upd H1 p (.tup xs.reverse))
theorem pe_revA {e : Expr} {te : TE} {k : Nat} {p1 p2 p3 pos : Pos} (he : PE X e te) : PE X (.Subscript e (.Slice none none (some (.UnaryOp .USub (.Constant (.int 1) k p1) p2)) p3) pos) (tRevA X.K te) := by
  refine ⟨fun pins s σ H Q I h => ?_⟩
  refine Subscript_ (thn (he.run pins s σ H _ I h) fun v s1 ⟨x, H1, I1, r1, q1⟩ => ?_)
  have hst : PO X (some (.UnaryOp .USub (.Constant (.int 1) k p1) p2)) (tPart (tUn (rU fun i => .int (-i)) (tC (.int 1)))) := po_some (pe_un un_neg pe_int)
  refine wpAny_Slice (thn (po_none.run pins s1 σ H1 (fun o H2 => o = none ∧ H2 = H1) I1 ⟨rfl, rfl⟩) fun vl s2 ⟨l, H2, I2, pl, el, e2⟩ => ?_)
  subst el e2
  refine thn (po_none.run pins s2 σ H2 (fun o H3 => o = none ∧ H3 = H2) I2 ⟨rfl, rfl⟩) fun vu s3 ⟨u, H3, I3, pu, eu, e3⟩ => ?_
  subst eu e3
  refine thn (hst.run pins s3 σ H3 (fun o H4 => o = some (-1) ∧ H4 = H3) I3 ⟨1, rfl, -1, rfl, rfl, rfl⟩) fun vs s4 ⟨o, H4, I4, ps, eo, e4⟩ => ?_
  subst eo e4
  have I5 : Inv X pins σ H4 { s4 with heap := s4.heap.push { cls := .type "slice", data := .fields #[vl, vu, vs] } } := I4.kept (t' := s4.toks) fun b ob q => Heap.get?_push_of_some _ q
  rcases q1 with ⟨a, xs, ex, hx, q⟩ | ⟨a, xs, ex, hx, q⟩
  · subst ex
    cases r1
    obtain ⟨its, r, ht, hz⟩ := I5.list hx
    have hlen := r.length
    show wpAny (model X.prog X.w) X.A (subscriptTail e (.Slice none none (some (.UnaryOp .USub (.Constant (.int 1) k p1) p2)) p3) (.ref a) (.ref s4.heap.objs.size)) (EP X pins σ Q) X.xe { s4 with heap := s4.heap.push { cls := .type "slice", data := .fields #[vl, vu, vs] } }
    refine tail_any (ops := [.ref a, .ref s4.heap.objs.size]) ht.isList.typeIs (PySem.slot_list_getitem.lookup) ?_ (by with_unfolding_all rfl)
    refine wpAny_getItem_list_slice ht.isList (Heap.IsSliceOf.new _ vl vu vs) pl pu ps (by decide) ?_ (by rw [List.size_toArray]; omega)
    rw [PySem.W.krv_pick]
    refine ⟨.ref _, _, I5.laid (t' := s4.toks) (o := .lst xs.reverse) (fun b ob q => Heap.get?_push_of_some _ q) (Nat.le_refl _) ?_, rfl, q _ (I5.hok.fresh (Nat.le_refl _))⟩
    exact ⟨by rw [List.length_reverse]; exact hz, _, 0, r.reverse, Heap.get?_push_size _ rfl⟩
  · subst ex
    cases r1
    obtain ⟨its, r, ht, hz⟩ := I5.tuple hx
    have hlen := r.length
    show wpAny (model X.prog X.w) X.A (subscriptTail e (.Slice none none (some (.UnaryOp .USub (.Constant (.int 1) k p1) p2)) p3) (.ref a) (.ref s4.heap.objs.size)) (EP X pins σ Q) X.xe { s4 with heap := s4.heap.push { cls := .type "slice", data := .fields #[vl, vu, vs] } }
    refine tail_any (ops := [.ref a, .ref s4.heap.objs.size]) ht.typeIs (PyProof.Rows.slot_tuple_getitem.lookup) ?_ (by with_unfolding_all rfl)
    refine Rv.getItem_tuple ht (Heap.IsSliceOf.new _ vl vu vs) pl pu ps ?_ (by rw [List.size_toArray]; omega)
    refine ⟨.ref _, _, I5.laid (t' := s4.toks) (o := .tup xs.reverse) (fun b ob q => Heap.get?_push_of_some _ q) (Nat.le_refl _) ?_, rfl, q _ (I5.hok.fresh (Nat.le_refl _))⟩
    exact ⟨by rw [List.length_reverse]; exact hz, _, r.reverse, IsTup.new _ _⟩
end
section
variable {X : Cx} {W : WX} {k : Nat → Kd} {κa : Kd} {a : Expr} {ra : Sl → P → R D} {pos : Pos}
theorem RDs.reverse {K : PySem.W.Frag} {pa : Pa} {M : Addr → Prop} {H : Hp} : ∀ {l : List D} {xs : List V}, RDs K pa M H l xs → RDs K pa M H l.reverse xs.reverse
  | [], xs, h => by
    simp only [RDs] at h
    subst h
    simp only [List.reverse_nil, RDs]
  | d :: l, xs, h => by
    simp only [RDs] at h
    obtain ⟨v, r, rfl, h1, h2⟩ := h
    rw [List.reverse_cons, List.reverse_cons]
    refine RDs.append (RDs.reverse h2) ?_
    simp only [RDs]
    exact ⟨v, [], rfl, h1, rfl⟩
theorem ev_rev {kk : Nat} {p1 p2 p3 : Pos} (ha : PE X a (tev X.K W k κa ra)) : PE X (.Subscript a (.Slice none none (some (.UnaryOp .USub (.Constant (.int 1) kk p1) p2)) p3) pos) (tev X.K W k (shK κa) fun s p => (ra s p).bd fun x p => .of (revD x) p) := by
  refine ⟨fun pins s σ H Q I h => ?_⟩
  obtain ⟨m, pa, hr, h⟩ := h
  refine (pe_revA ha).run pins s σ H Q I ?_
  refine tev_bd hr h fun d p v H1 e hk hr1 hv h1 => ?_
  obtain ⟨z, ez, h4⟩ := of_ok' h1
  have r1 := hv.up (κ := shK κa) (fun a => hr.Mdom) fun z => shK_bo z
  have hN : ∀ a, (shK κa).base { m with p := p } a → H1 a ≠ none := fun a ha => hr1.baseDom (shK κa) a ha
  have fin := h4.fin hr1 hr1.pen (shK_cases κa)
  have r1 : RD X.K pa ((shK κa).base { m with p := p }) H1 d v := by rw [Kd.base_p]; exact r1
  unfold revD at ez
  split at ez
  · cases ez
    simp only [RD] at r1
    obtain ⟨a, xs, rfl, na, ha, r⟩ := r1
    exact .inr ⟨a, xs, rfl, .of ha, fin_tup (X := X) hN r.reverse fin⟩
  · cases ez
    simp only [RD] at r1
    obtain ⟨a, xs, rfl, na, ha, r⟩ := r1
    exact .inl ⟨a, xs, rfl, .of ha, fin_lst (X := X) hN r.reverse fin⟩
  · cases ez
end
end Mc

/-! Mc9e: enumerate of a tuple. -/
namespace Mc
open PySem PySem.Spec PyProof.Rows L2
namespace En
open Sem (wp)
set_option maxHeartbeats 1000000 in
theorem meets_new1 {v : Value} {o : Obj} {H : Heap → Prop} (B : Begins v o H) :
    Meets (Builtin.«enumerate.__new__» ⟨[.type "enumerate", v], []⟩) (fun _ R s => H s.heap ∧
      R (.ok (.ret (.ref (s.heap.push o).objs.size))) { s with heap := (s.heap.push o).push { cls := .type "enumerate", data := .fields #[.none, .bool false, .ref s.heap.objs.size, rawInt 0, .none, .none] } }) :=
  .of_wp fun prog w A R s h => by
    obtain ⟨hp, g, d, tk, os⟩ := s; obtain ⟨h1, h⟩ := h
    have hsub := sub_enumerate
    have q1 : ∀ {A' : Around} {E : Value → Shared → Prop} {Q : Value → Shared → Prop}, Q (.ref hp.objs.size) ⟨hp.push o, g, d, tk, os⟩ → wpAny (model prog w) A' (pyIter v) Q E ⟨hp, g, d, tk, os⟩ :=
      fun q => B.iter prog w _ _ ⟨hp, g, d, tk, os⟩ _ h1 q
    wp_walk using q1
    refine wpAny_stack_any fun st => wpAny_pure ?_
    split
    · rename_i c _ _ _ _ _
      cases (c == Value.type "enumerate")
      · wp_walk using q1
        exact ⟨_, rfl, h⟩
      · wp_walk using q1
        exact ⟨_, rfl, h⟩
    · wp_walk using q1
      exact ⟨_, rfl, h⟩
section
variable {prog : Program} {w : World} {A : Around} {E : Value → Shared → Prop} {s : Shared}
theorem begins1 {v : Value} {o : Obj} {H : Heap → Prop} {Q : Value → Shared → Prop} (B : Begins v o H) (h1 : H s.heap)
    (h : ∀ h', IsEnum h' (s.heap.objs.size + 1) s.heap.objs.size 0 .none → h'.get? s.heap.objs.size = some o → h'.objs.size = s.heap.objs.size + 2 →
      (∀ b o, s.heap.get? b = some o → h'.get? b = some o) → Q (.ref (s.heap.objs.size + 1)) { s with heap := h' }) :
    wpAny (model prog w) A (call (.type "enumerate") [v]) Q E s := by
  refine callType_new F.called_enumerate (by decide) (F.typeCall_enumerate_1 _) (F.newCall_enumerate_1 _) (fun obj => F.args_object_init_2 obj _) F.entry_enumerate_new
    (meets_new1 B) ⟨h1, ?_⟩
  have hz : (s.heap.push o).objs.size = s.heap.objs.size + 1 := Heap.size_push ..
  show _ ∧ _
  rw [hz]
  have he : IsEnum ((s.heap.push o).push { cls := .type "enumerate", data := .fields #[.none, .bool false, .ref s.heap.objs.size, rawInt 0, .none, .none] }) (s.heap.objs.size + 1) s.heap.objs.size 0 .none := by
    have := Heap.get?_push_size (s.heap.push o) (o := { cls := .type "enumerate", data := .fields #[.none, .bool false, .ref s.heap.objs.size, rawInt 0, .none, .none] }) rfl
    rw [hz] at this; exact this
  refine ⟨⟨_, he, rfl⟩, h _ he (Heap.get?_push_of_some _ (Heap.get?_push_size _ B.free)) (by rw [Heap.size_push, hz]) fun b o x => Heap.get?_push_of_some _ (Heap.get?_push_of_some _ x)⟩
end
section
variable {prog : Program} {w : World} {A : Around} {E : Value → Shared → Prop} {s : Shared}
theorem next_endT {e it l : Addr} {i : Nat} {items : Array Value} {old : Value} {Q : Option Value → Shared → Prop} (hh : A.handled = none)
    (he : IsEnum s.heap e it i old) (hit : s.heap.IsTupleIter it l i) (hl : s.heap.IsTuple l items) (hx : items[i]? = none)
    (hQ : ∀ h', Heap.ExtBut it s.heap h' → Q none { s with heap := h' }) : wpAny (model prog w) A (pyNext (.ref e)) Q E s := by
  have hT : s.TypeIs (.ref e) "enumerate" := ⟨_, he, rfl⟩
  unfold pyNext
  refine wpAny_bind (wpAny_attempt (wpAny_callSpecial?_slot (name := Str.ofString "__next__") hT F.slot_enumerate_next
    (wpAny_call_entry F.slot_enumerate_next hT F.entry_enumerate_next ?_ (F.args_enumerate_next_1 _))))
  show wpAny _ _ (field (.ref e) 2 >>= _) _ _ _
  refine wpAny_bind (wpAny_field he rfl (x := .ref it) rfl ?_)
  refine wpAny_bind (wpAny_nextOf_tuple_end hh hit hl hx fun h' x he' hx' => ?_)
  obtain ⟨o, ho, hc⟩ := hx'
  refine wpAny_bind (wpAny_isInstance (T := "StopIteration") (b := true) ⟨o, ho, hc⟩ isSubtype_stop ?_)
  exact wpAny_pure (hQ _ he')
end
/-- the tuple at a, each item in a new pair -/
def ItT (K : PySem.W.Frag) (a : Addr) : It :=
  ⟨fun i H => ∃ (xs : List V) (x : V), SqT K H a xs ∧ xs[i]? = some x, fun i H v H' => ∃ T x, v = .ref T ∧ H T = none ∧ H' = upd H T (.tup [.int (i : Nat), x]) ∧ ∀ xs, SqT K H a xs → xs[i]? = some x, fun i H => ∃ xs : List V, SqT K H a xs ∧ xs.length ≤ i⟩
theorem turn_enumT {P : Program} {w : World} {K : PySem.W.Frag} {elts : List Expr} {kk : Nat} {tpos : Pos} (a e it : Addr) (hae : a ≠ e) (hai : a ≠ it) :
    Turn P w K (.Tuple elts kk tpos) (ItT K a) [e, it] e (fun i h => (∃ old, IsEnum h e it ((i : Nat) : Int) old) ∧ h.IsTupleIter it a i ∧ e ≠ it) where
  mem := by simp
  obj := fun i h st b hb => by
    obtain ⟨⟨old, he⟩, ⟨o, ho, hc, hd⟩, _⟩ := st
    have e' : b = e ∨ b = it := by simpa using hb
    rcases e' with z | z
    · rw [z]; exact ⟨_, he, fun v q => nomatch q⟩
    · rw [z]; exact ⟨o, ho, fun v q => by rw [hd] at q; cases q⟩
  keep := fun i h h' st k => let ⟨⟨old, he⟩, hi, hne⟩ := st; ⟨⟨old, k e (by simp) _ he⟩, hi.at fun o q => k it (by simp) o q, hne⟩
  item := by
    intro X hP hw hK hc i pins s σ H E I hf st hg
    subst hP hw hK
    obtain ⟨⟨old, he⟩, hit, hne⟩ := st
    obtain ⟨xs, x, hq, hx⟩ := hg
    obtain ⟨its, rv, p, hz⟩ := I.tuple hq
    obtain ⟨u, hu, ru⟩ := rv.get hx
    have hel : e < s.heap.objs.size := Heap.lt_size he
    have hil : it < s.heap.objs.size := by obtain ⟨_, q, _⟩ := hit; exact Heap.lt_size q
    have pt : s.heap.IsTuple a its.toArray := p
    have hu' : its.toArray[i]? = some u := by simpa using hu
    have hlt : i < its.toArray.size := by
      rcases Array.getElem?_eq_some_iff.mp hu' with ⟨h, _⟩; exact h
    have D : Draws X.prog X.w X.A.in1 it [it, a] its.toArray.size (fun i v => its.toArray[i]? = some v) (fun i h => h.IsTupleIter it a i ∧ h.IsTuple a its.toArray) := Draws.tuple (A := X.A.in1) (I.ok.hd hc) it a hai its.toArray
    refine wpAny_pyNext_enum_itemD D he ⟨hit, pt⟩ hlt hne (by simp [hne, Ne.symm hae]) fun x2 h' tk hP2 ho hst2 hT hsz hk => ?_
    have ex : x2 = u := by rw [hP2] at hu'; exact Option.some.inj hu'
    subst ex
    refine ⟨_, rfl, wpAny_letOwnedTupleGo_enum (s := { s with heap := h', toks := tk + 1 }) ho fun h'' he' sb => ?_⟩
    have hT2 : h''.get? s.heap.objs.size = some { cls := .type "tuple", data := .seq #[.int i tk, x2] } := (sb.2 _ (Nat.ne_of_gt hel)).trans hT
    have new : ObjOk X.prog X.w (upd H s.heap.objs.size (.tup [.int (i : Nat), x])) h'' s.heap.objs.size (.tup [.int (i : Nat), x]) :=
      ⟨by show 2 ≤ sizeLine; decide, [.int i tk, x2], .cons ⟨_, rfl⟩ (.cons ru .nil), ⟨_, hT2, rfl, _, rfl⟩⟩
    have I1 : Inv X pins σ (upd H s.heap.objs.size (.tup [.int (i : Nat), x])) { s with heap := h'', toks := tk + 1 } :=
      I.turnedNew (ch := [e, it]) (fun b ob hb q => (sb.2 b (fun z => hb (by simp [z]))).trans (hk b ob (fun z => hb (by simp [z])) (fun z => hb (by simp [z])) q)) hf (Nat.le_refl _) new
    refine ⟨.ref s.heap.objs.size, _, I1, rfl, ⟨_, x, rfl, I.hok.fresh (Nat.le_refl _), rfl, fun ys hy => by rw [I.tuple_inj hy hq]; exact hx⟩, ⟨⟨x2, ?_⟩, hst2.1.at fun o q => (sb.2 it (Ne.symm hne)).trans q, hne⟩, fun b hb => ?_⟩
    · have e1 : ((i + 1 : Nat) : Int) = (i : Int) + 1 := by omega
      rw [e1]; exact he'
    · have hb' : b < s.heap.objs.size := by
        have e' : b = e ∨ b = it := by simpa using hb
        rcases e' with z | z
        · rw [z]; exact hel
        · rw [z]; exact hil
      rw [upd_ne (Nat.ne_of_lt hb')]
      exact (hf b hb).1
  done := by
    intro X hP hw hK hc i pins s σ H E I hf st hg
    subst hP hw hK
    obtain ⟨⟨old, he⟩, hit, hne⟩ := st
    obtain ⟨xs, hq, hx⟩ := hg
    obtain ⟨its, rv, p, hz⟩ := I.tuple hq
    obtain ⟨f0, f1, f2, f3, f4, f5⟩ := hf it (by simp)
    have hl := rv.length
    exact next_endT (I.ok.hd hc) he hit (show s.heap.IsTuple a its.toArray from p) (by simp; omega) fun h' eb => ⟨rfl, I.turned (t' := s.toks) (fun b o hb q => eb b o hb q) f0 f1 f3 f4 f5⟩
  self := fun A i s Q E st h => let ⟨⟨_, he⟩, _⟩ := st; wpAny_pyIter_enum he h
def iEnumT (K : PySem.W.Frag) (ta : TA) : TI := fun σ H R => ta σ H fun vs H1 => ∃ a xs, vs = [.ref a] ∧ SqT K H1 a xs ∧ R (ItT K a) H1
theorem pi_enumT {X : Cx} {e : Expr} {ta : TA} {p pos tpos : Pos} {elts : List Expr} {kk : Nat} (hg : Gl X "enumerate") (hm : X.mg "enumerate" = none) (ha : PA X [e] ta) (hs : starEach [e] X.env = [(false, eval e X.env)]) :
    PI X (.Tuple elts kk tpos) (.Call (.Name "enumerate" p) [e] [] pos) (iEnumT X.K ta) := by
  refine ⟨fun pins s σ H R I h => ?_⟩
  refine Call_ (ld_blt I hg hm boot_enumerate (PyProof.Rows.callWith_type1 (thn (ha.run pos pins s σ H _ I h) fun us s1 ⟨vs, H1, I1, r1, q1⟩ => ?_) hs rfl))
  obtain ⟨a, xs, ex, hq, q⟩ := q1
  subst ex
  cases r1 with
  | cons r rr =>
    cases rr
    cases r
    obtain ⟨its, rv, p', hz⟩ := I1.tuple hq
    have al : a < s1.heap.objs.size := by obtain ⟨o, ho, _⟩ := p'; exact Heap.lt_size ho
    refine begins1 (begins_tuple a its.toArray) (show s1.heap.IsTuple a its.toArray from p') fun h' he ho hsz hk => wpAny_pyIter_enum he ?_
    have hit : h'.IsTupleIter s1.heap.objs.size a 0 := ⟨_, ho, rfl, rfl⟩
    have I2 : Inv X pins σ H1 { s1 with heap := h' } := I1.kept (t' := s1.toks) hk
    refine ⟨s1.heap.objs.size + 1, [s1.heap.objs.size + 1, s1.heap.objs.size], _, _, H1, rfl, I2, turn_enumT a (s1.heap.objs.size + 1) s1.heap.objs.size (Nat.ne_of_lt (Nat.lt_succ_of_lt al)) (Nat.ne_of_lt al), ⟨⟨.none, he⟩, hit, Nat.succ_ne_self _⟩, fun b hb => ?_, q⟩
    have e' : b = s1.heap.objs.size + 1 ∨ b = s1.heap.objs.size := by simpa using hb
    have hle : s1.heap.objs.size ≤ b := by
      rcases e' with z | z
      · rw [z]; exact Nat.le_add_right _ _
      · rw [z]; exact Nat.le_refl _
    exact I1.fpOk hle (I1.hok.fresh hle)
end En
section
variable {X : Cx} {W : WX} {k : Nat → Kd} {κ : Kd} {a : Expr} {rs : Sl → P → R (List D)} {pos p : Pos}
theorem enumD_get : ∀ {l : List D} {n i : Nat} {d : D}, (enumD n l)[i]? = some d → ∃ x, l[i]? = some x ∧ d = .tup [.int ((n + i : Nat) : Int), x]
  | [], _, _, _, h => by simp [enumD] at h
  | x :: l, n, 0, d, h => by
    simp [enumD] at h
    exact ⟨x, rfl, h.symm⟩
  | x :: l, n, i + 1, d, h => by
    simp only [enumD, List.getElem?_cons_succ] at h
    obtain ⟨x', h1, h2⟩ := enumD_get h
    refine ⟨x', by simpa using h1, ?_⟩
    rw [h2, show n + 1 + i = n + (i + 1) by omega]
theorem enumD_len : ∀ {l : List D} {n : Nat}, (enumD n l).length = l.length
  | [], _ => rfl
  | _ :: l, n => by simp only [enumD, List.length_cons, enumD_len (l := l)]
theorem ei_enum {elts : List Expr} {kk : Nat} {tpos : Pos} {x : Str} (hx : x = "enumerate") (hκ : κ = .bo ∨ κ = .sh) (hg : Gl X x) (hm : X.mg x = none) (hs : PA X [a] (tevs X.K W k κ rs)) (hst : noStar a = true) (hl : ∀ s p ds p', rs s p = .ok ds p' → ds.length = 1) : PI X (.Tuple elts kk tpos) (.Call (.Name x p) [a] [] pos) (tit X.K W k κ fun s p => (rs s p).bd fun ds p => R.of (items .enm ds) p) := by
  subst hx
  refine (En.pi_enumT hg hm hs (by rw [star_cons hst]; rfl)).weak fun σ H RR ⟨m, pa, hr, h⟩ => ⟨m, pa, hr, ?_⟩
  dsimp only at h
  cases e : rs m.s m.p with
  | ok d p =>
    rw [e] at h
    have hlen := hl _ _ _ _ e
    intro v H1 hk hp hv
    have h : (match R.of (items .enm d) p with
      | .ok l p => ∀ J H', Keep pa H H' → PenR pa m.M0 p H' → (∀ H'' M', (∀ a o, ¬ κ.base m a → H' a = some o → H'' a = some o) → (∀ a, ¬ κ.base m a → H' a ≠ none → ¬ M' a) → (∀ a, M' a → H'' a ≠ none) → Walk X.K pa M' J l H'') → RR J H'
      | .err x p => ∀ cls dd H', Keep pa H H' → PenR pa m.M0 p H' → ExR X.K pa m.M0 x cls dd H' → W cls dd σ H'
      | .bad => False) := h
    obtain ⟨x, rfl⟩ : ∃ x, d = [x] := by
      match d, hlen with
      | [x], _ => exact ⟨x, rfl⟩
    cases x with
    | tup l =>
      simp only [items, R.of] at h
      obtain ⟨v1, rfl, q1⟩ := rds1 hv
      simp only [RD] at q1
      obtain ⟨a1, xs, rfl, n1, e1, r1⟩ := q1
      refine ⟨a1, xs, rfl, .of e1, h (En.ItT X.K a1) H1 hk hp fun H'' M' s1 s2 s3 => ⟨fun i d' e => ?_, fun i hi => ?_⟩⟩
      · obtain ⟨x, g1, rfl⟩ := enumD_get e
        obtain ⟨vx, f1, rx⟩ := r1.get g1
        refine ⟨⟨xs, vx, .of (s1 _ _ n1 e1), f1⟩, fun yv H3 ⟨T, x', ev, hT, eH, gx⟩ => ?_⟩
        have ex := gx xs (.of (s1 _ _ n1 e1))
        rw [f1] at ex
        cases ex
        subst ev eH
        refine ⟨.new hT, ?_⟩
        simp only [RD]
        refine ⟨T, [.int (i : Nat), vx], rfl, fun z => s3 T z hT, upd_same, ?_⟩
        have st : ∀ a o, ¬ M' a → H'' a = some o → upd H'' T (.tup [.int (i : Nat), vx]) a = some o := fun a o _ e => by rw [upd_ne (ne_of_none e hT)]; exact e
        exact RDs.cons (by simp only [RD, Nat.zero_add]) (RDs.one (RD.stay st (fun _ n _ => n) _ _ (RD.stay s1 s2 _ _ rx)))
      · rw [enumD_len] at hi
        refine ⟨xs, .of (s1 _ _ n1 e1), ?_⟩
        rw [← r1.length]
        omega
    | _ => simp only [items] at h; exact h.elim
  | err x p =>
    rw [e] at h
    exact h
  | bad =>
    rw [e] at h
    exact h
end
end Mc

/-! Mc10: targets, comprehensions. -/
namespace Mc
open PySem PySem.Spec PyProof.Rows L2
mutual
def patSl : Pat → List Nat
  | .nm i => [i]
  | .tp l => patSls l
def patSls : List Pat → List Nat
  | [] => []
  | q :: r => patSl q ++ patSls r
end
def SameBut (ps : List Nat) (σ σ' : L2.St) : Prop := σ'.length = σ.length ∧ ∀ i, i ∉ ps → σ'[i]? = σ[i]?
theorem SameBut.refl {ps : List Nat} {σ : L2.St} : SameBut ps σ σ := ⟨rfl, fun _ _ => rfl⟩
theorem SameBut.trans {ps qs : List Nat} {σ σ' σ'' : L2.St} (a : SameBut ps σ σ') (b : SameBut qs σ' σ'') : SameBut (ps ++ qs) σ σ'' :=
  ⟨b.1.trans a.1, fun i hi => (b.2 i fun z => hi (List.mem_append_right _ z)).trans (a.2 i fun z => hi (List.mem_append_left _ z))⟩
theorem wipe_get {σ : L2.St} : ∀ {vs : List Nat} {i : Nat}, (wipe σ vs)[i]? = if i ∈ vs then (if i < σ.length then some none else none) else σ[i]?
  | [], i => by simp [wipe]
  | v :: vs, i => by
    unfold wipe
    have ih := wipe_get (σ := σ) (vs := vs) (i := i)
    by_cases h : v = i
    · subst h
      rw [List.getElem?_set]
      simp [wipe_length]
    · rw [List.getElem?_set_ne h, ih]
      simp [List.mem_cons, Ne.symm h]
theorem wipe_same {ps vs : List Nat} {σ σ' : L2.St} (h : SameBut ps σ σ') (hs : ∀ i ∈ ps, i ∈ vs) : wipe σ' vs = wipe σ vs := by
  apply List.ext_getElem?
  intro i
  rw [wipe_get, wipe_get, h.1]
  by_cases c : i ∈ vs
  · rw [if_pos c, if_pos c]
  · rw [if_neg c, if_neg c]
    exact h.2 i fun z => c (hs i z)
theorem wipe_wipe {σ : L2.St} {vs : List Nat} : wipe (wipe σ vs) vs = wipe σ vs := by
  apply List.ext_getElem?
  intro i
  rw [wipe_get, wipe_get, wipe_length]
  by_cases c : i ∈ vs
  · rw [if_pos c, if_pos c]
  · rw [if_neg c, if_neg c]
theorem wipeS_get {σ : Sl} : ∀ {vs : List Nat} {i : Nat}, (wipeS σ vs)[i]? = if i ∈ vs then (if i < σ.length then some none else none) else σ[i]?
  | [], i => by simp [wipeS]
  | v :: vs, i => by
    have hl : ∀ vs : List Nat, (wipeS σ vs).length = σ.length := fun vs => by
      induction vs with
      | nil => rfl
      | cons v vs ih => show ((wipeS σ vs).set v none).length = _; rw [List.length_set, ih]
    show ((wipeS σ vs).set v none)[i]? = _
    have ih := wipeS_get (σ := σ) (vs := vs) (i := i)
    by_cases h : v = i
    · subst h
      rw [List.getElem?_set]
      simp [hl]
    · rw [List.getElem?_set_ne h, ih]
      simp [List.mem_cons, Ne.symm h]
theorem wipeS_len {σ : Sl} : ∀ vs : List Nat, (wipeS σ vs).length = σ.length
  | [] => rfl
  | v :: vs => by show ((wipeS σ vs).set v none).length = _; rw [List.length_set, wipeS_len vs]
section
variable {K : PySem.W.Frag} {pa : Pa} {k k' : Nat → Kd} {σ σ' : L2.St} {H H' H1 : Hp} {m : Ms} {W : WX} {κ κ1 κ2 : Kd}
/-- a slot of no list's own gets a value -/
theorem Rel.set {i : Nat} {d : D} {v : V} (h : Rel K pa k σ H m) (hκ : κ = .bo ∨ κ = .sh) (hk : k i = κ) (r : RD K pa (κ.base m) H d v) : Rel K pa k (σ.set i (some v)) H { m with s := m.s.set i (some d) } where
  dom := h.dom
  pen := h.pen
  sl := fun j e he => by
    by_cases q : i = j
    · subst q
      rw [List.getElem?_set] at he
      simp only [if_true] at he
      by_cases hl : i < m.s.length
      · rw [if_pos hl] at he
        cases he
        refine ⟨v, by rw [List.getElem?_set]; simp [h.len, hl], ?_⟩
        have hfp : m.fp i = [] := by
          by_cases e : ∃ d, m.s[i]? = some (some d)
          · obtain ⟨d', e⟩ := e
            obtain ⟨v', _, r'⟩ := h.sl i d' e
            rcases hκ with rfl | rfl <;> · rw [hk] at r'; exact r'.1
          · exact h.no i fun d z => e ⟨d, z⟩
        rcases hκ with rfl | rfl <;> · rw [hk]; exact ⟨hfp, r⟩
      · rw [if_neg hl] at he
        cases he
    · rw [List.getElem?_set_ne q] at he
      obtain ⟨w, e1, e2⟩ := h.sl j e he
      exact ⟨w, by rw [List.getElem?_set_ne q]; exact e1, e2⟩
  no := fun j he => by
    by_cases e : ∃ d, m.s[j]? = some (some d)
    · obtain ⟨d', e⟩ := e
      by_cases q : i = j
      · subst q
        obtain ⟨v', _, r'⟩ := h.sl i d' e
        rcases hκ with rfl | rfl <;> · rw [hk] at r'; exact r'.1
      · exact absurd (by show (m.s.set i (some d))[j]? = some (some d'); rw [List.getElem?_set_ne q]; exact e) (he d')
    · exact h.no j fun d z => e ⟨d, z⟩
  disj := h.disj
  nd := h.nd
  free := h.free
  len := by show (σ.set i _).length = (m.s.set i _).length; rw [List.length_set, List.length_set]; exact h.len
  kp := h.kp
  fr0 := h.fr0
  tk := h.tk
theorem Rel.kinds (h : Rel K pa k σ H m) (hk : ∀ i d, m.s[i]? = some (some d) → k i = k' i) : Rel K pa k' σ H m :=
  ⟨h.dom, h.pen, fun i d e => by
    obtain ⟨v, e1, r⟩ := h.sl i d e
    exact ⟨v, e1, by rw [← hk i d e]; exact r⟩, h.no, h.disj, h.nd, h.free, h.len, h.kp, h.fr0, h.tk⟩
/-- a comprehension's own names forgotten -/
theorem Rel.wipe {vs : List Nat} (h : Rel K pa k σ H m) (hv : ∀ i ∈ vs, k i = .sh ∨ k i = .bo) : Rel K pa k (wipe σ vs) H { m with s := wipeS m.s vs } where
  dom := h.dom
  pen := h.pen
  sl := fun j e he => by
    have he : (wipeS m.s vs)[j]? = some (some e) := he
    rw [wipeS_get] at he
    by_cases c : j ∈ vs
    · rw [if_pos c] at he
      split at he <;> cases he
    · rw [if_neg c] at he
      obtain ⟨v, e1, r⟩ := h.sl j e he
      exact ⟨v, by rw [wipe_get, if_neg c]; exact e1, r⟩
  no := fun j he => by
    by_cases c : j ∈ vs
    · by_cases e : ∃ d, m.s[j]? = some (some d)
      · obtain ⟨d', e⟩ := e
        obtain ⟨v', _, r'⟩ := h.sl j d' e
        rcases hv j c with q | q <;> · rw [q] at r'; exact r'.1
      · exact h.no j fun d z => e ⟨d, z⟩
    · exact h.no j fun d z => he d (by show (wipeS m.s vs)[j]? = _; rw [wipeS_get, if_neg c]; exact z)
  disj := h.disj
  nd := h.nd
  free := h.free
  len := by show (L2.wipe σ vs).length = (wipeS m.s vs).length; rw [wipe_length, wipeS_len]; exact h.len
  kp := h.kp
  fr0 := h.fr0
  tk := h.tk
/-- a new object, held by nobody, from now on out of reach -/
theorem Rel.hold {a : Addr} {o : HO} (h : Rel K pa k σ H m) (ha : H a = none) : Rel K pa k σ (upd H a o) { m with M0 := fun b => m.M0 b ∨ b = a } := by
  have na : ∀ b, H b ≠ none → b ≠ a := fun b hb z => hb (z ▸ ha)
  have s1 : ∀ b u, ¬ m.M b → H b = some u → upd H a o b = some u := fun b u _ e => by rw [upd_ne (ne_of_none e ha)]; exact e
  have hm : ∀ b, ¬ m.M b → H b ≠ none → ¬ Ms.M { m with M0 := fun b => m.M0 b ∨ b = a } b := fun b n hb z => by
    rcases z with (z | z) | z
    · exact n (.inl z)
    · exact na b hb z
    · exact n (.inr z)
  refine ⟨fun b hb => ?_, ⟨.inl h.pen.m1, .inl h.pen.m2, h.pen.ne, ?_, ?_, fun q hq => .inl (h.pen.tm q hq), h.pen.tb.ext fun b u e => by rw [upd_ne (ne_of_none e ha)]; exact e⟩, fun i d e => ?_, h.no, h.disj, h.nd, fun i b hb z => ?_, h.len, ?_, h.fr0, h.tk⟩
  · rcases hb with hb | hb
    · rw [upd_ne (na b (h.dom b hb))]; exact h.dom b hb
    · rw [hb, upd_same]; exact fun z => nomatch z
  · rw [upd_ne (ne_of_none h.pen.d ha)]; exact h.pen.d
  · rw [upd_ne (ne_of_none h.pen.c ha)]; exact h.pen.c
  · obtain ⟨v, e1, r⟩ := h.sl i d e
    refine ⟨v, e1, ?_⟩
    cases q : k i with
    | bo =>
      rw [q] at r
      refine ⟨r.1, RD.stay (fun b u n e => by rw [upd_ne (ne_of_none e ha)]; exact e) (fun b n hb z => ?_) d v r.2⟩
      rcases z with z | z
      · exact n z
      · exact na b hb z
    | sh =>
      rw [q] at r
      exact ⟨r.1, RD.stay s1 hm d v r.2⟩
    | fr n =>
      rw [q] at r
      exact Own.stay (fun b u _ e => by rw [upd_ne (ne_of_none e ha)]; exact e) hm r
  · rcases z with z | z
    · exact h.free i b hb z
    · obtain ⟨xs, e⟩ := h.fpl hb
      exact na b (by rw [e]; exact fun z => nomatch z) z
  · exact h.kp.trans (.new ha)
/-- an object that is held changes -/
theorem Rel.held {a : Addr} {o : HO} (h : Rel K pa k σ H m) (hM : m.M0 a) (h1 : a ≠ pa.1) (h2 : a ≠ pa.2) (h0 : m.H0 a = none) (hT : LamX.Tabs pa.T (upd H a o)) : Rel K pa k σ (upd H a o) m := by
  have s1 : ∀ (N : Addr → Prop), N a → ∀ b u, ¬ N b → H b = some u → upd H a o b = some u := fun N hN b u n e => by rw [upd_ne (fun z => n (by rw [z]; exact hN))]; exact e
  refine ⟨fun b hb => ?_, ⟨h.pen.m1, h.pen.m2, h.pen.ne, ?_, ?_, h.pen.tm, hT⟩, fun i d e => ?_, h.no, h.disj, h.nd, h.free, h.len, ?_, h.fr0, h.tk⟩
  · by_cases e : b = a
    · rw [e, upd_same]; exact fun z => nomatch z
    · rw [upd_ne e]; exact h.dom b hb
  · rw [upd_ne (Ne.symm h1)]; exact h.pen.d
  · rw [upd_ne (Ne.symm h2)]; exact h.pen.c
  · obtain ⟨v, e1, r⟩ := h.sl i d e
    refine ⟨v, e1, ?_⟩
    cases q : k i with
    | bo =>
      rw [q] at r
      exact ⟨r.1, RD.stay (s1 _ hM) (fun _ n _ => n) d v r.2⟩
    | sh =>
      rw [q] at r
      exact ⟨r.1, RD.stay (s1 m.M (.inl hM)) (fun _ n _ => n) d v r.2⟩
    | fr n =>
      rw [q] at r
      refine Own.stay (fun b u hb e => ?_) (fun _ n _ => n) r
      rcases hb with hb | hb
      · exact s1 m.M (.inl hM) b u hb e
      · rw [upd_ne (fun z => h.free i b hb (by rw [z]; exact hM))]; exact e
  · intro b u n e
    rw [upd_ne (ne_of_none e h0)]; exact h.kp b u n e
end
/-! ### targets -/
section
variable (K : PySem.W.Frag) (k : Nat → Kd) (κ : Kd)
def tgt (q : Pat) : TG := fun v σ H Q => ∃ m pa d s', Rel K pa k σ H m ∧ RD K pa (κ.base m) H d v ∧ bindP q d m.s = some s' ∧ ∀ σ', Rel K pa k σ' H { m with s := s' } → SameBut (patSl q) σ σ' → Q σ' H
def tgts (qs : List Pat) : TGs := fun vs σ H Q => ∃ m pa ds s', Rel K pa k σ H m ∧ RDs K pa (κ.base m) H ds vs ∧ bindPs qs ds m.s = some s' ∧ ∀ σ', Rel K pa k σ' H { m with s := s' } → SameBut (patSls qs) σ σ' → Q σ' H
end
theorem PG.weak' {X : Cx} {e : Expr} {t t' : TG} (h : PG X e t) (hw : ∀ v σ H Q, t' v σ H Q → t v σ H Q) : PG X e t' := ⟨fun pins s σ H v u Q I r q => h.run pins s σ H v u Q I r (hw v σ H Q q)⟩
theorem PGs.weak' {X : Cx} {e : List Expr} {t t' : TGs} (h : PGs X e t) (hw : ∀ v σ H Q, t' v σ H Q → t v σ H Q) : PGs X e t' := ⟨fun pins s σ H v u Q I r q => h.run pins s σ H v u Q I r (hw v σ H Q q)⟩
theorem Kd.base_s {m : Ms} {s : Sl} {c : Kd} : c.base { m with s := s } = c.base m := by cases c <;> rfl
section
variable {X : Cx} {k : Nat → Kd} {κ : Kd}
theorem eg_nm {i : Nat} {x : Str} {pos : Pos} (hN : X.N.Nodup) (hi : X.N[i]? = some x) (hx : Loc X.env.scope x) (hf : X.fn x = true ∨ X.env.scope.names.lookup x = some .local) (hκ : κ = .bo ∨ κ = .sh) (hk : k i = κ) : PG X (.Name x pos) (tgt X.K k κ (.nm i)) := by
  refine PG.weak' (pg_name hN hi hx hf) fun v σ H Q ⟨m, pa, d, s', hr, r, e, q⟩ => ?_
  simp only [bindP, Option.some.injEq] at e
  subst e
  refine q _ (hr.set hκ hk r) ⟨by rw [List.length_set], fun j hj => ?_⟩
  have hj' : i ≠ j := fun z => hj (by simp [patSl, z])
  rw [List.getElem?_set_ne hj']
theorem assignEach_cons {e : Expr} {es : List Expr} {env : Env} (h : noStar e = true) : assignEach (e :: es) env = (false, assign e env) :: assignEach es env := by
  cases e <;> first | rfl | cases h
theorem egs_nil : PGs X [] (tgts X.K k κ []) := PGs.weak' pgs_nil fun v σ H Q ⟨m, pa, d, s', hr, r, e, q⟩ => by
  cases d with
  | nil =>
    simp only [RDs] at r
    simp only [bindPs, Option.some.injEq] at e
    subst e
    exact ⟨r, q σ hr .refl⟩
  | cons d ds => simp only [bindPs] at e; cases e
theorem egs_cons {e : Expr} {es : List Expr} {q : Pat} {qs : List Pat} (h1 : PG X e (tgt X.K k κ q)) (h2 : PGs X es (tgts X.K k κ qs)) (hs : noStar e = true) : PGs X (e :: es) (tgts X.K k κ (q :: qs)) := by
  refine PGs.weak' (pgs_cons h1 h2 (by rw [assignEach_cons hs] <;> rfl)) fun v σ H Q ⟨m, pa, d, s', hr, r, e, c⟩ => ?_
  cases d with
  | nil => simp only [bindPs] at e; cases e
  | cons d ds =>
    simp only [RDs] at r
    obtain ⟨v, vr, rfl, r1, r2⟩ := r
    simp only [bindPs] at e
    cases e1 : bindP q d m.s with
    | none => rw [e1] at e; cases e
    | some s1 =>
      rw [e1] at e
      refine ⟨v, vr, rfl, m, pa, d, s1, hr, r1, e1, fun σ1 hr1 sb1 => ⟨{ m with s := s1 }, pa, ds, s', hr1, by rw [Kd.base_s]; exact r2, e, fun σ2 hr2 sb2 => c σ2 hr2 (sb1.trans sb2)⟩⟩
theorem assignEach_len : ∀ {es : List Expr} {env : Env}, (assignEach es env).length = es.length
  | [], _ => rfl
  | e :: es, env => by
    cases e <;> (simp only [assignEach, List.length_cons]; rw [assignEach_len])
theorem assignEach_idx : ∀ {es : List Expr} {env : Env}, es.all noStar = true → (assignEach es env).findIdx? (·.1) = none
  | [], _, _ => rfl
  | e :: es, env, h => by
    rw [List.all_cons, Bool.and_eq_true] at h
    rw [assignEach_cons h.1, List.findIdx?_cons]
    simp only [Bool.false_eq_true, if_false]
    rw [assignEach_idx h.2] <;> rfl
/-- (a, b, ..) = a list of that length -/
def gLst (K : PySem.W.Frag) (n : Nat) (t : TGs) : TG := fun v σ H Q => ∃ a xs, v = .ref a ∧ SqL K H a xs ∧ xs.length = n ∧ t xs σ H Q
theorem pg_lst {es : List Expr} {n : Nat} {t : TGs} {m : Nat} {pos : Pos} (hc : X.calm = true) (h : PGs X es t)
    (hn : (assignEach es X.env).length = m) (hst : (assignEach es X.env).findIdx? (·.1) = none) : PG X (.Tuple es n pos) (gLst X.K m t) := by
  refine ⟨fun pins s σ H v u Q I r hw => ?_⟩
  obtain ⟨a, xs, e1, hq, hl, hw⟩ := hw
  subst e1
  cases r
  obtain ⟨its, rv, ht, hz⟩ := I.list hq
  rw [PyProof.Rows.assign_Tuple]
  refine wpAny_bind (wpAny_standAt ?_)
  unfold unpack
  rw [hn, hst, show m = its.toArray.size by simp [← hl, rv.length]]
  refine wpAny_bind (wpAny_holding (PySem.W.kun_itemsOf (I.ok.hd hc) ht.isList fun h' hx => ?_))
  have I1 : Inv X pins σ H { s with heap := h' } := I.kept (t' := s.toks) fun b o e => hx b o (Nat.ne_of_lt (Heap.lt_size e)) e
  exact h.run pins _ σ H xs _ Q I1 (by simpa using rv) hw
theorem binds_len : ∀ {qs : List Pat} {ds : List D} {s s' : Sl}, bindPs qs ds s = some s' → ds.length = qs.length := by
  intro qs
  induction qs with
  | nil => intro ds s s' e; cases ds with
    | nil => rfl
    | cons _ _ => simp only [bindPs] at e; cases e
  | cons q qs ih => intro ds s s' e; cases ds with
    | nil => simp only [bindPs] at e; cases e
    | cons d ds =>
      simp only [bindPs] at e
      split at e
      · rw [List.length_cons, List.length_cons, ih e]
      · cases e
theorem eg_tp {es : List Expr} {n : Nat} {qs : List Pat} {pos : Pos} (hc : X.calm = true) (h : PGs X es (tgts X.K k κ qs)) (hs : es.all noStar = true) (hl : es.length = qs.length) : PG X (.Tuple es n pos) (tgt X.K k κ (.tp qs)) := by
  have g1 : PG X (.Tuple es n pos) _ := pg_tup hc h assignEach_len (assignEach_idx hs)
  have g2 : PG X (.Tuple es n pos) _ := pg_lst (pos := pos) hc h assignEach_len (assignEach_idx hs)
  refine ⟨fun pins s σ H v u Q I rv ⟨m, pa, d, s', hr, r, e, c⟩ => ?_⟩
  cases d with
  | tup ds =>
    simp only [bindP] at e
    simp only [RD] at r
    obtain ⟨a, xs, rfl, na, ha, rr⟩ := r
    exact g1.run pins s σ H _ u Q I rv ⟨a, xs, rfl, .of ha, by rw [← rr.length, binds_len e, hl], m, pa, ds, s', hr, rr, e, c⟩
  | lst ds =>
    simp only [bindP] at e
    simp only [RD] at r
    obtain ⟨a, xs, rfl, na, ha, rr⟩ := r
    exact g2.run pins s σ H _ u Q I rv ⟨a, xs, rfl, .of ha, by rw [← rr.length, binds_len e, hl], m, pa, ds, s', hr, rr, e, c⟩
  | _ => simp only [bindP] at e; cases e
end
end Mc

/-! Mc11: comprehensions. -/
namespace Mc
open PySem PySem.Spec PyProof.Rows L2
/-- nothing may be raised -/
abbrev W0 : WX := fun _ _ _ _ => False
def tevB (K : PySem.W.Frag) (W : WX) (k : Nat → Kd) (r : Sl → P → R Bool) : TT := fun σ H Q => ∃ m pa, Rel K pa k σ H m ∧ match r m.s m.p with
  | .ok b p => ∀ H', Keep pa H H' → PenR pa m.M0 p H' → Q b H'
  | .err x p => ∀ cls dd H', Keep pa H H' → PenR pa m.M0 p H' → ExR K pa m.M0 x cls dd H' → W cls dd σ H'
  | .bad => False
section
variable {X : Cx} {k : Nat → Kd} {W : WX} {a : Expr} {ra : Sl → P → R D}
theorem eT_nil : PTs X [] (tevB X.K W k fun _ p => .ok true p) := by
  refine ⟨fun pins s σ H Q I h => pts_nil.run pins s σ H Q I ?_⟩
  obtain ⟨m, pa, hr, h⟩ := h
  exact h H .refl hr.pen
theorem eT_one (h : PT X a (tevT X.K W k ra)) : PTs X [a] (tevB X.K W k fun s p => (ra s p).bd fun x p => R.of (truD x) p) := pts_one h
end
def compK : Kd → Kd
  | .bo => .bo
  | _ => .fr 1
theorem filR_ok {c : D → P → R Bool} {f : D → P → R D} {d : D} {r : List D} {p pE : P} {zs : List D} (h : filR c f (d :: r) p = .ok zs pE) : ∃ b p1, c d p = .ok b p1 ∧ ((b = true ∧ ∃ y p2 ys, f d p1 = .ok y p2 ∧ filR c f r p2 = .ok ys pE ∧ zs = y :: ys) ∨ (b = false ∧ filR c f r p1 = .ok zs pE)) := by
  unfold filR at h
  obtain ⟨b, p1, e1, h⟩ := bd_ok h
  refine ⟨b, p1, e1, ?_⟩
  cases b with
  | true =>
    rw [if_pos rfl] at h
    obtain ⟨y, p2, e2, h⟩ := bd_ok h
    obtain ⟨ys, p3, e3, h⟩ := bd_ok h
    cases h
    exact .inl ⟨rfl, y, p2, ys, e2, e3, rfl⟩
  | false =>
    rw [if_neg Bool.false_ne_true] at h
    exact .inr ⟨rfl, h⟩
theorem lstR_ok {r : R (List D)} {z : D} {p : P} (h : lstR r = .ok z p) : ∃ l, r = .ok l p ∧ l.length ≤ sizeLine ∧ z = .lst l := by
  unfold lstR at h
  split at h
  · split at h
    · rename_i hl
      cases h
      exact ⟨_, rfl, hl, rfl⟩
    · cases h
  · cases h
theorem lstR_cases (r : R (List D)) : (∃ l p, r = .ok l p ∧ l.length ≤ sizeLine ∧ lstR r = .ok (.lst l) p) ∨ lstR r = .bad := by
  unfold lstR
  split
  · rename_i l p
    split
    · rename_i hl
      exact .inl ⟨l, p, rfl, hl, rfl⟩
    · exact .inr rfl
  · exact .inr rfl
theorem withP_ok {α : Type} {q : Pat} {s : Sl} {d : D} {f : Sl → R α} {a : α} {p : P} (h : withP q s d f = .ok a p) : ∃ s', bindP q d s = some s' ∧ f s' = .ok a p := by
  unfold withP at h
  split at h
  · rename_i s' e
    exact ⟨s', e, h⟩
  · cases h
section
variable {X : Cx} {W : WX} {ex : List Nat} {k k' : Nat → Kd} {κi κe : Kd} {tg iter elt : Expr} {ifs : List Expr} {scope : Scope} {own : List (Str × Nat)} {vs : List Nat} {pos : Pos} {q : Pat} {ri : Sl → P → R (List D)} {rc : Sl → P → R Bool} {re : Sl → P → R D}
theorem lc_read {K : PySem.W.Frag} {σ : L2.St} {H : Hp} {Q : VK} (hκi : κi = .bo ∨ κi = .sh) (hq : ∀ i ∈ patSl q, i ∈ vs) (hk : ∀ i, i ∉ vs → k' i = k i) (hv : ∀ i ∈ vs, k i = .sh ∨ k i = .bo)
    (h : tev K W k (compK κe) (fun s p => (ri s p).bd fun xs p => lstR (filR (fun d p => withP q (wipeS s vs) d fun s' => rc s' p) (fun d p => withP q (wipeS s vs) d fun s' => re s' p) xs p)) σ H Q) :
    tLc (titX K W k ex κi ri) (tgt K k' κi q) (tevB K W0 k' rc) (tev K W0 k' κe re) vs σ H Q := by
  obtain ⟨m, pa, hr, h⟩ := h
  refine ⟨m, pa, hr, ?_⟩
  dsimp only at h
  cases ei : ri m.s m.p with
  | err x p => rw [ei] at h; exact h
  | bad => rw [ei] at h; exact h
  | ok xs p1 =>
    rw [ei] at h
    have h : Post K pa W σ m H (compK κe) (lstR (filR (fun d p => withP q (wipeS m.s vs) d fun s' => rc s' p) (fun d p => withP q (wipeS m.s vs) d fun s' => re s' p) xs p1)) Q := h
    intro J H1 hk1 hp1 hw D hD
    rcases lstR_cases (filR (fun d p => withP q (wipeS m.s vs) d fun s' => rc s' p) (fun d p => withP q (wipeS m.s vs) d fun s' => re s' p) xs p1) with ⟨zs, pE, eT, hz, eL⟩ | eL
    · rw [eL] at h
      have hr1 : Rel K pa k σ H1 { m with p := p1 } := hr.keep hk1 hp1
      have hrw : Rel K pa k (wipe σ vs) H1 { m with p := p1, s := wipeS m.s vs } := hr1.wipe hv
      have hrh : Rel K pa k (wipe σ vs) (upd H1 D (.lst [])) { m with p := p1, s := wipeS m.s vs, M0 := fun b => m.M0 b ∨ b = D } := hrw.hold hD
      have nD : pa.No D := Classical.byContradiction fun z => hp1.at D z hD
      have nD1 : D ≠ pa.1 := nD.1
      have nD2 : D ≠ pa.2 := fun z => by
        have y := hp1.c
        rw [← z, hD] at y
        cases y
      have nD0 : m.H0 D = none := back_none hr1.kp hp1.at hD
      have nDH : H D = none := back_none hk1 hp1.at hD
      have base2 : ∀ (c : Kd) (p : Pen) (b : Addr), c.base { m with p := p, s := wipeS m.s vs, M0 := fun b => m.M0 b ∨ b = D } b → c.base m b ∨ b = D := fun c p b z => by
        cases c with
        | bo => exact z
        | sh => rcases z with (z | z) | z <;> first | exact .inl (.inl z) | exact .inr z | exact .inl (.inr z)
        | fr n => rcases z with (z | z) | z <;> first | exact .inl (.inl z) | exact .inr z | exact .inl (.inr z)
      have base3 : ∀ (c : Kd) (p : Pen) (b : Addr), c.base m b → c.base { m with p := p, s := wipeS m.s vs, M0 := fun b => m.M0 b ∨ b = D } b := fun c p b z => by
        cases c with
        | bo => exact .inl z
        | sh => rcases z with z | z <;> first | exact .inl (.inl z) | exact .inr z
        | fr n => rcases z with z | z <;> first | exact .inl (.inl z) | exact .inr z
      have baseD : ∀ (c : Kd) (p : Pen), c.base { m with p := p, s := wipeS m.s vs, M0 := fun b => m.M0 b ∨ b = D } D := fun c p => by
        cases c with
        | bo => exact .inr rfl
        | sh => exact .inl (.inr rfl)
        | fr n => exact .inl (.inr rfl)
      have baseq : ∀ (c : Kd) (p p' : Pen) (b : Addr), c.base { m with p := p, s := wipeS m.s vs, M0 := fun b => m.M0 b ∨ b = D } b → c.base { m with p := p', s := wipeS m.s vs, M0 := fun b => m.M0 b ∨ b = D } b := fun c p p' b z => by
        cases c <;> exact z
      refine ⟨fun i n Hc => i ≤ xs.length ∧ n = xs.length - i ∧ ∃ ys zs' p acc, zs = ys ++ zs' ∧ filR (fun d p => withP q (wipeS m.s vs) d fun s' => rc s' p) (fun d p => withP q (wipeS m.s vs) d fun s' => re s' p) (xs.drop i) p = .ok zs' pE ∧
        Rel K pa k (wipe σ vs) Hc { m with p := p, s := wipeS m.s vs, M0 := fun b => m.M0 b ∨ b = D } ∧ Keep pa H1 Hc ∧ Hc D = some (.lst acc) ∧ RDs K pa (Kd.base { m with p := p, s := wipeS m.s vs, M0 := fun b => m.M0 b ∨ b = D } κe) Hc ys acc,
        ⟨xs.length, Nat.zero_le _, by simp, [], zs, p1, [], rfl, eT, hrh, .new hD, upd_same, RDs.nil⟩, ?_⟩
      rintro i n Hc ⟨hi, rfl, ys, zs', p, acc, ez, ef, hrc, kc, hacc, hys⟩
      have hwc : Walk K pa (κi.base { m with p := p, s := wipeS m.s vs, M0 := fun b => m.M0 b ∨ b = D }) J xs Hc := hw Hc _ (fun a o na e => kc a o (Pa.no_of hr.itPa na) e) (fun a na e z => by
        rcases base2 κi p a z with z | z
        · exact na z
        · exact e (z ▸ hD)) (hrc.baseDom κi)
      by_cases hlt : i < xs.length
      · refine .inr ?_
        have ex : xs[i]? = some xs[i] := List.getElem?_eq_getElem hlt
        obtain ⟨go, yld⟩ := hwc.1 i xs[i] ex
        refine ⟨go, fun Hn => i + 1 ≤ xs.length ∧ ∃ ys zs' p acc, zs = ys ++ zs' ∧ filR (fun d p => withP q (wipeS m.s vs) d fun s' => rc s' p) (fun d p => withP q (wipeS m.s vs) d fun s' => re s' p) (xs.drop (i + 1)) p = .ok zs' pE ∧
          Rel K pa k (wipe σ vs) Hn { m with p := p, s := wipeS m.s vs, M0 := fun b => m.M0 b ∨ b = D } ∧ Keep pa H1 Hn ∧ Hn D = some (.lst acc) ∧ RDs K pa (Kd.base { m with p := p, s := wipeS m.s vs, M0 := fun b => m.M0 b ∨ b = D } κe) Hn ys acc,
          fun H' ⟨h1, h2⟩ => ⟨xs.length - (i + 1), by omega, h1, rfl, h2⟩, fun y H' hy => ?_⟩
        obtain ⟨g, ry⟩ := yld y H' hy
        rw [List.drop_eq_getElem_cons hlt] at ef
        obtain ⟨b, p2, ec, ef2⟩ := filR_ok ef
        clear ef
        obtain ⟨s', eb, ec⟩ := withP_ok ec
        have hr2 : Rel K pa k (wipe σ vs) H' { m with p := p, s := wipeS m.s vs, M0 := fun b => m.M0 b ∨ b = D } := hrc.keep (p' := p) g.keep (hrc.pen.grow g)
        have hr3 : Rel K pa k' (wipe σ vs) H' { m with p := p, s := wipeS m.s vs, M0 := fun b => m.M0 b ∨ b = D } := hr2.kinds fun j d e => by
          by_cases c : j ∈ vs
          · have e : (wipeS m.s vs)[j]? = some (some d) := e
            rw [wipeS_get, if_pos c] at e
            split at e <;> cases e
          · exact (hk j c).symm
        refine ⟨_, pa, xs[i], s', hr3, ry, eb, fun σ2 hr4 sb => ⟨by rw [wipe_same sb hq, wipe_wipe], _, pa, hr4, ?_⟩⟩
        show (match rc s' p with
          | .ok b p => ∀ H'', Keep pa H' H'' → PenR pa (fun b => m.M0 b ∨ b = D) p H'' → _
          | .err x p => _
          | .bad => False)
        rw [ec]
        intro H3 hk3 hp3
        have hr5 := hr4.keep hk3 hp3
        have hr6 : Rel K pa k (wipe σ vs) H3 { m with p := p2, s := wipeS m.s vs, M0 := fun b => m.M0 b ∨ b = D } := hr2.keep hk3 hp3
        rcases ef2 with ⟨rfl, yv, p3, ys', ee, ef, rfl⟩ | ⟨rfl, ef⟩
        · rw [if_pos rfl]
          refine ⟨_, pa, hr5, ?_⟩
          obtain ⟨s2, eb2, ee⟩ := withP_ok ee
          rw [eb] at eb2
          cases eb2
          show Post K pa W0 _ _ _ _ (re s' p2) _
          rw [ee]
          intro v4 H4 hk4 hp4 hv4
          have hv5 := hv4.base fun a => hr5.Mdom
          have hr7 := hr6.keep (p' := p3) hk4 hp4
          have accH4 : H4 D = some (.lst acc) := hk4 D _ nD (hk3 D _ nD (g _ _ hacc))
          have hlen : acc.length < sizeLine := by
            have e1 := hys.length
            have e2 : zs.length = ys.length + (yv :: ys').length := by rw [ez, List.length_append]
            rw [List.length_cons] at e2
            omega
          refine ⟨acc, accH4, hlen, by omega, ys ++ [yv], ys', p3, acc ++ [v4], by rw [ez, List.append_assoc]; rfl, ef, hr7.held (.inr rfl) nD1 nD2 nD0 (tabs_upd hr7.pen.tb accH4 (fun _ z => nomatch z) (fun _ _ z => nomatch z)), fun a o na e => ?_, upd_same, ?_⟩
          · rw [upd_ne (ne_of_none e hD)]
            exact hk4 a o na (hk3 a o na (g _ _ (kc a o na e)))
          · have st : ∀ a o, ¬ (Kd.base { m with p := p, s := wipeS m.s vs, M0 := fun b => m.M0 b ∨ b = D } κe) a → Hc a = some o → upd H4 D (.lst (acc ++ [v4])) a = some o := fun a o na e => by
              rw [upd_ne (fun z => na (by rw [z]; exact baseD κe p))]
              have npa : pa.No a := Pa.no_of (fun a n => base3 κe p _ (hr.basePa κe a n)) na
              exact hk4 a o npa (hk3 a o npa (g _ _ e))
            have r1 : RDs K pa (Kd.base { m with p := p3, s := wipeS m.s vs, M0 := fun b => m.M0 b ∨ b = D } κe) (upd H4 D (.lst (acc ++ [v4]))) ys acc := RDs.stay st (fun a n _ z => n (baseq κe _ _ _ z)) _ _ hys
            have r2 : RD K pa (Kd.base { m with p := p3, s := wipeS m.s vs, M0 := fun b => m.M0 b ∨ b = D } κe) (upd H4 D (.lst (acc ++ [v4]))) yv v4 := RD.stay (fun a o na e => by
              rw [upd_ne (fun z => na (by rw [z]; exact baseD κe p2))]
              exact e) (fun a n _ z => n (baseq κe _ _ _ z)) _ _ hv5
            exact r1.append (RDs.one r2)
        · rw [if_neg Bool.false_ne_true]
          refine ⟨by omega, ys, zs', p2, acc, ez, ef, hr6, kc.trans (Keep.trans g.keep hk3), hk3 D _ nD (g _ _ hacc), ?_⟩
          exact RDs.stay (fun a o na e => hk3 a o (Pa.no_of (fun a n => base3 κe p _ (hr.basePa κe a n)) na) (g _ _ e)) (fun a n _ z => n (baseq κe _ _ _ z)) _ _ hys
      · have e : i = xs.length := by omega
        subst e
        refine .inl ⟨hwc.2 _ (Nat.le_refl _), ?_⟩
        rw [List.drop_length] at ef
        unfold filR at ef
        cases ef
        rw [List.append_nil] at ez
        subst ez
        refine h (.ref D) Hc (hk1.trans kc) (hrc.pen.re hr.pen) ?_
        have wk : ∀ (c : Kd) {l xs}, RDs K pa (Kd.base { m with p := pE, s := wipeS m.s vs, M0 := fun b => m.M0 b ∨ b = D } c) Hc l xs → RDs K pa (c.base m) Hc l xs := fun c l xs r => RDs.stay (fun _ _ _ e => e) (fun a n _ z => n (base3 c pE a z)) _ _ r
        have wk2 : ∀ (c : Kd) {l xs}, ((∃ n, c = .fr n) ∨ c = .sh) → RDs K pa (Kd.base { m with p := pE, s := wipeS m.s vs, M0 := fun b => m.M0 b ∨ b = D } c) Hc l xs → RDs K pa (fun a => m.M a ∨ a ∈ [D]) Hc l xs := fun c l xs hc r => RDs.stay (fun _ _ _ e => e) (fun a n _ z => n (by
          have z' : (m.M0 a ∨ a = D) ∨ ∃ i, a ∈ m.fp i := by
            rcases z with (z | z) | z
            · exact .inl (.inl z)
            · exact .inr z
            · exact .inl (.inr (List.mem_singleton.mp z))
          rcases hc with ⟨n, rfl⟩ | rfl
          · exact z'
          · exact z')) _ _ r
        cases κe with
        | bo =>
          show RD _ _ _ _ _ _
          simp only [RD]
          exact ⟨D, acc, rfl, fun z => hr.dom D z nDH, hacc, wk .bo hys⟩
        | sh => exact ⟨[D], own1_mk hacc (wk2 .sh (.inr rfl) hys), by simp, fun b hb => by rw [List.mem_singleton.mp hb]; exact nDH⟩
        | fr n => exact ⟨[D], own1_mk hacc (wk2 (.fr n) (.inl ⟨n, rfl⟩) hys), by simp, fun b hb => by rw [List.mem_singleton.mp hb]; exact nDH⟩
    · rw [eL] at h
      exact h.elim
end
end Mc

/-! Mc11b: comprehensions of two clauses. -/
namespace Mc
open PySem PySem.Spec PyProof.Rows L2
section
variable {K : PySem.W.Frag} {pa : Pa} {σw : L2.St} {kk k2 : Nat → Kd} {m2 : Ms} {J : It} {xs us dn : List D} {p0 pU : Pen} {A : Addr} {Hs : Hp} {κi κe : Kd} {q : Pat} {vs : List Nat} {rc : Sl → P → R Bool} {re : Sl → P → R D} {Nx : Hp → Prop} {acc0 : List V}
/-- all that is known stays, but for the list at A -/
def KeepA (pa : Pa) (A : Addr) (H H' : Hp) : Prop := ∀ a o, pa.No a → a ≠ A → H a = some o → H' a = some o
theorem loop_in (hq : ∀ i ∈ patSl q, i ∈ vs) (hk : ∀ i, i ∉ vs → k2 i = kk i) (hsv : ∀ i ∈ vs, ∀ d, m2.s[i]? ≠ some (some d)) (hσ : wipe σw vs = σw) (hA : m2.M0 A) (nA : pa.No A) (nA2 : A ≠ pa.c) (nA0 : m2.H0 A = none)
    (hw : ∀ Hc p, Rel K pa kk σw Hc { m2 with p := p } → KeepA pa A Hs Hc → Walk K pa (κi.base m2) J xs Hc)
    (ef : filR (fun d p => withP q m2.s d fun s' => rc s' p) (fun d p => withP q m2.s d fun s' => re s' p) xs p0 = .ok us pU) (hsz : dn.length + us.length ≤ sizeLine)
    (nx : ∀ H acc, Rel K pa kk σw H { m2 with p := pU } → KeepA pa A Hs H → H A = some (.lst acc) → RDs K pa (κe.base m2) H (dn ++ us) acc → Nx H)
    (hr0 : Rel K pa kk σw Hs { m2 with p := p0 }) (ha0 : Hs A = some (.lst acc0)) (r0 : RDs K pa (κe.base m2) Hs dn acc0) :
    ∃ W1 : Nat → Nat → Hp → Prop, (∃ n, W1 0 n Hs) ∧ ∀ j n H, W1 j n H → (J.stop j H ∧ Nx H) ∨ (J.go j H ∧ ∃ Nx1 : Hp → Prop, (∀ H', Nx1 H' → ∃ k', k' < n ∧ W1 (j + 1) k' H') ∧ ∀ x H', J.yld j H x H' →
      tgt K k2 κi q x σw H' fun σ3 H5 => wipe σ3 vs = σw ∧ tevB K W0 k2 rc σ3 H5 fun b H6 => if b = true then tev K W0 k2 κe re σ3 H6 fun y H7 => ∃ acc, H7 A = some (.lst acc) ∧ acc.length < sizeLine ∧ Nx1 (upd H7 A (.lst (acc ++ [y]))) else Nx1 H6) := by
  refine ⟨fun i n Hc => i ≤ xs.length ∧ n = xs.length - i ∧ ∃ ys zs' p acc, us = ys ++ zs' ∧ filR (fun d p => withP q m2.s d fun s' => rc s' p) (fun d p => withP q m2.s d fun s' => re s' p) (xs.drop i) p = .ok zs' pU ∧
    Rel K pa kk σw Hc { m2 with p := p } ∧ KeepA pa A Hs Hc ∧ Hc A = some (.lst acc) ∧ RDs K pa (κe.base m2) Hc (dn ++ ys) acc,
    ⟨_, Nat.zero_le _, rfl, [], us, p0, acc0, rfl, ef, hr0, fun _ _ _ _ e => e, ha0, by rw [List.append_nil]; exact r0⟩, ?_⟩
  rintro i n Hc ⟨hi, rfl, ys, zs', p, acc, ez, ef1, hrc, kc, hacc, hys⟩
  have hwc := hw Hc p hrc kc
  by_cases hlt : i < xs.length
  · refine .inr ?_
    have ex : xs[i]? = some xs[i] := List.getElem?_eq_getElem hlt
    obtain ⟨go, yld⟩ := hwc.1 i xs[i] ex
    refine ⟨go, fun Hn => i + 1 ≤ xs.length ∧ ∃ ys zs' p acc, us = ys ++ zs' ∧ filR (fun d p => withP q m2.s d fun s' => rc s' p) (fun d p => withP q m2.s d fun s' => re s' p) (xs.drop (i + 1)) p = .ok zs' pU ∧
      Rel K pa kk σw Hn { m2 with p := p } ∧ KeepA pa A Hs Hn ∧ Hn A = some (.lst acc) ∧ RDs K pa (κe.base m2) Hn (dn ++ ys) acc,
      fun H' ⟨h1, h2⟩ => ⟨xs.length - (i + 1), by omega, h1, rfl, h2⟩, fun y H' hy => ?_⟩
    obtain ⟨g, ry⟩ := yld y H' hy
    rw [List.drop_eq_getElem_cons hlt] at ef1
    obtain ⟨b, p2, ec, ef2⟩ := filR_ok ef1
    clear ef1
    obtain ⟨s', eb, ec⟩ := withP_ok ec
    have hr2 : Rel K pa kk σw H' { m2 with p := p } := hrc.keep (p' := p) g.keep (hrc.pen.grow g)
    have hr3 : Rel K pa k2 σw H' { m2 with p := p } := hr2.kinds fun j d e => by
      by_cases c : j ∈ vs
      · exact absurd e (hsv j c d)
      · exact (hk j c).symm
    refine ⟨{ m2 with p := p }, pa, xs[i], s', hr3, by rw [Kd.base_p]; exact ry, eb, fun σ2 hr4 sb => ⟨by rw [wipe_same sb hq, hσ], _, pa, hr4, ?_⟩⟩
    show (match rc s' p with
      | .ok b p => ∀ H'', Keep pa H' H'' → PenR pa m2.M0 p H'' → _
      | .err x p => _
      | .bad => False)
    rw [ec]
    intro H3 hk3 hp3
    have hr5 := hr4.keep hk3 hp3
    have hr6 : Rel K pa kk σw H3 { m2 with p := p2 } := hr2.keep hk3 hp3
    rcases ef2 with ⟨rfl, yv, p3, ys', ee, ef, rfl⟩ | ⟨rfl, ef⟩
    · rw [if_pos rfl]
      refine ⟨_, pa, hr5, ?_⟩
      obtain ⟨s2, eb2, ee⟩ := withP_ok ee
      rw [eb] at eb2
      cases eb2
      show Post K pa W0 _ _ _ _ (re s' p2) _
      rw [ee]
      intro v4 H4 hk4 hp4 hv4
      have hv5 := hv4.base fun a => hr5.Mdom
      have hr7 := hr6.keep (p' := p3) hk4 hp4
      have accH4 : H4 A = some (.lst acc) := hk4 A _ nA (hk3 A _ nA (g _ _ hacc))
      have hlen : acc.length < sizeLine := by
        have e1 := hys.length
        have e2 : us.length = ys.length + (yv :: ys').length := by rw [ez, List.length_append]
        rw [List.length_cons] at e2
        rw [List.length_append] at e1
        omega
      refine ⟨acc, accH4, hlen, by omega, ys ++ [yv], ys', p3, acc ++ [v4], by rw [ez, List.append_assoc]; rfl, ef, hr7.held hA nA.1 nA2 nA0 (tabs_upd hr7.pen.tb accH4 (fun _ z => nomatch z) (fun _ _ z => nomatch z)), fun a o na ne e => ?_, upd_same, ?_⟩
      · rw [upd_ne ne]
        exact hk4 a o na (hk3 a o na (g _ _ (kc a o na ne e)))
      · have bA : κe.base m2 A := by cases κe <;> first | exact hA | exact .inl hA
        have st : ∀ a o, ¬ κe.base m2 a → Hc a = some o → upd H4 A (.lst (acc ++ [v4])) a = some o := fun a o na e => by
          rw [upd_ne (fun z => na (by rw [z]; exact bA))]
          have npa : pa.No a := Pa.no_of (fun a n => hrc.basePa κe a n |> fun z => by rw [Kd.base_p] at z; exact z) na
          exact hk4 a o npa (hk3 a o npa (g _ _ e))
        have r1 : RDs K pa (κe.base m2) (upd H4 A (.lst (acc ++ [v4]))) (dn ++ ys) acc := RDs.stay st (fun a n _ z => n z) _ _ hys
        have r2 : RD K pa (κe.base m2) (upd H4 A (.lst (acc ++ [v4]))) yv v4 := RD.stay (fun a o na e => by
          rw [upd_ne (fun z => na (by rw [z]; cases κe <;> first | exact hA | exact .inl hA))]
          exact e) (fun a n _ z => n (by cases κe <;> exact z)) _ _ hv5
        rw [← List.append_assoc]
        exact r1.append (RDs.one r2)
    · rw [if_neg Bool.false_ne_true]
      refine ⟨by omega, ys, zs', p2, acc, ez, ef, hr6, fun a o na ne e => hk3 a o na (g _ _ (kc a o na ne e)), hk3 A _ nA (g _ _ hacc), ?_⟩
      exact RDs.stay (fun a o na e => hk3 a o (Pa.no_of (fun a n => hrc.basePa κe a n |> fun z => by rw [Kd.base_p] at z; exact z) na) (g _ _ e)) (fun a n _ z => n z) _ _ hys
  · have e : i = xs.length := by omega
    subst e
    refine .inl ⟨hwc.2 _ (Nat.le_refl _), ?_⟩
    rw [List.drop_length] at ef1
    unfold filR at ef1
    cases ef1
    rw [List.append_nil] at ez
    subst ez
    exact nx Hc acc hrc kc hacc hys
end
theorem catR_ok {f : D → P → R (List D)} {d : D} {r : List D} {p pE : P} {zs : List D} (h : catR f (d :: r) p = .ok zs pE) : ∃ y p1 ys, f d p = .ok y p1 ∧ catR f r p1 = .ok ys pE ∧ zs = y ++ ys := by
  unfold catR at h
  obtain ⟨y, p1, e1, h⟩ := bd_ok h
  obtain ⟨ys, p2, e2, h⟩ := bd_ok h
  cases h
  exact ⟨y, p1, ys, e1, e2, rfl⟩
theorem withP_okL {q : Pat} {s : Sl} {d : D} {f : Sl → R (List D)} {a : List D} {p : P} (h : withP q s d f = .ok a p) : ∃ s', bindP q d s = some s' ∧ f s' = .ok a p := withP_ok h
section
variable {X : Cx} {W : WX} {ex ex2 : List Nat} {k k' k'' : Nat → Kd} {κi κj κe : Kd} {vs vs2 : List Nat} {q q2 : Pat} {ri rj : Sl → P → R (List D)} {rc : Sl → P → R Bool} {re : Sl → P → R D}
/-- the machine's turn of the outer clause -/
def turnR (q q2 : Pat) (vs2 : List Nat) (rj : Sl → P → R (List D)) (rc : Sl → P → R Bool) (re : Sl → P → R D) (s0 : Sl) : D → P → R (List D) := fun d p => withP q s0 d fun s' => (rj s' p).bd fun ys p =>
  filR (fun d2 p => withP q2 (wipeS s' vs2) d2 fun s2 => rc s2 p) (fun d2 p => withP q2 (wipeS s' vs2) d2 fun s2 => re s2 p) ys p
theorem lc2_read {K : PySem.W.Frag} {σ : L2.St} {H : Hp} {Q : VK} (hq : ∀ i ∈ patSl q, i ∈ vs) (hk : ∀ i, i ∉ vs → k' i = k i) (hv : ∀ i ∈ vs, k i = .sh ∨ k i = .bo)
    (hq2 : ∀ i ∈ patSl q2, i ∈ vs2) (hk2 : ∀ i, i ∉ vs2 → k'' i = k' i) (hv2 : ∀ i ∈ vs2, k' i = .sh ∨ k' i = .bo)
    (h : tev K W k (compK κe) (fun s p => (ri s p).bd fun xs p => lstR (catR (turnR q q2 vs2 rj rc re (wipeS s vs)) xs p)) σ H Q) :
    tLc2 (titX K W k ex κi ri) (tgt K k' κi q) (tevB K W0 k' fun _ p => .ok true p) (titX K W0 k' ex2 κj rj) (tgt K k'' κj q2) (tevB K W0 k'' rc) (tev K W0 k'' κe re) vs vs2 σ H Q := by
  obtain ⟨m, pa, hr, h⟩ := h
  refine ⟨m, pa, hr, ?_⟩
  dsimp only at h
  cases ei : ri m.s m.p with
  | err x p => rw [ei] at h; exact h
  | bad => rw [ei] at h; exact h
  | ok xs p1 =>
    rw [ei] at h
    have h : Post K pa W σ m H (compK κe) (lstR (catR (turnR q q2 vs2 rj rc re (wipeS m.s vs)) xs p1)) Q := h
    intro J H1 hk1 hp1 hw D hD
    rcases lstR_cases (catR (turnR q q2 vs2 rj rc re (wipeS m.s vs)) xs p1) with ⟨zs, pE, eT, hz, eL⟩ | eL
    · rw [eL] at h
      have hr1 : Rel K pa k σ H1 { m with p := p1 } := hr.keep hk1 hp1
      have hrw : Rel K pa k (wipe σ vs) H1 { m with p := p1, s := wipeS m.s vs } := hr1.wipe hv
      have hrh : Rel K pa k (wipe σ vs) (upd H1 D (.lst [])) { m with p := p1, s := wipeS m.s vs, M0 := fun b => m.M0 b ∨ b = D } := hrw.hold hD
      have nD : pa.No D := Classical.byContradiction fun z => hp1.at D z hD
      have nD1 : D ≠ pa.1 := nD.1
      have nD2 : D ≠ pa.2 := fun z => by
        have y := hp1.c
        rw [← z, hD] at y
        cases y
      have nD0 : m.H0 D = none := back_none hr1.kp hp1.at hD
      have nDH : H D = none := back_none hk1 hp1.at hD
      have base2 : ∀ (c : Kd) (p : Pen) (b : Addr), c.base { m with p := p, s := wipeS m.s vs, M0 := fun b => m.M0 b ∨ b = D } b → c.base m b ∨ b = D := fun c p b z => by
        cases c with
        | bo => exact z
        | sh => rcases z with (z | z) | z <;> first | exact .inl (.inl z) | exact .inr z | exact .inl (.inr z)
        | fr n => rcases z with (z | z) | z <;> first | exact .inl (.inl z) | exact .inr z | exact .inl (.inr z)
      have base3 : ∀ (c : Kd) (p : Pen) (b : Addr), c.base m b → c.base { m with p := p, s := wipeS m.s vs, M0 := fun b => m.M0 b ∨ b = D } b := fun c p b z => by
        cases c with
        | bo => exact .inl z
        | sh => rcases z with z | z <;> first | exact .inl (.inl z) | exact .inr z
        | fr n => rcases z with z | z <;> first | exact .inl (.inl z) | exact .inr z
      have baseD : ∀ (c : Kd) (p : Pen), c.base { m with p := p, s := wipeS m.s vs, M0 := fun b => m.M0 b ∨ b = D } D := fun c p => by
        cases c with
        | bo => exact .inr rfl
        | sh => exact .inl (.inr rfl)
        | fr n => exact .inl (.inr rfl)
      have baseq : ∀ (c : Kd) (p p' : Pen) (b : Addr), c.base { m with p := p, s := wipeS m.s vs, M0 := fun b => m.M0 b ∨ b = D } b → c.base { m with p := p', s := wipeS m.s vs, M0 := fun b => m.M0 b ∨ b = D } b := fun c p p' b z => by
        cases c <;> exact z
      refine ⟨fun i n Hc => i ≤ xs.length ∧ n = xs.length - i ∧ ∃ ys zs' p acc, zs = ys ++ zs' ∧ catR (turnR q q2 vs2 rj rc re (wipeS m.s vs)) (xs.drop i) p = .ok zs' pE ∧
        Rel K pa k (wipe σ vs) Hc { m with p := p, s := wipeS m.s vs, M0 := fun b => m.M0 b ∨ b = D } ∧ Keep pa H1 Hc ∧ Hc D = some (.lst acc) ∧ RDs K pa (Kd.base { m with p := p, s := wipeS m.s vs, M0 := fun b => m.M0 b ∨ b = D } κe) Hc ys acc,
        ⟨xs.length, Nat.zero_le _, by simp, [], zs, p1, [], rfl, eT, hrh, .new hD, upd_same, RDs.nil⟩, ?_⟩
      rintro i n Hc ⟨hi, rfl, ys, zs', p, acc, ez, ef, hrc, kc, hacc, hys⟩
      have hwc : Walk K pa (κi.base { m with p := p, s := wipeS m.s vs, M0 := fun b => m.M0 b ∨ b = D }) J xs Hc := hw Hc _ (fun a o na e => kc a o (Pa.no_of hr.itPa na) e) (fun a na e z => by
        rcases base2 κi p a z with z | z
        · exact na z
        · exact e (z ▸ hD)) (hrc.baseDom κi)
      by_cases hlt : i < xs.length
      · refine .inr ?_
        have ex : xs[i]? = some xs[i] := List.getElem?_eq_getElem hlt
        obtain ⟨go, yld⟩ := hwc.1 i xs[i] ex
        refine ⟨go, fun Hn => i + 1 ≤ xs.length ∧ ∃ ys zs' p acc, zs = ys ++ zs' ∧ catR (turnR q q2 vs2 rj rc re (wipeS m.s vs)) (xs.drop (i + 1)) p = .ok zs' pE ∧
          Rel K pa k (wipe σ vs) Hn { m with p := p, s := wipeS m.s vs, M0 := fun b => m.M0 b ∨ b = D } ∧ Keep pa H1 Hn ∧ Hn D = some (.lst acc) ∧ RDs K pa (Kd.base { m with p := p, s := wipeS m.s vs, M0 := fun b => m.M0 b ∨ b = D } κe) Hn ys acc,
          fun H' ⟨h1, h2⟩ => ⟨xs.length - (i + 1), by omega, h1, rfl, h2⟩, fun y H' hy => ?_⟩
        obtain ⟨g, ry⟩ := yld y H' hy
        rw [List.drop_eq_getElem_cons hlt] at ef
        obtain ⟨us, pU, ys', et, ef2, rfl⟩ := catR_ok ef
        clear ef
        unfold turnR at et
        obtain ⟨s', eb, et⟩ := withP_ok et
        obtain ⟨items2, p3, ej, et⟩ := bd_ok et
        have hr2 : Rel K pa k (wipe σ vs) H' { m with p := p, s := wipeS m.s vs, M0 := fun b => m.M0 b ∨ b = D } := hrc.keep (p' := p) g.keep (hrc.pen.grow g)
        have hr3 : Rel K pa k' (wipe σ vs) H' { m with p := p, s := wipeS m.s vs, M0 := fun b => m.M0 b ∨ b = D } := hr2.kinds fun j d e => by
          by_cases c : j ∈ vs
          · have e : (wipeS m.s vs)[j]? = some (some d) := e
            rw [wipeS_get, if_pos c] at e
            split at e <;> cases e
          · exact (hk j c).symm
        refine ⟨_, pa, xs[i], s', hr3, ry, eb, fun σ2 hr4 sb => ⟨by rw [wipe_same sb hq, wipe_wipe], _, pa, hr4, ?_⟩⟩
        show ∀ H'', Keep pa H' H'' → PenR pa (fun b => m.M0 b ∨ b = D) p H'' → _
        intro H3 hk3 hp3
        rw [if_pos rfl]
        have hr5 := hr4.keep hk3 hp3
        refine ⟨_, pa, hr5, ?_⟩
        show (match rj s' p with
          | .ok l p => _
          | .err x p => _
          | .bad => False)
        rw [ej]
        intro J1 H4 hk4 hp4 hw1
        have hr6 := hr5.keep (p' := p3) hk4 hp4
        have hr7 := hr6.wipe (vs := vs2) hv2
        have hO : Rel K pa k (wipe σ vs) H4 { m with p := p3, s := wipeS m.s vs, M0 := fun b => m.M0 b ∨ b = D } := (hr2.keep hk3 hp3).keep hk4 hp4
        have accH4 : H4 D = some (.lst acc) := hk4 D _ nD (hk3 D _ nD (g _ _ hacc))
        have nDc : D ≠ pa.c := nD2
        have bq : ∀ (c : Kd) (p p' : Pen) (s1 s2 : Sl) (b : Addr), c.base { m with p := p, s := s1, M0 := fun b => m.M0 b ∨ b = D } b → c.base { m with p := p', s := s2, M0 := fun b => m.M0 b ∨ b = D } b := fun c p p' s1 s2 b z => by
          cases c <;> exact z
        have hys4 : RDs K pa (Kd.base { m with p := p3, s := wipeS s' vs2, M0 := fun b => m.M0 b ∨ b = D } κe) H4 ys acc := RDs.stay (fun a o na e => hk4 a o (Pa.no_of (fun a n => base3 κe p _ (hr.basePa κe a n)) na) (hk3 a o (Pa.no_of (fun a n => base3 κe p _ (hr.basePa κe a n)) na) (g _ _ e))) (fun a n _ z => n (bq κe _ _ _ _ _ z)) _ _ hys
        refine loop_in (m2 := { m with p := p3, s := wipeS s' vs2, M0 := fun b => m.M0 b ∨ b = D }) (A := D) (σw := wipe σ2 vs2) (kk := k') (dn := ys) (us := us) (xs := items2) (p0 := p3) (pU := pU) (κi := κj) (κe := κe) hq2 hk2 (fun i hi d e => ?_) wipe_wipe (.inr rfl) nD nDc nD0 (fun Hc p' hrl kl => ?_) et ?_ (fun Hf acc2 hrl kl ha hrs => ?_) hr7 accH4 hys4
        · have e : (wipeS s' vs2)[i]? = some (some d) := e
          rw [wipeS_get, if_pos hi] at e
          split at e <;> cases e
        · refine hw1 Hc _ (fun a o na e => kl a o (Pa.no_of hr5.itPa na) (fun z => na ?_) e) (fun a na e z => na (by cases κj <;> exact z)) (fun a z => hrl.baseDom κj a (by cases κj <;> exact z))
          rw [z]
          refine ⟨(by cases κj <;> first | exact .inr rfl | exact .inl (.inr rfl)), fun j _ z => hr5.free j _ z (.inr rfl)⟩
        · have e1 : zs.length = ys.length + (us ++ ys').length := by rw [ez, List.length_append]
          rw [List.length_append] at e1
          omega
        · have kO : Keep pa (upd H4 D (.lst acc2)) Hf := fun a o na e => by
            by_cases c : a = D
            · rw [c, upd_same] at e
              rw [c, ha]; exact e
            · rw [upd_ne c] at e
              exact kl a o na c e
          have hO2 : Rel K pa k (wipe σ vs) (upd H4 D (.lst acc2)) { m with p := p3, s := wipeS m.s vs, M0 := fun b => m.M0 b ∨ b = D } := hO.held (.inr rfl) nD1 nD2 nD0 (tabs_upd hO.pen.tb accH4 (fun _ z => nomatch z) (fun _ _ z => nomatch z))
          refine ⟨by omega, ys ++ us, ys', pU, acc2, by rw [ez, List.append_assoc], ef2, hO2.keep (p' := pU) kO hrl.pen, fun a o na e => ?_, ha, ?_⟩
          · exact kl a o na (ne_of_none e hD) (hk4 a o na (hk3 a o na (g _ _ (kc a o na e))))
          · exact RDs.stay (fun _ _ _ e => e) (fun a n _ z => n (bq κe _ _ _ _ _ z)) _ _ hrs
      · have e : i = xs.length := by omega
        subst e
        refine .inl ⟨hwc.2 _ (Nat.le_refl _), ?_⟩
        rw [List.drop_length] at ef
        unfold catR at ef
        cases ef
        rw [List.append_nil] at ez
        subst ez
        refine h (.ref D) Hc (hk1.trans kc) (hrc.pen.re hr.pen) ?_
        have wk : ∀ (c : Kd) {l xs}, RDs K pa (Kd.base { m with p := pE, s := wipeS m.s vs, M0 := fun b => m.M0 b ∨ b = D } c) Hc l xs → RDs K pa (c.base m) Hc l xs := fun c l xs r => RDs.stay (fun _ _ _ e => e) (fun a n _ z => n (base3 c pE a z)) _ _ r
        have wk2 : ∀ (c : Kd) {l xs}, ((∃ n, c = .fr n) ∨ c = .sh) → RDs K pa (Kd.base { m with p := pE, s := wipeS m.s vs, M0 := fun b => m.M0 b ∨ b = D } c) Hc l xs → RDs K pa (fun a => m.M a ∨ a ∈ [D]) Hc l xs := fun c l xs hc r => RDs.stay (fun _ _ _ e => e) (fun a n _ z => n (by
          have z' : (m.M0 a ∨ a = D) ∨ ∃ i, a ∈ m.fp i := by
            rcases z with (z | z) | z
            · exact .inl (.inl z)
            · exact .inr z
            · exact .inl (.inr (List.mem_singleton.mp z))
          rcases hc with ⟨n, rfl⟩ | rfl
          · exact z'
          · exact z')) _ _ r
        cases κe with
        | bo =>
          show RD _ _ _ _ _ _
          simp only [RD]
          exact ⟨D, acc, rfl, fun z => hr.dom D z nDH, hacc, wk .bo hys⟩
        | sh => exact ⟨[D], own1_mk hacc (wk2 .sh (.inr rfl) hys), by simp, fun b hb => by rw [List.mem_singleton.mp hb]; exact nDH⟩
        | fr n => exact ⟨[D], own1_mk hacc (wk2 (.fr n) (.inl ⟨n, rfl⟩) hys), by simp, fun b hb => by rw [List.mem_singleton.mp hb]; exact nDH⟩
    · rw [eL] at h
      exact h.elim
end
end Mc

/-! Mc12: statements. -/
namespace Mc
open PySem PySem.Spec PyProof.Rows L2
/-- what a statement leaves: only the lists of ms change -/
structure Fm (pa : Pa) (ms : List Nat) (fp : Nat → List Addr) (H : Hp) (fp' : Nat → List Addr) (H' : Hp) : Prop where
  hp : ∀ a o, pa.No a → (∀ i ∈ ms, a ∉ fp i) → H a = some o → H' a = some o
  same : ∀ i, i ∉ ms → fp' i = fp i
  new : ∀ i ∈ ms, ∀ a ∈ fp' i, (∃ j ∈ ms, a ∈ fp j) ∨ H a = none
section
variable {K : PySem.W.Frag} {pa : Pa} {k k' kl k1 k2 : Nat → Kd} {σ σ' : L2.St} {H H' H1 H2 : Hp} {m : Ms} {W : WX} {κ κ1 κ2 : Kd} {ms ms1 ms2 : List Nat} {fp fp1 fp2 : Nat → List Addr} {rk : Nat}
theorem Fm.keep (h : Keep pa H H') : Fm pa ms fp H fp H' := ⟨fun a o n _ e => h a o n e, fun _ _ => rfl, fun i hi a ha => .inl ⟨i, hi, ha⟩⟩
theorem Fm.trans (a : Fm pa ms1 fp H fp1 H1) (b : Fm pa ms2 fp1 H1 fp2 H2) (hp : ∀ a, ¬ pa.No a → H1 a ≠ none) : Fm pa (ms1 ++ ms2) fp H fp2 H2 := by
  have back : ∀ c, H1 c = none → (∃ j ∈ ms1 ++ ms2, c ∈ fp j) ∨ H c = none := fun c hc => by
    cases e : H c with
    | none => exact .inr rfl
    | some o =>
      left
      by_cases q : ∃ i ∈ ms1, c ∈ fp i
      · obtain ⟨i, hi, h⟩ := q
        exact ⟨i, List.mem_append_left _ hi, h⟩
      · by_cases z : ¬ pa.No c
        · exact absurd hc (hp c z)
        · have z : pa.No c := Classical.not_not.mp z
          have y := a.hp c o z (fun i hi h => q ⟨i, hi, h⟩) e
          rw [hc] at y; cases y
  have step : ∀ i ∈ ms1, ∀ c ∈ fp1 i, (∃ j ∈ ms1 ++ ms2, c ∈ fp j) ∨ H c = none := fun i hi c hc => by
    rcases a.new i hi c hc with ⟨j, hj, h⟩ | h
    · exact .inl ⟨j, List.mem_append_left _ hj, h⟩
    · exact .inr h
  refine ⟨fun c o n q e => ?_, fun i hi => ?_, fun i hi c hc => ?_⟩
  · have e1 := a.hp c o n (fun i hi => q i (List.mem_append_left _ hi)) e
    refine b.hp c o n (fun i hi h => ?_) e1
    by_cases z : i ∈ ms1
    · rcases a.new i z c h with ⟨j, hj, y⟩ | y
      · exact q j (List.mem_append_left _ hj) y
      · rw [y] at e; cases e
    · rw [a.same i z] at h
      exact q i (List.mem_append_right _ hi) h
  · rw [b.same i fun z => hi (List.mem_append_right _ z), a.same i fun z => hi (List.mem_append_left _ z)]
  · by_cases z2 : i ∈ ms2
    · rcases b.new i z2 c hc with ⟨j, hj, h⟩ | h
      · by_cases z1 : j ∈ ms1
        · exact step j z1 c h
        · rw [a.same j z1] at h
          exact .inl ⟨j, List.mem_append_right _ hj, h⟩
      · exact back c h
    · rw [b.same i z2] at hc
      exact step i ((List.mem_append.mp hi).resolve_right z2) c hc
theorem Fm.up (a : Fm pa ms1 fp H fp1 H1) (h : ∀ i ∈ ms1, i ∈ ms2) : Fm pa ms2 fp H fp1 H1 := by
  refine ⟨fun c o n q e => a.hp c o n (fun i hi => q i (h i hi)) e, fun i hi => a.same i fun z => hi (h i z), fun i hi c hc => ?_⟩
  by_cases z : i ∈ ms1
  · rcases a.new i z c hc with ⟨j, hj, y⟩ | y
    · exact .inl ⟨j, h j hj, y⟩
    · exact .inr y
  · rw [a.same i z] at hc
    exact .inl ⟨i, hi, hc⟩
end
section
variable (K : PySem.W.Frag) (pa : Pa) (W : WX)
/-- what is wanted of a statement's end; kl: the kinds that the loop around wants -/
def PostS (k' kl : Nat → Kd) (rk : Nat) (ms : List Nat) (m : Ms) (H : Hp) (r : R (Fl × Sl)) (D : Ends) : Prop := match r with
  | .ok (.nx, s') p => ∀ σ' H' fp', Rel K pa k' σ' H' { m with s := s', p := p, fp := fp' } → Fm pa ms m.fp H fp' H' → D.nx σ' H'
  | .ok (.bk, s') p => ∀ σ' H' fp', Rel K pa kl σ' H' { m with s := s', p := p, fp := fp' } → Fm pa ms m.fp H fp' H' → D.bk σ' H'
  | .ok (.ct, s') p => ∀ σ' H' fp', Rel K pa kl σ' H' { m with s := s', p := p, fp := fp' } → Fm pa ms m.fp H fp' H' → D.ct σ' H'
  | .ok (.rt d, _) p => ∀ v H', Keep pa m.H0 H' → PenR pa m.M0 p H' → RetR K pa m.M0 m.H0 H' rk d v → D.rt v H'
  | .err x p => ∀ cls dd H' σ', Keep pa m.H0 H' → PenR pa m.M0 p H' → ExR K pa m.M0 x cls dd H' → W cls dd σ' H'
  | .bad => False
def tsS (k k' kl : Nat → Kd) (rk : Nat) (ms : List Nat) (r : Sl → P → R (Fl × Sl)) : TS := fun D σ H => ∃ m pa, Rel K pa k σ H m ∧ PostS K pa W k' kl rk ms m H (r m.s m.p) D
end
section
variable {K : PySem.W.Frag} {pa : Pa} {k k' kl k1 k2 : Nat → Kd} {σ σ' : L2.St} {H H' H1 H2 : Hp} {m : Ms} {W : WX} {κ κ1 κ2 : Kd} {ms ms1 ms2 : List Nat} {fp fp1 fp2 : Nat → List Addr} {rk : Nat} {En : Ends}
/-- behind a part of it -/
theorem PostS.move {r : R (Fl × Sl)} {s1 : Sl} {p1 : Pen} (f : Fm pa ms1 m.fp H fp1 H1) (hp : ∀ a, ¬ pa.No a → H1 a ≠ none) (hm : ∀ i ∈ ms1, i ∈ ms) (hm2 : ∀ i ∈ ms2, i ∈ ms) (h : PostS K pa W k' kl rk ms m H r En) : PostS K pa W k' kl rk ms2 { m with s := s1, p := p1, fp := fp1 } H1 r En := by
  have tr : ∀ {fp' H'}, Fm pa ms2 fp1 H1 fp' H' → Fm pa ms m.fp H fp' H' := fun g => (f.trans g hp).up fun i hi => (List.mem_append.mp hi).elim (hm i) (hm2 i)
  cases r with
  | ok a p =>
    obtain ⟨fl, s'⟩ := a
    cases fl with
    | nx => exact fun σ' H' fp' hr g => h σ' H' fp' hr (tr g)
    | bk => exact fun σ' H' fp' hr g => h σ' H' fp' hr (tr g)
    | ct => exact fun σ' H' fp' hr g => h σ' H' fp' hr (tr g)
    | rt d => exact h
  | err x p => exact h
  | bad => exact h
/-- an expression ahead -/
theorem ts_bd {r : Sl → P → R D} {f : Mc.D → P → R (Fl × Sl)} {Z : VK} (hr : Rel K pa k σ H m) (h : PostS K pa W k' kl rk ms m H ((r m.s m.p).bd f) En)
    (go : ∀ d p v H1, r m.s m.p = .ok d p → Keep pa H H1 → Rel K pa k σ H1 { m with p := p } → VR K pa m H H1 κ d v → PostS K pa W k' kl rk ms { m with p := p } H1 (f d p) En → Z v H1) : tev K W k κ r σ H Z := by
  refine ⟨m, pa, hr, ?_⟩
  cases e : r m.s m.p with
  | ok d p =>
    rw [e] at h
    exact fun v H1 hk hp hv => go d p v H1 e hk (hr.keep hk hp) hv (PostS.move (s1 := m.s) (fp1 := m.fp) (ms1 := ms) (.keep hk) hp.at (fun _ z => z) (fun _ z => z) h)
  | err x p =>
    rw [e] at h
    exact fun cls dd H' hk hp hx => h cls dd H' σ (hr.kp.trans hk) hp hx
  | bad =>
    rw [e] at h
    exact h
theorem ts_bds {r : Sl → P → R (List Mc.D)} {f : List Mc.D → P → R (Fl × Sl)} {Z : List V → Hp → Prop} (hr : Rel K pa k σ H m) (h : PostS K pa W k' kl rk ms m H ((r m.s m.p).bd f) En)
    (go : ∀ d p v H1, r m.s m.p = .ok d p → Keep pa H H1 → Rel K pa k σ H1 { m with p := p } → RDs K pa (κ.base m) H1 d v → PostS K pa W k' kl rk ms { m with p := p } H1 (f d p) En → Z v H1) : tevs K W k κ r σ H Z := by
  refine ⟨m, pa, hr, ?_⟩
  cases e : r m.s m.p with
  | ok d p =>
    rw [e] at h
    exact fun v H1 hk hp hv => go d p v H1 e hk (hr.keep hk hp) hv (PostS.move (s1 := m.s) (fp1 := m.fp) (ms1 := ms) (.keep hk) hp.at (fun _ z => z) (fun _ z => z) h)
  | err x p =>
    rw [e] at h
    exact fun cls dd H' hk hp hx => h cls dd H' σ (hr.kp.trans hk) hp hx
  | bad =>
    rw [e] at h
    exact h
theorem tsT_bd {r : Sl → P → R Mc.D} {f : Bool → P → R (Fl × Sl)} {Z : Bool → Hp → Prop} (hr : Rel K pa k σ H m) (h : PostS K pa W k' kl rk ms m H (((r m.s m.p).bd fun x p => R.of (truD x) p).bd f) En)
    (go : ∀ b p H1, Keep pa H H1 → Rel K pa k σ H1 { m with p := p } → PostS K pa W k' kl rk ms { m with p := p } H1 (f b p) En → Z b H1) : tevT K W k r σ H Z := by
  refine ⟨m, pa, hr, ?_⟩
  cases e : (r m.s m.p).bd fun x p => R.of (truD x) p with
  | ok d p =>
    rw [e] at h
    exact fun H1 hk hp => go d p H1 hk (hr.keep hk hp) (PostS.move (s1 := m.s) (fp1 := m.fp) (ms1 := ms) (.keep hk) hp.at (fun _ z => z) (fun _ z => z) h)
  | err x p =>
    rw [e] at h
    exact fun cls dd H' hk hp hx => h cls dd H' σ (hr.kp.trans hk) hp hx
  | bad =>
    rw [e] at h
    exact h
theorem Rel.at1 (h : Rel K pa k σ H m) : ∀ a, ¬ pa.No a → H a ≠ none := h.pen.at
/-- slots forgotten; what they own is anybody's -/
theorem Rel.drop {vs : List Nat} (h : Rel K pa k σ H m) (hk : ∀ i, i ∉ vs → k2 i = k i) : Rel K pa k2 σ H { m with s := wipeS m.s vs, fp := fun i => if i ∈ vs then [] else m.fp i } := by
  have sub : ∀ i a, a ∈ (if i ∈ vs then [] else m.fp i) → a ∈ m.fp i := fun i a ha => by
    split at ha
    · cases ha
    · exact ha
  have sM : ∀ a, ¬ m.M a → ¬ Ms.M { m with s := wipeS m.s vs, fp := fun i => if i ∈ vs then [] else m.fp i } a := fun a n z => by
    rcases z with z | ⟨i, z⟩
    · exact n (.inl z)
    · exact n (.inr ⟨i, sub i a z⟩)
  refine ⟨h.dom, h.pen, fun i d e => ?_, fun i e => ?_, fun i j a n ha hb => h.disj i j a n (sub i a ha) (sub j a hb), fun i => ?_, fun i a ha => h.free i a (sub i a ha), ?_, h.kp, fun i a ha => h.fr0 i a (sub i a ha), h.tk⟩
  · have e : (wipeS m.s vs)[i]? = some (some d) := e
    rw [wipeS_get] at e
    by_cases c : i ∈ vs
    · rw [if_pos c] at e
      split at e <;> cases e
    · rw [if_neg c] at e
      obtain ⟨v, e1, r⟩ := h.sl i d e
      refine ⟨v, e1, ?_⟩
      rw [hk i c]
      show SlotR K pa _ H (k i) d v (if i ∈ vs then [] else m.fp i)
      rw [if_neg c]
      cases q : k i with
      | bo => rw [q] at r; exact r
      | sh => rw [q] at r; exact ⟨r.1, RD.stay (fun _ _ _ e => e) (fun a n _ => sM a n) d v r.2⟩
      | fr n =>
        rw [q] at r
        exact Own.stay (fun _ _ _ e => e) (fun a n _ => sM a n) r
  · show (if i ∈ vs then [] else m.fp i) = []
    by_cases c : i ∈ vs
    · rw [if_pos c]
    · rw [if_neg c]
      refine h.no i fun d z => e d ?_
      show (wipeS m.s vs)[i]? = _
      rw [wipeS_get, if_neg c]
      exact z
  · show (if i ∈ vs then [] else m.fp i).Nodup
    split
    · exact List.nodup_nil
    · exact h.nd i
  · show σ.length = (wipeS m.s vs).length
    rw [wipeS_len]; exact h.len
theorem Fm.drop {vs : List Nat} (hs : ∀ i ∈ vs, i ∈ ms) : Fm pa ms fp H (fun i => if i ∈ vs then [] else fp i) H := by
  refine ⟨fun a o _ _ e => e, fun i hi => if_neg fun z => hi (hs i z), fun i hi a ha => ?_⟩
  split at ha
  · cases ha
  · exact .inl ⟨i, hi, ha⟩
/-- to the base of the state behind a drop -/
theorem RD.dropped {vs : List Nat} {d : Mc.D} {v : V} (hκ : κ = .bo ∨ κ = .sh) (h : RD K pa (κ.base m) H d v) : RD K pa (κ.base { m with s := wipeS m.s vs, fp := fun i => if i ∈ vs then [] else m.fp i }) H d v := by
  rcases hκ with rfl | rfl
  · exact h
  · refine RD.stay (fun _ _ _ e => e) (fun a n _ z => n ?_) d v h
    rcases z with z | ⟨i, z⟩
    · exact .inl z
    · have z : a ∈ (if i ∈ vs then [] else m.fp i) := z
      split at z
      · cases z
      · exact .inr ⟨i, z⟩
end
end Mc

/-! Mc13: statements: order, ends, stores. -/
namespace Mc
open PySem PySem.Spec PyProof.Rows L2
section
variable {K : PySem.W.Frag} {pa : Pa} {k k' kl k1 k2 : Nat → Kd} {σ σ' : L2.St} {H H' H1 H2 : Hp} {m : Ms} {W : WX} {κ κ1 κ2 : Kd} {ms ms1 ms2 : List Nat} {rk : Nat} {En : Ends}
theorem Rel.frz {i : Nat} (h : Rel K pa k σ H m) (hk : ∀ j, j ≠ i → k2 j = k j) (hi : k2 i = .sh) (hf : ∃ n, k i = .fr n) : Rel K pa k2 σ H { m with fp := fun j => if j ∈ [i] then [] else m.fp j } := by
  have sub : ∀ j a, a ∈ (if j ∈ [i] then [] else m.fp j) → a ∈ m.fp j := fun j a ha => by
    split at ha
    · cases ha
    · exact ha
  have sM : ∀ a, ¬ m.M a → ¬ Ms.M { m with fp := fun j => if j ∈ [i] then [] else m.fp j } a := fun a n z => by
    rcases z with z | ⟨j, z⟩
    · exact n (.inl z)
    · exact n (.inr ⟨j, sub j a z⟩)
  refine ⟨h.dom, h.pen, fun j d e => ?_, fun j e => ?_, fun i j a n ha hb => h.disj i j a n (sub i a ha) (sub j a hb), fun j => ?_, fun i a ha => h.free i a (sub i a ha), h.len, h.kp, fun i a ha => h.fr0 i a (sub i a ha), h.tk⟩
  · obtain ⟨v, e1, r⟩ := h.sl j d e
    refine ⟨v, e1, ?_⟩
    by_cases c : j = i
    · subst c
      rw [hi]
      obtain ⟨n, hf⟩ := hf
      rw [hf] at r
      refine ⟨by simp, Own.rd (fun a n _ => sM a n) (fun a ha z => ?_) (show Own K pa m.M H n d v (m.fp j) from r)⟩
      rcases z with z | ⟨l, z⟩
      · exact h.free j a ha z
      · by_cases q : l = j
        · subst q
          simp at z
        · exact h.disj l j a q (sub l a z) ha
    · rw [hk j c]
      show SlotR K pa _ H (k j) d v (if j ∈ [i] then [] else m.fp j)
      rw [if_neg (by simpa using c)]
      cases q : k j with
      | bo => rw [q] at r; exact r
      | sh => rw [q] at r; exact ⟨r.1, RD.stay (fun _ _ _ e => e) (fun a n _ => sM a n) d v r.2⟩
      | fr n =>
        rw [q] at r
        exact Own.stay (fun _ _ _ e => e) (fun a n _ => sM a n) r
  · show (if j ∈ [i] then [] else m.fp j) = []
    split
    · rfl
    · exact h.no j e
  · show (if j ∈ [i] then [] else m.fp j).Nodup
    split
    · exact List.nodup_nil
    · exact h.nd j
/-- a new list of one's own into an empty slot -/
theorem Rel.own {i n : Nat} {d : Mc.D} {v : V} {f : List Addr} {p : Pen} (h : Rel K pa k σ H m) (hk : Keep pa H H1) (hp : PenR pa m.M0 p H1) (hi : m.fp i = []) (hki : k i = .fr n) (hl : i < m.s.length) (o : Own K pa (fun a => m.M a ∨ a ∈ f) H1 n d v f) (nd : f.Nodup) (fr : ∀ a ∈ f, H a = none) :
    Rel K pa k (σ.set i (some v)) H1 { m with s := m.s.set i (some d), p := p, fp := fun j => if j = i then f else m.fp j } := by
  have h1 := h.keep hk hp
  have M1 : ∀ a, Ms.M { m with s := m.s.set i (some d), p := p, fp := fun j => if j = i then f else m.fp j } a → m.M a ∨ a ∈ f := fun a z => by
    rcases z with z | ⟨j, z⟩
    · exact .inl (.inl z)
    · have z : a ∈ (if j = i then f else m.fp j) := z
      split at z
      · exact .inr z
      · exact .inl (.inr ⟨j, z⟩)
  have sM : ∀ a, ¬ m.M a → H a ≠ none → ¬ Ms.M { m with s := m.s.set i (some d), p := p, fp := fun j => if j = i then f else m.fp j } a := fun a n e z => by
    rcases M1 a z with z | z
    · exact n z
    · exact e (fr a z)
  have inH : ∀ j a, a ∈ m.fp j → H a ≠ none := fun j a ha => by
    obtain ⟨xs, e⟩ := h.fpl ha
    rw [e]; exact fun z => nomatch z
  refine ⟨h1.dom, hp, fun j e he => ?_, fun j he => ?_, fun a b c n ha hb => ?_, fun j => ?_, fun j a ha => ?_, ?_, h1.kp, fun j a ha => ?_, h.tk⟩
  · have he : (m.s.set i (some d))[j]? = some (some e) := he
    by_cases q : i = j
    · subst q
      rw [List.getElem?_set] at he
      simp only [if_true, hl] at he
      cases he
      refine ⟨v, by rw [List.getElem?_set]; simp [h.len, hl], ?_⟩
      rw [hki]
      show Own K pa _ H1 n d v (if i = i then f else m.fp i)
      rw [if_pos rfl]
      exact Own.stay (fun _ _ _ e => e) (fun a n _ z => n (M1 a z)) o
    · rw [List.getElem?_set_ne q] at he
      obtain ⟨w, e1, r⟩ := h.sl j e he
      refine ⟨w, by rw [List.getElem?_set_ne q]; exact e1, ?_⟩
      show SlotR K pa _ H1 (k j) e w (if j = i then f else m.fp j)
      rw [if_neg (Ne.symm q)]
      cases q : k j with
      | bo =>
        rw [q] at r
        exact ⟨r.1, RD.stay (stay_of hk h.pa0) (fun _ n _ => n) e w r.2⟩
      | sh =>
        rw [q] at r
        exact ⟨r.1, RD.stay (stay_of hk fun a n => .inl (h.pa0 a n)) sM e w r.2⟩
      | fr n =>
        rw [q] at r
        refine Own.stay (fun a o ha e => hk a o (Pa.no_of h.pa0 fun z => ?_) e) sM r
        rcases ha with ha | ha
        · exact ha (.inl z)
        · exact h.free j a ha z
  · show (if j = i then f else m.fp j) = []
    by_cases q : j = i
    · subst q
      refine absurd ?_ (he d)
      show (m.s.set j (some d))[j]? = _
      rw [List.getElem?_set]; simp [hl]
    · rw [if_neg q]
      refine h.no j fun e z => he e ?_
      show (m.s.set i (some d))[j]? = _
      rw [List.getElem?_set_ne (Ne.symm q)]; exact z
  · have ha : c ∈ (if a = i then f else m.fp a) := ha
    have hb : c ∈ (if b = i then f else m.fp b) := hb
    by_cases q : a = i
    · rw [if_pos q] at ha
      rw [if_neg (fun z => n (q.trans z.symm))] at hb
      exact inH b c hb (fr c ha)
    · rw [if_neg q] at ha
      by_cases w : b = i
      · rw [if_pos w] at hb
        exact inH a c ha (fr c hb)
      · rw [if_neg w] at hb
        exact h.disj a b c n ha hb
  · show (if j = i then f else m.fp j).Nodup
    split
    · exact nd
    · exact h.nd j
  · have ha : a ∈ (if j = i then f else m.fp j) := ha
    split at ha
    · exact fun z => h.dom a z (fr a ha)
    · exact h.free j a ha
  · show (σ.set i _).length = (m.s.set i _).length
    rw [List.length_set, List.length_set]; exact h.len
  · have ha : a ∈ (if j = i then f else m.fp j) := ha
    split at ha
    · exact back_none h.kp h.at1 (fr a ha)
    · exact h.fr0 j a ha
theorem wipeS_set {s : Sl} {i : Nat} {d : Mc.D} : (wipeS s [i]).set i (some d) = s.set i (some d) := by
  show (s.set i none).set i (some d) = _
  rw [List.set_set]
mutual
theorem bindP_re : ∀ (q : Pat) (d : Mc.D) (s t s' : Sl), t.length = s.length → bindP q d s = some s' → ∃ t', bindP q d t = some t' ∧ t'.length = s'.length ∧ ∀ j : Nat, (j ∈ patSl q ∨ t[j]? = s[j]?) → t'[j]? = s'[j]?
  | .nm i, d, s, t, s', hl, e => by
    simp only [bindP, Option.some.injEq] at e
    subst e
    refine ⟨_, rfl, by rw [List.length_set, List.length_set, hl], fun j hj => ?_⟩
    rw [List.getElem?_set, List.getElem?_set, hl]
    split
    · rfl
    · rename_i n
      rcases hj with hj | hj
      · exact absurd (by simpa [patSl] using hj : j = i).symm n
      · exact hj
  | .tp l, .tup ds, s, t, s', hl, e => by
    simp only [bindP] at e ⊢
    exact bindPs_re l ds s t s' hl e
  | .tp l, .non, s, t, s', hl, e => by simp only [bindP] at e; cases e
  | .tp l, .bl _, s, t, s', hl, e => by simp only [bindP] at e; cases e
  | .tp l, .int _, s, t, s', hl, e => by simp only [bindP] at e; cases e
  | .tp l, .str _, s, t, s', hl, e => by simp only [bindP] at e; cases e
  | .tp l, .lst ds, s, t, s', hl, e => by
    simp only [bindP] at e ⊢
    exact bindPs_re l ds s t s' hl e
  | .tp l, .dic _ _, s, t, s', hl, e => by simp only [bindP] at e; cases e
  | .tp l, .obj _ _ _, s, t, s', hl, e => by simp only [bindP] at e; cases e
  | .tp l, .fn _, s, t, s', hl, e => by simp only [bindP] at e; cases e
  | .tp l, .cls _, s, t, s', hl, e => by simp only [bindP] at e; cases e
  | .tp l, .ty _, s, t, s', hl, e => by simp only [bindP] at e; cases e
  | .tp l, .pen, s, t, s', hl, e => by simp only [bindP] at e; cases e
theorem bindPs_re : ∀ (q : List Pat) (d : List Mc.D) (s t s' : Sl), t.length = s.length → bindPs q d s = some s' → ∃ t', bindPs q d t = some t' ∧ t'.length = s'.length ∧ ∀ j : Nat, (j ∈ patSls q ∨ t[j]? = s[j]?) → t'[j]? = s'[j]?
  | [], [], s, t, s', hl, e => by
    simp only [bindPs, Option.some.injEq] at e
    subst e
    exact ⟨t, rfl, hl, fun j hj => hj.elim (fun z => nomatch z) id⟩
  | [], _ :: _, s, t, s', hl, e => by simp only [bindPs] at e; cases e
  | _ :: _, [], s, t, s', hl, e => by simp only [bindPs] at e; cases e
  | q :: r, d :: ds, s, t, s', hl, e => by
    simp only [bindPs] at e ⊢
    cases e1 : bindP q d s with
    | none => rw [e1] at e; cases e
    | some s1 =>
      rw [e1] at e
      obtain ⟨t1, f1, g1, h1⟩ := bindP_re q d s t s1 hl e1
      obtain ⟨t2, f2, g2, h2⟩ := bindPs_re r ds s1 t1 s' g1 e
      rw [f1]
      refine ⟨t2, f2, g2, fun j hj => h2 j ?_⟩
      rcases hj with hj | hj
      · rcases List.mem_append.mp (show j ∈ patSl q ++ patSls r from hj) with z | z
        · exact .inr (h1 j (.inl z))
        · exact .inl z
      · exact .inr (h1 j (.inr hj))
end
theorem bindP_wipe {q : Pat} {d : Mc.D} {s s' : Sl} (h : bindP q d s = some s') : bindP q d (wipeS s (patSl q)) = some s' := by
  obtain ⟨t', e, hl, hj⟩ := bindP_re q d s (wipeS s (patSl q)) s' (wipeS_len _) h
  rw [e]
  congr 1
  apply List.ext_getElem?
  intro j
  refine hj j ?_
  by_cases c : j ∈ patSl q
  · exact .inl c
  · refine .inr ?_
    rw [wipeS_get, if_neg c]
end
section
variable {X : Cx} {W : WX} {k k' kl k1 k2 : Nat → Kd} {κ κ' κa κb κc : Kd} {rk : Nat} {a b c e : Expr} {es : List Expr} {st : Stmt} {sts : List Stmt} {ra rb rc re : Sl → P → R Mc.D} {rs : Sl → P → R (List Mc.D)} {r1 r2 : Sl → P → R (Fl × Sl)} {ms ms1 ms2 : List Nat} {pos p : Pos}
theorem es_nil : PSs X [] (tsS X.K W k k kl rk [] fun s p => .ok (.nx, s) p) := by
  refine pss_nil.weak fun D σ H ⟨m, pa, hr, h⟩ => ?_
  exact h σ H m.fp (hr.keep .refl hr.pen) (.keep .refl)
theorem es_cons (h1 : PS X st (tsS X.K W k k1 kl rk ms1 r1)) (h2 : PSs X sts (tsS X.K W k1 k2 kl rk ms2 r2)) : PSs X (st :: sts) (tsS X.K W k k2 kl rk (ms1 ++ ms2) fun s p => (r1 s p).bd fun x p => match x with | (.nx, s') => r2 s' p | y => .ok y p) := by
  refine (pss_cons h1 h2).weak fun En σ H ⟨m, pa, hr, h⟩ => ?_
  refine ⟨m, pa, hr, ?_⟩
  dsimp only at h
  cases q : r1 m.s m.p with
  | ok x p =>
    rw [q] at h
    obtain ⟨fl, s'⟩ := x
    cases fl with
    | nx =>
      intro σ' H' fp' hr' f
      exact ⟨_, pa, hr', PostS.move f hr'.at1 (fun i hi => List.mem_append_left _ hi) (fun i hi => List.mem_append_right _ hi) h⟩
    | bk => exact fun σ' H' fp' hr' f => h σ' H' fp' hr' (f.up fun i hi => List.mem_append_left _ hi)
    | ct => exact fun σ' H' fp' hr' f => h σ' H' fp' hr' (f.up fun i hi => List.mem_append_left _ hi)
    | rt d => exact h
  | err x p => rw [q] at h; exact h
  | bad => rw [q] at h; exact h
theorem es_frz {i n : Nat} (h : PSs X sts (tsS X.K W k1 k2 kl rk ms r2)) (hk : ∀ j, j ≠ i → k1 j = k j) (hi : k1 i = .sh) (hf : k i = .fr n) : PSs X sts (tsS X.K W k k2 kl rk (i :: ms) r2) := by
  refine h.weak fun En σ H ⟨m, pa, hr, h⟩ => ?_
  exact ⟨_, pa, hr.frz hk hi ⟨n, hf⟩, PostS.move (ms1 := [i]) (s1 := m.s) (p1 := m.p) (.drop fun _ z => z) hr.at1 (fun j hj => by rw [List.mem_singleton.mp hj]; exact List.mem_cons_self) (fun j hj => List.mem_cons_of_mem _ hj) h⟩
theorem es_drop {vs : List Nat} (h : PSs X sts (tsS X.K W k1 k2 kl rk ms r2)) (hk : ∀ j, j ∉ vs → k1 j = k j) : PSs X sts (tsS X.K W k k2 kl rk (vs ++ ms) fun s p => r2 (wipeS s vs) p) := by
  refine h.weak fun En σ H ⟨m, pa, hr, h⟩ => ?_
  exact ⟨_, pa, hr.drop (vs := vs) hk, PostS.move (ms1 := vs) (s1 := wipeS m.s vs) (p1 := m.p) (.drop fun _ z => z) hr.at1 (fun j hj => List.mem_append_left _ hj) (fun j hj => List.mem_append_right _ hj) h⟩
theorem es_pass : PS X (.Pass pos) (tsS X.K W k k kl rk [] fun s p => .ok (.nx, s) p) := by
  refine ps_pass.weak fun D σ H ⟨m, pa, hr, h⟩ => ?_
  exact h σ H m.fp (hr.keep .refl hr.pen) (.keep .refl)
theorem es_doc {x j pos pos'} : PS X (.Expr (.Constant (.str x) j pos) pos') (tsS X.K W k k kl rk [] fun s p => .ok (.nx, s) p) := by
  refine ps_doc.weak fun D σ H ⟨m, pa, hr, h⟩ => ?_
  exact h σ H m.fp (hr.keep .refl hr.pen) (.keep .refl)
theorem es_brk : PS X (.Break pos) (tsS X.K W kl k' kl rk [] fun s p => .ok (.bk, s) p) := by
  refine ps_break.weak fun D σ H ⟨m, pa, hr, h⟩ => ?_
  exact h σ H m.fp (hr.keep .refl hr.pen) (.keep .refl)
theorem es_cont : PS X (.Continue pos) (tsS X.K W kl k' kl rk [] fun s p => .ok (.ct, s) p) := by
  refine ps_continue.weak fun D σ H ⟨m, pa, hr, h⟩ => ?_
  exact h σ H m.fp (hr.keep .refl hr.pen) (.keep .refl)
theorem es_exp (he : PE X e (tev X.K W k κ re)) (hs : swapsWith e none pos.line X.env = pure false) : PS X (.Expr e pos) (tsS X.K W k k kl rk [] fun s p => (re s p).bd fun _ p => .ok (.nx, s) p) := by
  refine (ps_expr he hs).weak fun En σ H ⟨m, pa, hr, h⟩ => ?_
  exact ts_bd hr h fun d p v H1 e hk hr1 hv h1 => h1 σ H1 m.fp hr1 (.keep .refl)
theorem es_ret0 (he : PE X e (tev X.K W k κ re)) : PS X (.Return (some e) pos) (tsS X.K W k k' kl 0 [] fun s p => (re s p).bd fun d p => .ok (.rt d, s) p) := by
  refine (ps_ret he).weak fun En σ H ⟨m, pa, hr, h⟩ => ?_
  exact ts_bd hr h fun d p v H1 e hk hr1 hv h1 => h1 v H1 hr1.kp hr1.pen (hv.bo fun a => hr.Mdom)
theorem es_retN : PS X (.Return none pos) (tsS X.K W k k' kl 0 [] fun s p => .ok (.rt .non, s) p) := by
  refine ps_retN.weak fun En σ H ⟨m, pa, hr, h⟩ => ?_
  exact h .non H hr.kp hr.pen (by show RD _ _ _ _ _ _; simp only [RD])
theorem es_retF {n : Nat} (he : PE X e (tev X.K W k (.fr (n + 1)) re)) : PS X (.Return (some e) pos) (tsS X.K W k k' kl (n + 1) [] fun s p => (re s p).bd fun d p => .ok (.rt d, s) p) := by
  refine (ps_ret he).weak fun En σ H ⟨m, pa, hr, h⟩ => ?_
  refine ts_bd hr h fun d p v H1 e hk hr1 hv h1 => h1 v H1 hr1.kp hr1.pen ?_
  obtain ⟨fp, o, nd, f⟩ := hv
  exact ⟨fp, Own.stay (fun _ _ _ e => e) (fun a n _ z => n (z.imp .inl id)) o, nd, fun a ha => back_none hr.kp hr.at1 (f a ha)⟩
/-- return x, x a list of the def's own -/
theorem es_retV {i n : Nat} {x : Str} {q : Pos} (hN : X.N[i]? = some x) (hv : Vis X.env.scope x) (hd : (x == ("__debug__" : Str)) = false) (hcd : (x == ("__classdict__" : Str)) = false) (hki : k i = .fr (n + 1)) :
    PS X (.Return (some (.Name x q)) pos) (tsS X.K W k k' kl (n + 1) [] fun s p => (getS s i p).bd fun d p => .ok (.rt d, s) p) := by
  refine (ps_ret (pe_var hN hv hd hcd)).weak fun En σ H ⟨m, pa, hr, h⟩ => ?_
  have h : PostS X.K pa W k' kl (n + 1) [] m H ((getS m.s i m.p).bd fun d p => .ok (.rt d, m.s) p) En := h
  unfold getS at h
  split at h
  · rename_i d e
    obtain ⟨v, e1, r⟩ := hr.sl i d e
    rw [hki] at r
    refine ⟨v, e1, h v H hr.kp hr.pen ?_⟩
    exact ⟨m.fp i, Own.stay (fun _ _ _ e => e) (fun a n _ z => n (z.imp id fun y => ⟨i, y⟩)) (show Own X.K pa m.M H (n + 1) d v (m.fp i) from r), hr.nd i, fun a ha => hr.fr0 i a ha⟩
  · exact h.elim
theorem es_if {sa sb : List Stmt} (hc : PT X c (tevT X.K W k rc)) (ha : PSs X sa (tsS X.K W k k2 kl rk ms1 r1)) (hb : PSs X sb (tsS X.K W k k2 kl rk ms2 r2)) : PS X (.If c sa sb pos) (tsS X.K W k k2 kl rk (ms1 ++ ms2) fun s p => (rc s p).bd fun x p => (R.of (truD x) p).bd fun k p => if k = true then r1 s p else r2 s p) := by
  refine (ps_if hc ha hb).weak fun En σ H ⟨m, pa, hr, h⟩ => ?_
  have h : PostS X.K pa W k2 kl rk (ms1 ++ ms2) m H ((rc m.s m.p).bd fun x p => (R.of (truD x) p).bd fun k p => if k = true then r1 m.s p else r2 m.s p) En := h
  rw [← bd_bd] at h
  refine tsT_bd hr h fun bb p H1 hk hr1 h1 => ?_
  cases bb with
  | true =>
    rw [if_pos rfl] at h1 ⊢
    exact ⟨_, pa, hr1, PostS.move (s1 := m.s) (p1 := p) (ms1 := []) (.keep .refl) hr1.at1 (fun _ z => nomatch z) (fun i hi => List.mem_append_left _ hi) h1⟩
  | false =>
    rw [if_neg Bool.false_ne_true] at h1 ⊢
    exact ⟨_, pa, hr1, PostS.move (s1 := m.s) (p1 := p) (ms1 := []) (.keep .refl) hr1.at1 (fun _ z => nomatch z) (fun i hi => List.mem_append_right _ hi) h1⟩
/-- a store of a value -/
theorem es_set {te : TE} {g : TG} {q : Pat} (hS : PS X st (tAsg te g)) (hw : ∀ σ H Q, tev X.K W k κ re σ H Q → te σ H Q) (hg : ∀ v σ H Q, tgt X.K k2 κ' q v σ H Q → g v σ H Q) (hκ : κ' = .bo ∨ κ' = .sh) (hb : κ' ≠ .bo → κ ≠ .bo) (hk : ∀ j, j ∉ patSl q → k2 j = k j) :
    PS X st (tsS X.K W k k2 kl rk (patSl q) fun s p => (re s p).bd fun d p => match bindP q d s with | some s' => .ok (.nx, s') p | none => .bad) := by
  refine hS.weak fun En σ H ⟨m, pa, hr, h⟩ => ?_
  refine hw σ H _ (ts_bd hr h fun d p v H1 e hk1 hr1 hv h1 => hg v σ H1 _ ?_)
  cases q1 : bindP q d m.s with
  | none => rw [q1] at h1; exact h1.elim
  | some s' =>
    rw [q1] at h1
    have r1 := hv.up (κ := κ') (fun a => hr.Mdom) hb
    refine ⟨_, pa, d, s', hr1.drop (vs := patSl q) hk, ?_, bindP_wipe q1, fun σ' hr' sb => h1 σ' H1 _ hr' (.drop fun _ z => z)⟩
    have r2 : RD X.K pa (κ'.base { m with p := p }) H1 d v := by rw [Kd.base_p]; exact r1
    exact RD.dropped (m := { m with p := p }) hκ r2
theorem ts_bd0 {K : PySem.W.Frag} {pa : Pa} {σ : L2.St} {H : Hp} {m : Ms} {r : Sl → P → R Mc.D} {f : Mc.D → P → R (Fl × Sl)} {En : Ends} {Z : VK} (hr : Rel K pa k σ H m) (h : PostS K pa W k' kl rk ms m H ((r m.s m.p).bd f) En)
    (go : ∀ d p v H1, r m.s m.p = .ok d p → Keep pa H H1 → Rel K pa k σ H1 { m with p := p } → VR K pa m H H1 κ d v → PostS K pa W k' kl rk ms m H (f d p) En → Z v H1) : tev K W k κ r σ H Z := by
  refine ⟨m, pa, hr, ?_⟩
  cases e : r m.s m.p with
  | ok d p =>
    rw [e] at h
    exact fun v H1 hk hp hv => go d p v H1 e hk (hr.keep hk hp) hv h
  | err x p =>
    rw [e] at h
    exact fun cls dd H' hk hp hx => h cls dd H' σ (hr.kp.trans hk) hp hx
  | bad =>
    rw [e] at h
    exact h
/-- a new list into a slot -/
theorem es_setF {te : TE} {i n : Nat} (hS : PS X st (tAsg te (gName i))) (hw : ∀ σ H Q, tev X.K W k (.fr n) re σ H Q → te σ H Q) (hk : ∀ j, j ≠ i → k2 j = k j) (hi : k2 i = .fr n) :
    PS X st (tsS X.K W k k2 kl rk [i] fun s p => (re s p).bd fun d p => match bindP (.nm i) d s with | some s' => .ok (.nx, s') p | none => .bad) := by
  refine hS.weak fun En σ H ⟨m, pa, hr, h⟩ => ?_
  refine hw σ H _ (ts_bd0 hr h fun d p v H1 e hk1 hr1 hv h1 => ?_)
  have h1 : ∀ σ' H' fp', Rel X.K pa k2 σ' H' { m with s := m.s.set i (some d), p := p, fp := fp' } → Fm pa [i] m.fp H fp' H' → En.nx σ' H' := h1
  show En.nx (σ.set i (some v)) H1
  obtain ⟨f, o, nd, fr⟩ := hv
  have hd := hr.drop (vs := [i]) (k2 := k2) fun j hj => hk j (by simpa using hj)
  by_cases hl : i < m.s.length
  · refine h1 _ H1 (fun j => if j = i then f else (if j ∈ [i] then [] else m.fp j)) ?_ ⟨fun a o n _ e => hk1 a o n e, fun j hj => ?_, fun j hj a ha => ?_⟩
    · have z := hd.own (d := d) (v := v) (f := f) (p := p) (n := n) hk1 hr1.pen (if_pos (List.mem_singleton.mpr rfl)) hi (by show i < (wipeS m.s [i]).length; rw [wipeS_len]; exact hl) (Own.stay (fun _ _ _ e => e) (fun a n _ z => n ?_) o) nd fr
      · have e : ({ m with s := wipeS m.s [i], fp := fun i_1 => if i_1 ∈ [i] then [] else m.fp i_1 } : Ms).s.set i (some d) = m.s.set i (some d) := wipeS_set
        rw [e] at z
        exact z
      · rcases z with (z | ⟨j, z⟩) | z
        · exact .inl (.inl z)
        · have z : a ∈ (if j ∈ [i] then [] else m.fp j) := z
          split at z
          · cases z
          · exact .inl (.inr ⟨j, z⟩)
        · exact .inr z
    · have : j ≠ i := by simpa using hj
      simp [this]
    · have : j = i := by simpa using hj
      subst this
      simp only [if_true] at ha
      exact .inr (fr a ha)
  · have e1 : σ.set i (some v) = σ := List.set_eq_of_length_le (by rw [hr.len]; omega)
    have e2 : m.s.set i (some d) = m.s := List.set_eq_of_length_le (by omega)
    have e3 : wipeS m.s [i] = m.s := by show m.s.set i none = m.s; exact List.set_eq_of_length_le (by omega)
    rw [e1]
    rw [e2] at h1
    have hd' := hd.keep hk1 hr1.pen
    rw [e3] at hd'
    exact h1 σ H1 _ hd' (Fm.trans (ms2 := []) (.drop (ms := [i]) fun _ z => z) (.keep hk1) hr.at1)
end
end Mc

/-! Mc14: loops, pairs. -/
namespace Mc
open PySem PySem.Spec PyProof.Rows L2
section
variable {X : Cx} {W : WX} {k k' kl k1 k2 : Nat → Kd} {κ κ' κa κb κc : Kd} {rk : Nat} {a b c e tg iter : Expr} {es : List Expr} {st : Stmt} {sts body : List Stmt} {ra rb rc re : Sl → P → R Mc.D} {rs : Sl → P → R (List Mc.D)} {r1 r2 : Sl → P → R (Fl × Sl)} {ms ms1 ms2 : List Nat} {pos p : Pos} {ex : List Nat}
theorem drop_get {α : Type} {l : List α} {i : Nat} {d : α} (h : l[i]? = some d) : l.drop i = d :: l.drop (i + 1) := by
  obtain ⟨hi, e⟩ := List.getElem?_eq_some_iff.mp h
  rw [List.drop_eq_getElem_cons hi, e]
theorem Rel.fpNil {K : PySem.W.Frag} {pa : Pa} {σ : L2.St} {H : Hp} {m : Ms} (h : Rel K pa k σ H m) {i : Nat} (hi : ∀ n, k i ≠ .fr n) : m.fp i = [] := by
  by_cases e : ∃ d, m.s[i]? = some (some d)
  · obtain ⟨d, e⟩ := e
    obtain ⟨v, _, r⟩ := h.sl i d e
    cases q : k i with
    | bo => rw [q] at r; exact r.1
    | sh => rw [q] at r; exact r.1
    | fr n => exact absurd q (hi n)
  · exact h.no i fun d z => e ⟨d, z⟩
theorem withP_ok2 {α : Type} {q : Pat} {s : Sl} {d : Mc.D} {f : Sl → R α} : (∃ s', bindP q d s = some s' ∧ withP q s d f = f s') ∨ withP q s d f = .bad := by
  unfold withP
  cases e : bindP q d s with
  | none => exact .inr rfl
  | some s' => exact .inl ⟨s', rfl, rfl⟩
theorem es_for {q : Pat} (hp : PassesOwn (model X.prog X.w) X.A X.env X.xe) (hc : X.calm = true) (hi : PI X tg iter (titX X.K W k ex κ rs)) (hg : PG X tg (tgt X.K k κ q)) (hb : PSs X body (tsS X.K W k k k rk ms1 r1)) (hs : ∀ x, foldedSetIterable iter X.env x = pure x)
    (hm : ∀ i ∈ ms1, i ∈ ms) (hx : ∀ j ∈ ex, j ∉ ms) (hκ : κ = .sh ∨ (κ = .bo ∧ ∀ i ∈ ms, ∀ n, k i ≠ .fr n)) : PS X (.For tg iter body [] pos) (tsS X.K W k k kl rk ms fun s p => (rs s p).bd fun xs p => loopR (fun d s p => withP q s d fun s' => (r1 s' p)) xs s p) := by
  refine (ps_for hp hc hi hg hb hs).weak fun En σ H ⟨m, pa, hr, h⟩ => ?_
  refine ⟨m, pa, hr, ?_⟩
  dsimp only at h
  cases e : rs m.s m.p with
  | err x p =>
    rw [e] at h
    exact fun cls dd H' hk hp hx => h cls dd H' σ (hr.kp.trans hk) hp hx
  | bad => rw [e] at h; exact h
  | ok xs p0 =>
    rw [e] at h
    have h : PostS X.K pa W k kl rk ms m H (loopR (fun d s p => withP q s d fun s' => (r1 s' p)) xs m.s p0) En := h
    intro J H1 hk1 hp1 hw
    have hr1 := hr.keep hk1 hp1
    refine ⟨fun i n σc Hc => i ≤ xs.length ∧ n = xs.length - i ∧ ∃ s p fp, Rel X.K pa k σc Hc { m with s := s, p := p, fp := fp } ∧ Fm pa ms m.fp H1 fp Hc ∧ PostS X.K pa W k kl rk ms { m with s := s, p := p, fp := fp } Hc (loopR (fun d s p => withP q s d fun s' => (r1 s' p)) (xs.drop i) s p) En,
      ⟨xs.length, Nat.zero_le _, by simp, m.s, p0, m.fp, hr1, .keep .refl, PostS.move (ms1 := []) (s1 := m.s) (p1 := p0) (.keep hk1) hr1.at1 (fun _ z => nomatch z) (fun _ z => z) h⟩, ?_⟩
    rintro i n σc Hc ⟨hi, rfl, s, p, fp, hrc, fc, hc1⟩
    have hwc : Walk X.K pa (κ.base { m with s := s, p := p, fp := fp }) J xs Hc := hw Hc _ (fun a o na e => fc.hp a o (Pa.no_of hr.itPa na) (fun i him ha => na ⟨?_, fun j hj z => ?_⟩) e) (fun a na e z => ?_) (hrc.baseDom κ)
    · by_cases hlt : i < xs.length
      · refine .inr ?_
        have ex1 : xs[i]? = some xs[i] := List.getElem?_eq_getElem hlt
        obtain ⟨go, yld⟩ := hwc.1 i xs[i] ex1
        refine ⟨go, fun σn Hn => i + 1 ≤ xs.length ∧ ∃ s p fp, Rel X.K pa k σn Hn { m with s := s, p := p, fp := fp } ∧ Fm pa ms m.fp H1 fp Hn ∧ PostS X.K pa W k kl rk ms { m with s := s, p := p, fp := fp } Hn (loopR (fun d s p => withP q s d fun s' => (r1 s' p)) (xs.drop (i + 1)) s p) En,
          fun σ' H' ⟨h1, h2⟩ => ⟨xs.length - (i + 1), by omega, h1, rfl, h2⟩, fun y H' hy => ?_⟩
        obtain ⟨g, ry⟩ := yld y H' hy
        rw [drop_get ex1] at hc1
        unfold loopR at hc1
        rcases withP_ok2 (q := q) (s := s) (d := xs[i]) (f := fun s' => r1 s' p) with ⟨s', eb, ew⟩ | ew
        · rw [ew] at hc1
          have hr2 : Rel X.K pa k σc H' { m with s := s, p := p, fp := fp } := hrc.keep (p' := p) g.keep (hrc.pen.grow g)
          refine ⟨_, pa, xs[i], s', hr2, ry, eb, fun σ' hr3 sb => ⟨_, pa, hr3, ?_⟩⟩
          have hc2 := PostS.move (s1 := s') (p1 := p) (ms1 := []) (ms2 := ms) (.keep g.keep) hr2.at1 (fun _ z => nomatch z) (fun _ z => z) hc1
          show PostS X.K pa W k k rk ms1 _ H' (r1 s' p) _
          cases q1 : r1 s' p with
          | ok x p4 =>
            rw [q1] at hc2
            obtain ⟨fl, s4⟩ := x
            have step : ∀ {σ4 H4 fp4}, Rel X.K pa k σ4 H4 { m with s := s4, p := p4, fp := fp4 } → Fm pa ms1 fp H' fp4 H4 → PostS X.K pa W k kl rk ms { m with s := s', p := p, fp := fp } H' (loopR (fun d s p => withP q s d fun s' => (r1 s' p)) (xs.drop (i + 1)) s4 p4) En → i + 1 ≤ xs.length ∧ ∃ s p fp, Rel X.K pa k σ4 H4 { m with s := s, p := p, fp := fp } ∧ Fm pa ms m.fp H1 fp H4 ∧ PostS X.K pa W k kl rk ms { m with s := s, p := p, fp := fp } H4 (loopR (fun d s p => withP q s d fun s' => (r1 s' p)) (xs.drop (i + 1)) s p) En := by
              intro σ4 H4 fp4 hr4 f4 hc3
              refine ⟨by omega, s4, p4, fp4, hr4, ?_, ?_⟩
              · refine ((fc.trans (Fm.keep (ms := []) g.keep) hrc.at1).trans f4 hr3.at1).up fun i hi => ?_
                rcases List.mem_append.mp hi with z | z
                · exact (List.mem_append.mp z).elim id fun z => nomatch z
                · exact hm i z
              · exact PostS.move (m := { m with s := s', p := p, fp := fp }) (s1 := s4) (p1 := p4) f4 hr4.at1 hm (fun _ z => z) hc3
            cases fl with
            | nx => exact fun σ4 H4 fp4 hr4 f4 => step hr4 f4 hc2
            | ct => exact fun σ4 H4 fp4 hr4 f4 => step hr4 f4 hc2
            | bk => exact fun σ4 H4 fp4 hr4 f4 => hc2 σ4 H4 fp4 hr4 (f4.up hm)
            | rt d => exact hc2
          | err x p4 => rw [q1] at hc2; exact hc2
          | bad => rw [q1] at hc2; exact hc2
        · rw [ew] at hc1
          exact hc1.elim
      · have e : i = xs.length := by omega
        subst e
        refine .inl ⟨hwc.2 _ (Nat.le_refl _), ?_⟩
        rw [List.drop_length] at hc1
        exact hc1 σc Hc fp hrc (.keep .refl)
    · rcases hκ with rfl | ⟨rfl, hκ⟩
      · exact .inr ⟨i, ha⟩
      · rw [hr.fpNil (hκ _ him)] at ha; cases ha
    · exact hr.disj i j a (fun z => hx j hj (z ▸ him)) ha z
    · rcases hκ with rfl | ⟨rfl, hκ⟩
      · refine na ?_
        rcases z with z | ⟨j, z⟩
        · exact .inl z
        · have z : a ∈ fp j := z
          by_cases c : j ∈ ms
          · rcases fc.new j c a z with ⟨l, _, y⟩ | y
            · exact .inr ⟨l, y⟩
            · exact absurd y e
          · rw [fc.same j c] at z
            exact .inr ⟨j, z⟩
      · exact na z
theorem es_while {w : Nat} {pos : Pos} (hp : PassesOwn (model X.prog X.w) X.A X.env X.xe) (hc : PT X c (tevT X.K W k rc)) (hb : PSs X body (tsS X.K W k k k rk ms r1)) :
    PS X (.While c body [] pos) (tsS X.K W k k kl rk ms fun s p => whlR (fun s p => (rc s p).bd fun x p => .of (truD x) p) r1 w s p) := by
  refine (ps_while hp hc hb).weak fun En σ H ⟨m, pa, hr, h⟩ => ?_
  have h : PostS X.K pa W k kl rk ms m H (whlR (fun s p => (rc s p).bd fun x p => .of (truD x) p) r1 w m.s m.p) En := h
  refine ⟨fun n σc Hc => ∃ s p fp, Rel X.K pa k σc Hc { m with s := s, p := p, fp := fp } ∧ PostS X.K pa W k kl rk ms { m with s := s, p := p, fp := fp } Hc (whlR (fun s p => (rc s p).bd fun x p => .of (truD x) p) r1 n s p) En, ⟨w, m.s, m.p, m.fp, hr, h⟩, ?_⟩
  rintro n σc Hc ⟨s, p, fp, hrc, hc1⟩
  cases n with
  | zero => exact hc1.elim
  | succ n =>
    unfold whlR at hc1
    refine tsT_bd (m := { m with s := s, p := p, fp := fp }) hrc hc1 fun bb p2 H2 hk2 hr2 hc2 => ?_
    cases bb with
    | false =>
      rw [if_neg Bool.false_ne_true] at hc2 ⊢
      exact hc2 σc H2 fp hr2 (.keep .refl)
    | true =>
      rw [if_pos rfl] at hc2 ⊢
      refine ⟨fun σn Hn => ∃ s p fp, Rel X.K pa k σn Hn { m with s := s, p := p, fp := fp } ∧ PostS X.K pa W k kl rk ms { m with s := s, p := p, fp := fp } Hn (whlR (fun s p => (rc s p).bd fun x p => .of (truD x) p) r1 n s p) En, fun σ' H' h2 => ⟨n, Nat.lt_succ_self n, h2⟩, _, pa, hr2, ?_⟩
      show PostS X.K pa W k k rk ms _ H2 (r1 s p2) _
      cases q1 : r1 s p2 with
      | ok x p4 =>
        rw [q1] at hc2
        obtain ⟨fl, s4⟩ := x
        cases fl with
        | nx => exact fun σ4 H4 fp4 hr4 f4 => ⟨s4, p4, fp4, hr4, PostS.move (m := { m with s := s, p := p2, fp := fp }) (s1 := s4) (p1 := p4) f4 hr4.at1 (fun _ z => z) (fun _ z => z) hc2⟩
        | ct => exact fun σ4 H4 fp4 hr4 f4 => ⟨s4, p4, fp4, hr4, PostS.move (m := { m with s := s, p := p2, fp := fp }) (s1 := s4) (p1 := p4) f4 hr4.at1 (fun _ z => z) (fun _ z => z) hc2⟩
        | bk => exact fun σ4 H4 fp4 hr4 f4 => hc2 σ4 H4 fp4 hr4 f4
        | rt d => exact hc2
      | err x p4 => rw [q1] at hc2; exact hc2
      | bad => rw [q1] at hc2; exact hc2
end
end Mc

/-! Mc15: lists that are written. -/
namespace PySem
theorem list_extend_list_tupleG (l : Addr) (items : Array Value) (n : Nat) (b : Addr) (items2 : Array Value) (n2 : Nat) (dd : Option Addr) (sl : Array (Option Value)) (hs0 : ¬(!items.isEmpty && Builtin.List.listTooLong (items.size + items2.size)) = true) (hs1 : items.size ≤ sizeLine) (hs2 : items.size + items2.size ≤ sizeLine + 1) :
    Meets (Builtin.«list.extend» ⟨[.ref l, .ref b], []⟩) (fun _ R s => s.heap.get? l = some { cls := .type "list", dict := none, data := .seq items n, slots := #[] } ∧ s.heap.get? b = some { cls := .type "tuple", dict := dd, data := .seq items2 n2, slots := sl } ∧ R (.ok (.ret Value.none)) { s with heap := s.heap.update l (Obj.mapSeq fun x => x ++ items2), toks := s.toks }) :=
  .of_wp fun prog w A R s h => by
    obtain ⟨hp, g, d, tk, os⟩ := s; obtain ⟨hl, hb, h⟩ := h; have f1 := AutoSeq1.idx_int; have f2 := AutoSeq1.sub_tuple_tuple; have f3 := AutoSeq1.sub_list_list; have f4 := AutoSeq1.sub_tuple_list; have f5 := AutoSeq1.sub_list_tuple;
    have hz' : (items ++ items2).size ≤ sizeLine + 1 := by rw [Array.size_append]; exact hs2
    wp_walk using (wpAny_updateSeq hl rfl (hz := hs1) (_hz' := hz')), wpAny_loadPart' hl, wpAny_loadPart' hb; exact ⟨_, rfl, h⟩
end PySem
namespace Mc
open PySem PySem.Spec PyProof.Rows L2
def rExtS : V → List V → Hp → VK → Prop := fun x vs H Q => ∃ l b xs zs, x = .ref l ∧ vs = [.ref b] ∧ H l = some (.lst xs) ∧ (H b = some (.lst zs) ∨ H b = some (.tup zs)) ∧ xs.length + zs.length ≤ sizeLine ∧ Q .non (upd H l (.lst (xs ++ zs)))
theorem mt_extS {X : Cx} : MtM X "list.extend" rExtS := by
  intro pins s σ H x vs v us Q I rx rv h
  obtain ⟨l, b, xs, zs, rfl, rfl, hH, hB | hB, hz, q⟩ := h
  · exact mt_extend pins s σ H _ _ v us Q I rx rv ⟨l, b, xs, zs, rfl, rfl, hH, hB, hz, q⟩
  cases rx
  obtain ⟨u, rfl, ru⟩ := rv.one
  cases ru
  obtain ⟨z, its, n, r, hl, e⟩ := I.lstM hH
  obtain ⟨its2, r2, ⟨o, e2, c2, n2, d2⟩, z2⟩ := I.tuple (.of hB)
  obtain ⟨oc, od, odt, osl⟩ := o
  cases c2
  cases d2
  have hl2 := r2.length
  have hsz : its.toArray.size + its2.toArray.size ≤ sizeLine := by rw [List.size_toArray, List.size_toArray]; omega
  have hlong : ¬ (!its.toArray.isEmpty && Builtin.List.listTooLong (its.toArray.size + its2.toArray.size)) = true := by
    rw [notLongL hsz, Bool.and_false]
    exact Bool.false_ne_true
  refine call_meets F.slot_list_extend ⟨_, e, rfl⟩ F.entry_list_extend (F.args_list_extend_2 _ _)
    (list_extend_list_tupleG l its.toArray n b its2.toArray n2 od osl hlong (by rw [List.size_toArray]; omega) (by omega)) ⟨e, e2, ?_⟩
  refine ⟨.non, _, I.lset (its' := its ++ its2) hH e (by simp) (r.append r2) ?_, rfl, q⟩
  rw [List.length_append]
  omega
section
variable {K : PySem.W.Frag} {pa : Pa} {k k' kl k1 k2 : Nat → Kd} {σ σ' : L2.St} {H H' H1 H2 : Hp} {m : Ms} {W : WX} {κ κ1 κ2 : Kd} {ms ms1 ms2 : List Nat} {rk : Nat} {En : Ends}
/-- a list of one's own is written; what may be part of it is forgotten -/
theorem Rel.upd1 {i : Nat} {bs : List Nat} {l l' : List D} {a : Addr} {xs' : List V} (h : Rel K pa k σ H m) (hki : k i = .fr 1) (hs : m.s[i]? = some (some (.lst l))) (hv : σ[i]? = some (some (.ref a))) (hf : m.fp i = [a]) (hb : ∀ j, k j = .bo → j ∈ bs) (hb2 : ∀ j ∈ bs, ∀ n, k j ≠ .fr n) (r : RDs K pa m.M H l' xs') :
    Rel K pa k σ (upd H a (.lst xs')) { m with s := (wipeS m.s bs).set i (some (.lst l')) } := by
  have haf : a ∈ m.fp i := by rw [hf]; exact List.mem_cons_self
  have aM : m.M a := .inr ⟨i, haf⟩
  have a0 : ¬ m.M0 a := h.free i a haf
  have st : ∀ b o, ¬ m.M b → H b = some o → upd H a (.lst xs') b = some o := fun b o n e => by rw [upd_ne (fun z => n (by rw [z]; exact aM))]; exact e
  have hl : i < m.s.length := (List.getElem?_eq_some_iff.mp hs).1
  refine ⟨fun b hb => ?_, ⟨h.pen.m1, h.pen.m2, h.pen.ne, ?_, ?_, h.pen.tm, by
    obtain ⟨ys, ey⟩ := h.fpl haf
    exact tabs_upd h.pen.tb ey (fun _ z => nomatch z) (fun _ _ z => nomatch z)⟩, fun j e he => ?_, fun j he => ?_, h.disj, h.nd, h.free, ?_, fun b o n e => ?_, h.fr0, h.tk⟩
  · rw [upd_ne (fun z => a0 (by rw [← z]; exact hb))]; exact h.dom b hb
  · rw [upd_ne (fun z => a0 (by rw [← z]; exact h.pen.m1))]; exact h.pen.d
  · rw [upd_ne (fun z => a0 (by rw [← z]; exact h.pen.m2))]; exact h.pen.c
  · have he : ((wipeS m.s bs).set i (some (.lst l')))[j]? = some (some e) := he
    by_cases q : i = j
    · subst q
      rw [List.getElem?_set] at he
      simp only [if_true] at he
      rw [if_pos (by rw [wipeS_len]; exact hl)] at he
      cases he
      refine ⟨_, hv, ?_⟩
      rw [hki]
      show Own K pa m.M _ 1 _ _ (m.fp i)
      rw [hf]
      exact own1_mk upd_same (RDs.stay st (fun _ n _ => n) _ _ r)
    · rw [List.getElem?_set_ne q, wipeS_get] at he
      by_cases c : j ∈ bs
      · rw [if_pos c] at he
        split at he <;> cases he
      · rw [if_neg c] at he
        obtain ⟨w, e1, r1⟩ := h.sl j e he
        refine ⟨w, e1, ?_⟩
        cases z : k j with
        | bo => exact absurd (hb j z) c
        | sh =>
          rw [z] at r1
          exact ⟨r1.1, RD.stay st (fun _ n _ => n) e w r1.2⟩
        | fr n =>
          rw [z] at r1
          refine Own.stay (fun b o hb e => ?_) (fun _ n _ => n) r1
          rcases hb with hb | hb
          · exact st b o hb e
          · rw [upd_ne (fun z => h.disj i j a q haf (by rw [← z]; exact hb))]; exact e
  · by_cases c : j ∈ bs
    · exact h.fpNil (hb2 j c)
    · refine h.no j fun e z => ?_
      by_cases q : i = j
      · subst q
        refine he (.lst l') ?_
        show ((wipeS m.s bs).set i (some (.lst l')))[i]? = _
        rw [List.getElem?_set]; simp [wipeS_len, hl]
      · refine he e ?_
        show ((wipeS m.s bs).set i (some (.lst l')))[j]? = _
        rw [List.getElem?_set_ne q, wipeS_get, if_neg c]
        exact z
  · show σ.length = ((wipeS m.s bs).set i _).length
    rw [List.length_set, wipeS_len]; exact h.len
  · rw [upd_ne (ne_of_none e (h.fr0 i a haf))]
    exact h.kp b o n e
end
section
variable {X : Cx} {W : WX} {k k' kl k1 k2 : Nat → Kd} {κ κ' κa κb κc : Kd} {rk : Nat} {a b c e ix : Expr} {es : List Expr} {st : Stmt} {sts body : List Stmt} {ra rb rc re ri : Sl → P → R Mc.D} {rs : Sl → P → R (List Mc.D)} {r1 r2 : Sl → P → R (Fl × Sl)} {ms ms1 ms2 bs : List Nat} {pos p q q2 apos : Pos} {i : Nat} {x : Str}
/-- the list in the slot i -/
theorem Rel.getL {K : PySem.W.Frag} {pa : Pa} {σ : L2.St} {H : Hp} {m : Ms} (h : Rel K pa k σ H m) (hki : k i = .fr 1) {l : List Mc.D} (e : getL m.s i = some l) : ∃ a xs, m.s[i]? = some (some (.lst l)) ∧ σ[i]? = some (some (.ref a)) ∧ m.fp i = [a] ∧ H a = some (.lst xs) ∧ RDs K pa m.M H l xs := by
  unfold Mc.getL at e
  split at e
  · rename_i l' q
    cases e
    obtain ⟨v, e1, r⟩ := h.sl i _ q
    rw [hki] at r
    obtain ⟨l, a, xs, hd, rfl, ha, hf, rr⟩ := own1 (show Own K pa m.M H 1 _ v (m.fp i) from r)
    cases hd
    exact ⟨a, xs, q, e1, hf, ha, rr⟩
  · cases e
theorem Rel.var1 {K : PySem.W.Frag} {pa : Pa} {σ : L2.St} {H : Hp} {m : Ms} (h : Rel K pa k σ H m) (hki : k i = .fr 1) {d : Mc.D} (e : m.s[i]? = some (some d)) : ∃ l a xs, d = .lst l ∧ σ[i]? = some (some (.ref a)) ∧ m.fp i = [a] ∧ H a = some (.lst xs) := by
  obtain ⟨v, e1, r⟩ := h.sl i _ e
  rw [hki] at r
  obtain ⟨l, a, xs, hd, rfl, ha, hf, rr⟩ := own1 (show Own K pa m.M H 1 _ v (m.fp i) from r)
  exact ⟨l, a, xs, hd, e1, hf, ha⟩
theorem few1 {cpos : Pos} {e : Expr} {env : Env} (h : noStar e = true) : ((backTo cpos (starEach [e] env)).all (fun x => !x.1) && (backToKw cpos (keywordEach [] env)).all (fun x => x.1.isSome) && decide (([e] : List Expr).length + ([] : List Keyword).length + (if ([] : List Keyword).isEmpty then 0 else 1) < 30)) = true := by
  rw [star_cons h] <;> rfl
theorem es_app (hN : X.N[i]? = some x) (hv : Vis X.env.scope x) (hd : (x == ("__debug__" : Str)) = false) (hcd : (x == ("__classdict__" : Str)) = false) (hki : k i = .fr 1) (he : PE X e (tev X.K W k κ re)) (hκ : κ ≠ .bo) (hst : noStar e = true)
    (hb : ∀ j, k j = .bo → j ∈ bs) (hb2 : ∀ j ∈ bs, ∀ n, k j ≠ .fr n) (hline : (apos.endLine == p.line) = true) (hbase : attributeBase (.Name x q) "append" X.env (eval (.Name x q) X.env) = eval (.Name x q) X.env) :
    PS X (.Expr (.Call (.Attribute (.Name x q) "append" apos) [e] [] p) pos) (tsS X.K W k k kl rk [i] fun s p => (R.of (getL s i) p).bd fun l p => (re s p).bd fun d p => if l.length < sizeLine then .ok (.nx, (wipeS s bs).set i (some (.lst (l ++ [d])))) p else .bad) := by
  refine (ps_expr (pe_bm F.plainAttrs_list F.slot_list_append F.type_list_append mt_append (pe_var hN hv hd hcd) (pa_cons he pa_nil (star_cons hst)) hbase (few1 hst) hline (star_cons hst) (star_any (es := []) rfl)) rfl).weak fun En σ H ⟨m, pa, hr, h⟩ => ?_
  dsimp only at h
  cases eg : getL m.s i with
  | none => rw [eg] at h; exact h.elim
  | some l0 =>
    rw [eg] at h
    have h : PostS X.K pa W k kl rk [i] m H ((re m.s m.p).bd fun d p => if l0.length < sizeLine then .ok (.nx, (wipeS m.s bs).set i (some (.lst (l0 ++ [d])))) p else .bad) En := h
    obtain ⟨a, xs0, hs, hv0, hf, ha0, rr0⟩ := hr.getL hki eg
    refine ⟨.ref a, hv0, .inl ⟨rfl, xs0, .of ha0⟩, ?_⟩
    refine ts_bd hr h fun d p v H1 e hk hr1 hv h1 => ?_
    obtain ⟨a', xs, hs', hv', hf', ha, rr⟩ := hr1.getL hki (l := l0) eg
    rw [hv0] at hv'; cases hv'
    split at h1
    · rename_i hl
      refine ⟨a, xs, v, rfl, rfl, ha, by rw [← rr.length]; exact hl, ?_⟩
      have rd : RD X.K pa m.M H1 d v := by
        have z := hv.base fun a => hr.Mdom
        rw [base_sh hκ] at z; exact z
      exact h1 σ _ m.fp (hr1.upd1 hki hs' hv0 hf' hb hb2 (rr.append (RDs.one rd))) ⟨fun b o _ n e => by rw [upd_ne (fun z => n i List.mem_cons_self (by rw [z, hf]; exact List.mem_cons_self))]; exact e, fun _ _ => rfl, fun j hj a ha => .inl ⟨j, hj, ha⟩⟩
    · exact h1.elim
theorem es_ext (hN : X.N[i]? = some x) (hv : Vis X.env.scope x) (hd : (x == ("__debug__" : Str)) = false) (hcd : (x == ("__classdict__" : Str)) = false) (hki : k i = .fr 1) (he : PE X e (tev X.K W k κ re)) (hκ : κ ≠ .bo) (hst : noStar e = true)
    (hb : ∀ j, k j = .bo → j ∈ bs) (hb2 : ∀ j ∈ bs, ∀ n, k j ≠ .fr n) (hline : (apos.endLine == p.line) = true) (hbase : attributeBase (.Name x q) "extend" X.env (eval (.Name x q) X.env) = eval (.Name x q) X.env) :
    PS X (.Expr (.Call (.Attribute (.Name x q) "extend" apos) [e] [] p) pos) (tsS X.K W k k kl rk [i] fun s p => (R.of (getL s i) p).bd fun l p => (re s p).bd fun d p => match itemsD d with
      | some r => if l.length + r.length ≤ sizeLine then .ok (.nx, (wipeS s bs).set i (some (.lst (l ++ r)))) p else .bad
      | none => .bad) := by
  refine (ps_expr (pe_bm F.plainAttrs_list F.slot_list_extend F.type_list_extend mt_extS (pe_var hN hv hd hcd) (pa_cons he pa_nil (star_cons hst)) hbase (few1 hst) hline (star_cons hst) (star_any (es := []) rfl)) rfl).weak fun En σ H ⟨m, pa, hr, h⟩ => ?_
  dsimp only at h
  cases eg : getL m.s i with
  | none => rw [eg] at h; exact h.elim
  | some l0 =>
    rw [eg] at h
    have h : PostS X.K pa W k kl rk [i] m H ((re m.s m.p).bd fun d p => match itemsD d with
      | some r => if l0.length + r.length ≤ sizeLine then .ok (.nx, (wipeS m.s bs).set i (some (.lst (l0 ++ r)))) p else .bad
      | none => .bad) En := h
    obtain ⟨a, xs0, hs, hv0, hf, ha0, rr0⟩ := hr.getL hki eg
    refine ⟨.ref a, hv0, .inl ⟨rfl, xs0, .of ha0⟩, ?_⟩
    refine ts_bd hr h fun d p v H1 e hk hr1 hv h1 => ?_
    obtain ⟨a', xs, hs', hv', hf', ha, rr⟩ := hr1.getL hki (l := l0) eg
    rw [hv0] at hv'; cases hv'
    have rd : RD X.K pa m.M H1 d v := by
      have z := hv.base fun a => hr.Mdom
      rw [base_sh hκ] at z; exact z
    have key : ∃ r b zs, itemsD d = some r ∧ v = .ref b ∧ (H1 b = some (.lst zs) ∨ H1 b = some (.tup zs)) ∧ RDs X.K pa m.M H1 r zs := by
      cases d with
      | tup r =>
        simp only [RD] at rd
        obtain ⟨b, zs, rfl, _, hb, rz⟩ := rd
        exact ⟨r, b, zs, rfl, rfl, .inr hb, rz⟩
      | lst r =>
        simp only [RD] at rd
        obtain ⟨b, zs, rfl, _, hb, rz⟩ := rd
        exact ⟨r, b, zs, rfl, rfl, .inl hb, rz⟩
      | _ => exact h1.elim
    obtain ⟨r, b, zs, er, rfl, hbz, rz⟩ := key
    rw [er] at h1
    dsimp only at h1
    split at h1
    · rename_i hl
      refine ⟨a, b, xs, zs, rfl, rfl, ha, hbz, by rw [← rr.length, ← rz.length]; exact hl, ?_⟩
      exact h1 σ _ m.fp (hr1.upd1 hki hs' hv0 hf' hb hb2 (rr.append rz)) ⟨fun b o _ n e => by rw [upd_ne (fun z => n i List.mem_cons_self (by rw [z, hf]; exact List.mem_cons_self))]; exact e, fun _ _ => rfl, fun j hj a ha => .inl ⟨j, hj, ha⟩⟩
    · exact h1.elim
theorem assign_sub {o ix : Expr} {p : Pos} {env : Env} (h : plainIx ix = true) (v : Value) : assign (.Subscript o ix p) env v = (do
      let ov ← holding [v] (eval o env)
      let iv ← holding [v, ov] (eval ix env)
      standAt p
      holding [v, ov, iv] (setItem ov iv v)
      release [v, ov, iv] []) := by
  cases ix <;> first | rfl | cases h
theorem sw_sub {o ix e : Expr} {p : Pos} {l : Nat} {env : Env} : swapsWithSole [.Subscript o ix p] e l env = pure false := by
  cases e <;> rfl
theorem ss_sub {o ix e : Expr} {p : Pos} {env : Env} : swappedStores [.Subscript o ix p] e env = pure none := by
  cases e <;> rfl
theorem es_setI (hN : X.N[i]? = some x) (hv : Vis X.env.scope x) (hd : (x == ("__debug__" : Str)) = false) (hcd : (x == ("__classdict__" : Str)) = false) (hki : k i = .fr 1) (he : PE X e (tev X.K W k κ re)) (hκ : κ = .sh) (hx : PE X ix (tev X.K W k κb ri)) (hp : plainIx ix = true)
    (hb : ∀ j, k j = .bo → j ∈ bs) (hb2 : ∀ j ∈ bs, ∀ n, k j ≠ .fr n) :
    PS X (.Assign [.Subscript (.Name x q) ix p] e pos) (tsS X.K W k k kl rk [i] fun s p => (re s p).bd fun d p => (R.of (getL s i) p).bd fun l p => (ri s p).bd fun j p => (R.of (putL l j d) p).bd fun l' p => .ok (.nx, (wipeS s bs).set i (some (.lst l'))) p) := by
  subst hκ
  refine (ps_asg he (pg_sub (pe_var hN hv hd hcd) hx set_list (assign_sub hp)) sw_sub ss_sub (by rw [assignEach_cons rfl] <;> rfl)).weak fun En σ H ⟨m, pa, hr, h⟩ => ?_
  refine ts_bd hr h fun d p v H1 e hk hr1 hv h1 => ?_
  cases eg : getL m.s i with
  | none => rw [eg] at h1; exact h1.elim
  | some l0 =>
    rw [eg] at h1
    have h1 : PostS X.K pa W k kl rk [i] { m with p := p } H1 ((ri m.s p).bd fun j p => (R.of (putL l0 j d) p).bd fun l' p => .ok (.nx, (wipeS m.s bs).set i (some (.lst l'))) p) En := h1
    obtain ⟨a, xs0, hs, hv0, hf, ha0, rr0⟩ := hr1.getL hki (l := l0) eg
    refine ⟨.ref a, hv0, ?_⟩
    refine ts_bd hr1 h1 fun d2 p2 v2 H2 e2 hk2 hr2 hv2 h2 => ?_
    obtain ⟨a', xs, hs', hv', hf', ha, rr⟩ := hr2.getL hki (l := l0) eg
    rw [hv0] at hv'; cases hv'
    cases ep : putL l0 d2 d with
    | none => rw [ep] at h2; exact h2.elim
    | some l' =>
      rw [ep] at h2
      have h2 : ∀ σ' H' fp', Rel X.K pa k σ' H' { m with s := (wipeS m.s bs).set i (some (.lst l')), p := p2, fp := fp' } → Fm pa [i] m.fp H2 fp' H' → En.nx σ' H' := h2
      cases d2 with
      | int n =>
        have ep : (match ixN l0.length n with
          | some j => some (l0.set j d)
          | none => none) = some l' := ep
        cases ej : ixN l0.length n with
        | none => rw [ej] at ep; cases ep
        | some j =>
          rw [ej] at ep
          cases ep
          have r2 := hv2.bo fun a => hr1.Mdom
          simp only [RD] at r2
          subst r2
          refine ⟨a, xs, n, j, rfl, rfl, ha, by rw [← rr.length]; exact ej, ?_⟩
          have rd : RD X.K pa m.M H2 d v := RD.move hv hk2 (fun a n => .inl (hr.pa0 a n))
          exact h2 σ _ m.fp (hr2.upd1 hki hs' hv0 hf' hb hb2 (RDs.set rd j rr)) ⟨fun b o _ n e => by rw [upd_ne (fun z => n i List.mem_cons_self (by rw [z, hf]; exact List.mem_cons_self))]; exact e, fun _ _ => rfl, fun j hj a ha => .inl ⟨j, hj, ha⟩⟩
      | _ => cases ep
theorem ei_own {tg : Expr} (hN : X.N[i]? = some x) (hv : Vis X.env.scope x) (hd : (x == ("__debug__" : Str)) = false) (hcd : (x == ("__classdict__" : Str)) = false) (hki : k i = .fr 1) : PI X tg (.Name x q) (titX X.K W k [i] .sh fun s p => (getS s i p).bd fun d p => R.of (items .val [d]) p) := by
  refine (pi_seq (pe_var hN hv hd hcd)).weak fun σ H RR ⟨m, pa, hr, h⟩ => ?_
  by_cases e : ∃ d, m.s[i]? = some (some d)
  · obtain ⟨d, e⟩ := e
    have g : getS m.s i m.p = .ok d m.p := by unfold getS; rw [e]
    obtain ⟨v, e1, r⟩ := hr.sl i _ e
    rw [hki] at r
    obtain ⟨l, a, xs, hd, rfl, ha, hf, rr⟩ := own1 (show Own X.K pa m.M H 1 _ v (m.fp i) from r)
    subst hd
    dsimp only at h
    rw [g] at h
    refine ⟨_, e1, a, rfl, .inl ⟨⟨xs, .of ha⟩, h _ H .refl hr.pen fun H'' M' h1 h2 _ => ?_⟩⟩
    have aB : ¬ itB [i] .sh m a := fun z => z.2 i List.mem_cons_self (by rw [hf]; exact List.mem_cons_self)
    exact walk_list (.of (h1 a _ aB ha)) (RDs.stay (fun b o n e => h1 b o (fun z => n z.1) e) h2 _ _ rr)
  · have g : getS m.s i m.p = .bad := by
      unfold getS
      split
      · rename_i d q
        exact absurd ⟨d, q⟩ e
      · rfl
    dsimp only at h
    rw [g] at h
    exact h.elim
/-! ### the pen -/
theorem noSl {i : Expr} (h : plainIx i = true) : NoSl i := by
  intro o v
  cases i <;> first | rfl | cases h
theorem pen_get {p : Pen} {ca : Addr} (f : Pf) : valV (penK p ca) (.inr f.name : Key) = some (.int (p.get f)) := by
  cases f <;> rfl
theorem pen_cells {p : Pen} {ca : Addr} : valV (penK p ca) (.inr "cells" : Key) = some (.ref ca) := rfl
theorem pen_put {p : Pen} {ca : Addr} (f : Pf) (i : Int) : putK (penK p ca) (.inr f.name : Key) (.int i) = penK (p.put f i) ca := by
  cases f <;> rfl
theorem ev_pf {f : Pf} {k0 : Nat} {p2 p3 : Pos} (hu : X.A.units + 65 < cLine) (ha : PE X a (tev X.K W k κa ra)) : PE X (.Subscript a (.Constant (.str f.name) k0 p2) p3) (tev X.K W k .sh fun s p => (ra s p).bd fun x p => match x with
    | .pen => .ok (.int (p.get f)) p
    | _ => .bad) := by
  refine (pe_dget (by omega) ha (pe_str (j := k0) (pos := p2)) (noSl rfl)).weak fun σ H Q ⟨m, pa, hr, h⟩ => ?_
  refine tev_bd hr h fun d p v H1 e hk hr1 hv h1 => ?_
  have r1 := hv.bo fun a => hr.Mdom
  cases d with
  | pen =>
    simp only [RD] at r1
    subst r1
    refine ⟨pa.1, .int (p.get f), rfl, ?_, h1 _ _ .refl hr1.pen (by show RD _ _ _ _ _ _; simp only [RD])⟩
    have z := DGet.k (k := (.inr f.name : Key)) hr1.pen.d
    rw [pen_get] at z
    exact z
  | _ => exact h1.elim
theorem ev_pl {y : Str} {k0 : Nat} {p2 p3 p4 p5 : Pos} (hy : y = "len") (hg : Gl X y) (hm : X.mg y = none) (hu : X.A.units + 65 < cLine) (ha : PE X a (tev X.K W k κa ra)) : PE X (.Call (.Name y p4) [.Subscript a (.Constant (.str "cells") k0 p2) p3] [] p5) (tev X.K W k .sh fun s p => (ra s p).bd fun x p => match x with
    | .pen => .ok (.int p.cells.length) p
    | _ => .bad) := by
  subst hy
  refine (pe_callB call_len hg hm (by decide +kernel) (pa_cons (pe_dget (by omega) ha (pe_str (j := k0) (pos := p2)) (noSl rfl)) pa_nil (star_cons rfl)) (by decide) (by decide) (star_cons rfl) (star_any (es := []) rfl)).weak fun σ H Q ⟨m, pa, hr, h⟩ => ?_
  refine tev_bd hr h fun d p v H1 e hk hr1 hv h1 => ?_
  have r1 := hv.bo fun a => hr.Mdom
  cases d with
  | pen =>
    simp only [RD] at r1
    subst r1
    refine ⟨pa.1, .ref pa.2, rfl, DGet.k (k := (.inr "cells" : Key)) hr1.pen.d, .ref pa.2, _, rfl, .inl ⟨p.cells.map V.int, .of hr1.pen.c, rfl⟩, ?_⟩
    rw [List.length_map]
    exact h1 _ _ .refl hr1.pen (by show RD _ _ _ _ _ _; simp only [RD])
  | _ => exact h1.elim
theorem atI_map {α β : Type} (f : α → β) (l : List α) (i : Int) : atI (l.map f) i = (atI l i).map f := by
  unfold atI
  simp only [List.length_map]
  cases ixN l.length i with
  | none => rfl
  | some j => simp
theorem ev_pc {k0 : Nat} {p2 p3 p4 : Pos} (hu : X.A.units + 65 < cLine) (ha : PE X a (tev X.K W k κa ra)) (hb : PE X b (tev X.K W k κb rb)) (hp : plainIx b = true) : PE X (.Subscript (.Subscript a (.Constant (.str "cells") k0 p2) p3) b p4) (tev X.K W k .sh fun s p => (ra s p).bd fun x p => match x with
    | .pen => (rb s p).bd fun y p => match y with
      | .int j => .of ((atI p.cells j).map .int) p
      | _ => .bad
    | _ => .bad) := by
  refine (pe_ix ix_list (pe_dget (by omega) ha (pe_str (j := k0) (pos := p2)) (noSl rfl)) hb (plainIx_ok hp)).weak fun σ H Q ⟨m, pa, hr, h⟩ => ?_
  refine tev_bd hr h fun d p v H1 e hk hr1 hv h1 => ?_
  have r1 := hv.bo fun a => hr.Mdom
  cases d with
  | pen =>
    simp only [RD] at r1
    subst r1
    refine ⟨pa.1, .ref pa.2, rfl, DGet.k (k := (.inr "cells" : Key)) hr1.pen.d, ?_⟩
    refine tev_bd hr1 h1 fun d2 p2 v2 H2 e2 hk2 hr2 hv2 h2 => ?_
    have r2 := hv2.bo fun a => hr1.Mdom
    cases d2 with
    | int j =>
      simp only [RD] at r2
      subst r2
      obtain ⟨z, ez, h3⟩ := of_ok' h2
      obtain ⟨c, ec, rfl⟩ := Option.map_eq_some_iff.mp ez
      refine ⟨pa.2, p2.cells.map V.int, j, .int c, rfl, rfl, .of hr2.pen.c, by rw [atI_map, ec] <;> rfl, h3 _ _ .refl hr2.pen (by show RD _ _ _ _ _ _; simp only [RD])⟩
    | _ => exact h2.elim
  | _ => exact h1.elim
theorem es_pset {f : Pf} {k0 : Nat} {p2 p3 : Pos} (hu : X.A.units + 65 < cLine) (hN : X.N[i]? = some x) (hv : Vis X.env.scope x) (hd : (x == ("__debug__" : Str)) = false) (hcd : (x == ("__classdict__" : Str)) = false) (hki : k i = .sh) (he : PE X e (tev X.K W k κ re)) (hs : ∀ t l, swapsWith e t l X.env = pure false) :
    PS X (.Assign [.Subscript (.Name x q) (.Constant (.str f.name) k0 p2) p3] e pos) (tsS X.K W k k kl rk [] fun s p => (re s p).bd fun d p => (getS s i p).bd fun x p => match x, d with
      | .pen, .int j => .ok (.nx, s) (p.put f j)
      | _, _ => .bad) := by
  refine (ps_dput (by omega) (pe_var hN hv hd hcd) (pe_str (j := k0) (pos := p2)) he (hs _ _)).weak fun En σ H ⟨m, pa, hr, h⟩ => ?_
  refine ts_bd hr h fun d p v H1 e hk hr1 hv1 h1 => ?_
  have r1 := hv1.bo fun a => hr.Mdom
  by_cases hx : ∃ y, m.s[i]? = some (some y)
  · obtain ⟨y, hx⟩ := hx
    have g : getS m.s i p = .ok y p := by unfold getS; rw [hx]
    rw [g] at h1
    obtain ⟨w, ew, rw1⟩ := hr1.sl i y hx
    rw [hki] at rw1
    have rw2 : RD X.K pa m.M H1 y w := rw1.2
    cases y with
    | pen =>
      cases d with
      | int j =>
        simp only [RD] at r1 rw2
        subst r1 rw2
        have h1 : ∀ σ' H' fp', Rel X.K pa k σ' H' { m with p := p.put f j, fp := fp' } → Fm pa [] m.fp H1 fp' H' → En.nx σ' H' := h1
        refine ⟨_, ew, pa.1, _, rfl, DPut.k (k := (.inr f.name : Key)) (v := .int j) hr1.pen.d (by show 5 < sizeLine; decide), ?_⟩
        rw [pen_put]
        have hk2 : Keep pa H1 (upd H1 pa.1 (.dK (penK (p.put f j) pa.2))) := fun a o n e => by rw [upd_ne n.1]; exact e
        refine h1 σ _ m.fp (hr1.keep (p' := p.put f j) hk2 ⟨hr1.pen.m1, hr1.pen.m2, hr1.pen.ne, upd_same, ?_, hr1.pen.tm, tabs_upd hr1.pen.tb hr1.pen.d (fun _ z => nomatch z) (fun _ _ z => nomatch z)⟩) (.keep hk2)
        have ec : (p.put f j).cells = p.cells := by cases f <;> rfl
        rw [upd_ne (Ne.symm hr1.pen.ne), ec]
        exact hr1.pen.c
      | _ => exact h1.elim
    | _ => exact h1.elim
  · have g : getS m.s i p = .bad := by
      unfold getS
      split
      · rename_i d q
        exact absurd ⟨d, q⟩ hx
      · rfl
    rw [g] at h1
    exact h1.elim
end
end Mc

/-! Mc15b: exceptions with fields. -/
namespace Mc
open PySem PySem.Spec PyProof.Rows L2
/-- __init__ that keeps its parameters under their names -/
def iniOk (s0 : Str) : List Str → List Stmt → Bool
  | [], sts => sts.isEmpty
  | n :: ns, sts => (match sts with
    | .Assign [.Attribute (.Name s _) f _] (.Name g _) _ :: r => decide (s = s0) && decide (f = n) && decide (g = n) && !(n == ("__debug__" : Str)) && !(n == ("__classdict__" : Str)) && iniOk s0 ns r
    | _ => false)
def spI (K : PySem.W.Frag) (ns : List Str) : Sp := fun vs H Q E => ∃ (a C : Addr) (H1 : Hp) (vals : List V), vs = .ref a :: vals ∧ vals.length = ns.length ∧ OexC K C ∧ (∀ f ∈ ns, PySem.W.findIn K (.ref C) f = some none) ∧ H1 a = none ∧ H = upd H1 a (exo a C none) ∧
  ∀ (d : Addr) (fs : List (Str × V)), H1 d = none → d ≠ a → (∀ f, fs.lookup f = (ns.zip vals).lookup f) → Q .non (upd (upd H1 d (exd d fs)) a (exo a C (some d)))
theorem upd_upd {H : Hp} {a d : Addr} {x y z : HO} (n : d ≠ a) : upd (upd (upd H d x) a y) d z = upd (upd H d z) a y := by
  funext b
  by_cases e : b = d
  · subst e
    rw [upd_same, upd_ne n, upd_same]
  · rw [upd_ne e]
    by_cases e2 : b = a
    · subst e2
      rw [upd_same, upd_same]
    · rw [upd_ne e2, upd_ne e, upd_ne e2, upd_ne e]
theorem zip_snoc_lookup : ∀ {ns : List Str} {vs : List V} {n g : Str} {y : V}, ns.length = vs.length → n ∉ ns → ((ns ++ [n]).zip (vs ++ [y])).lookup g = if g == n then some y else (ns.zip vs).lookup g
  | [], [], n, g, y, _, _ => by
    show List.lookup g [(n, y)] = _
    rw [List.lookup_cons]
    cases g == n <;> rfl
  | a :: ns, v :: vs, n, g, y, hl, hn => by
    show List.lookup g ((a, v) :: ((ns ++ [n]).zip (vs ++ [y]))) = _
    have ih := zip_snoc_lookup (ns := ns) (vs := vs) (n := n) (g := g) (y := y) (by simpa using hl) (fun z => hn (List.mem_cons_of_mem _ z))
    rw [List.lookup_cons, ih]
    show _ = if (g == n) = true then some y else List.lookup g ((a, v) :: ns.zip vs)
    rw [List.lookup_cons]
    by_cases e : g = a
    · subst e
      have : (g == n) = false := by simp; exact fun z => hn (by rw [← z]; exact List.mem_cons_self)
      simp [this]
    · have : (g == a) = false := by simpa using e
      simp [this]
theorem ini_run {X : Cx} {s0 : Str} {ns : List Str} {a C : Addr} {H1 : Hp} {vals : List V} {En : Ends} (hN : X.N = s0 :: ns) (hnd : X.N.Nodup) (hv : ∀ x ∈ X.N, Vis X.env.scope x) (hs0 : (s0 == ("__debug__" : Str)) = false) (hs1 : (s0 == ("__classdict__" : Str)) = false) (T : OexC X.K C) (hf : ∀ f ∈ ns, PySem.W.findIn X.K (.ref C) f = some none) (hl : vals.length = ns.length) (hsz : ns.length ≤ 900)
    (hQ : ∀ (d : Addr) (fs : List (Str × V)), H1 d = none → d ≠ a → (∀ f, fs.lookup f = (ns.zip vals).lookup f) → En.nx ((V.ref a :: vals).map some) (upd (upd H1 d (exd d fs)) a (exo a C (some d)))) :
    ∀ (rest dn : List Str) (body : List Stmt), iniOk s0 rest body = true → ns = dn ++ rest → (dn ≠ [] ∨ rest ≠ []) → ∃ t, PSs X body t ∧ ∀ H, ((dn = [] ∧ H = upd H1 a (exo a C none)) ∨ ∃ d fs, dn ≠ [] ∧ H = upd (upd H1 d (exd d fs)) a (exo a C (some d)) ∧ H1 d = none ∧ d ≠ a ∧ fs.length = dn.length ∧ ∀ f, fs.lookup f = (dn.zip (vals.take dn.length)).lookup f) → t En ((V.ref a :: vals).map some) H
  | [], dn, body, h, hns, hne => by
    simp only [iniOk, List.isEmpty_iff] at h
    subst h
    rw [List.append_nil] at hns
    subst hns
    refine ⟨_, pss_nil, fun H hH => ?_⟩
    rcases hH with ⟨e, _⟩ | ⟨d, fs, hd, rfl, h1, h2, h3, h4⟩
    · exact absurd e (hne.resolve_right fun z => z rfl)
    · refine hQ d fs h1 h2 fun f => ?_
      rw [h4 f, List.take_of_length_le (by omega)]
  | n :: rest, dn, body, h, hns, hne => by
    simp only [iniOk] at h
    split at h
    · rename_i s p1 f p2 g p3 p4 r
      simp only [Bool.and_eq_true, decide_eq_true_eq, Bool.not_eq_true'] at h
      obtain ⟨⟨⟨⟨⟨rfl, rfl⟩, rfl⟩, hd1⟩, hd2⟩, h⟩ := h
      have hns' : ns = (dn ++ [g]) ++ rest := by rw [hns]; simp
      obtain ⟨t, ht, hq⟩ := ini_run hN hnd hv hs0 hs1 T hf hl hsz hQ rest (dn ++ [g]) r h hns' (.inl (by simp))
      have i0 : X.N[0]? = some s := by rw [hN]; rfl
      have i1 : X.N[dn.length + 1]? = some g := by rw [hN, hns]; simp
      have hg : g ∈ X.N := List.mem_of_getElem? i1
      have hlt : dn.length < vals.length := by rw [hl, hns]; simp
      have hgn : g ∈ ns := by rw [hns]; simp
      have gn : g ∉ dn := by
        have z := hnd
        rw [hN, hns] at z
        have z2 := (List.nodup_cons.mp z).2
        rw [List.nodup_append] at z2
        exact fun y => z2.2.2 g y g List.mem_cons_self rfl
      refine ⟨_, pss_cons (ps_ost (pe_var i0 (hv s (List.mem_of_getElem? i0)) hs0 hs1) (pe_var i1 (hv g hg) hd1 hd2)) ht, fun H hH => ?_⟩
      refine ⟨vals[dn.length], by rw [List.map_cons, List.getElem?_cons_succ, List.getElem?_map, List.getElem?_eq_getElem hlt]; rfl, .ref a, rfl, a, C, rfl, T, hf g hgn, ?_⟩
      have tk : vals.take (dn.length + 1) = vals.take dn.length ++ [vals[dn.length]] := by rw [List.take_succ, List.getElem?_eq_getElem hlt]; rfl
      rcases hH with ⟨rfl, rfl⟩ | ⟨d, fs, hd, rfl, h1, h2, h3, h4⟩
      · refine .inl ⟨upd_same, fun dx hx hxa => hq _ (.inr ⟨dx, [(g, vals[0])], by simp, ?_, ?_, hxa, rfl, fun f => ?_⟩)⟩
        · funext b
          by_cases e : b = a
          · subst e; rw [upd_same, upd_same]
          · rw [upd_ne e, upd_ne e]
            by_cases e2 : b = dx
            · subst e2; rw [upd_same, upd_same]; rfl
            · rw [upd_ne e2, upd_ne e2, upd_ne e]
        · rw [upd_ne hxa] at hx; exact hx
        · show List.lookup f [(g, vals[0])] = List.lookup f ([g].zip (vals.take 1))
          have : vals.take 1 = [vals[0]] := by simpa using tk
          rw [this]; rfl
      · refine .inr ⟨d, fs, upd_same, by rw [upd_ne h2, upd_same], ?_, hq _ (.inr ⟨d, (g, vals[dn.length]) :: fs, by simp, upd_upd h2, h1, h2, by simp [h3], fun f => ?_⟩)⟩
        · rw [h3]; have := congrArg List.length hns; simp at this; omega
        · rw [List.length_append, List.length_singleton, tk, zip_snoc_lookup (by rw [List.length_take]; omega) gn, ← h4 f, List.lookup_cons]
          cases f == g <;> rfl
    · cases h
/-- what is known of an exception's class -/
def ExOk (P : Program) (w : World) (K : PySem.W.Frag) (mg : Str → Option Value) (base : Heap) (c : Str) (ns : List Str) : Prop :=
  ns ≠ [] ∧ ns.length ≤ 900 ∧ OexC K (He.ga K c) ∧ mg c = some (.ref (He.ga K c)) ∧ (c == ("__debug__" : Str)) = false ∧ (∀ f ∈ ns, PySem.W.findIn K (.ref (He.ga K c)) f = some none) ∧
    ∃ fI fd ps, FnOk P w K mg base CX0 1 fI fd ps (spI K ns) ∧ PySem.W.findIn K (.ref (He.ga K c)) "__init__" = some (some (.ref fI)) ∧ PySem.W.typeIn K (.ref fI) = some (.type "function") ∧ Binds K fd ps []
section
variable {P : Program} {w : World} {K : PySem.W.Frag} {mg : Str → Option Value} {base : Heap}
theorem ini_ok {qual : Str} {params : Arguments} {body : List Stmt} {scope : Scope} {fd : FuncData} {s0 : Str} {ns : List Str} {f : Addr} (F : FunD K "__init__" qual params body scope [] [] f fd) (S : FnScope (s0 :: ns) (s0 :: ns) scope) (h : iniOk s0 ns body = true) (hn : ns ≠ []) (hsz : ns.length ≤ 900)
    (hs0 : (s0 == ("__debug__" : Str)) = false) (hs1 : (s0 == ("__classdict__" : Str)) = false) : FnOk P w K mg base CX0 1 f fd (s0 :: ns) (spI K ns) := by
  refine F.ok S (fun vs H Q E h => ?_) fun cdv A outer s H vs Q E hr hsp => ?_
  · obtain ⟨a, C, H1, vals, rfl, hl, _⟩ := h
    rw [List.length_cons, List.length_cons, hl]
  · obtain ⟨a, C, H1, vals, rfl, hl, T, hf, ha, rfl, hQ⟩ := hsp
    obtain ⟨t, ht, hq⟩ := ini_run (X := cxOf CX0 P w K mg base (s0 :: ns) qual scope f cdv A outer s (upd H1 a (exo a C none)) E) (En := { nx := fun _ H' => Q .non H', rt := Q }) rfl S.nd (fun x hx => (S.par x hx).elim .inl fun z => .inr (.inl z)) hs0 hs1 T hf hl hsz hQ ns [] body h rfl (.inr hn)
    refine ⟨t, ht, ?_⟩
    have e : L2.start (s0 :: ns) (V.ref a :: vals) = (V.ref a :: vals).map some := by
      unfold L2.start
      rw [List.length_cons, List.length_cons, hl, Nat.sub_self]
      simp
    rw [e]
    exact hq _ (.inl ⟨rfl, rfl⟩)
end
section
variable {X : Cx} {W : WX} {k k' kl : Nat → Kd} {κ : Kd} {rk : Nat} {e : Expr} {es : List Expr} {rs : Sl → P → R (List Mc.D)} {p pos p2 : Pos}
/-- raise C(e, ..) -/
theorem es_rai {c : Str} {ns : List Str} (hc : X.calm = true) (tk : Takes X W) (hg : Gl X c) (hr : Room 2 X.A) (x : ExOk X.prog X.w X.K X.mg X.base c ns) (hs : PA X (e :: es) (tevs X.K W k κ rs)) (hκ : κ = .bo ∨ κ = .sh) (hl : ∀ s p ds p', rs s p = .ok ds p' → ds.length = ns.length)
    (hst : noStar e = true) (hst2 : es.all noStar = true) : PS X (.Raise (some (.Call (.Name c p) (e :: es) [] pos)) none p2) (tsS X.K W k k' kl rk [] fun s p => (rs s p).bd fun ds p => .err ⟨c, ns, ds⟩ p) := by
  obtain ⟨hn, hsz, T, hm, hdb, hf, fI, fd, ps, FI, iC, tI, hb⟩ := x
  refine (ps_raise hc tk (pmk_oex T iC tI FI hr hb .nil pass0 hg hm hs hdb (star_cons hst) (star_any hst2))).weak fun En σ H ⟨m, pa, hr, h⟩ => ?_
  refine ts_bds (κ := κ) hr h fun ds p vs H1 e hk hr1 hv h1 => ?_
  have hlen : vs.length = ns.length := by rw [← hv.length]; exact hl _ _ _ _ e
  have h1 : ∀ cls dd H' σ', Keep pa m.H0 H' → PenR pa m.M0 p H' → ExR X.K pa m.M0 ⟨c, ns, ds⟩ cls dd H' → W cls dd σ' H' := h1
  refine ⟨by rw [hlen]; omega, fun a ha => ?_⟩
  rw [List.append_nil]
  refine ⟨a, He.ga X.K c, H1, vs, rfl, hlen, T, hf, ha, rfl, fun d fs hd hda hfs => ⟨rfl, d, fs, upd_same, by rw [upd_ne hda, upd_same], hd, ?_⟩⟩
  have hk2 : Keep pa H1 (upd (del (upd (upd H1 d (exd d fs)) a (exo a (He.ga X.K c) (some d))) a) d (.xd fs)) := fun b o n eb => by
    have e1 : b ≠ a := fun z => by rw [z, ha] at eb; cases eb
    have e2 : b ≠ d := fun z => by rw [z, hd] at eb; cases eb
    rw [upd_ne e2, del_ne e1, upd_ne e1, upd_ne e2]
    exact eb
  have pk : ∀ {b o}, H1 b = some o → (upd (del (upd (upd H1 d (exd d fs)) a (exo a (He.ga X.K c) (some d))) a) d (.xd fs)) b = some o := fun {b o} eb => by
    have e1 : b ≠ a := fun z => by rw [z, ha] at eb; cases eb
    have e2 : b ≠ d := fun z => by rw [z, hd] at eb; cases eb
    rw [upd_ne e2, del_ne e1, upd_ne e1, upd_ne e2]
    exact eb
  refine h1 _ _ _ σ (hr1.kp.trans hk2) ⟨hr1.pen.m1, hr1.pen.m2, hr1.pen.ne, pk hr1.pen.d, pk hr1.pen.c, hr1.pen.tm, hr1.pen.tb.ext fun _ _ eb => pk eb⟩ ⟨rfl, .inr ⟨d, fs, vs, rfl, upd_same, fun z => hr1.dom d z hd, hlen.symm, ?_, hfs⟩⟩
  refine RDs.stay (fun b o n eb => pk eb) (fun b n _ z => n ?_) ds vs hv
  exact M_base κ z
theorem pmk_ex0 {c : Str} (h : (He.Fa.exc c).ok X.K = true) (hg : Gl X c) (hm : X.mg c = some (.ref (He.ga X.K c))) (hdb : (c == ("__debug__" : Str)) = false) : PMk X (.Call (.Name c p) [] [] pos) (fun _ H Q => Q (.ref (He.ga X.K c)) none H) := by
  simp only [He.Fa.ok, Bool.and_eq_true, decide_eq_true_eq] at h
  obtain ⟨h1, h2, h3, h4⟩ := h
  intro pins s σ H Q I hq
  refine wpAny_Call_Name_kw (ld_glob I hg hm ?_ hdb)
  refine PySem.W.callWith_K0 I.kIn h2 ?_
  show wpAny _ _ (call (.ref (He.ga X.K c)) []) _ _ _
  obtain ⟨bm, N, nm, qn, bs, hdct, sn, sub, ab, col, dd, k0, k1, k2, k3, k5, mN, hC, hN, hni, T⟩ := exc_obj I.kIn h1
  refine wpAny_call_exc_subT PySem.F.excBase_ValueError T hC hN hni (fun h' e hm => ?_) (Nat.zero_le _)
  exact mk_of I hm (raises_own h3 h4) hq (I.hok.gone hm.new)
/-- raise C() -/
theorem es_rai0 {c : Str} (hc : X.calm = true) (tk : Takes X W) (hg : Gl X c) (hm : X.mg c = some (.ref (He.ga X.K c))) (hx : (He.Fa.exc c).ok X.K = true) (hdb : (c == ("__debug__" : Str)) = false) :
    PS X (.Raise (some (.Call (.Name c p) [] [] pos)) none p2) (tsS X.K W k k' kl rk [] fun s p => .err ⟨c, [], []⟩ p) :=
  (ps_raise hc tk (pmk_ex0 hx hg hm hdb)).weak fun En σ H ⟨m, pa, hr, h⟩ => h _ none H σ hr.kp hr.pen ⟨rfl, .inl ⟨rfl, rfl, rfl⟩⟩
end
/-- what is asked of a name of a def to be called -/
def CalOk (P : Program) (w : World) (K : PySem.W.Frag) (mg : Str → Option Value) (base : Heap) (k : Nat) (g : Bool) (f : Str) (n rk : Nat) (C : List D → Mc.P → R D) : Prop :=
  ∃ fd ps, Fg g P w K mg base k (He.ga K f) fd ps (spC K n C rk) ∧ mg f = some (.ref (He.ga K f)) ∧ PySem.W.keepIn K (.ref (He.ga K f)) = true ∧ Binds K fd ps []
end Mc

/-! Mc15c: repr, lambdas, what a call raises. -/
namespace Mc
open PySem PySem.Spec PyProof.Rows L2
/-! ### what an error tells of itself -/
def faultD (kt : List (Str × List Ke)) (x : Ex) : Option D := match kt.lookup x.c with
  | some l => (match kesD x l with
    | some ds => if flats ds = true then some (.tup ds) else none
    | none => none)
  | none => none
def fltR (kt : List (Str × List Ke)) : R D → R D
  | .ok _ p => .ok .non p
  | .err x p => (match faultD kt x with
    | some d => .ok d p
    | none => .bad)
  | .bad => .bad
/-- what the maker of the tuple keeps: tl: what is known of the lambda -/
def TTf (K : PySem.W.Frag) (kt : List (Str × List Ke)) : (XK → Hp → VK → Prop) → Hp → VK → Prop := fun tl H Q =>
  tl (fun cls dd H1 => ∃ pa M0 x d, ExR K pa M0 x cls dd H1 ∧ (∀ a, M0 a → H1 a ≠ none) ∧ faultD kt x = some d ∧ ∀ v H2, (∀ a o, H1 a = some o → H2 a = some o) → RD K pa M0 H2 d v → Q v H2) H fun _ H1 => Q .non H1
/-- what is known of _law_fault -/
def FltOk (P : Program) (w : World) (K : PySem.W.Frag) (mg : Str → Option Value) (base : Heap) (kt : List (Str × List Ke)) : Prop :=
  ∃ (g : Addr) (a : Str) (pg : Arguments) (bg : List Stmt) (sg : Scope) (dV kV doc pm cdv ct oc : Value) (an od : Option Addr) (osl : Array (Option Value)) (Ng : List Str),
    mg "_law_fault" = some (.ref g) ∧ PySem.W.keepIn K (.ref g) = true ∧ K.lookup g = some ⟨oc, od, .func (PySem.W.fnOf "_law_fault" "_law_fault" pg bg sg dV kV doc pm an cdv ct), osl⟩ ∧ PySem.W.codeIn K cdv "_law_fault" = true ∧
    Binds K (PySem.W.fnOf "_law_fault" "_law_fault" pg bg sg dV kV doc pm an cdv ct) [a] [] ∧ FnScope Ng [a] sg ∧ Ng[0]? = some a ∧ Vis sg a ∧ (a == ("__debug__" : Str)) = false ∧ (a == ("__classdict__" : Str)) = false ∧
    ∀ X : Cx, X.prog = P → X.w = w → X.K = K → X.mg = mg → X.base = base → X.A.guards = some [] → Room 4 X.A → ∀ q, LamX.GivesTo X Ng "_law_fault" sg g cdv bg a q (TTf K kt)
/-- what is known of _law_kinds, asked in an except suite -/
def KndOk (P : Program) (w : World) (K : PySem.W.Frag) (mg : Str → Option Value) (base : Heap) (kt : List (Str × List Ke)) : Prop :=
  mg "RoomsError" = some (.ref (He.ga K "RoomsError")) ∧ (∀ c ∈ kt.map (·.1), PySem.W.exmOne K (.ref (He.ga K c)) (.ref (He.ga K "RoomsError")) = some true) ∧
  ∀ Z : Cx, Z.prog = P → Z.w = w → Z.K = K → Z.mg = mg → Z.base = base → Z.N.Nodup → Z.A.guards = some [] → Room 2 Z.A → ∀ (ie jf : Nat), ie ≠ jf → Z.N[ie]? = some ("e" : Str) → Z.N[jf]? = some ("found" : Str) →
    Z.env.scope.names.lookup ("e" : Str) = some .local → Z.env.scope.names.lookup ("found" : Str) = some .local → (∀ x ∈ (["isinstance", "ValueError", "_law_kinds"] : List Str), Z.env.scope.names.lookup x = some .globalImplicit) →
    ∀ (a : Addr) (oe : Obj) (cls : Value) (d : Option Addr) (pn : List (Addr × Obj)) (p1 p2 p3 p4 p5 p6 p7 p8 p9 p10 : Pos), Zc cls d oe → (∃ vs, oe.data = .fields vs) →
      PSs (Z.suite a ((a, oe) :: pn)) [.If (.Call (.Name "isinstance" p1) [.Name "e" p2, .Name "ValueError" p3] [] p4) [.Assign [.Name "found" p5] (.Call (.Name "_law_kinds" p6) [.Name "e" p7] [] p8) p9] [] p10]
        (fun D σ H1 => ∃ x pa M0 l ds, cls = .ref (He.ga Z.K x.c) ∧ kt.lookup x.c = some l ∧ kesD x l = some ds ∧ ExR Z.K pa M0 x cls d H1 ∧ (∀ a, M0 a → H1 a ≠ none) ∧ (∃ σ' : L2.St, σ = σ'.set ie (some (.ref a))) ∧
          ∀ v H2, (∀ a o, H1 a = some o → H2 a = some o) → RD Z.K pa M0 H2 (.lst [.tup ds]) v → D.nx (σ.set jf (some v)) H2)
/-- what a text gives to all of its defs: its defs (arity, kind of answer), its classes, its exceptions' classes and their fields, its numbers, the built-in names that it does not bind, is gcd math.gcd, the defs that want guards, is _law_fault known and what it makes of an error -/
structure Tab where
  sig : List (Str × Nat × Nat)
  cls : List Str
  exc : List (Str × List Str)
  nums : List (Str × Int)
  bn : List Str
  gcd : Bool
  gd : List Str
  flt : Bool
  kt : List (Str × List Ke)
  knd : Bool
  mks : List (Str × Nat)
  lsg : List (Str × Nat × Nat)
structure TabOk (P : Program) (w : World) (K : PySem.W.Frag) (mg : Str → Option Value) (base : Heap) (t : Tab) : Prop where
  bn : ∀ x ∈ t.bn, mg x = none
  cls : ∀ x ∈ t.cls, mg x = some (.ref (He.ga K x)) ∧ clsB K x = true ∧ (x == ("__debug__" : Str)) = false
  exc : ∀ c ns, t.exc.lookup c = some ns → ns ≠ [] → ExOk P w K mg base c ns
  ex0 : ∀ c, t.exc.lookup c = some [] → mg c = some (.ref (He.ga K c)) ∧ (He.Fa.exc c).ok K = true ∧ (c == ("__debug__" : Str)) = false
  nums : ∀ x i, t.nums.lookup x = some i → (∃ u, mg x = some (.int i u)) ∧ (x == ("__debug__" : Str)) = false
  gcd : t.gcd = true → mg "gcd" = some (.builtin "math.gcd")
  flt : t.flt = true → FltOk P w K mg base t.kt
  sm : ∃ o, base.get? sysModules = some o
  knd : t.knd = true → KndOk P w K mg base t.kt
  tbl : ∀ x ∈ lamNames, ∀ c P, PySem.W.tabIn K x = some (c, P) → LamX.TabB base mg c P
/-- the context of a def that makes lambdas -/
def LamOk (X : Cx) (x : Str) : Prop := x ∈ lamNames ∧ X.env.qual = x ++ ".<locals>." ∧ ∃ c P, PySem.W.tabIn X.K x = some (c, P) ∧ X.env.code = .ref c
/-! ### repr -/
theorem isRef_py {h : Heap} {u : Value} {d : PyData} {as : List Addr} (r : Reads h u d as) (hd : isDisplay d = true) : ∃ a, u = .ref a := isRef_of_reads r hd
/-- a key -/
def keyP : Key → PyData
  | .inl i => .int i
  | .inr x => .str x
section
variable {X : Cx} {pa : Pa} {N : Addr → Prop}
mutual
theorem RD.reads {pins : List (Addr × Obj)} {σ : L2.St} {H : Hp} {s : Shared} (I : Inv X pins σ H s) : ∀ (d : D) (v : V) (u : Value) (x : PyData), pyd d = some x → RD X.K pa N H d v → RelV v u → ∃ as, Reads s.heap u x as ∧ ∀ a ∈ as, H a ≠ none
  | .non, v, u, x, e, h, r => by
    simp only [pyd, Option.some.injEq] at e; subst e
    simp only [RD] at h; subst h
    cases r
    exact ⟨[], .none, fun a z => nomatch z⟩
  | .bl b, v, u, x, e, h, r => by
    simp only [pyd, Option.some.injEq] at e; subst e
    simp only [RD] at h; subst h
    cases r
    exact ⟨[], .bool b, fun a z => nomatch z⟩
  | .int i, v, u, x, e, h, r => by
    simp only [pyd, Option.some.injEq] at e; subst e
    simp only [RD] at h; subst h
    obtain ⟨t, rfl⟩ := r
    exact ⟨[], .int i t, fun a z => nomatch z⟩
  | .str y, v, u, x, e, h, r => by
    simp only [pyd, Option.some.injEq] at e; subst e
    simp only [RD] at h; subst h
    obtain ⟨t, rfl⟩ := r
    exact ⟨[], .str y t, fun a z => nomatch z⟩
  | .tup l, v, u, x, e, h, r => by
    simp only [pyd] at e
    split at e
    · rename_i y hy
      cases e
      simp only [RD] at h
      obtain ⟨a, xs, rfl, _, ha, rd⟩ := h
      cases r
      obtain ⟨its, rv, ⟨o, ho, hc, n, hd⟩, _⟩ := I.tuple (.of ha)
      obtain ⟨as, q1, q2⟩ := RDs.reads I l xs its y hy rd rv
      exact ⟨as, .tuple ho hc hd q1, q2⟩
    · cases e
  | .lst l, v, u, x, e, h, r => by
    simp only [pyd] at e
    split at e
    · rename_i y hy
      cases e
      simp only [RD] at h
      obtain ⟨a, xs, rfl, _, ha, rd⟩ := h
      cases r
      obtain ⟨its, rv, ⟨o, n, ho, hc, _, hd⟩, _⟩ := I.list (.of ha)
      obtain ⟨as, q1, q2⟩ := RDs.reads I l xs its y hy rd rv
      refine ⟨a :: as, .list ho hc hd q1, fun b hb => ?_⟩
      rcases List.mem_cons.mp hb with rfl | hb
      · rw [ha]; exact fun z => nomatch z
      · exact q2 b hb
    · cases e
  | .dic ks vs, v, u, x, e, h, r => by
    simp only [pyd] at e
    split at e
    · rename_i p q hp hq
      cases e
      simp only [RD] at h
      obtain ⟨a, kvs, rfl, _, ha, rfl, rd⟩ := h
      cases r
      obtain ⟨_, _, ws, rk, dd⟩ := dk_of I.hok ha
      obtain ⟨bs, q1, q2⟩ := RDs.readsK I vs kvs ws p q hp hq rd rk
      refine ⟨a :: bs, PyProof.V.reads_dictOf (enc := keyP) (fun k key hk => ?_) dd q1, fun b hb => ?_⟩
      · rcases keyIs_shape hk with ⟨i, t, rfl, rfl⟩ | ⟨y, t, rfl, rfl⟩
        · exact .int i t
        · exact .str y t
      · rcases List.mem_cons.mp hb with rfl | hb
        · rw [ha]; exact fun z => nomatch z
        · exact q2 b hb
    · cases e
  | .obj _ _ _, v, u, x, e, h, r => by simp only [pyd] at e; cases e
  | .fn _, v, u, x, e, h, r => by simp only [pyd] at e; cases e
  | .cls _, v, u, x, e, h, r => by simp only [pyd] at e; cases e
  | .ty _, v, u, x, e, h, r => by simp only [pyd] at e; cases e
  | .pen, v, u, x, e, h, r => by simp only [pyd] at e; cases e
theorem RDs.reads {pins : List (Addr × Obj)} {σ : L2.St} {H : Hp} {s : Shared} (I : Inv X pins σ H s) : ∀ (l : List D) (xs : List V) (us : List Value) (y : List PyData), pyds l = some y → RDs X.K pa N H l xs → Vals xs us → ∃ as, ReadsAll s.heap us y as ∧ ∀ a ∈ as, H a ≠ none
  | [], xs, us, y, e, h, r => by
    simp only [pyds, Option.some.injEq] at e; subst e
    simp only [RDs] at h; subst h
    cases r
    exact ⟨[], .nil, fun a z => nomatch z⟩
  | d :: l, xs, us, y, e, h, r => by
    simp only [pyds] at e
    split at e
    · rename_i a b ha hb
      cases e
      simp only [RDs] at h
      obtain ⟨v, w, rfl, h1, h2⟩ := h
      cases r with
      | cons r1 r2 =>
        obtain ⟨as, q1, q2⟩ := RD.reads I d v _ a ha h1 r1
        obtain ⟨bs, q3, q4⟩ := RDs.reads I l w _ b hb h2 r2
        exact ⟨as ++ bs, .cons q1 q3, fun c hc => (List.mem_append.mp hc).elim (q2 c) (q4 c)⟩
    · cases e
theorem RDs.readsK {pins : List (Addr × Obj)} {σ : L2.St} {H : Hp} {s : Shared} (I : Inv X pins σ H s) : ∀ (l : List D) (kvs : List (Key × V)) (ws : List (Key × Value)) (p q : List PyData), pyds (kvs.map (fun kv => keyD kv.1)) = some p → pyds l = some q → RDs X.K pa N H l (kvs.map (·.2)) → KV kvs ws → ∃ bs, PyProof.V.PairsRead s.heap keyP ws (p.zip q) bs ∧ ∀ a ∈ bs, H a ≠ none
  | [], kvs, ws, p, q, hp, hq, h, r => by
    simp only [RDs, List.map_eq_nil_iff] at h; subst h
    cases r
    simp only [List.map_nil, pyds, Option.some.injEq] at hp; subst hp
    exact ⟨[], .nil, fun a z => nomatch z⟩
  | d :: l, kvs, ws, p, q, hp, hq, h, r => by
    simp only [RDs] at h
    obtain ⟨v, w, ev, h1, h2⟩ := h
    match kvs, ev, hp, r with
    | (k, v') :: kvs, ev, hp, r =>
      simp only [List.map_cons, List.cons.injEq] at ev
      obtain ⟨rfl, rfl⟩ := ev
      cases r with
      | @cons _ kw _ ws r1 r2 =>
        obtain ⟨k', u⟩ := kw
        obtain ⟨rfl, r1⟩ : k = k' ∧ RelV v' u := r1
        simp only [List.map_cons, pyds] at hp
        simp only [pyds] at hq
        split at hp
        · rename_i a b ha hb
          cases hp
          split at hq
          · rename_i a2 b2 ha2 hb2
            cases hq
            have ek : a = keyP k := by
              cases k with
              | inl i => simp only [keyD, pyd, Option.some.injEq] at ha; exact ha.symm
              | inr x => simp only [keyD, pyd, Option.some.injEq] at ha; exact ha.symm
            subst ek
            obtain ⟨as, q1, q2⟩ := RD.reads I d v' _ a2 ha2 h1 r1
            obtain ⟨bs, q3, q4⟩ := RDs.readsK I l kvs ws b b2 hb hb2 h2 r2
            exact ⟨as ++ bs, .cons q1 q3, fun c hc => (List.mem_append.mp hc).elim (q2 c) (q4 c)⟩
          · cases hq
        · cases hp
end
theorem run_repr {pins : List (Addr × Obj)} {σ : L2.St} {H : Hp} {s : Shared} {d : D} {v : V} {u : Value} {z : Str} {Q : VK} (hg : X.A.guards = some []) (hu : X.A.units + 65 < cLine) (hsm : ∃ o, X.base.get? sysModules = some o) (I : Inv X pins σ H s) (r : RelV v u) (rd : RD X.K pa N H d v) (e : repD d = some z) (q : Q (.str z) H) :
    wpAny (model X.prog X.w) X.A (call (.builtin "repr") [u]) (EP X pins σ Q) X.xe s := by
  unfold repD at e
  split at e
  · rename_i x hx
    split at e
    · rename_i hc
      obtain ⟨h1, h2, h3⟩ := hc
      cases e
      obtain ⟨as, rr, ra⟩ := RD.reads I _ _ _ _ hx rd r
      have nsm : sysModules ∉ as := fun z => by
        obtain ⟨o, ho⟩ := hsm
        exact ra _ z (I.bs _ _ ho).2
      have big : (∃ a, u = .ref a) → wpAny (model X.prog X.w) X.A (call (.builtin "repr") [u]) (EP X pins σ Q) X.xe s := fun hd => by
        obtain ⟨a, rfl⟩ := hd
        exact repr_of_reads' rr h1 (fun _ => nsm) hg (by omega) (fun _ _ e => e) (fun h' t tk hk => ⟨.str x.shown, H, I.kept (t' := tk) hk, ⟨t, rfl⟩, q⟩) h3
      cases x with
      | none =>
        cases rr
        exact P.repr_of_none ⟨.str "None", H, I.tok _, ⟨_, rfl⟩, q⟩
      | bool b =>
        cases rr
        cases b with
        | true => exact P.repr_of_bool ⟨.str "True", H, I.tok _, ⟨_, rfl⟩, q⟩
        | false => exact P.repr_of_bool ⟨.str "False", H, I.tok _, ⟨_, rfl⟩, q⟩
      | int i =>
        cases rr
        exact P.repr_of_int (of_decide_eq_true h1) ⟨.str (PyData.shown (.int i)), H, I.tok _, ⟨_, rfl⟩, q⟩
      | str t =>
        cases rr
        exact P.repr_of_str ⟨.str (PyData.shown (.str t)), H, I.tok _, ⟨_, rfl⟩, q⟩ h3
      | list l => exact big (isRef_py rr rfl)
      | tuple l => exact big (isRef_py rr rfl)
      | dict l => exact big (by cases rr; exact ⟨_, rfl⟩)
    · cases e
  · cases e
theorem call_reprD (hg : X.A.guards = some []) (hu : X.A.units + 65 < cLine) (hsm : ∃ o, X.base.get? sysModules = some o) : CallR X (.builtin "repr") (rDn X.K pa N (biD .repr)) := by
  intro pins s σ H xs us Q I r h
  obtain ⟨ds, z, hN, hd, hz, q⟩ := h
  unfold biD at hz
  split at hz <;> first | (simp at *; done) | skip
  · obtain ⟨t, ht, rfl⟩ := Option.map_eq_some_iff.mp hz
    simp only [RDs] at hd
    obtain ⟨v, _, rfl, h1, rfl⟩ := hd
    cases r with
    | cons r1 r2 =>
      cases r2
      exact run_repr hg hu hsm I r1 h1 ht (q _ _ (fun _ _ e => e) (by simp only [RD]))
end
/-! ### lambdas -/
section
variable {X : Cx} {pins : List (Addr × Obj)} {σ : L2.St} {H : Hp} {s : Shared}
/-- a lambda's object -/
abbrev lamO (X : Cx) (params : Arguments) (body : Expr) (scope : Scope) (pm ctv : Value) (c' : Addr) : Obj := PySem.W.kla_obj "<lambda>" (X.env.qual ++ "<lambda>") params body scope (cloFrom X.env.cells scope.names []) pm c' ctv
theorem new_nofr (I : Inv X pins σ H s) {f : Addr} (hf : s.heap.objs.size ≤ f) : f ∉ frs X.stack := fun z => by
  cases List.mem_cons.mp (I.stkSub _ z) with
  | inl e => exact absurd (e ▸ I.lt) (Nat.not_lt.mpr hf)
  | inr e => exact I.nofs hf e
theorem lam_mk {T : List (Addr × Str)} {c P : Addr} {params : Arguments} {body : Expr} {scope : Scope} {pos : Pos} {E Q : Value → Shared → Prop} (I : Inv X pins σ H s) (B : LamX.TabB X.base X.mg c P) (hc : X.env.code = .ref c)
    (mem : (P, X.env.qual ++ "<lambda>") ∈ T) (one : ∀ p ∈ T, p.1 = P → p.2 = X.env.qual ++ "<lambda>") (hT : LamX.Tabs T H) (hd : defaultsOf params X.env = ([], [])) (fr : ∀ y ∈ scope.names, y.2 = .free → ∃ c, X.env.cells.lookup y.1 = some c)
    (go : ∀ (f c' : Addr) (pm ctv : Value) (H1 : Hp) (s' : Shared), Inv X pins σ H1 s' → (∀ b o, b ≠ P → H b = some o → H1 b = some o) → LamX.Tabs T H1 → s'.heap.get? f = some (lamO X params body scope pm ctv c') → H1 f = none → f ∉ frs X.stack →
      H1 c' = some (LamX.CodeO c' (X.env.qual ++ "<lambda>")) → Q (.ref f) s') : wpAny (model X.prog X.w) X.A (eval (.Lambda params body scope pos) X.env) Q E s := by
  refine PySem.W.kla_eval hd ?_
  obtain ⟨ps, eP, tri, al⟩ := hT (P, X.env.qual ++ "<lambda>") mem
  have gP : s.heap.get? P = some { cls := .none, data := .fields ps } := I.hok P (.tbl ps) eP
  have clo := closure_ok fr
  have gl := I.mod.glob.keeps I.bk
  have cd := B.code.keeps I.bk
  have bm := B.bm.keeps I.bk
  cases look : codeAmong pos ps.toList with
  | some cv =>
    obtain ⟨c', rfl, known⟩ := al pos cv look
    refine PySem.W.kla_makeFunctionHit (mg := X.mg) (c := c) (P := P) (ps := ps) clo I.ok.glob gl hc cd gP tri look bm fun ctv h2 tk grow size => ?_
    exact go h2.objs.size c' _ ctv H _ (I.kept (t' := tk) fun b o e => Heap.get?_push_of_some _ (grow b o e)) (fun _ _ _ e => e) hT (Heap.get?_push_size _ rfl) (I.hok.fresh size) (new_nofr I size) known
  | none =>
    refine PySem.W.kla_makeFunction (mg := X.mg) (c := c) (P := P) (ps := ps) clo I.ok.glob gl hc cd gP tri look B.gP bm fun c' ctv h2 tk grow ge lt rec tab => ?_
    obtain ⟨c2, oc, vs, t, e2, r1, r2, r3⟩ := rec
    cases e2
    have le : s.heap.objs.size ≤ h2.objs.size := Nat.le_of_lt (Nat.lt_of_le_of_lt ge lt)
    have free : H c' = none := I.hok.fresh ge
    have J := LamX.inv_table (t' := tk) (more := #[rawInt pos.line, rawInt pos.col, .ref c']) (h' := h2.push (lamO X params body scope ((X.mg "__name__").getD .none) ctv c')) I eP
      (fun b o n e => Heap.get?_push_of_some _ (grow b o n e)) (Heap.get?_push_of_some _ tab) ge ⟨oc, vs, t, Heap.get?_push_of_some _ r1, r2, r3⟩
    have stay : ∀ b o, b ≠ P → H b = some o → upd (upd H P (.tbl (ps ++ #[rawInt pos.line, rawInt pos.col, .ref c']))) c' (LamX.CodeO c' (X.env.qual ++ "<lambda>")) b = some o := fun b o n e => by
      rw [upd_ne (ne_of_none e free), upd_ne n, e]
    have grown : (ps ++ #[rawInt pos.line, rawInt pos.col, .ref c']).toList = ps.toList ++ [rawInt pos.line, rawInt pos.col, .ref c'] := by simp
    have codes : ∀ {b q}, H b = some (LamX.CodeO b q) → upd (upd H P (.tbl (ps ++ #[rawInt pos.line, rawInt pos.col, .ref c']))) c' (LamX.CodeO c' (X.env.qual ++ "<lambda>")) b = some (LamX.CodeO b q) := fun {b q} e =>
      stay b _ (fun z => LamX.codeO_ne ps (Option.some.inj (e.symm.trans (by rw [z, eP])))) e
    refine go h2.objs.size c' _ ctv _ _ J stay (fun p hp => ?_) (Heap.get?_push_size _ rfl) ?_ (new_nofr I le) upd_same
    · by_cases same : p.1 = P
      · rw [one p hp same, same]
        refine ⟨_, by rw [upd_ne (ne_of_none eP free), upd_same], by rw [grown]; exact PySem.TriplesOk_snoc _ _ _ _ tri, fun at_ cv hcv => ?_⟩
        rw [grown] at hcv
        cases LamX.among_app _ tri hcv with
        | inl z =>
          obtain ⟨c0, e1, e2⟩ := al at_ cv z
          exact ⟨c0, e1, codes e2⟩
        | inr z => exact ⟨c', z, upd_same⟩
      · obtain ⟨qs, a1, a2, a3⟩ := hT p hp
        refine ⟨qs, stay _ _ same a1, a2, fun at_ cv hcv => ?_⟩
        obtain ⟨c0, e1, e2⟩ := a3 at_ cv hcv
        exact ⟨c0, e1, codes e2⟩
    · rw [upd_ne (Nat.ne_of_gt lt), upd_ne (Nat.ne_of_gt (Nat.lt_of_lt_of_le (Heap.lt_size gP) le))]
      exact I.hok.fresh le
end
def noPar : Arguments → Bool
  | ⟨[], [], none, [], [], none, []⟩ => true
  | _ => false
theorem noPar_eq {a : Arguments} (h : noPar a = true) : a = ⟨[], [], none, [], [], none, []⟩ := by
  unfold noPar at h
  split at h
  · rfl
  · cases h
section
variable {X : Cx} {W : WX} {k : Nat → Kd} {κ : Kd} {ra : Sl → P → R D}
/-- _law_fault(lambda: e) -/
theorem ev_fault {kt : List (Str × List Ke)} {j : Nat} {x : Str} {params : Arguments} {body : Expr} {scope : Scope} {p lpos pos : Pos} (F : FltOk X.prog X.w X.K X.mg X.base kt) (B : ∀ x ∈ lamNames, ∀ c P, PySem.W.tabIn X.K x = some (c, P) → LamX.TabB X.base X.mg c P)
    (hx : LamOk X x) (hgd : X.A.guards = some []) (hg : Gl X "_law_fault") (hr : Room (j + 2) X.A) (h2 : 2 ≤ j) (L : LamX.LamS X.env.scope scope) (hp : noPar params = true)
    (hbody : ∀ (A : Around) (outer : List Env) (s : Shared) (H : Hp) (E : XK) (f c' : Addr), Room j (A.deeper (LamX.lamEnv X scope s.heap.objs.size f c')) → PE (LamX.lamCx X A outer s H E scope f c') body (tev X.K (fun cls d _ H => E cls d H) k κ ra)) :
    PE X (.Call (.Name "_law_fault" p) [.Lambda params body scope lpos] [] pos) (tev X.K W k .sh fun s p => fltR kt (ra s p)) := by
  obtain ⟨g, a, pg, bg, sg, dV, kV, doc, pm, cdv, ct, oc, an, od, osl, Ng, hm, hk, lk, hcg, hb, Sg, hNg, hva, hd, hcd, hG⟩ := F
  obtain ⟨hxl, hq, c, P, ht, hcode⟩ := hx
  have TB := B x hxl c P ht
  have hpar := noPar_eq hp
  refine ⟨fun pins s σ H Q I h => ?_⟩
  obtain ⟨m, pa, hR, h⟩ := h
  have h : Post X.K pa W σ m H .sh (fltR kt (ra m.s m.p)) Q := h
  obtain ⟨mem, one⟩ := hR.tk x hxl c P ht
  have eq : lamQ x = X.env.qual ++ "<lambda>" := by rw [hq]; rfl
  rw [eq] at mem one
  refine wpAny_Call_Name_kw (ld_glob I hg hm ?_ (by decide))
  refine PySem.W.callWith_K (h₀ := X.base) I.ok.mod.kin hk ?_ (by rfl) (by rfl)
  show wpAny _ _ (spliced ((false, eval (.Lambda params body scope lpos) X.env) :: backTo pos (starEach [] X.env))) _ _ s
  refine Calls.spliced_cons (lam_mk (T := pa.T) I TB hcode mem one hR.pen.tb (by rw [hpar]; rfl) (L.has I.ok) fun f c' pm' ctv H1 s1 I1 stay T1 of nf nfr known => Calls.spliced_nil ⟨I1.kIn, ?_⟩)
  have hnd : pa.d ≠ P := fun z => by
    obtain ⟨ps, e, _⟩ := hR.pen.tb _ mem
    have e2 := hR.pen.d
    rw [z] at e2
    cases e2.symm.trans e
  have hnc : pa.c ≠ P := fun z => by
    obtain ⟨ps, e, _⟩ := hR.pen.tb _ mem
    have e2 := hR.pen.c
    rw [z] at e2
    cases e2.symm.trans e
  have hkeep : Keep pa H H1 := fun b o n e => stay b o (fun z => n.2 _ mem z) e
  have hpen : PenR pa m.M0 m.p H1 := ⟨hR.pen.m1, hR.pen.m2, hR.pen.ne, stay _ _ hnd hR.pen.d, stay _ _ hnc hR.pen.c, hR.pen.tm, T1⟩
  have hTT : TTf X.K kt (fun E H' Q' => tev X.K (fun cls d _ H => E cls d H) k κ ra σ H' Q') H1 Q := by
    refine ⟨m, pa, hR.keep hkeep hpen, ?_⟩
    show Post X.K pa _ σ m H1 κ (ra m.s m.p) _
    cases q : ra m.s m.p with
    | ok d p2 =>
      rw [q] at h
      intro v H2 k2 p2' r2
      exact h .non H2 (hkeep.trans k2) p2' (by show RD _ _ _ _ _ _; simp only [RD])
    | err x2 p2 =>
      rw [q] at h
      have h : Post X.K pa W σ m H .sh (fltR kt (.err x2 p2)) Q := h
      simp only [fltR] at h
      intro cls dd H2 k2 p2' r2
      cases e : faultD kt x2 with
      | none => rw [e] at h; exact h.elim
      | some d =>
        rw [e] at h
        refine ⟨pa, m.M0, x2, d, r2, ((hR.keep hkeep hpen).keep k2 p2').dom, e, fun v H3 gr rd => ?_⟩
        have hR2 := (hR.keep hkeep hpen).keep k2 p2'
        refine h v H3 ((hkeep.trans k2).trans fun b o _ e => gr b o e) ⟨p2'.m1, p2'.m2, p2'.ne, gr _ _ p2'.d, gr _ _ p2'.c, p2'.tm, p2'.tb.ext gr⟩ ?_
        have fl : flat d = true := by
          unfold faultD at e
          split at e
          · split at e
            · split at e
              · cases e; assumption
              · cases e
            · cases e
          · cases e
        refine RD.flat (fun b xs n e z => ?_) d v fl rd
        rcases z with z | ⟨i, z⟩
        · exact n z
        · obtain ⟨ys, y⟩ := hR2.fpl z
          have y3 := gr _ _ y
          rw [e] at y3
          cases y3
    | bad =>
      rw [q] at h
      exact h
  have rc : codeAny (model X.prog X.w) X.A (.call (.ref g) ⟨[.ref f], []⟩) (CR C8.CX0 X.stack X.prog X.w H1 s1 Q C8.E0) s1 := by
    refine LamX.run_ofS (N := Ng) (ps := [a]) (us := [.ref f]) (vs := [.ref f]) lk hcg Sg (hr.mono (by omega : j + 1 + 1 ≤ j + 2)) I1.env0 (hb s1 [.ref f] I1.kIn rfl) (.cons rfl .nil) rfl fun hr' => ?_
    obtain ⟨t', ht', hq'⟩ := hG X rfl rfl rfl rfl rfl hgd (hr.mono (by omega)) (X.env.qual ++ "<lambda>") f c' s1 H1 Q (fun E H' Q' => tev X.K (fun cls d _ H => E cls d H) k κ ra σ H' Q')
      (fun W pn xe E p1 p2 tk hW => LamX.pe_act (i := 0) I1 L of nf nfr (by rw [hpar]; rfl) tk hW hr' (fun A outer s H hr2 => hbody A outer s H E f c' hr2) hNg hva hd hcd) known hTT
    exact ⟨t', ht'.nox, hq'⟩
  refine wpAny_call (codeAny_mono rc ?_)
  rintro (e | fl) s2 hq2
  · exact (show False from hq2).elim
  · cases fl with
    | ret u => exact I1.after hq2
    | next => exact hq2.elim
    | brk => exact hq2.elim
    | cont => exact hq2.elim
end
end Mc

/-! Mc15d: objects, lists of lists, [x] * n, list(range(..)), ranges with a step. -/
namespace Mc
open PySem PySem.Spec PyProof.Rows L2
section
variable {X : Cx} {W : WX} {k k' kl k1 k2 : Nat → Kd} {κ κ' κa κb κc : Kd} {rk : Nat} {a b c e ix iy : Expr} {es : List Expr} {st : Stmt} {sts body : List Stmt} {ra rb rc re ri rj : Sl → P → R Mc.D} {rs : Sl → P → R (List Mc.D)} {bs : List Nat} {pos p q q2 apos : Pos} {i : Nat} {x : Str}
/-! ### a field -/
def noSup : Expr → Bool
  | .Call (.Name _ _) [] [] _ => false
  | _ => true
theorem noSup_ok {e : Expr} {f : Str} {env : Env} {w : Sem Value} (h : noSup e = true) : attributeBase e f env w = w := by
  unfold attributeBase
  split
  · cases h
  · rfl
theorem zip_look2 {K : PySem.W.Frag} {pa : Pa} {M : Addr → Prop} {H : Hp} {f : Str} {d : Mc.D} : ∀ {n : List Str} {l : List Mc.D} {xs : List V}, n.length = xs.length → RDs K pa M H l xs → (n.zip l).lookup f = some d → f ∈ n ∧ ∃ v, (n.zip xs).lookup f = some v ∧ RD K pa M H d v
  | [], l, xs, _, _, h => by simp at h
  | m :: n, [], xs, _, _, h => by simp at h
  | m :: n, e :: l, [], hl, _, _ => by simp at hl
  | m :: n, e :: l, x :: xs, hl, r, h => by
    simp only [RDs] at r
    obtain ⟨v, r', ex, h1, h2⟩ := r
    cases ex
    rw [List.zip_cons_cons, List.lookup_cons] at h
    rw [List.zip_cons_cons, List.lookup_cons]
    cases q : f == m with
    | true =>
      rw [q] at h
      cases h
      have e : f = m := by simpa using q
      exact ⟨by rw [e]; exact List.mem_cons_self, _, rfl, h1⟩
    | false =>
      rw [q] at h
      obtain ⟨a, w, b, c⟩ := zip_look2 (by simpa using hl) h2 h
      exact ⟨List.mem_cons_of_mem _ a, w, b, c⟩
theorem clsB_cls {K : PySem.W.Frag} {x : Str} (h : clsB K x = true) : Cls K (He.ga K x) := by
  unfold clsB at h
  simp only [Bool.and_eq_true] at h
  exact He.cls_ok h.2.1
theorem ev_att {f : Str} (ha : PE X a (tev X.K W k κa ra)) (hb : noSup a = true) : PE X (.Attribute a f pos) (tev X.K W k (shK κa) fun s p => (ra s p).bd fun x p => .of (attD x f) p) := by
  refine (pe_fld ha (noSup_ok hb)).weak fun σ H Q ⟨m, pa, hr, h⟩ => ?_
  refine tev_bd hr h fun d p v H1 e hk hr1 hv h1 => ?_
  obtain ⟨z, ez, h3⟩ := of_ok' h1
  have r1 := hv.up (κ := shK κa) (fun a => hr.Mdom) fun z => shK_bo z
  unfold attD at ez
  split at ez
  · simp only [RD] at r1
    obtain ⟨a1, dx, xs, rfl, _, ha1, hl, rr, hc, hn⟩ := r1
    obtain ⟨hf, w, ew, rw⟩ := zip_look2 hl rr ez
    have hna := List.all_eq_true.mp hn _ hf
    refine ⟨a1, _, dx, _, w, rfl, ha1, clsB_cls hc, (by simpa [naB] using hna : PySem.W.findIn X.K (.ref (He.ga X.K _)) f = some none), ew, ?_⟩
    exact h3.fin hr1 hr1.pen (shK_cases _) w H1 .refl (by rw [Kd.base_p]; exact rw)
  · cases ez
/-! ### [x] * n -/
theorem flatten1 {α : Type} (x : α) (n : Nat) : (List.replicate n [x]).flatten = List.replicate n x := by
  induction n with
  | zero => rfl
  | succ n ih => rw [List.replicate_succ, List.replicate_succ, List.flatten_cons, ih]; rfl
theorem RDs.rep {K : PySem.W.Frag} {pa : Pa} {M : Addr → Prop} {H : Hp} {d : Mc.D} {v : V} (h : RD K pa M H d v) : ∀ n, RDs K pa M H (List.replicate n d) (List.replicate n v)
  | 0 => RDs.nil
  | n + 1 => RDs.cons h (RDs.rep h n)
theorem ev_rep {p1 : Pos} (ha : PE X a (tev X.K W k κa ra)) (hκ : κa ≠ .bo) (hst : noStar a = true) (hb : PE X b (tev X.K W k κb rb)) :
    PE X (.BinOp (.List [a] p1) .Mult b pos) (tev X.K W k (.fr 1) fun s p => (ra s p).bd fun x p => (rb s p).bd fun y p => repR x p y) := by
  refine (pe_op op_rep (pe_lst (pa_cons ha pa_nil (star_cons hst))) hb).weak fun σ H Q ⟨m, pa, hr, h⟩ => ?_
  refine tev_bd hr h fun d p v H1 e hk hr1 hv h1 => ?_
  have rd1 : RD X.K pa m.M H1 d v := by
    have z := hv.base fun a => hr.Mdom
    rw [base_sh hκ] at z; exact z
  refine ⟨by rw [sizeLine_eq]; show 1 ≤ _; omega, fun q hq => ?_⟩
  have hr2 : Rel X.K pa k σ (upd H1 q (.lst [v])) { m with p := p } := hr1.keep (Keep.new hq) (hr1.pen.new hq)
  have h1' := Post.move (m := { m with p := p }) (p1 := p) (Keep.new (o := .lst [v]) hq) (hr1.pen.new hq) h1
  refine tev_bd hr2 h1' fun d2 p2 v2 H2 e2 hk2 hr3 hv2 h2 => ?_
  have r2 := hv2.bo fun a => hr2.Mdom
  cases d2 with
  | int n =>
    simp only [RD] at r2
    subst r2
    have h2 : Post X.K pa W σ { m with p := p2 } H2 (.fr 1) (if -(2 ^ 63) ≤ n ∧ n < 2 ^ 63 ∧ n.toNat ≤ sizeLine then .ok (.lst (List.replicate n.toNat d)) p2 else .bad) Q := h2
    split at h2
    · rename_i hn
      have nq : ¬ ¬ pa.No q := fun z => hr1.pen.at q z hq
      have hq2 : H2 q = some (.lst [v]) := hk2 q _ (Classical.not_not.mp nq) upd_same
      refine ⟨q, n, [v], rfl, rfl, hq2, hn.1, hn.2.1, by simpa using hn.2.2, fun t ht => ?_⟩
      rw [flatten1]
      have rd2 : RD X.K pa m.M H2 d v := RD.stay (fun b o nb eb => hk2 b o (Pa.no_of (fun b n => .inl (hr.pa0 b n)) nb) (by rw [upd_ne (ne_of_none eb hq)]; exact eb)) (fun _ n _ => n) d v rd1
      exact h2 _ _ (Grow.new ht).keep (hr3.pen.new ht) (VR.new_lst (p := p2) hr3 (RDs.rep rd2 _) ht)
    · exact h2.elim
  | _ => exact h2.elim
/-! ### list(range(..)) -/
theorem rgV_rd {K : PySem.W.Frag} {pa : Pa} {M : Addr → Prop} {H : Hp} (i j : Int) : RDs K pa M H (rangeD i j) (rgV i j) := by
  unfold rangeD rgV
  generalize (List.range (j - i).toNat) = l
  induction l with
  | nil => exact RDs.nil
  | cons n l ih => exact RDs.cons (by simp only [RD]) ih
theorem ev_lrng1 {x y : Str} {p1 : Pos} (hx : x = "list") (hy : y = "range") (hc : X.calm = true) (hg : Gl X x) (hm : X.mg x = none) (hg2 : Gl X y) (hm2 : X.mg y = none) (ha : PE X a (tev X.K W k κa ra)) (hst : noStar a = true) :
    PE X (.Call (.Name x p) [.Call (.Name y p1) [a] [] q] [] pos) (tev X.K W k (.fr 1) fun s p => (ra s p).bd fun d p => lrngR p [d]) := by
  subst hx hy
  refine (pe_listRg hc hg hm (prg_1 hg2 hm2 ha (star_cons hst)) (star_cons rfl)).weak fun σ H Q ⟨m, pa, hr, h⟩ => ?_
  refine tev_bd hr h fun d p v H1 e hk hr1 hv h1 => ?_
  have r1 := hv.bo fun a => hr.Mdom
  cases d with
  | int n =>
    simp only [RD] at r1
    subst r1
    have h1 : Post X.K pa W σ { m with p := p } H1 (.fr 1) (if -(2 ^ 62) ≤ n ∧ n < 2 ^ 62 ∧ n.toNat ≤ 2 ^ 24 then .ok (.lst (rangeD 0 n)) p else .bad) Q := h1
    split at h1
    · rename_i hn
      refine ⟨n, rfl, ⟨by decide, by decide, hn.1, hn.2.1, by simpa using hn.2.2⟩, fun t ht => ?_⟩
      exact h1 _ _ (Grow.new ht).keep (hr1.pen.new ht) (VR.new_lst (p := p) hr1 (rgV_rd 0 n) ht)
    · exact h1.elim
  | _ => exact h1.elim
theorem ev_trng1 {x y : Str} {p1 : Pos} (hx : x = "tuple") (hy : y = "range") (hc : X.calm = true) (hg : Gl X x) (hm : X.mg x = none) (hg2 : Gl X y) (hm2 : X.mg y = none) (ha : PE X a (tev X.K W k κa ra)) (hst : noStar a = true) :
    PE X (.Call (.Name x p) [.Call (.Name y p1) [a] [] q] [] pos) (tev X.K W k .sh fun s p => (ra s p).bd fun d p => trngR p d) := by
  subst hx hy
  refine (pe_tupRg hc hg hm (prg_1 hg2 hm2 ha (star_cons hst)) (star_cons rfl)).weak fun σ H Q ⟨m, pa, hr, h⟩ => ?_
  refine tev_bd hr h fun d p v H1 e hk hr1 hv h1 => ?_
  have r1 := hv.bo fun a => hr.Mdom
  cases d with
  | int n =>
    simp only [RD] at r1
    subst r1
    have h1 : Post X.K pa W σ { m with p := p } H1 .sh (if -(2 ^ 62) ≤ n ∧ n < 2 ^ 62 ∧ n.toNat ≤ 2 ^ 24 then .ok (.tup (rangeD 0 n)) p else .bad) Q := h1
    split at h1
    · rename_i hn
      refine ⟨n, rfl, ⟨by decide, by decide, hn.1, hn.2.1, by simpa using hn.2.2⟩, fun t ht => ?_⟩
      refine h1 _ _ (Grow.new ht).keep (hr1.pen.new ht) ?_
      show RD _ _ _ _ _ _
      simp only [RD]
      exact ⟨t, _, rfl, fun z => hr1.Mdom z ht, upd_same, rgV_rd 0 n⟩
    · exact h1.elim
  | _ => exact h1.elim
theorem ev_lrng2 {x y : Str} {p1 : Pos} (hx : x = "list") (hy : y = "range") (hc : X.calm = true) (hg : Gl X x) (hm : X.mg x = none) (hg2 : Gl X y) (hm2 : X.mg y = none) (ha : PE X a (tev X.K W k κa ra)) (hst : noStar a = true) (hb : PE X b (tev X.K W k κb rb)) (hst2 : noStar b = true) :
    PE X (.Call (.Name x p) [.Call (.Name y p1) [a, b] [] q] [] pos) (tev X.K W k (.fr 1) fun s p => (ra s p).bd fun d p => (rb s p).bd fun d2 p => lrngR p [d, d2]) := by
  subst hx hy
  refine (pe_listRg hc hg hm (prg_2 hg2 hm2 ha hb (by rw [star_cons hst]) (star_cons hst2) (star_any (es := [b]) (by simp [hst2]))) (star_cons rfl)).weak fun σ H Q ⟨m, pa, hr, h⟩ => ?_
  refine tev_bd hr h fun d p v H1 e hk hr1 hv h1 => ?_
  have r1 := hv.bo fun a => hr.Mdom
  refine tev_bd hr1 h1 fun d2 p2 v2 H2 e2 hk2 hr2 hv2 h2 => ?_
  have r2 := hv2.bo fun a => hr1.Mdom
  cases d with
  | int i =>
    cases d2 with
    | int j =>
      simp only [RD] at r1 r2
      subst r1 r2
      have h2 : Post X.K pa W σ { m with p := p2 } H2 (.fr 1) (if -(2 ^ 62) ≤ i ∧ i < 2 ^ 62 ∧ -(2 ^ 62) ≤ j ∧ j < 2 ^ 62 ∧ (j - i).toNat ≤ 2 ^ 24 then .ok (.lst (rangeD i j)) p2 else .bad) Q := h2
      split at h2
      · rename_i hn
        refine ⟨i, j, rfl, rfl, ⟨hn.1, hn.2.1, hn.2.2.1, hn.2.2.2.1, hn.2.2.2.2⟩, fun t ht => ?_⟩
        exact h2 _ _ (Grow.new ht).keep (hr2.pen.new ht) (VR.new_lst (p := p2) hr2 (rgV_rd i j) ht)
      · exact h2.elim
    | _ => exact h2.elim
  | _ => cases d2 <;> exact h2.elim
/-! ### a range with a step -/
theorem walk_rangeC {K : PySem.W.Frag} {pa : Pa} {M : Addr → Prop} {H : Hp} (i c : Int) (n : Nat) : Walk K pa M (Itc i c n) ((List.range n).map fun (k : Nat) => Mc.D.int (i + k * c)) H := by
  refine ⟨fun j d e => ?_, fun j hj => by
    rw [List.length_map, List.length_range] at hj
    exact hj⟩
  rw [List.getElem?_map] at e
  by_cases hj : j < n
  · rw [List.getElem?_range hj] at e
    cases e
    refine ⟨hj, fun y H' hy => ?_⟩
    obtain ⟨rfl, rfl⟩ := hy
    exact ⟨.refl, by simp only [RD]⟩
  · rw [List.getElem?_eq_none (by rw [List.length_range]; omega)] at e
    cases e
theorem rds3 {K : PySem.W.Frag} {pa : Pa} {M : Addr → Prop} {H : Hp} {a b c : Mc.D} {v : List V} (h : RDs K pa M H [a, b, c] v) : ∃ x y z, v = [x, y, z] ∧ RD K pa M H a x ∧ RD K pa M H b y ∧ RD K pa M H c z := by
  simp only [RDs] at h
  obtain ⟨x, r, rfl, h1, y, r2, rfl, h2, z, r3, rfl, h3, rfl⟩ := h
  exact ⟨x, y, z, rfl, h1, h2, h3⟩
theorem rangeSize_nonneg (i j c : Int) : 0 ≤ Builtin.Range.rangeSize i j c := by
  unfold Builtin.Range.rangeSize
  split
  · split
    · have := Int.ediv_nonneg (a := j - i - 1) (b := c) (by omega) (by omega)
      omega
    · omega
  · split
    · have := Int.ediv_nonneg (a := i - j - 1) (b := -c) (by omega) (by omega)
      omega
    · omega
theorem ei_rng3 {tg : Expr} {x : Str} (hx : x = "range") (hg : Gl X x) (hm : X.mg x = none) (hs : PA X [a, b, c] (tevs X.K W k κ rs)) (hst : noStar a = true) (hst2 : noStar b = true) (hst3 : noStar c = true) (hl : ∀ s p ds p', rs s p = .ok ds p' → ds.length = 3) : PI X tg (.Call (.Name x p) [a, b, c] [] pos) (tit X.K W k .sh fun s p => (rs s p).bd fun ds p => R.of (items .rg3 ds) p) := by
  subst hx
  refine (pi_range3 hg hm hs (by rw [star_cons hst, star_cons hst2, star_cons hst3]) (by rw [star_cons hst2, star_cons hst3]; rfl)).weak fun σ H RR ⟨m, pa, hr, h⟩ => ⟨m, pa, hr, ?_⟩
  dsimp only at h
  cases e : rs m.s m.p with
  | ok d p =>
    rw [e] at h
    have hlen := hl _ _ _ _ e
    intro v H1 hk hp hv
    have h : (match R.of (items .rg3 d) p with
      | .ok l p => ∀ J H', Keep pa H H' → PenR pa m.M0 p H' → (∀ H'' M', (∀ a o, ¬ m.M a → H' a = some o → H'' a = some o) → (∀ a, ¬ m.M a → H' a ≠ none → ¬ M' a) → (∀ a, M' a → H'' a ≠ none) → Walk X.K pa M' J l H'') → RR J H'
      | .err x p => ∀ cls dd H', Keep pa H H' → PenR pa m.M0 p H' → ExR X.K pa m.M0 x cls dd H' → W cls dd σ H'
      | .bad => False) := h
    cases q : items .rg3 d with
    | none => rw [q] at h; exact h.elim
    | some l =>
      rw [q] at h
      unfold items at q
      split at q <;> first | (simp at *; done) | skip
      · split at q
        · rename_i i j c _ hb
          cases q
          obtain ⟨v, w, z, rfl, h3, h4, h5⟩ := rds3 hv
          simp only [RD] at h3 h4 h5
          subst h3 h4 h5
          exact ⟨i, j, c, (Builtin.Range.rangeSize i j c).toNat, rfl, ⟨hb.1, hb.2.1, hb.2.2, (Int.toNat_of_nonneg (rangeSize_nonneg i j c)).symm⟩, h (Itc i c _) H1 hk hp fun H'' M' _ _ _ => walk_rangeC i c _⟩
        · cases q
  | err x p =>
    rw [e] at h
    exact h
  | bad =>
    rw [e] at h
    exact h
end
section
variable {K : PySem.W.Frag} {pa : Pa} {k k2 kl : Nat → Kd} {σ σ' : L2.St} {H Hc H1 : Hp} {m mm : Ms} {W : WX} {κ : Kd} {rk : Nat} {En : Ends} {p p1 : Pen} {M1 : Addr → Prop} {is rem : List Nat} {sR : Sl} {fpR : Nat → List Addr}
/-- new objects are held by somebody from now on -/
theorem Rel.holdF {f : List Addr} (h : Rel K pa k σ Hc mm) (hk : Keep pa Hc H1) (hp : PenR pa mm.M0 p1 H1) (hf : ∀ a ∈ f, Hc a = none ∧ H1 a ≠ none) : Rel K pa k σ H1 { mm with p := p1, M0 := fun a => mm.M0 a ∨ a ∈ f } := by
  have g := h.keep hk hp
  have nf : ∀ a, Hc a ≠ none → a ∉ f := fun a e z => e (hf a z).1
  have hm : ∀ a, ¬ mm.M a → Hc a ≠ none → ¬ Ms.M { mm with p := p1, M0 := fun a => mm.M0 a ∨ a ∈ f } a := fun a n e z => by
    rcases z with (z | z) | z
    · exact n (.inl z)
    · exact nf a e z
    · exact n (.inr z)
  refine ⟨fun a ha => ha.elim (g.dom a) fun z => (hf a z).2, ⟨.inl hp.m1, .inl hp.m2, hp.ne, hp.d, hp.c, fun q hq => .inl (hp.tm q hq), hp.tb⟩, fun i d e => ?_, h.no, h.disj, h.nd, fun i a ha z => ?_, h.len, h.kp.trans hk, h.fr0, h.tk⟩
  · obtain ⟨v, e1, r⟩ := h.sl i d e
    refine ⟨v, e1, ?_⟩
    cases q : k i with
    | bo =>
      rw [q] at r
      exact ⟨r.1, RD.stay (stay_of hk h.pa0) (fun a n e z => z.elim n (nf a e)) d v r.2⟩
    | sh =>
      rw [q] at r
      exact ⟨r.1, RD.stay (stay_of hk fun a n => .inl (h.pa0 a n)) hm d v r.2⟩
    | fr n =>
      rw [q] at r
      refine Own.stay (fun a o ha e => hk a o (Pa.no_of h.pa0 fun z => ?_) e) hm r
      rcases ha with ha | ha
      · exact ha (.inl z)
      · exact h.free i a ha z
  · rcases z with z | z
    · exact h.free i a ha z
    · obtain ⟨xs, e⟩ := h.fpl ha
      exact nf a (by rw [e]; exact fun w => nomatch w) z
end
/-! ### a list of new lists -/
section
variable {X : Cx} {W : WX} {ex : List Nat} {k k' : Nat → Kd} {κi : Kd} {n : Nat} {tg iter elt : Expr} {ifs : List Expr} {scope : Scope} {own : List (Str × Nat)} {vs : List Nat} {pos : Pos} {q : Pat} {ri : Sl → P → R (List Mc.D)} {rc : Sl → P → R Bool} {re : Sl → P → R Mc.D}
theorem lc_readO {K : PySem.W.Frag} {σ : L2.St} {H : Hp} {Q : VK} (hκi : κi = .bo ∨ κi = .sh) (hq : ∀ i ∈ patSl q, i ∈ vs) (hk : ∀ i, i ∉ vs → k' i = k i) (hv : ∀ i ∈ vs, k i = .sh ∨ k i = .bo)
    (h : tev K W k (.fr (n + 1)) (fun s p => (ri s p).bd fun xs p => lstR (filR (fun d p => withP q (wipeS s vs) d fun s' => rc s' p) (fun d p => withP q (wipeS s vs) d fun s' => re s' p) xs p)) σ H Q) :
    tLc (titX K W k ex κi ri) (tgt K k' κi q) (tevB K W0 k' rc) (tev K W0 k' (.fr n) re) vs σ H Q := by
  obtain ⟨m, pa, hr, h⟩ := h
  refine ⟨m, pa, hr, ?_⟩
  dsimp only at h
  cases ei : ri m.s m.p with
  | err x p => rw [ei] at h; exact h
  | bad => rw [ei] at h; exact h
  | ok xs p1 =>
    rw [ei] at h
    have h : Post K pa W σ m H (.fr (n + 1)) (lstR (filR (fun d p => withP q (wipeS m.s vs) d fun s' => rc s' p) (fun d p => withP q (wipeS m.s vs) d fun s' => re s' p) xs p1)) Q := h
    intro J H1 hk1 hp1 hw D hD
    rcases lstR_cases (filR (fun d p => withP q (wipeS m.s vs) d fun s' => rc s' p) (fun d p => withP q (wipeS m.s vs) d fun s' => re s' p) xs p1) with ⟨zs, pE, eT, hz, eL⟩ | eL
    · rw [eL] at h
      have hr1 : Rel K pa k σ H1 { m with p := p1 } := hr.keep hk1 hp1
      have hrw : Rel K pa k (wipe σ vs) H1 { m with p := p1, s := wipeS m.s vs } := hr1.wipe hv
      have hrh : Rel K pa k (wipe σ vs) (upd H1 D (.lst [])) { m with p := p1, s := wipeS m.s vs, M0 := fun b => m.M0 b ∨ b = D } := hrw.hold hD
      have nD : pa.No D := Classical.byContradiction fun z => hp1.at D z hD
      have nD1 : D ≠ pa.1 := nD.1
      have nD2 : D ≠ pa.2 := fun z => by
        have y := hp1.c
        rw [← z, hD] at y
        cases y
      have nD0 : m.H0 D = none := back_none hr1.kp hp1.at hD
      have nDH : H D = none := back_none hk1 hp1.at hD
      have noN : ∀ a, H1 a = none → pa.No a := fun a e => Classical.byContradiction fun z => hp1.at a z e
      refine ⟨fun i j Hc => i ≤ xs.length ∧ j = xs.length - i ∧ ∃ ys zs' p acc fps M1, zs = ys ++ zs' ∧ filR (fun d p => withP q (wipeS m.s vs) d fun s' => rc s' p) (fun d p => withP q (wipeS m.s vs) d fun s' => re s' p) (xs.drop i) p = .ok zs' pE ∧
        (∀ b, M1 b ↔ (m.M0 b ∨ b = D) ∨ b ∈ fps.flatten) ∧ Rel K pa k (wipe σ vs) Hc { m with p := p, s := wipeS m.s vs, M0 := M1 } ∧ Keep pa H1 Hc ∧ Hc D = some (.lst acc) ∧ All3 (Own K pa (Ms.M { m with M0 := M1 }) Hc n) ys acc fps ∧ fps.flatten.Nodup ∧ (∀ a ∈ fps.flatten, H1 a = none ∧ a ≠ D),
        ⟨xs.length, Nat.zero_le _, by simp, [], zs, p1, [], [], fun b => m.M0 b ∨ b = D, rfl, eT, fun b => by simp, hrh, .new hD, upd_same, .nil, by simp, fun a z => by simp at z⟩, ?_⟩
      rintro i j Hc ⟨hi, rfl, ys, zs', p, acc, fps, M1, ez, ef, hM1, hrc, kc, hacc, hys, hnd, hfr⟩
      have sub : ∀ (c : Kd) (p : Pen) (b : Addr), c.base { m with p := p, s := wipeS m.s vs, M0 := M1 } b → c.base m b ∨ H1 b = none := fun c p b z => by
        have one : M1 b → m.M0 b ∨ H1 b = none := fun z => by
          rcases (hM1 b).mp z with (z | z) | z
          · exact .inl z
          · exact .inr (by rw [z]; exact hD)
          · exact .inr (hfr b z).1
        cases c with
        | bo => exact one z
        | sh =>
          rcases z with z | z
          · exact (one z).imp .inl id
          · exact .inl (.inr z)
        | fr n =>
          rcases z with z | z
          · exact (one z).imp .inl id
          · exact .inl (.inr z)
      have hwc : Walk K pa (κi.base { m with p := p, s := wipeS m.s vs, M0 := M1 }) J xs Hc := hw Hc _ (fun a o na e => kc a o (Pa.no_of hr.itPa na) e) (fun a na e z => by
        rcases sub κi p a z with z | z
        · exact na z
        · exact e z) (hrc.baseDom κi)
      by_cases hlt : i < xs.length
      · refine .inr ?_
        have ex : xs[i]? = some xs[i] := List.getElem?_eq_getElem hlt
        obtain ⟨go, yld⟩ := hwc.1 i xs[i] ex
        refine ⟨go, fun Hn => i + 1 ≤ xs.length ∧ ∃ ys zs' p acc fps M1, zs = ys ++ zs' ∧ filR (fun d p => withP q (wipeS m.s vs) d fun s' => rc s' p) (fun d p => withP q (wipeS m.s vs) d fun s' => re s' p) (xs.drop (i + 1)) p = .ok zs' pE ∧
          (∀ b, M1 b ↔ (m.M0 b ∨ b = D) ∨ b ∈ fps.flatten) ∧ Rel K pa k (wipe σ vs) Hn { m with p := p, s := wipeS m.s vs, M0 := M1 } ∧ Keep pa H1 Hn ∧ Hn D = some (.lst acc) ∧ All3 (Own K pa (Ms.M { m with M0 := M1 }) Hn n) ys acc fps ∧ fps.flatten.Nodup ∧ (∀ a ∈ fps.flatten, H1 a = none ∧ a ≠ D),
          fun H' ⟨h1, h2⟩ => ⟨xs.length - (i + 1), by omega, h1, rfl, h2⟩, fun y H' hy => ?_⟩
        obtain ⟨g, ry⟩ := yld y H' hy
        rw [List.drop_eq_getElem_cons hlt] at ef
        obtain ⟨b, p2, ec, ef2⟩ := filR_ok ef
        clear ef
        obtain ⟨s', eb, ec⟩ := withP_ok ec
        have hr2 : Rel K pa k (wipe σ vs) H' { m with p := p, s := wipeS m.s vs, M0 := M1 } := hrc.keep (p' := p) g.keep (hrc.pen.grow g)
        have hr3 : Rel K pa k' (wipe σ vs) H' { m with p := p, s := wipeS m.s vs, M0 := M1 } := hr2.kinds fun j d e => by
          by_cases c : j ∈ vs
          · have e : (wipeS m.s vs)[j]? = some (some d) := e
            rw [wipeS_get, if_pos c] at e
            split at e <;> cases e
          · exact (hk j c).symm
        refine ⟨_, pa, xs[i], s', hr3, ry, eb, fun σ2 hr4 sb => ⟨by rw [wipe_same sb hq, wipe_wipe], _, pa, hr4, ?_⟩⟩
        show (match rc s' p with
          | .ok b p => ∀ H'', Keep pa H' H'' → PenR pa M1 p H'' → _
          | .err x p => _
          | .bad => False)
        rw [ec]
        intro H3 hk3 hp3
        have hr5 := hr4.keep hk3 hp3
        have hr6 : Rel K pa k (wipe σ vs) H3 { m with p := p2, s := wipeS m.s vs, M0 := M1 } := hr2.keep hk3 hp3
        have MD : M1 D := (hM1 D).mpr (.inl (.inr rfl))
        have npa : ∀ a, ¬ Ms.M { m with M0 := M1 } a → pa.No a := fun a na => Pa.no_of (fun b n => .inl (hrc.pa0 b n)) na
        rcases ef2 with ⟨rfl, yv, p3, ys', ee, ef, rfl⟩ | ⟨rfl, ef⟩
        · rw [if_pos rfl]
          refine ⟨_, pa, hr5, ?_⟩
          obtain ⟨s2, eb2, ee⟩ := withP_ok ee
          rw [eb] at eb2
          cases eb2
          show Post K pa W0 _ _ _ _ (re s' p2) _
          rw [ee]
          intro v4 H4 hk4 hp4 hv4
          obtain ⟨fp, ho, hfn, hfp⟩ := hv4
          have hat : ∀ a ∈ fp, ∃ xs, H4 a = some (.lst xs) := Own.at ho
          have accH3 : H3 D = some (.lst acc) := hk3 D _ nD (g _ _ hacc)
          have accH4 : H4 D = some (.lst acc) := hk4 D _ nD accH3
          have hr7 := hr6.holdF (f := fp) (p1 := p3) hk4 hp4 fun a ha => ⟨hfp a ha, fun z => by
            obtain ⟨xs, e⟩ := hat a ha
            rw [z] at e; cases e⟩
          have hlen : acc.length < sizeLine := by
            have e1 := hys.len
            have e2 : zs.length = ys.length + (yv :: ys').length := by rw [ez, List.length_append]
            rw [List.length_cons] at e2
            omega
          have ownAll : Own K pa (Ms.M { m with M0 := M1 }) Hc (n + 1) (.lst ys) (.ref D) (D :: fps.flatten) := ⟨ys, D, acc, fps, rfl, rfl, hacc, rfl, hys⟩
          have inF : ∀ a ∈ fps.flatten, ∃ xs, H3 a = some (.lst xs) := fun a ha => by
            obtain ⟨xs, e⟩ := Own.at ownAll a (List.mem_cons_of_mem _ ha)
            exact ⟨xs, hk3 a _ (noN a (hfr a ha).1) (g _ _ e)⟩
          have fnew : ∀ a ∈ fp, H1 a = none := fun a ha => back_none (kc.trans (Keep.trans g.keep hk3)) hp3.at (hfp a ha)
          have fD : ∀ a ∈ fp, a ≠ D := fun a ha z => by
            have := hfp a ha
            rw [z, accH3] at this; cases this
          have disj : ∀ a ∈ fps.flatten, a ∉ fp := fun a ha hb => by
            obtain ⟨xs, e⟩ := inF a ha
            rw [hfp a hb] at e; cases e
          refine ⟨acc, accH4, hlen, by omega, ys ++ [yv], ys', p3, acc ++ [v4], fps ++ [fp], fun a => M1 a ∨ a ∈ fp, by rw [ez, List.append_assoc]; rfl, ef, fun b => ?_, hr7.held (.inl MD) nD1 nD2 nD0 (tabs_upd hr7.pen.tb accH4 (fun _ z => nomatch z) (fun _ _ z => nomatch z)), fun a o na e => ?_, upd_same, ?_, ?_, ?_⟩
          · show (M1 b ∨ b ∈ fp) ↔ _
            rw [List.flatten_append, List.mem_append, List.flatten_singleton, hM1 b, or_assoc]
          · rw [upd_ne (ne_of_none e hD)]
            exact hk4 a o na (hk3 a o na (g _ _ (kc a o na e)))
          · refine All3.append (hys.imp fun d v fp' hf o => Own.stay (fun a u na e => ?_) (fun a na e z => ?_) o) (.cons (Own.stay (fun a u na e => ?_) (fun a na e z => ?_) ho) .nil)
            · have hno : pa.No a ∧ a ≠ D := by
                rcases na with na | na
                · exact ⟨npa a na, fun z => na (by rw [z]; exact .inl MD)⟩
                · have := hfr a (List.mem_flatten.mpr ⟨fp', hf, na⟩)
                  exact ⟨noN a this.1, this.2⟩
              rw [upd_ne hno.2]
              exact hk4 a u hno.1 (hk3 a u hno.1 (g _ _ e))
            · rcases z with (z | z) | z
              · exact na (.inl z)
              · cases q : Hc a with
                | none => exact e q
                | some u =>
                  have := hk3 a u (npa a na) (g _ _ q)
                  rw [hfp a z] at this; cases this
              · exact na (.inr z)
            · have hno : a ≠ D := by
                rcases na with na | na
                · exact fun z => na (by rw [z]; exact .inl (.inl MD))
                · exact fD a na
              rw [upd_ne hno]; exact e
            · rcases z with (z | z) | z
              · exact na (.inl (.inl z))
              · exact na (.inr z)
              · exact na (.inl (.inr z))
          · rw [List.flatten_append, List.flatten_singleton, List.nodup_append]
            exact ⟨hnd, hfn, fun a ha b hb e => disj a ha (by rw [e]; exact hb)⟩
          · intro a ha
            rw [List.flatten_append, List.mem_append, List.flatten_singleton] at ha
            rcases ha with ha | ha
            · exact hfr a ha
            · exact ⟨fnew a ha, fD a ha⟩
        · rw [if_neg Bool.false_ne_true]
          refine ⟨by omega, ys, zs', p2, acc, fps, M1, ez, ef, hM1, hr6, kc.trans (Keep.trans g.keep hk3), hk3 D _ nD (g _ _ hacc), hys.imp fun d v fp hf o => Own.stay (fun a o na e => hk3 a o ?_ (g _ _ e)) (fun _ n _ => n) o, hnd, hfr⟩
          rcases na with na | na
          · exact npa a na
          · exact noN a (hfr a (List.mem_flatten.mpr ⟨fp, hf, na⟩)).1
      · have e : i = xs.length := by omega
        subst e
        refine .inl ⟨hwc.2 _ (Nat.le_refl _), ?_⟩
        rw [List.drop_length] at ef
        unfold filR at ef
        cases ef
        rw [List.append_nil] at ez
        subst ez
        refine h (.ref D) Hc (hk1.trans kc) (hrc.pen.re hr.pen) ?_
        refine ⟨D :: fps.flatten, ⟨zs, D, acc, fps, rfl, rfl, hacc, rfl, hys.imp fun d v fp hf o => Own.stay (fun _ _ _ e => e) (fun a na e z => ?_) o⟩, List.nodup_cons.mpr ⟨fun z => (hfr D z).2 rfl, hnd⟩, fun a ha => ?_⟩
        · rcases z with (z | z) | z
          · exact na (.inl ((hM1 a).mpr (.inl (.inl z))))
          · exact na (.inr z)
          · rcases List.mem_cons.mp z with z | z
            · exact na (.inl ((hM1 a).mpr (.inl (.inr z))))
            · exact na (.inl ((hM1 a).mpr (.inr z)))
        · rcases List.mem_cons.mp ha with ha | ha
          · rw [ha]; exact nDH
          · exact back_none hk1 hp1.at (hfr a ha).1
    · rw [eL] at h
      exact h.elim
end
end Mc

/-! Mc15e: lists of lists written, pop. -/
namespace Mc
open PySem PySem.Spec PyProof.Rows L2
theorem All3.get {α β γ : Type} {F : α → β → γ → Prop} : ∀ {x : List α} {y : List β} {z : List γ} {j : Nat} {a : α}, All3 F x y z → x[j]? = some a → ∃ b c, y[j]? = some b ∧ z[j]? = some c ∧ F a b c
  | _, _, _, j, a, .nil, e => by simp at e
  | _, _, _, 0, a, .cons h t, e => by
    simp only [List.getElem?_cons_zero, Option.some.injEq] at e
    subst e
    exact ⟨_, _, rfl, rfl, h⟩
  | _, _, _, j + 1, a, .cons h t, e => by
    rw [List.getElem?_cons_succ] at e
    obtain ⟨b, c, e1, e2, f⟩ := All3.get t e
    exact ⟨b, c, by rw [List.getElem?_cons_succ]; exact e1, by rw [List.getElem?_cons_succ]; exact e2, f⟩
theorem All3.setB {α β : Type} {F G : α → β → List Addr → Prop} {b : Addr} {d' : α} (st : ∀ d x fp, F d x fp → b ∉ fp → G d x fp) : ∀ {l : List α} {xs : List β} {fps : List (List Addr)} {j : Nat} {x : β} {fp : List Addr}, All3 F l xs fps → fps.flatten.Nodup → xs[j]? = some x → fps[j]? = some fp → b ∈ fp → G d' x fp → All3 G (l.set j d') xs fps
  | _, _, _, j, x, fp, .nil, _, e, _, _, _ => by simp at e
  | _, _, _, 0, x, fp, .cons h t, hn, e1, e2, hb, g => by
    simp only [List.getElem?_cons_zero, Option.some.injEq] at e1 e2
    subst e1 e2
    rw [List.flatten_cons, List.nodup_append] at hn
    exact .cons g (t.imp fun d x fp hf f => st d x fp f fun z => hn.2.2 _ hb _ (List.mem_flatten.mpr ⟨fp, hf, z⟩) rfl)
  | _, _, _, j + 1, x, fp, .cons h t, hn, e1, e2, hb, g => by
    rw [List.getElem?_cons_succ] at e1 e2
    rw [List.flatten_cons, List.nodup_append] at hn
    have hm : fp ∈ _ := List.mem_of_getElem? e2
    exact .cons (st _ _ _ h fun z => hn.2.2 _ z _ (List.mem_flatten.mpr ⟨fp, hm, hb⟩) rfl) (All3.setB st t hn.2.1 e1 e2 hb g)
section
variable {K : PySem.W.Frag} {pa : Pa} {k k' kl k1 k2 : Nat → Kd} {σ σ' : L2.St} {H H' H1 H2 : Hp} {m : Ms} {W : WX} {κ κ1 κ2 : Kd} {ms ms1 ms2 : List Nat} {rk : Nat} {En : Ends}
/-- a list within a list of one's own is written -/
theorem Rel.updB {n i : Nat} {bs : List Nat} {b : Addr} {u : List V} {d' : Mc.D} {v : V} (h : Rel K pa k σ H m) (hki : k i = .fr n) (hv : σ[i]? = some (some v)) (hl : i < m.s.length) (hbf : b ∈ m.fp i) (hb : ∀ j, k j = .bo → j ∈ bs) (hb2 : ∀ j ∈ bs, ∀ n, k j ≠ .fr n) (o : Own K pa m.M (upd H b (.lst u)) n d' v (m.fp i)) :
    Rel K pa k σ (upd H b (.lst u)) { m with s := (wipeS m.s bs).set i (some d') } := by
  have aM : m.M b := .inr ⟨i, hbf⟩
  have a0 : ¬ m.M0 b := h.free i b hbf
  have st : ∀ c o, ¬ m.M c → H c = some o → upd H b (.lst u) c = some o := fun c o n e => by rw [upd_ne (fun z => n (by rw [z]; exact aM))]; exact e
  refine ⟨fun c hc => ?_, ⟨h.pen.m1, h.pen.m2, h.pen.ne, ?_, ?_, h.pen.tm, by
    obtain ⟨ys, ey⟩ := h.fpl hbf
    exact tabs_upd h.pen.tb ey (fun _ z => nomatch z) (fun _ _ z => nomatch z)⟩, fun j e he => ?_, fun j he => ?_, h.disj, h.nd, h.free, ?_, fun c o n e => ?_, h.fr0, h.tk⟩
  · rw [upd_ne (fun z => a0 (by rw [← z]; exact hc))]; exact h.dom c hc
  · rw [upd_ne (fun z => a0 (by rw [← z]; exact h.pen.m1))]; exact h.pen.d
  · rw [upd_ne (fun z => a0 (by rw [← z]; exact h.pen.m2))]; exact h.pen.c
  · have he : ((wipeS m.s bs).set i (some d'))[j]? = some (some e) := he
    by_cases q : i = j
    · subst q
      rw [List.getElem?_set] at he
      simp only [if_true] at he
      rw [if_pos (by rw [wipeS_len]; exact hl)] at he
      cases he
      refine ⟨_, hv, ?_⟩
      rw [hki]
      exact o
    · rw [List.getElem?_set_ne q, wipeS_get] at he
      by_cases c : j ∈ bs
      · rw [if_pos c] at he
        split at he <;> cases he
      · rw [if_neg c] at he
        obtain ⟨w, e1, r1⟩ := h.sl j e he
        refine ⟨w, e1, ?_⟩
        cases z : k j with
        | bo => exact absurd (hb j z) c
        | sh =>
          rw [z] at r1
          exact ⟨r1.1, RD.stay st (fun _ n _ => n) e w r1.2⟩
        | fr n =>
          rw [z] at r1
          refine Own.stay (fun c o hc e => ?_) (fun _ n _ => n) r1
          rcases hc with hc | hc
          · exact st c o hc e
          · rw [upd_ne (fun z => h.disj i j b q hbf (by rw [← z]; exact hc))]; exact e
  · by_cases c : j ∈ bs
    · exact h.fpNil (hb2 j c)
    · refine h.no j fun e z => ?_
      by_cases q : i = j
      · subst q
        refine he d' ?_
        show ((wipeS m.s bs).set i (some d'))[i]? = _
        rw [List.getElem?_set]; simp [wipeS_len, hl]
      · refine he e ?_
        show ((wipeS m.s bs).set i (some d'))[j]? = _
        rw [List.getElem?_set_ne q, wipeS_get, if_neg c]
        exact z
  · show σ.length = ((wipeS m.s bs).set i _).length
    rw [List.length_set, wipeS_len]; exact h.len
  · rw [upd_ne (ne_of_none e (h.fr0 i b hbf))]
    exact h.kp c o n e
end
section
variable {X : Cx} {W : WX} {k k' kl k1 k2 : Nat → Kd} {κ κ' κa κb κc : Kd} {rk : Nat} {a b c e ix iy : Expr} {es : List Expr} {st : Stmt} {sts body : List Stmt} {ra rb rc re ri rj : Sl → P → R Mc.D} {rs : Sl → P → R (List Mc.D)} {bs : List Nat} {pos p p1 q q2 apos : Pos} {i j : Nat} {x y : Str}
/-- the list of lists in the slot i -/
theorem Rel.getL2 {K : PySem.W.Frag} {pa : Pa} {σ : L2.St} {H : Hp} {m : Ms} (h : Rel K pa k σ H m) (hki : k i = .fr 2) {l : List Mc.D} (e : Mc.getL m.s i = some l) : ∃ a xs fps, m.s[i]? = some (some (.lst l)) ∧ σ[i]? = some (some (.ref a)) ∧ m.fp i = a :: fps.flatten ∧ H a = some (.lst xs) ∧ All3 (Own K pa m.M H 1) l xs fps := by
  unfold Mc.getL at e
  split at e
  · rename_i l' q
    cases e
    obtain ⟨v, e1, r⟩ := h.sl i _ q
    rw [hki] at r
    obtain ⟨l, a, xs, fps, hd, rfl, ha, hf, rr⟩ := (show Own K pa m.M H 2 _ v (m.fp i) from r)
    cases hd
    exact ⟨a, xs, fps, q, e1, hf, ha, rr⟩
  · cases e
theorem RDs.erase {K : PySem.W.Frag} {pa : Pa} {M : Addr → Prop} {H : Hp} : ∀ {l : List Mc.D} {xs : List V}, RDs K pa M H l xs → ∀ n, RDs K pa M H (l.eraseIdx n) (xs.eraseIdx n)
  | [], xs, h, n => by
    simp only [RDs] at h
    subst h
    simp [RDs]
  | d :: l, xs, h, n => by
    simp only [RDs] at h
    obtain ⟨v, r, rfl, h1, h2⟩ := h
    cases n with
    | zero => simpa using h2
    | succ n =>
      rw [List.eraseIdx_cons_succ, List.eraseIdx_cons_succ]
      exact RDs.cons h1 (RDs.erase h2 n)
theorem es_setII (hN : X.N[i]? = some x) (hv : Vis X.env.scope x) (hd : (x == ("__debug__" : Str)) = false) (hcd : (x == ("__classdict__" : Str)) = false) (hki : k i = .fr 2) (he : PE X e (tev X.K W k κ re)) (hκ : κ = .sh) (hx : PE X ix (tev X.K W k κa ri)) (hp : plainIx ix = true) (hy : PE X iy (tev X.K W k κb rj)) (hp2 : plainIx iy = true)
    (hb : ∀ j, k j = .bo → j ∈ bs) (hb2 : ∀ j ∈ bs, ∀ n, k j ≠ .fr n) :
    PS X (.Assign [.Subscript (.Subscript (.Name x q) ix p1) iy p] e pos) (tsS X.K W k k kl rk [i] fun s p => (re s p).bd fun d p => (R.of (getL s i) p).bd fun l p => (ri s p).bd fun j p => (R.of (subL l j) p).bd fun r p => (rj s p).bd fun k p => (R.of (putL r k d) p).bd fun r' p => (R.of (putL l j (.lst r')) p).bd fun l' p => .ok (.nx, (wipeS s bs).set i (some (.lst l'))) p) := by
  subst hκ
  refine (ps_asg he (pg_sub (pe_ix ix_list (pe_var hN hv hd hcd) hx (plainIx_ok hp)) hy set_list (assign_sub hp2)) sw_sub ss_sub (by rw [assignEach_cons rfl] <;> rfl)).weak fun En σ H ⟨m, pa, hr, h⟩ => ?_
  refine ts_bd hr h fun d p v H1 e hk hr1 hv h1 => ?_
  cases eg : getL m.s i with
  | none => rw [eg] at h1; exact h1.elim
  | some l0 =>
    rw [eg] at h1
    have h1 : PostS X.K pa W k kl rk [i] { m with p := p } H1 ((ri m.s p).bd fun j p => (R.of (subL l0 j) p).bd fun r p => (rj m.s p).bd fun k p => (R.of (putL r k d) p).bd fun r' p => (R.of (putL l0 j (.lst r')) p).bd fun l' p => .ok (.nx, (wipeS m.s bs).set i (some (.lst l'))) p) En := h1
    obtain ⟨a, xs0, fps0, hs, hv0, hf, ha0, rr0⟩ := hr1.getL2 hki (l := l0) eg
    refine ⟨.ref a, hv0, ?_⟩
    refine ts_bd hr1 h1 fun d2 p2 v2 H2 e2 hk2 hr2 hv2 h2 => ?_
    obtain ⟨a', xs, fps, hs', hv', hf', ha, rr⟩ := hr2.getL2 hki (l := l0) eg
    rw [hv0] at hv'; cases hv'
    have r2 := hv2.bo fun a => hr1.Mdom
    cases es : subL l0 d2 with
    | none => rw [es] at h2; exact h2.elim
    | some r =>
      rw [es] at h2
      have h2 : PostS X.K pa W k kl rk [i] { m with p := p2 } H2 ((rj m.s p2).bd fun k p => (R.of (putL r k d) p).bd fun r' p => (R.of (putL l0 d2 (.lst r')) p).bd fun l' p => .ok (.nx, (wipeS m.s bs).set i (some (.lst l'))) p) En := h2
      have key : ∃ n j, d2 = .int n ∧ ixN l0.length n = some j ∧ l0[j]? = some (.lst r) := by
        cases d2 with
        | int n =>
          have es : (match atI l0 n with
            | some (.lst r) => some r
            | _ => none) = some r := es
          split at es
          · rename_i r0 er
            cases es
            unfold atI at er
            obtain ⟨j, ej, er⟩ := Option.bind_eq_some_iff.mp er
            exact ⟨n, j, rfl, ej, er⟩
          · cases es
        | _ => cases es
      obtain ⟨n, j, rfl, ej, er⟩ := key
      simp only [RD] at r2
      subst r2
      obtain ⟨w, fp, ew, ef, ow⟩ := rr.get er
      obtain ⟨r0, b, ys0, hd0, rfl, hb0, hfp, rr2⟩ := own1 ow
      cases hd0
      refine ⟨a, xs, n, .ref b, rfl, rfl, .of ha, ?_, ?_⟩
      · unfold atI
        rw [show ixN xs.length n = some j by rw [← rr.len]; exact ej]
        exact ew
      refine ts_bd hr2 h2 fun d3 p3 v3 H3 e3 hk3 hr3 hv3 h3 => ?_
      obtain ⟨a'', xs', fps', hs'', hv'', hf'', ha'', rr'⟩ := hr3.getL2 hki (l := l0) eg
      rw [hv0] at hv''; cases hv''
      have haf : a ∈ m.fp i := by rw [show m.fp i = a :: fps'.flatten from hf'']; exact List.mem_cons_self
      have ea : H3 a = some (.lst xs) := hk3 a _ (Pa.no_of hr2.pa0 (hr2.free i a haf)) ha
      rw [ea] at ha''; cases ha''
      obtain ⟨w', fp', ew', ef', ow'⟩ := rr'.get er
      rw [ew] at ew'; cases ew'
      obtain ⟨r1, b', ys, hd1, hb', hbl, hfp', rr3⟩ := own1 ow'
      cases hd1; cases hb'
      have r3 := hv3.bo fun a => hr2.Mdom
      cases ep : putL r d3 d with
      | none => rw [ep] at h3; exact h3.elim
      | some r' =>
        rw [ep] at h3
        have h3 : PostS X.K pa W k kl rk [i] { m with p := p3 } H3 ((R.of (putL l0 (.int n) (.lst r')) p3).bd fun l' p => .ok (.nx, (wipeS m.s bs).set i (some (.lst l'))) p) En := h3
        cases ep2 : putL l0 (.int n) (.lst r') with
        | none => rw [ep2] at h3; exact h3.elim
        | some l' =>
          rw [ep2] at h3
          have h3 : ∀ σ' H' fp', Rel X.K pa k σ' H' { m with s := (wipeS m.s bs).set i (some (.lst l')), p := p3, fp := fp' } → Fm pa [i] m.fp H3 fp' H' → En.nx σ' H' := h3
          cases d3 with
          | int n3 =>
            have ep : (match ixN r.length n3 with
              | some j => some (r.set j d)
              | none => none) = some r' := ep
            have ep2 : (match ixN l0.length n with
              | some j => some (l0.set j (.lst r'))
              | none => none) = some l' := ep2
            rw [ej] at ep2
            cases ep2
            cases ej3 : ixN r.length n3 with
            | none => rw [ej3] at ep; cases ep
            | some j3 =>
              rw [ej3] at ep
              cases ep
              simp only [RD] at r3
              subst r3
              refine ⟨b, ys, n3, j3, rfl, rfl, hbl, by rw [← rr3.length]; exact ej3, ?_⟩
              have rd : RD X.K pa m.M H3 d v := RD.move (RD.move hv hk2 (fun a n => .inl (hr.pa0 a n))) hk3 (fun a n => .inl (hr.pa0 a n))
              have hbf : b ∈ m.fp i := by
                rw [show m.fp i = a :: fps'.flatten from hf'']
                exact List.mem_cons_of_mem _ (List.mem_flatten.mpr ⟨fp', List.mem_of_getElem? ef', by rw [hfp']; exact List.mem_cons_self⟩)
              have hnd := hr3.nd i
              rw [show ({ m with p := p3 } : Ms).fp i = a :: fps'.flatten from hf''] at hnd
              have hab : a ≠ b := fun z => (List.nodup_cons.mp hnd).1 (by rw [z]; exact List.mem_flatten.mpr ⟨fp', List.mem_of_getElem? ef', by rw [hfp']; exact List.mem_cons_self⟩)
              have stM : ∀ c o, ¬ m.M c → H3 c = some o → upd H3 b (.lst (ys.set j3 v)) c = some o := fun c o n e => by rw [upd_ne (fun z => n (by rw [z]; exact .inr ⟨i, hbf⟩))]; exact e
              have own2 : Own X.K pa m.M (upd H3 b (.lst (ys.set j3 v))) 2 (.lst (l0.set j (.lst (r.set j3 d)))) (.ref a) (m.fp i) := by
                refine ⟨_, a, xs, fps', rfl, rfl, by rw [upd_ne hab]; exact ea, hf'', All3.setB (b := b) (fun d x fp o nb => Own.stay (fun c o hc e => ?_) (fun _ n _ => n) o) rr' (List.nodup_cons.mp hnd).2 ew ef' (by rw [hfp']; exact List.mem_cons_self) ?_⟩
                · rcases hc with hc | hc
                  · exact stM c o hc e
                  · rw [upd_ne (fun z => nb (by rw [← z]; exact hc))]; exact e
                · rw [hfp']
                  exact own1_mk upd_same (RDs.stay stM (fun _ n _ => n) _ _ (RDs.set rd j3 rr3))
              exact h3 σ _ m.fp (hr3.updB hki hv0 (List.getElem?_eq_some_iff.mp hs'').1 hbf hb hb2 own2) ⟨fun c o _ n e => by rw [upd_ne (fun z => n i List.mem_cons_self (by rw [z]; exact hbf))]; exact e, fun _ _ => rfl, fun j hj a ha => .inl ⟨j, hj, ha⟩⟩
          | _ => cases ep
theorem es_popa {q2 ap2 p4 : Pos} (hij : i ≠ j) (hN : X.N[i]? = some x) (hv : Vis X.env.scope x) (hd : (x == ("__debug__" : Str)) = false) (hcd : (x == ("__classdict__" : Str)) = false) (hki : k i = .fr 1) (hN2 : X.N[j]? = some y) (hv2 : Vis X.env.scope y) (hd2 : (y == ("__debug__" : Str)) = false) (hcd2 : (y == ("__classdict__" : Str)) = false) (hkj : k j = .fr 1) (he : PE X e (tev X.K W k κ re)) (hst : noStar e = true)
    (hb : ∀ j, k j = .bo → j ∈ bs) (hb2 : ∀ j ∈ bs, ∀ n, k j ≠ .fr n) (hline : (apos.endLine == p.line) = true) (hline2 : (ap2.endLine == p4.line) = true) :
    PS X (.Expr (.Call (.Attribute (.Name x q) "append" apos) [.Call (.Attribute (.Name y q2) "pop" ap2) [e] [] p4] [] p) pos) (tsS X.K W k k kl rk [i, j] fun s p => (R.of (getL s i) p).bd fun l p => (R.of (getL s j) p).bd fun r p => (re s p).bd fun k p => (R.of (popL r k) p).bd fun q p => if l.length < sizeLine then .ok (.nx, (wipeS ((wipeS s bs).set j (some (.lst q.2))) bs).set i (some (.lst (l ++ [q.1])))) p else .bad) := by
  refine (ps_expr (pe_bm F.plainAttrs_list F.slot_list_append F.type_list_append mt_append (pe_var hN hv hd hcd) (pa_cons (pe_bm F.plainAttrs_list F.slot_list_pop F.type_list_pop mt_popAt (pe_var hN2 hv2 hd2 hcd2) (pa_cons he pa_nil (star_cons hst)) (noSup_ok rfl) (few1 hst) hline2 (star_cons hst) (star_any (es := []) rfl)) pa_nil (star_cons rfl)) (noSup_ok rfl) (few1 rfl) hline (star_cons rfl) (star_any (es := []) rfl)) rfl).weak fun En σ H ⟨m, pa, hr, h⟩ => ?_
  dsimp only at h
  cases eg : getL m.s i with
  | none => rw [eg] at h; exact h.elim
  | some l0 =>
    rw [eg] at h
    cases eg2 : getL m.s j with
    | none => rw [eg2] at h; exact h.elim
    | some r0 =>
      rw [eg2] at h
      have h : PostS X.K pa W k kl rk [i, j] m H ((re m.s m.p).bd fun k p => (R.of (popL r0 k) p).bd fun q p => if l0.length < sizeLine then .ok (.nx, (wipeS ((wipeS m.s bs).set j (some (.lst q.2))) bs).set i (some (.lst (l0 ++ [q.1])))) p else .bad) En := h
      obtain ⟨a, xs0, hs, hv0, hf, ha0, rr0⟩ := hr.getL hki eg
      obtain ⟨b, ys0, hs2, hw0, hf2, hb0, rs0⟩ := hr.getL hkj eg2
      refine ⟨.ref a, hv0, .inl ⟨rfl, xs0, .of ha0⟩, .ref b, hw0, .inl ⟨rfl, ys0, .of hb0⟩, ?_⟩
      refine ts_bd hr h fun d p v H1 e hk hr1 hv h1 => ?_
      obtain ⟨a', xs, hs', hv', hf', ha, rr⟩ := hr1.getL hki (l := l0) eg
      rw [hv0] at hv'; cases hv'
      obtain ⟨b', ys, hs2', hw', hf2', hbb, rs⟩ := hr1.getL hkj (l := r0) eg2
      rw [hw0] at hw'; cases hw'
      have rd := hv.bo fun a => hr.Mdom
      cases ep : popL r0 d with
      | none => rw [ep] at h1; exact h1.elim
      | some q =>
        rw [ep] at h1
        have h1 : PostS X.K pa W k kl rk [i, j] { m with p := p } H1 (if l0.length < sizeLine then .ok (.nx, (wipeS ((wipeS m.s bs).set j (some (.lst q.2))) bs).set i (some (.lst (l0 ++ [q.1])))) p else .bad) En := h1
        split at h1
        · rename_i hl
          unfold popL at ep
          split at ep
          · rename_i n
            split at ep
            · rename_i hn
              split at ep
              · rename_i kk hk2
                split at ep
                · rename_i dd hdd
                  cases ep
                  simp only [RD] at rd
                  subst rd
                  obtain ⟨w, ew, rw⟩ := rs.get hdd
                  have hab : b ≠ a := fun z => hr.disj i j a hij (by rw [show m.fp i = [a] from hf']; exact List.mem_cons_self) (by rw [show m.fp j = [b] from hf2', z]; exact List.mem_cons_self)
                  refine ⟨b, ys, n, kk, w, rfl, rfl, hbb, hn.1, hn.2, by rw [← rs.length]; exact hk2, ew, ?_⟩
                  have hr2 := hr1.upd1 hkj hs2' hw0 hf2' hb hb2 (l' := r0.eraseIdx kk) (xs' := ys.eraseIdx kk) (RDs.erase rs kk)
                  have ha2 : (upd H1 b (.lst (ys.eraseIdx kk))) a = some (.lst xs) := by rw [upd_ne (Ne.symm hab)]; exact ha
                  refine ⟨a, xs, w, rfl, rfl, ha2, by rw [← rr.length]; exact hl, ?_⟩
                  have bM : m.M b := .inr ⟨j, by rw [show m.fp j = [b] from hf2']; exact List.mem_cons_self⟩
                  have stM : ∀ c o, ¬ m.M c → H1 c = some o → upd H1 b (.lst (ys.eraseIdx kk)) c = some o := fun c o n e => by rw [upd_ne (fun z => n (by rw [z]; exact bM))]; exact e
                  have hib : i ∉ bs := fun z => hb2 i z 1 hki
                  have hsi : ((wipeS m.s bs).set j (some (.lst (r0.eraseIdx kk))))[i]? = some (some (.lst l0)) := by
                    rw [List.getElem?_set_ne (Ne.symm hij), wipeS_get, if_neg hib]; exact hs'
                  have hr3 := hr2.upd1 hki hsi hv0 hf' hb hb2 (l' := l0 ++ [dd]) (xs' := xs ++ [w]) ((RDs.stay stM (fun _ n _ => n) _ _ rr).append (RDs.one (RD.stay stM (fun _ n _ => n) _ _ rw)))
                  exact h1 σ _ m.fp hr3 ⟨fun c o _ n e => by
                    rw [upd_ne (fun z => n i List.mem_cons_self (by rw [z, show m.fp i = [a] from hf']; exact List.mem_cons_self)), upd_ne (fun z => n j (by simp) (by rw [z, show m.fp j = [b] from hf2']; exact List.mem_cons_self))]; exact e, fun _ _ => rfl, fun j hj a ha => .inl ⟨j, hj, ha⟩⟩
                · cases ep
              · cases ep
            · cases ep
          · cases ep
        · exact h1.elim
end
end Mc

/-! Mc15f: objects are made. -/
namespace Mc
open PySem PySem.Spec PyProof.Rows L2
section
variable (K : PySem.W.Frag) (pa : Pa)
/-- all but x stays -/
def KeepX (x : Addr) (H H' : Hp) : Prop := ∀ a o, pa.No a → a ≠ x → H a = some o → H' a = some o
/-- what is wanted of the machine's end, for an __init__ -/
def CtrR (c : Str) (ns : List Str) (M0 : Addr → Prop) (x dx : Addr) (H : Hp) (r : R Mc.D) (Q : VK) (E : XK) : Prop := match r with
  | .ok d p => ∃ l, d = .obj c ns l ∧ ∀ H' xs, KeepX pa x H H' → PenR pa M0 p H' → H' x = some (.ins (He.ga K c) dx (ns.zip xs)) → ns.length = xs.length → RDs K pa M0 H' l xs → Q .non H'
  | .err e p => ∀ cls dd H', KeepX pa x H H' → PenR pa M0 p H' → ExR K pa M0 e cls dd H' → E cls dd H'
  | .bad => False
end
/-- the promise of an __init__ whose machine is C -/
def spIni (K : PySem.W.Frag) (c : Str) (ns : List Str) (n : Nat) (C : List Mc.D → P → R Mc.D) : Sp := fun vs H Q E => ∃ x dx vals pa M0 p ds, vs = V.ref x :: vals ∧ vals.length = n ∧ H x = some (.ins (He.ga K c) dx []) ∧ TK K pa ∧ (∀ a, M0 a → H a ≠ none) ∧ PenR pa M0 p H ∧ M0 x ∧ pa.No x ∧ x ≠ pa.c ∧ RDs K pa M0 H ds vals ∧
  CtrR K pa c ns M0 x dx H (C ds p) Q E
/-- what is asked of a class to be called -/
def MkOk (P : Program) (w : World) (K : PySem.W.Frag) (mg : Str → Option Value) (base : Heap) (k : Nat) (c : Str) (n : Nat) (C : List Mc.D → Mc.P → R Mc.D) : Prop :=
  ∃ fI fd ps ns j, j + 1 ≤ k ∧ FnOk P w K mg base (L2.CX P w) j fI fd ps (spIni K c ns n C) ∧ Mk K (He.ga K c) fI ∧ mg c = some (.ref (He.ga K c)) ∧ Binds K fd ps [] ∧ clsB K c = true ∧ (ns.all fun f => naB K c f) = true ∧ (c == ("__debug__" : Str)) = false ∧ ∀ ds p d p', C ds p = .ok d p' → ∃ l, d = .obj c ns l
section
variable {X : Cx} {W : WX} {k k' kl k1 k2 : Nat → Kd} {κ κ' κa κb κc : Kd} {rk : Nat} {a b e ix iy : Expr} {es : List Expr} {rs : Sl → P → R (List Mc.D)} {pos p p1 q q2 apos : Pos}
/-- an object is made, what is raised is wished for at the slots -/
theorem made_at {c fI : Addr} {fd : FuncData} {j : Nat} {ps : List Str} {sp : Sp} {pins : List (Addr × Obj)} {σ : L2.St} {H : Hp} {s : Shared} {Q : VK} {us : List Value} {vs : List V} (M : Mk X.K c fI) (F : FnOk X.prog X.w X.K X.mg X.base (L2.CX X.prog X.w) j fI fd ps sp) (hr : Room (j + 1) X.A)
    (hb : Binds X.K fd ps []) (tk : Takes X W) (I : Inv X pins σ H s) (r : Vals vs us) (h : ∀ x dx, H x = none → H dx = none → dx ≠ x → sp (.ref x :: (vs ++ [])) (upd (upd H dx (.own x)) x (.ins c dx [])) (fun v H2 => v = .non ∧ Q (.ref x) H2) (WE W σ)) :
    wpAny (model X.prog X.w) X.A (call (.ref c) us) (EP X pins σ Q) X.xe s := by
  have q1 := h _ _ (I.hok.fresh (Nat.le_succ s.heap.objs.size)) (I.hok.fresh (Nat.le_refl s.heap.objs.size)) (Nat.ne_of_lt (Nat.lt_succ_self _))
  have J := Inv.made (C := c) I
  have n1 := F.len _ _ _ _ q1
  have n2 := r.length
  simp only [List.length_cons, List.append_nil] at n1
  have bd := hb _ (Value.ref (s.heap.objs.size + 1) :: us) J.kIn (by simp only [List.length_cons, List.append_nil]; omega)
  rw [List.append_nil] at bd q1
  refine wpAny_call (make_map (f := fI) I.kIn M.makes M.init (beq_iff_eq.mp M.fn) ?_)
  refine codeAny_mono (F.run _ X.stack _ _ _ _ _ _ _ (hr.make c us []) (J.env0.make c us []) bd (.cons (a := V.ref (s.heap.objs.size + 1)) rfl r) q1) ?_
  rintro (e | fl) s2 hq
  · exact passAt tk σ pins _ _ e s2 J hq
  · cases fl with
    | ret u =>
      obtain ⟨v, H2, I2, rv, rfl, q2⟩ := J.after hq
      exact ⟨rv, ⟨V.ref (s.heap.objs.size + 1), H2, I2, rfl, q2⟩⟩
    | next => exact hq.elim
    | brk => exact hq.elim
    | cont => exact hq.elim
def tMakeS (c : Addr) (sp : Sp) (E : L2.St → XK) (t : TA) : TE := fun σ H Q => t σ H fun vs H1 => ∀ x dx, H1 x = none → H1 dx = none → dx ≠ x → sp (.ref x :: (vs ++ [])) (upd (upd H1 dx (.own x)) x (.ins c dx [])) (fun v H2 => v = .non ∧ Q (.ref x) H2) (E σ)
theorem ev_mk {c : Str} {n j : Nat} {C : List Mc.D → P → R Mc.D} (m : MkOk X.prog X.w X.K X.mg X.base j c n C) (hr : Room j X.A) (hg : Gl X c) (tk : Takes X W) (hs : PA X (e :: es) (tevs X.K W k κ rs)) (hκ : κ = .bo ∨ κ = .sh) (hn : ∀ s p ds p', rs s p = .ok ds p' → ds.length = n)
    (hst : (e :: es).all noStar = true) : PE X (.Call (.Name c p) (e :: es) [] pos) (tev X.K W k κ fun s p => (rs s p).bd fun ds p => C ds p) := by
  obtain ⟨fI, fd, ps, ns, j1, hj, F, M, hm, hb, hcl, hna, hdb, hob⟩ := m
  rw [List.all_cons, Bool.and_eq_true] at hst
  have key : PE X (.Call (.Name c p) (e :: es) [] pos) (tMakeS (He.ga X.K c) (spIni X.K c ns n C) (WE W) (tevs X.K W k κ rs)) := ⟨fun pins s σ H Q I h => wpAny_Call_Name_kw (ld_glob I hg hm (PySem.W.callWith_K (h₀ := X.base) I.ok.mod.kin M.kp
    (thn (hs.run pos pins s σ H _ I h) fun us s1 ⟨vs, H1, I1, r, q⟩ => ⟨I1.kIn, made_at M F (hr.mono hj) hb tk I1 r q⟩) (star_cons hst.1) (star_any hst.2)) hdb)⟩
  refine key.weak fun σ H Q ⟨m, pa, hr, h⟩ => ?_
  refine tevs_bd (κ1 := κ) hr h fun d p v H1 e hk hr1 hv h1 => ?_
  intro x dx hx hdx hne
  have grow : ∀ a o, H1 a = some o → upd (upd H1 dx (.own x)) x (.ins (He.ga X.K c) dx []) a = some o := fun a o e => by
    rw [upd_ne (ne_of_none e hx), upd_ne (ne_of_none e hdx)]; exact e
  have hx2 : (upd H1 dx (.own x)) x = none := by rw [upd_ne (Ne.symm hne)]; exact hx
  have hp2 := (hr1.pen.new (o := .own x) hdx).new (o := .ins (He.ga X.K c) dx []) hx2
  have nb : ∀ a, H1 a = none → ¬ κ.base m a := fun a ha z => by
    have := hr1.baseDom κ a (by rw [Kd.base_p]; exact z)
    exact this ha
  have nox : pa.No x := Classical.byContradiction fun z => hr1.pen.at x z hx
  rw [List.append_nil]
  refine ⟨x, dx, v, pa, fun a => κ.base m a ∨ a = x ∨ a = dx, p, d, rfl, by rw [← hv.length]; exact hn _ _ _ _ e, upd_same, hr1.tk, fun a ha => ?_, ⟨.inl (M_base κ hp2.m1), .inl (M_base κ hp2.m2), hp2.ne, hp2.d, hp2.c, fun q hq => .inl (M_base κ (hp2.tm q hq)), hp2.tb⟩, .inr (.inl rfl), nox, fun z => ?_, RDs.stay (fun a o _ e => grow a o e) (fun a na e z => ?_) _ _ hv, ?_⟩
  · rcases ha with ha | ha | ha
    · cases q : H1 a with
      | none => exact absurd ha (nb a q)
      | some o => rw [grow a o q]; exact fun z => nomatch z
    · rw [ha, upd_same]; exact fun z => nomatch z
    · rw [ha, upd_ne hne, upd_same]; exact fun z => nomatch z
  · have := hr1.pen.c
    rw [← z, hx] at this; cases this
  · rcases z with z | z | z
    · exact na z
    · rw [z] at e; exact e hx
    · rw [z] at e; exact e hdx
  · have keep : ∀ H', KeepX pa x (upd (upd H1 dx (.own x)) x (.ins (He.ga X.K c) dx [])) H' → Keep pa H1 H' := fun H' hk' a o na e => hk' a o na (ne_of_none e hx) (grow a o e)
    cases q : C d p with
    | ok d2 p2 =>
      rw [q] at h1
      obtain ⟨l, rfl⟩ := hob _ _ _ _ q
      refine ⟨l, rfl, fun H' xs hk' hp' hx' hl' hr' => ⟨rfl, ?_⟩⟩
      have rd : RD X.K pa (κ.base m) H' (.obj c ns l) (.ref x) := by
        simp only [RD]
        exact ⟨x, dx, xs, rfl, nb x hx, hx', hl', RDs.stay (fun _ _ _ e => e) (fun a n _ z => n (.inl z)) _ _ hr', hcl, hna⟩
      refine h1 (.ref x) H' (keep H' hk') (hp'.re hr1.pen) ?_
      rcases hκ with rfl | rfl
      · exact rd
      · exact rd
    | err x2 p2 =>
      rw [q] at h1
      intro cls dd H' hk' hp' hx'
      refine h1 cls dd H' (keep H' hk') (hp'.re hr1.pen) ?_
      obtain ⟨z1, z2⟩ := hx'
      refine ⟨z1, ?_⟩
      rcases z2 with z2 | ⟨e, fs, xs, a1, a2, a3, a4, a5, a6⟩
      · exact .inl z2
      · exact .inr ⟨e, fs, xs, a1, a2, fun z => a3 (.inl (M_base κ z)), a4, RDs.stay (fun _ _ _ e => e) (fun a n _ z => n (.inl (M_base κ z))) _ _ a5, a6⟩
    | bad =>
      rw [q] at h1
      exact h1
end
end Mc

/-! Mc15g: a lambda handed to a def that hands it on to _law_fault. -/
namespace Mc
open PySem PySem.Spec PyProof.Rows L2
section
variable {X : Cx} {pins : List (Addr × Obj)} {σ : L2.St} {H H1 : Hp} {s : Shared}
theorem un_less {fs fs' : List Addr} {h h' : Heap} (u : Un fs' [] H H1 h h') (hs : ∀ b ∈ fs', b ∈ fs ∨ h.get? b = none) : Un fs [] H H1 h h' := by
  refine ⟨fun b o e n hb hx => u.keep b o e n (fun z => ?_) hx, fun b o e n hb hx => u.any e n hx, u.free, u.there, u.tups, u.frzs, u.tbls⟩
  rcases hs b z with z | z
  · exact hb z
  · rw [e] at z; cases z
/-- x(), in a def that got the lambda, by whatever road: the def is entered at s2 from the frames st1 -/
theorem pe_act2 {CXg : CXT} {Eg : XK} {Ng : List Str} {qg : Str} {sg : Scope} {g f c' : Addr} {cdg pm ctv : Value} {params : Arguments} {body : Expr} {scope : Scope} {k i : Nat} {a : Str} {pn : List (Addr × Obj)} {xe : Value → Shared → Prop} {W : WX} {E : XK} {tb : TE} {p1 p2 : Pos}
    {A1 : Around} {st1 : List Env} {s2 : Shared} {H2 : Hp}
    (I : Inv X pins σ H s) (L : LamX.LamS X.env.scope scope) (hf : s.heap.get? f = some (lamO X params body scope pm ctv c')) (hfn : H f = none) (hfr : f ∉ frs X.stack)
    (un2 : Un (frs X.stack) [] H H2 s.heap s2.heap) (hsub : ∀ b ∈ frs X.stack, b ∈ frs st1) (hsub2 : ∀ b ∈ frs st1, b ∈ frs X.stack ∨ s.heap.get? b = none)
    (hbind : bindArgs (PySem.W.kla_fn "<lambda>" (X.env.qual ++ "<lambda>") params body scope (cloFrom X.env.cells scope.names []) pm (.ref c') ctv) ⟨[], []⟩ = pure [])
    (tk : Takes ((cxOf CXg X.prog X.w X.K X.mg X.base Ng qg sg g cdg A1 st1 s2 H2 Eg).tr pn xe) W) (hW : ∀ cls d σ' H', E cls d H' → W cls d σ' H') (hr : Room (k + 1) (A1.deeper (envOfC qg sg s2.heap.objs.size g cdg)))
    (hbody : ∀ (A : Around) (outer : List Env) (s : Shared) (H : Hp), Room k (A.deeper (LamX.lamEnv X scope s.heap.objs.size f c')) → PE (LamX.lamCx X A outer s H E scope f c') body tb)
    (hN : Ng[i]? = some a) (hv : Vis sg a) (hd : (a == ("__debug__" : Str)) = false := by decide) (hcd : (a == ("__classdict__" : Str)) = false := by decide) :
    PE ((cxOf CXg X.prog X.w X.K X.mg X.base Ng qg sg g cdg A1 st1 s2 H2 Eg).tr pn xe) (.Call (.Name a p1) [] [] p2)
      (fun σZ HZ Q => σZ[i]? = some (some (.ref f)) ∧ HZ c' = some (LamX.CodeO c' (X.env.qual ++ "<lambda>")) ∧ tb σ HZ Q) := by
  refine ⟨fun pinsZ sZ σZ HZ Q IZ h => ?_⟩
  obtain ⟨hs, hc, ht⟩ := h
  refine wpAny_Call_Name_kw (thn ((pe_var (pos := p1) (i := i) hN hv hd hcd).run pinsZ sZ σZ HZ (fun v H1 => v = .ref f ∧ H1 = HZ) IZ ⟨.ref f, hs, rfl, rfl⟩) fun u s1 ⟨v, H1, I1, r1, q1⟩ => ?_)
  obtain ⟨ev, eH⟩ := q1
  subst ev
  rw [eH] at I1
  obtain rfl : u = Value.ref f := r1
  have hf2 : s2.heap.get? f = some (lamO X params body scope pm ctv c') := un2.keep f _ hf hfn hfr (fun z => nomatch z)
  have hfn2 : H2 f = none := un2.free f _ hf hfn (fun z => nomatch z)
  have hfr2 : f ∉ frs st1 := fun z => (hsub2 f z).elim hfr fun y => by rw [hf] at y; cases y
  have of1 : s1.heap.get? f = some (lamO X params body scope pm ctv c') := I1.base.keep f _ hf2 hfn2 hfr2 (fun z => nomatch (show f ∈ ([] : List Addr) from z))
  refine PySem.W.callWith_F0 ⟨_, _, _, _, of1⟩ ?_
  have un1 : Un (frs st1) [] H2 HZ s2.heap s1.heap := I1.base
  have un : Un (frs X.stack) [] H HZ s.heap s1.heap := un_less ((un2.mono hsub (fun _ z => z)).trans un1) hsub2
  obtain ⟨⟨oc, vs, t, hoc, hdc, hvc⟩, _, _⟩ := I1.hok c' _ hc
  have rc : codeAny (model X.prog X.w) (A1.deeper (envOfC qg sg s2.heap.objs.size g cdg)) (.call (.ref f) ⟨[], []⟩) (CR (L2.CX X.prog X.w) (envOfC qg sg s2.heap.objs.size g cdg :: st1) X.prog X.w HZ s1 Q E) s1 := by
    refine PySem.W.kla_callFunE hr.depth of1 rfl L.co L.gen rfl ⟨c', oc, vs, t, rfl, hoc, hdc, hvc⟩ ?_
    rw [hbind]
    refine wpAny_pure (wpAny_newFunctionEnv (fun y hy => (L.own y hy).2) (fun y hy => absurd hy (by simp)) (fun h₁ hns hsb => ⟨I1.nolimit.fresh _ hsb, ?_⟩) L.kind)
    show codeAny _ _ (.expr body (LamX.lamEnv X scope s1.heap.objs.size f c')) _ _
    have kp : ∀ b o, s1.heap.get? b = some o → h₁.get? b = some o := fun b o e => hsb.extBut b o (Nat.ne_of_lt (Heap.lt_size e)) (Heap.get?_push_of_some _ e)
    have J : Inv (LamX.lamCx X (A1.deeper (envOfC qg sg s2.heap.objs.size g cdg)) (envOfC qg sg s2.heap.objs.size g cdg :: st1) s1 HZ E scope f c') [] σ HZ { s1 with heap := h₁, toks := s1.toks + ([] : List (Str × Value)).length } :=
      LamX.lam_start2 I L I1.env0 hr.hd un hns kp
    refine PySem.W.kla_codeExpr (wpAny_mono ((hbody _ _ s1 HZ (hr.deeper _)).run [] _ _ HZ Q J ht) (fun v s' hq => ?_) fun e s' hq => hq)
    obtain ⟨w', H', J', rv, q⟩ := hq
    exact ⟨w', H', J'.os, J'.bare, J'.base, J'.hok, rv, q⟩
  have hx : Passes (L2.CX X.prog X.w) ((cxOf CXg X.prog X.w X.K X.mg X.base Ng qg sg g cdg A1 st1 s2 H2 Eg).tr pn xe) E := passes_call tk hW
  refine wpAny_call (codeAny_mono rc fun r s' hq => ?_)
  cases r with
  | error e => exact hx pinsZ σZ HZ s1 e s' I1 hq
  | ok fl =>
    cases fl with
    | ret u => exact I1.after hq
    | next => exact False.elim hq
    | brk => exact False.elim hq
    | cont => exact False.elim hq
end
/-- what is known of a def whose first parameter is a lambda that it hands on, at once, to _law_fault -/
def LcOk (P : Program) (w : World) (K : PySem.W.Frag) (mg : Str → Option Value) (base : Heap) (j : Nat) (kt : List (Str × List Ke)) (f : Str) (n rk : Nat) (C : List D → Mc.P → R D) : Prop :=
  mg f = some (.ref (He.ga K f)) ∧ PySem.W.keepIn K (.ref (He.ga K f)) = true ∧ (f == ("__debug__" : Str)) = false ∧ ∃ (fd : FuncData) (ps : List Str), Binds K fd ps [] ∧ ps.length = n ∧
  ∀ (X : Cx), X.prog = P → X.w = w → X.K = K → X.mg = mg → X.base = base → X.A.guards = some [] → Room j X.A →
  ∀ (pins : List (Addr × Obj)) (σ : L2.St) (H : Hp) (s : Shared), Inv X pins σ H s →
  ∀ (params : Arguments) (body : Expr) (scope : Scope) (fa c' : Addr) (pm ctv : Value), LamX.LamS X.env.scope scope → noPar params = true → s.heap.get? fa = some (lamO X params body scope pm ctv c') → H fa = none → fa ∉ frs X.stack → H c' = some (LamX.CodeO c' (X.env.qual ++ "<lambda>")) →
  ∀ (k : Nat → Kd) (κ : Kd) (ra : Sl → Mc.P → R D) (jb : Nat), 2 ≤ jb → jb + 3 ≤ j →
    (∀ (A : Around) (outer : List Env) (s : Shared) (H : Hp) (E : XK) (f c' : Addr), Room jb (A.deeper (LamX.lamEnv X scope s.heap.objs.size f c')) → PE (LamX.lamCx X A outer s H E scope f c') body (tev X.K (fun cls d _ H => E cls d H) k κ ra)) →
  ∀ (m : Ms) (pa : Pa), Rel K pa k σ H m → ∀ (κ2 : Kd) (us : List Value) (vs : List V) (ds : List D), Vals vs us → RDs K pa (κ2.base m) H ds vs → ds.length + 1 = n →
  ∀ (Q : VK) (E : XK), CallR' K pa (κ2.base m) H rk ((fltR kt (ra m.s m.p)).bd fun d p => C (d :: ds) p) Q E →
  ∀ args, BindsTo s fd args (ps.zip (.ref fa :: us)) → codeAny (model P w) X.A (.call (.ref (He.ga K f)) args) (CR (L2.CX P w) X.stack P w H s Q E) s
theorem CallR'.vr {X : Cx} {W : WX} {σ : L2.St} {m : Ms} {pa : Pa} {H : Hp} {κ : Kd} {rk : Nat} {r : R D} {Q : VK} {k : Nat → Kd} (hR : Rel X.K pa k σ H m) (hκ : κ = .bo ∨ κ = .sh) (h : Post X.K pa W σ m H (callK rk κ) r Q) : CallR' X.K pa (κ.base m) H rk r Q (WE W σ) := by
  cases r with
  | ok d2 p2 =>
    intro v2 H2 k2 pn2 r2
    exact h v2 H2 k2 (pn2.re hR.pen) (RetR.vr hκ hR.dom r2)
  | err x p2 =>
    intro cls dd H2 k2 pn2 r2
    exact h cls dd H2 k2 (pn2.re hR.pen) r2.weak
  | bad => exact h
theorem Un.frame_new {L : Addr} {h : Heap} (hl : h.objs.size ≤ L) : h.get? L = none := Heap.get?_none_of_le hl
section
variable {X : Cx} {W : WX} {k : Nat → Kd} {κ κb : Kd} {ra : Sl → P → R D} {rs : Sl → P → R (List D)} {es : List Expr}
/-- f(lambda: e, ..) -/
theorem ev_lamc {kt : List (Str × List Ke)} {j jb n rk : Nat} {x f : Str} {C : List D → Mc.P → R D} {params : Arguments} {body : Expr} {scope : Scope} {p lpos pos : Pos} (F : LcOk X.prog X.w X.K X.mg X.base j kt f n rk C) (B : ∀ x ∈ lamNames, ∀ c P, PySem.W.tabIn X.K x = some (c, P) → LamX.TabB X.base X.mg c P)
    (hx : LamOk X x) (hgd : X.A.guards = some []) (hg : Gl X f) (hr : Room j X.A) (hj2 : 2 ≤ jb) (hj : jb + 3 ≤ j) (L : LamX.LamS X.env.scope scope) (hp : noPar params = true)
    (hbody : ∀ (A : Around) (outer : List Env) (s : Shared) (H : Hp) (E : XK) (f c' : Addr), Room jb (A.deeper (LamX.lamEnv X scope s.heap.objs.size f c')) → PE (LamX.lamCx X A outer s H E scope f c') body (tev X.K (fun cls d _ H => E cls d H) k κb ra))
    (tk : Takes X W) (hs : PA X es (tevs X.K W k κ rs)) (hκ : κ = .bo ∨ κ = .sh) (hn : ∀ s p ds p', rs s p = .ok ds p' → ds.length + 1 = n) (hst : es.all noStar = true) :
    PE X (.Call (.Name f p) (.Lambda params body scope lpos :: es) [] pos) (tev X.K W k (callK rk κ) fun s p => (rs s p).bd fun ds p => (fltR kt (ra s p)).bd fun d p => C (d :: ds) p) := by
  obtain ⟨hm, hk, hdb, fd, ps, hb, hps, hG⟩ := F
  obtain ⟨hxl, hq, c, P, ht, hcode⟩ := hx
  have TB := B x hxl c P ht
  have hpar := noPar_eq hp
  refine ⟨fun pins s σ H Q I h => ?_⟩
  obtain ⟨m, pa, hR, h⟩ := h
  have h : Post X.K pa W σ m H (callK rk κ) ((rs m.s m.p).bd fun ds p => (fltR kt (ra m.s p)).bd fun d p => C (d :: ds) p) Q := h
  obtain ⟨mem, one⟩ := hR.tk x hxl c P ht
  have eq : lamQ x = X.env.qual ++ "<lambda>" := by rw [hq]; rfl
  rw [eq] at mem one
  refine wpAny_Call_Name_kw (ld_glob I hg hm ?_ hdb)
  refine PySem.W.callWith_K (h₀ := X.base) I.ok.mod.kin hk ?_ (star_cons (by rfl)) (star_any hst)
  show wpAny _ _ (spliced ((false, eval (.Lambda params body scope lpos) X.env) :: backTo pos (starEach es X.env))) _ _ s
  refine Calls.spliced_cons (lam_mk (T := pa.T) I TB hcode mem one hR.pen.tb (by rw [hpar]; rfl) (L.has I.ok) fun fa c' pm' ctv H1 s1 I1 stay T1 of nf nfr known => ?_)
  have hnd : pa.d ≠ P := fun z => by
    obtain ⟨ps, e, _⟩ := hR.pen.tb _ mem
    have e2 := hR.pen.d
    rw [z] at e2
    cases e2.symm.trans e
  have hnc : pa.c ≠ P := fun z => by
    obtain ⟨ps, e, _⟩ := hR.pen.tb _ mem
    have e2 := hR.pen.c
    rw [z] at e2
    cases e2.symm.trans e
  have hkeep : Keep pa H H1 := fun b o n e => stay b o (fun z => n.2 _ mem z) e
  have hpen : PenR pa m.M0 m.p H1 := ⟨hR.pen.m1, hR.pen.m2, hR.pen.ne, stay _ _ hnd hR.pen.d, stay _ _ hnc hR.pen.c, hR.pen.tm, T1⟩
  have hR1 := hR.keep hkeep hpen
  have nstk : fa ≠ X.env.locals ∧ fa ∉ X.fs := by
    refine ⟨fun z => ?_, fun z => ?_⟩
    · obtain ⟨mm, ⟨o', es, ep, ho', hd', _⟩, _⟩ := I1.loc
      rw [← z, of] at ho'
      cases ho'
      cases hd'
    · refine nfr ?_
      rcases I1.ok.stk with e | ⟨e, hf⟩
      · rw [e]; exact z
      · rw [e]; unfold frs; rw [List.filterMap_cons, hf]; exact List.mem_cons_of_mem _ z
  have I1p : Inv X ((fa, lamO X params body scope pm' ctv c') :: pins) σ H1 s1 := I1.pins_of fun q hq => by
    rcases List.mem_cons.mp hq with rfl | hq
    · exact ⟨of, nf, nstk.1, nstk.2, fun v z => by cases z⟩
    · exact I1.pin q (List.mem_append_right _ hq)
  refine thn (hs.run pos _ s1 σ H1 (fun vs H2 => ∃ d p, Keep pa H1 H2 ∧ Rel X.K pa k σ H2 { m with p := p } ∧ RDs X.K pa (κ.base m) H2 d vs ∧ d.length + 1 = n ∧ Post X.K pa W σ { m with p := p } H2 (callK rk κ) ((fltR kt (ra m.s p)).bd fun d' p => C (d' :: d) p) Q) I1p ?_) fun us s2 ⟨vs, H2, I2, r, d, p2, k2, hR2, hd, hl, h2⟩ => ?_
  · have hM := Post.move (p1 := m.p) hkeep hpen h
    refine tevs_bd (κ1 := κ) hR1 hM fun d p v H2 e hk2 hr2 hv h1 => ⟨d, p, hk2, hr2, ?_, hn _ _ _ _ e, h1⟩
    rw [Kd.base_p] at hv
    exact hv
  · have pin := I2.pin (fa, lamO X params body scope pm' ctv c') (List.mem_append_right _ List.mem_cons_self)
    have I2' : Inv X pins σ H2 s2 := I2.pins_of fun q hq => I2.pin q (List.mem_append_right _ (List.mem_cons_of_mem _ hq))
    have hno : pa.No c' := by
      refine ⟨fun z => ?_, fun q hq z => ?_⟩
      · rw [z, hpen.d] at known
        unfold LamX.CodeO at known
        cases known
      · obtain ⟨ps, e, _⟩ := T1 q hq
        rw [z, e] at known
        exact LamX.codeO_ne ps (Option.some.inj known).symm
    refine ⟨I2.kIn, ?_⟩
    have hlen : ((Value.ref fa :: us) ++ []).length = ps.length := by rw [List.append_nil, List.length_cons, ← r.length, ← hd.length, hps]; exact hl
    have hbd := hb s2 (.ref fa :: us) I2.kIn hlen
    rw [List.append_nil] at hbd
    refine wpAny_call (codeAny_mono (hG X rfl rfl rfl rfl rfl hgd hr pins σ H2 s2 I2' params body scope fa c' pm' ctv L hp pin.1 pin.2.1 nfr (k2 _ _ hno known) k κb ra jb hj2 hj hbody { m with p := p2 } pa hR2 κ us vs d r (by rw [Kd.base_p]; exact hd) hl Q (WE W σ) (CallR'.vr hR2 hκ h2) _ hbd) ?_)
    rintro (e | fl) s3 hq3
    · exact passAt tk σ pins H2 s2 e s3 I2' hq3
    · cases fl with
      | ret u => exact I2'.after hq3
      | next => exact hq3.elim
      | brk => exact hq3.elim
      | cont => exact hq3.elim
end
end Mc

/-! Mc16: is this code right for this expression? -/
namespace Mc
open PySem PySem.Spec PyProof.Rows L2
/-- what is known of a def's names: its slots, its scope, the text's -/
structure Cg where
  N : List Str
  sc : Scope
  fcs : Option Scope
  t : Tab
  g : Bool
  nm : Option Str
def Cg.vis (Γ : Cg) (x : Str) : Bool := match Γ.sc.names.lookup x with
  | some .local => true
  | some .cell => true
  | some .free => true
  | _ => false
def Cg.gl (Γ : Cg) (x : Str) : Bool := match Γ.sc.names.lookup x with
  | some .globalImplicit => true
  | _ => false
def Cg.bl (Γ : Cg) (x : Str) : Bool := Γ.gl x && decide (x ∈ Γ.t.bn)
def Cg.at_ (Γ : Cg) (i : Nat) (x : Str) : Bool := decide (Γ.N[i]? = some x) && Γ.vis x && !(x == ("__debug__" : Str)) && !(x == ("__classdict__" : Str))
def Cg.to_ (Γ : Cg) (i : Nat) (x : Str) : Bool := decide (Γ.N[i]? = some x) && match Γ.sc.names.lookup x with
  | some .local => true
  | some .cell => (match Γ.fcs with
    | none => true
    | some s => s.names.lookup x == some .cell)
  | _ => false
def relabS (sc s : Scope) : Scope := { s with names := s.names.map fun (n, k) => if (k == .free && sc.kind == .function && sc.names.lookup n == some .cell) then (n, .cell) else (n, k) }
def Cg.blk (Γ : Cg) (s : Scope) : Cg := { Γ with sc := relabS Γ.sc s, fcs := some s, nm := none }
def Cg.lam (Γ : Cg) (s : Scope) : Cg := { Γ with sc := s, fcs := some { s with names := [] }, g := false, nm := none }
def kf (k : List Kd) : Nat → Kd := fun i => k.getD i .sh
def setKs (k : List Kd) (vs : List Nat) (κ : Kd) : List Kd := (List.range k.length).map fun i => if i ∈ vs then κ else k.getD i .sh
/-- a dict display of few constants -/
def dicB : List D → List D → List (Option Expr) → List Expr → Bool
  | [], [], [], [] => true
  | [.str x], [.int i], [some (.Constant (.str y) _ _)], [.Constant (.int j) _ _] => decide (x = y) && decide (i = j)
  | _, _, _, _ => false
def okC (Γ : Cg) : D → Expr → Bool
  | .int i, .Constant (.int j) _ _ => decide (i = j)
  | .int i, .Name x _ => Γ.gl x && decide (Γ.t.nums.lookup x = some i)
  | .str i, .Constant (.str j) _ _ => decide (i = j)
  | .bl i, .Constant (.bool j) _ _ => decide (i = j)
  | .non, .Constant .none _ _ => true
  | .ty t, .Name x _ => Γ.bl x && decide (x = Str.ofString t.name) && decide (t ≠ .non)
  | .cls c, .Name x _ => Γ.gl x && decide (x = c) && decide (c ∈ Γ.t.cls)
  | .fn f, .Name x _ => Γ.gl x && decide (x = f) && (Γ.t.sig.lookup f).isSome && !(f == ("__debug__" : Str))
  | .dic ks vs, .Dict keys values _ => dicB ks vs keys values
  | _, _ => false
/-- does a walk over it need no more -/
def nsI : Expr → Bool
  | .Set _ _ _ => false
  | _ => true
mutual
def okP (Γ : Cg) (k : List Kd) (κ : Kd) : Pat → Expr → Bool
  | .nm i, e => (match e with
    | .Name x _ => Γ.to_ i x && decide (kf k i = κ)
    | _ => false)
  | .tp l, e => (match e with
    | .Tuple es _ _ => okPs Γ k κ l es && es.all noStar && decide (es.length = l.length)
    | _ => false)
def okPs (Γ : Cg) (k : List Kd) (κ : Kd) : List Pat → List Expr → Bool
  | [], es => es.isEmpty
  | q :: l, es => (match es with
    | e :: r => okP Γ k κ q e && okPs Γ k κ l r && noStar e
    | [] => false)
end
def isTp : Expr → Bool
  | .Tuple _ _ _ => true
  | _ => false
def jnK (a b : Kd) : Kd := if a = .bo then .bo else if b = .bo then .bo else .sh
/-- the names of the built-in functions, the kind of their answers -/
def biN : Bi → Str → Bool
  | .len, x => decide (x = "len")
  | .isi, x => decide (x = "isinstance")
  | .int, x => decide (x = "int")
  | .tuple, x => decide (x = "tuple")
  | .list, x => decide (x = "list")
  | .all, x => decide (x = "all")
  | .any, x => decide (x = "any")
  | .abs, x => decide (x = "abs")
  | .gcd, x => decide (x = "gcd")
  | .max, x => decide (x = "max")
  | .min, x => decide (x = "min")
  | .repr, x => decide (x = "repr")
  | .sorted, x => decide (x = "sorted")
  | _, _ => false
def Cg.bb (Γ : Cg) : Bi → Str → Bool
  | .gcd, x => Γ.gl x && Γ.t.gcd
  | .repr, x => Γ.bl x && Γ.g
  | _, x => Γ.bl x
def biK : Bi → Kd → Kd
  | .tuple, κ => κ
  | .list, .sh => .fr 1
  | .list, _ => .bo
  | .sorted, .sh => .fr 1
  | .sorted, _ => .bo
  | _, _ => .sh
def isVar1 (k : List Kd) : E → Option Nat
  | .var i => if kf k i = .fr 1 then some i else none
  | _ => none
def isOwnIt (k : List Kd) : Ik → List E → Option Nat
  | .val, [c] => isVar1 k c
  | _, _ => none
def itK (o : Option Nat) (κ : Option Kd) : Option Kd := match o with
  | some _ => κ.map fun _ => .sh
  | none => κ
def ownOf (Γ : Cg) (vs : List Nat) : List (Str × Nat) := vs.map fun i => (Γ.N.getD i "", i)
def isTru : E → Bool
  | .cst (.bl true) => true
  | _ => false
/-- what is known of the text's defs and classes -/
def Fns (P : Program) (w : World) (K : PySem.W.Frag) (mg : Str → Option Value) (base : Heap) (j : Nat) (t : Tab) (C : Str → List D → Mc.P → R D) : Prop :=
  (∀ f n rk, t.sig.lookup f = some (n, rk) → CalOk P w K mg base j (decide (f ∈ t.gd)) f n rk (C f)) ∧ (∀ c n, t.mks.lookup c = some n → MkOk P w K mg base j c n (C c)) ∧ ∀ f n rk, t.lsg.lookup f = some (n, rk) → LcOk P w K mg base (j + 3) t.kt f n rk (C f)
mutual
def okX : E → Cg → List Kd → Bool → Expr → Option Kd
  | .var i, Γ, k, _, e => (match e with
    | .Name x _ => if Γ.at_ i x = true then some (rdK (kf k i)) else none
    | _ => none)
  | .cst d, Γ, _, _, e => if okC Γ d e = true then some .sh else none
  | .tup l, Γ, k, _, e => (match e with
    | .Tuple es _ _ => if l.length ≤ 1000 then okEs l Γ k es else none
    | _ => none)
  | .lst l, Γ, k, _, e => (match e with
    | .List es _ => if l.length ≤ 1000 then (match okEs l Γ k es with
      | some .sh => some (.fr 1)
      | some _ => some .bo
      | none => none) else none
    | _ => none)
  | .bin o a b, Γ, k, _, e => (match e with
    | .BinOp x o' y _ => if o = o' then (match okX a Γ k false x, okX b Γ k false y with
      | some κ, some κ' => some (jn κ κ')
      | _, _ => none) else none
    | _ => none)
  | .neg a, Γ, k, _, e => (match e with
    | .UnaryOp .USub x _ => (okX a Γ k false x).map fun _ => .sh
    | _ => none)
  | .cmp o a b, Γ, k, _, e => (match e with
    | .Compare x [o'] [y] _ => if o = o' ∧ behindInMarks o' y = false then (match okX a Γ k false x, okX b Γ k false y with
      | some _, some _ => some .sh
      | _, _ => none) else none
    | _ => none)
  | .cmp2 o o2 a b c, Γ, k, _, e => (match e with
    | .Compare x [o', o2'] [y, z] _ => if o = o' ∧ o2 = o2' ∧ lastMarks [o', o2'] [y, z] = false then (match okX a Γ k false x, okX b Γ k false y, okX c Γ k false z with
      | some _, some _, some _ => some .sh
      | _, _, _ => none) else none
    | _ => none)
  | .cmp3 o o2 o3 a b c d, Γ, k, _, e => (match e with
    | .Compare x [o', o2', o3'] [y, z, u] _ => if o = o' ∧ o2 = o2' ∧ o3 = o3' ∧ lastMarks [o', o2', o3'] [y, z, u] = false then (match okX a Γ k false x, okX b Γ k false y, okX c Γ k false z, okX d Γ k false u with
      | some _, some _, some _, some _ => some .sh
      | _, _, _, _ => none) else none
    | _ => none)
  | .and a b, Γ, k, t, e => (match e with
    | .BoolOp .And (x :: y :: r) pos => (match okX a Γ k t x, okX b Γ k t (if r.isEmpty = true then y else .BoolOp .And (y :: r) pos) with
      | some _, some κ => some (shK κ)
      | _, _ => none)
    | _ => none)
  | .or a b, Γ, k, t, e => (match e with
    | .BoolOp .Or (x :: y :: r) pos => (match okX a Γ k t x, okX b Γ k t (if r.isEmpty = true then y else .BoolOp .Or (y :: r) pos) with
      | some _, some κ => some (shK κ)
      | _, _ => none)
    | _ => none)
  | .not a, Γ, k, t, e => (match e with
    | .UnaryOp .Not x _ => (okX a Γ k t x).map fun _ => .sh
    | _ => none)
  | .ite c a b, Γ, k, t, e => (match e with
    | .IfExp z x y _ => if t = true then none else (match okX c Γ k true z, okX a Γ k false x, okX b Γ k false y with
      | some _, some κ, some κ' => some (jn κ κ')
      | _, _, _ => none)
    | _ => none)
  | .idx a i, Γ, k, _, e => (match e with
    | .Subscript x y _ => if plainIx y = true then (match okX a Γ k false x, okX i Γ k false y with
      | some κ, some _ => some (if isVar1 k a = none then shK κ else .sh)
      | _, _ => none) else none
    | _ => none)
  | .slc a lo hi, Γ, k, _, e => (match e with
    | .Subscript x (.Slice lo' hi' none _) _ => (match okX a Γ k false x, okO lo Γ k lo', okO hi Γ k hi' with
      | some κ, true, true => some (shK κ)
      | _, _, _ => none)
    | _ => none)
  | .call f l, Γ, k, _, e => (match e with
    | .Call (.Name x _) (y :: ys) [] _ => if x = f ∧ Γ.gl x = true ∧ !(x == ("__debug__" : Str)) = true ∧ (decide (x ∈ Γ.t.gd) = true → Γ.g = true) then (match Γ.t.sig.lookup f, okEs l Γ k (y :: ys) with
      | some (n, rk), some κ => if l.length = n then some (callK rk κ) else none
      | _, _ => none) else none
    | _ => none)
  | .cval i fs l, Γ, k, _, e => (match e with
    | .Call (.Name x _) (y :: ys) [] _ => if Γ.at_ i x = true ∧ kf k i = .sh ∧ (fs.all fun f => decide (Γ.t.sig.lookup f = some (l.length, 0)) && (!decide (f ∈ Γ.t.gd) || Γ.g)) = true then (okEs l Γ k (y :: ys)).map (callK 0) else none
    | _ => none)
  | .bi b l, Γ, k, _, e => (match e with
    | .Call (.Name x _) (y :: ys) [] _ => if biN b x = true ∧ Γ.bb b x = true ∧ (b = .list ∨ b = .sorted → l.length = 1) then (match okEs l Γ k (y :: ys) with
      | some κ => (match l with
        | [c] => if isVar1 k c = none then some (biK b κ) else some (biK b .sh)
        | _ => some (biK b κ))
      | _ => none) else none
    | _ => none)
  | .flat a, Γ, k, t, e => if t = true then none else (okX a Γ k false e).map fun _ => .sh
  | .comp vs q ik l a, Γ, k, _, e => (match e with
    | .ListComp elt [⟨tg, it, [], 0⟩] scope _ => (match itK (isOwnIt k ik l) (okI ik l Γ k tg it) with
      | some κi => if nsI it = true ∧ blkC Γ.N Γ.sc scope (ownOf Γ vs) = true ∧ (ownOf Γ vs).map (·.2) = vs ∧ (patSl q).all (fun i => decide (i ∈ vs)) = true ∧ vs.all (fun i => decide (kf k i = .sh) || decide (kf k i = .bo)) = true ∧ vs.all (fun i => decide (i < k.length)) = true ∧ okP (Γ.blk scope) (setKs k vs κi) κi q tg = true then
        (okX a (Γ.blk scope) (setKs k vs κi) false elt).map compK else none
      | none => none)
    | _ => none)
  | .compC vs q ik l c a, Γ, k, _, e => (match e with
    | .ListComp elt [⟨tg, it, [cd], 0⟩] scope _ => (match itK (isOwnIt k ik l) (okI ik l Γ k tg it) with
      | some κi => if nsI it = true ∧ blkC Γ.N Γ.sc scope (ownOf Γ vs) = true ∧ (ownOf Γ vs).map (·.2) = vs ∧ (patSl q).all (fun i => decide (i ∈ vs)) = true ∧ vs.all (fun i => decide (kf k i = .sh) || decide (kf k i = .bo)) = true ∧ vs.all (fun i => decide (i < k.length)) = true ∧ okP (Γ.blk scope) (setKs k vs κi) κi q tg = true then
        (match okX c (Γ.blk scope) (setKs k vs κi) true cd, okX a (Γ.blk scope) (setKs k vs κi) false elt with
          | some _, some κ => some (compK κ)
          | _, _ => none) else none
      | none => none)
    | _ => none)
  | .comp2 vs vs2 q ik l q2 ik2 l2 c a, Γ, k, _, e => (match e with
    | .ListComp elt [⟨tg, it, [], 0⟩, ⟨tg2, it2, ifs, 0⟩] scope _ => (match itK (isOwnIt k ik l) (okI ik l Γ k tg it) with
      | some κi => if nsI it = true ∧ blkC Γ.N Γ.sc scope (ownOf Γ vs) = true ∧ (ownOf Γ vs).map (·.2) = vs ∧ (patSl q).all (fun i => decide (i ∈ vs)) = true ∧ vs.all (fun i => decide (kf k i = .sh) || decide (kf k i = .bo)) = true ∧ vs.all (fun i => decide (i < k.length)) = true ∧ okP (Γ.blk scope) (setKs k vs κi) κi q tg = true then
        (match itK (isOwnIt (setKs k vs κi) ik2 l2) (okI ik2 l2 (Γ.blk scope) (setKs k vs κi) tg2 it2) with
          | some κj => if nsI it2 = true ∧ vs2.all (fun i => decide (i ∈ vs)) = true ∧ (patSl q2).all (fun i => decide (i ∈ vs2)) = true ∧ okP (Γ.blk scope) (setKs (setKs k vs κi) vs2 κj) κj q2 tg2 = true ∧ (match ifs with
              | [] => isTru c
              | [cd] => (okX c (Γ.blk scope) (setKs (setKs k vs κi) vs2 κj) true cd).isSome
              | _ => false) = true then
            (okX a (Γ.blk scope) (setKs (setKs k vs κi) vs2 κj) false elt).map compK else none
          | none => none) else none
      | none => none)
    | _ => none)
  | .nest vs q ik l a, Γ, k, _, e => (match e with
    | .ListComp elt [⟨tg, it, [], 0⟩] scope _ => (match itK (isOwnIt k ik l) (okI ik l Γ k tg it) with
      | some κi => if nsI it = true ∧ blkC Γ.N Γ.sc scope (ownOf Γ vs) = true ∧ (ownOf Γ vs).map (·.2) = vs ∧ (patSl q).all (fun i => decide (i ∈ vs)) = true ∧ vs.all (fun i => decide (kf k i = .sh) || decide (kf k i = .bo)) = true ∧ vs.all (fun i => decide (i < k.length)) = true ∧ okP (Γ.blk scope) (setKs k vs κi) κi q tg = true then
        (match okX a (Γ.blk scope) (setKs k vs κi) false elt with
          | some (.fr n) => some (.fr (n + 1))
          | _ => none) else none
      | none => none)
    | _ => none)
  | .rep a n, Γ, k, _, e => (match e with
    | .BinOp (.List [x] _) .Mult y _ => if noStar x = true then (match okX a Γ k false x, okX n Γ k false y with
      | some κ, some _ => if κ = .bo then none else some (.fr 1)
      | _, _ => none) else none
    | _ => none)
  | .lr1 a, Γ, k, _, e => (match e with
    | .Call (.Name x _) [.Call (.Name y _) [u] [] _] [] _ => if x = "list" ∧ y = "range" ∧ Γ.bl x = true ∧ Γ.bl y = true ∧ noStar u = true then (okX a Γ k false u).map fun _ => .fr 1 else none
    | _ => none)
  | .tr1 a, Γ, k, _, e => (match e with
    | .Call (.Name x _) [.Call (.Name y _) [u] [] _] [] _ => if x = "tuple" ∧ y = "range" ∧ Γ.bl x = true ∧ Γ.bl y = true ∧ noStar u = true then (okX a Γ k false u).map fun _ => .sh else none
    | _ => none)
  | .rev a, Γ, k, _, e => (match e with
    | .Subscript x (.Slice none none (some (.UnaryOp .USub (.Constant (.int 1) _ _) _)) _) _ => (okX a Γ k false x).map shK
    | _ => none)
  | .lr2 a b, Γ, k, _, e => (match e with
    | .Call (.Name x _) [.Call (.Name y _) [u, v] [] _] [] _ => if x = "list" ∧ y = "range" ∧ Γ.bl x = true ∧ Γ.bl y = true ∧ noStar u = true ∧ noStar v = true then (match okX a Γ k false u, okX b Γ k false v with
      | some _, some _ => some (.fr 1)
      | _, _ => none) else none
    | _ => none)
  | .att a f, Γ, k, _, e => (match e with
    | .Attribute x g _ => if g = f ∧ noSup x = true then (okX a Γ k false x).map shK else none
    | _ => none)
  | .mk c l, Γ, k, _, e => (match e with
    | .Call (.Name x _) (y :: ys) [] _ => if x = c ∧ Γ.gl x = true then (match Γ.t.mks.lookup c, okEs l Γ k (y :: ys) with
      | some n, some κ => if l.length = n then some κ else none
      | _, _ => none) else none
    | _ => none)
  | .fault a, Γ, k, _, e => (match e with
    | .Call (.Name x _) [.Lambda params body scope _] [] _ => if x = "_law_fault" ∧ Γ.gl x = true ∧ Γ.t.flt = true ∧ Γ.g = true ∧ Γ.nm.isSome = true ∧ LamX.lamSB Γ.sc scope = true ∧ noPar params = true then (okX a (Γ.lam scope) k false body).map fun _ => .sh else none
    | _ => none)
  | .lamc f a l, Γ, k, _, e => (match e with
    | .Call (.Name x _) (.Lambda params body scope _ :: ys) [] _ => if x = f ∧ Γ.gl x = true ∧ Γ.t.flt = true ∧ Γ.g = true ∧ Γ.nm.isSome = true ∧ LamX.lamSB Γ.sc scope = true ∧ noPar params = true then (match Γ.t.lsg.lookup f, okEs l Γ k ys, okX a (Γ.lam scope) k false body with
      | some (n, rk), some κ, some _ => if l.length + 1 = n then some (callK rk κ) else none
      | _, _, _ => none) else none
    | _ => none)
  | .pf a f, Γ, k, _, e => (match e with
    | .Subscript x (.Constant (.str n) _ _) _ => if n = f.name then (okX a Γ k false x).map fun _ => .sh else none
    | _ => none)
  | .pl a, Γ, k, _, e => (match e with
    | .Call (.Name y _) [.Subscript x (.Constant (.str n) _ _) _] [] _ => if n = "cells" ∧ y = "len" ∧ Γ.bl y = true then (okX a Γ k false x).map fun _ => .sh else none
    | _ => none)
  | .pc a i, Γ, k, _, e => (match e with
    | .Subscript (.Subscript x (.Constant (.str n) _ _) _) y _ => if n = "cells" ∧ plainIx y = true then (match okX a Γ k false x, okX i Γ k false y with
      | some _, some _ => some .sh
      | _, _ => none) else none
    | _ => none)
def okEs : List E → Cg → List Kd → List Expr → Option Kd
  | [], _, _, es => if es.isEmpty = true then some .sh else none
  | c :: l, Γ, k, es => (match es with
    | e :: r => if noStar e = true then (match okX c Γ k false e, okEs l Γ k r with
      | some κ, some κ' => some (jn κ κ')
      | _, _ => none) else none
    | [] => none)
def okO : List E → Cg → List Kd → Option Expr → Bool
  | [], _, _, e => e.isNone
  | c :: l, Γ, k, e => (match e with
    | some e => l.isEmpty && (okX c Γ k false e).isSome
    | none => false)
def okI : Ik → List E → Cg → List Kd → Expr → Expr → Option Kd
  | _, [], _, _, _, _ => none
  | .val, c :: l, Γ, k, _, e => if l.isEmpty = true then (okX c Γ k false e).map shK else none
  | .rng, c :: l, Γ, k, _, e => (match e with
    | .Call (.Name x _) (y :: ys) [] _ => if x = "range" ∧ Γ.bl x = true ∧ noStar y = true ∧ l.length < 2 then (match okX c Γ k false y, okEs l Γ k ys with
      | some _, some _ => some .sh
      | _, _ => none) else none
    | _ => none)
  | .rg3, c :: l, Γ, k, _, e => (match e with
    | .Call (.Name x _) [y, z, v] [] _ => if x = "range" ∧ Γ.bl x = true ∧ noStar y = true ∧ l.length = 2 then (match okX c Γ k false y, okEs l Γ k [z, v] with
      | some _, some _ => some .sh
      | _, _ => none) else none
    | _ => none)
  | .zip, c :: l, Γ, k, tg, e => (match e with
    | .Call (.Name x _) [y, z] [] _ => if x = "zip" ∧ Γ.bl x = true ∧ noStar y = true ∧ isTp tg = true ∧ l.length = 1 then (match okX c Γ k false y, okEs l Γ k [z] with
      | some κ, some κ' => some (jn κ κ')
      | _, _ => none) else none
    | _ => none)
  | .enm, c :: l, Γ, k, tg, e => (match e with
    | .Call (.Name x _) [y] [] _ => if x = "enumerate" ∧ Γ.bl x = true ∧ noStar y = true ∧ isTp tg = true ∧ l.length = 0 then (okX c Γ k false y).map shK else none
    | _ => none)
end
end Mc

/-! Mc17: it is right. -/
namespace Mc
open PySem PySem.Spec PyProof.Rows L2
structure GoodE (Γ : Cg) (X : Cx) (W : WX) (C : Str → List D → P → R D) (F : R D → R D) : Prop where
  calm : X.calm = true
  nd : X.N.Nodup
  N : X.N = Γ.N
  sc : X.env.scope = Γ.sc
  fn : ∀ x, (match Γ.fcs with | none => true | some s => s.names.lookup x == some .cell) = true → X.fn x = true
  un : X.A.units + 65 < cLine
  tk : Takes X W
  tab : TabOk X.prog X.w X.K X.mg X.base Γ.t
  fns : ∃ j, 2 ≤ j ∧ Room j X.A ∧ (Γ.nm.isSome = true → Room (j + 3) X.A) ∧ Fns X.prog X.w X.K X.mg X.base j Γ.t C
  gd : Γ.g = true → X.A.guards = some []
  lam : ∀ x, Γ.nm = some x → LamOk X x
  flt : Γ.t.flt = true → F = fltR Γ.t.kt
section
variable {Γ : Cg} {X : Cx} {W : WX} {C : Str → List D → P → R D} {F : R D → R D} {k : Nat → Kd} {κ κa κb : Kd} {a b e : Expr} {es : List Expr} {ra rb : Sl → P → R D} {rs : Sl → P → R (List D)} {p pos : Pos}
theorem GoodE.vis (G : GoodE Γ X W C F) {x : Str} (h : Γ.vis x = true) : Vis X.env.scope x := by
  unfold Vis
  rw [G.sc]
  unfold Cg.vis at h
  split at h <;> first | exact absurd h Bool.false_ne_true | simp_all
theorem GoodE.at_ (G : GoodE Γ X W C F) {i : Nat} {x : Str} (h : Γ.at_ i x = true) : X.N[i]? = some x ∧ Vis X.env.scope x ∧ (x == ("__debug__" : Str)) = false ∧ (x == ("__classdict__" : Str)) = false := by
  unfold Cg.at_ at h
  simp only [Bool.and_eq_true, decide_eq_true_eq, Bool.not_eq_true'] at h
  exact ⟨by rw [G.N]; exact h.1.1.1, G.vis h.1.1.2, h.1.2, h.2⟩
theorem GoodE.gl (G : GoodE Γ X W C F) {x : Str} (h : Γ.gl x = true) : Gl X x := by
  unfold Gl Env.kindOf
  rw [G.sc]
  unfold Cg.gl at h
  split at h <;> first | exact absurd h Bool.false_ne_true | assumption
theorem GoodE.bl (G : GoodE Γ X W C F) {x : Str} (h : Γ.bl x = true) : Gl X x ∧ X.mg x = none := by
  unfold Cg.bl at h
  simp only [Bool.and_eq_true, decide_eq_true_eq] at h
  exact ⟨G.gl h.1, G.tab.bn x h.2⟩
theorem bi_atom {bi : Bi} {ds : List D} {z : D} (h : biD bi ds = some z) (h1 : bi ≠ .tuple) (h2 : bi ≠ .list) (h3 : bi ≠ .sorted) : atom z = true := by
  unfold biD at h
  split at h <;> first
    | exact absurd rfl h1
    | exact absurd rfl h2
    | exact absurd rfl h3
    | (cases h; rfl)
    | (cases h; done)
    | (obtain ⟨_, _, rfl⟩ := Option.map_eq_some_iff.mp h; rfl)
    | exact absurd rfl h1
    | exact absurd rfl h2
    | exact absurd rfl h3
theorem ev_bi {bi : Bi} {x : Str} (G : GoodE Γ X W C F) (hb : biN bi x = true) (hl : Γ.bb bi x = true) (ha : PA X (e :: es) (tevs X.K W k κ rs)) (hκ : κ = .bo ∨ κ = .sh) (hst : noStar e = true) (hst2 : es.all noStar = true) (h1 : bi = .list ∨ bi = .sorted → es = []) :
    PE X (.Call (.Name x p) (e :: es) [] pos) (tev X.K W k (biK bi κ) fun s p => (rs s p).bd fun ds p => .of (biD bi ds) p) := by
  have hg : Gl X x := by
    cases bi <;> first | exact (G.bl hl).1 | exact (G.bl (Bool.and_eq_true_iff.mp hl).1).1 | exact G.gl (Bool.and_eq_true_iff.mp hl).1
  have fin : ∀ {id : String} {bi : Bi}, X.mg x = none → (∀ N pa, CallR X (.builtin id) (rDn X.K pa N (biD bi))) → bootBuiltins x = some (.builtin id) → x ≠ "__name__" → (x == ("__debug__" : Str)) = false → (∀ ds z, biD bi ds = some z → atom z = true) → PE X (.Call (.Name x p) (e :: es) [] pos) (tev X.K W k .sh fun s p => (rs s p).bd fun ds p => .of (biD bi ds) p) := fun hm h1 h2 h3 h4 h5 =>
    ev_callG (x := x) (tc := fun _ _ _ => True) (fun pa N => pe_callB (h1 N pa) hg hm h2 ha h3 h4 (star_cons hst) (star_any hst2)) (.inr ⟨rfl, h5⟩)
  have finT : ∀ {id : String} {bi : Bi} {κr : Kd}, X.mg x = none → (∀ N pa, CallR X (.type id) (rDn X.K pa N (biD bi))) → bootBuiltins x = some (.type id) → x ≠ "__name__" → (x == ("__debug__" : Str)) = false → ((κr = κ ∧ (κ = .bo ∨ κ = .sh)) ∨ (κr = .sh ∧ ∀ ds z, biD bi ds = some z → atom z = true)) → PE X (.Call (.Name x p) (e :: es) [] pos) (tev X.K W k κr fun s p => (rs s p).bd fun ds p => .of (biD bi ds) p) := fun hm h1 h2 h3 h4 h5 =>
    ev_callG (x := x) (tc := fun _ _ _ => True) (fun pa N => pe_callTy (h1 N pa) hg hm h2 ha h3 h4 (star_cons hst) (star_any hst2)) h5
  cases bi with
  | len =>
    have hx : x = "len" := by simpa [biN] using hb
    subst hx
    refine fin (bi := .len) (G.bl hl).2 (fun N pa => call_lenD) (by decide +kernel) (by decide) (by decide) fun ds z h => bi_atom h (by decide) (by decide) (by decide)
  | isi =>
    have hx : x = "isinstance" := by simpa [biN] using hb
    subst hx
    refine fin (bi := .isi) (G.bl hl).2 (fun N pa => call_isiD) (by decide +kernel) (by decide) (by decide) fun ds z h => bi_atom h (by decide) (by decide) (by decide)
  | int =>
    have hx : x = "int" := by simpa [biN] using hb
    subst hx
    refine finT (bi := .int) (κr := .sh) (G.bl hl).2 (fun N pa => call_intD) (by decide +kernel) (by decide) (by decide) (.inr ⟨rfl, fun ds z h => bi_atom h (by decide) (by decide) (by decide)⟩)
  | tuple =>
    have hx : x = "tuple" := by simpa [biN] using hb
    subst hx
    exact finT (bi := .tuple) (κr := κ) (G.bl hl).2 (fun N pa => call_tupleD) (by decide +kernel) (by decide) (by decide) (.inl ⟨rfl, hκ⟩)
  | list =>
    have hx : x = "list" := by simpa [biN] using hb
    subst hx
    obtain rfl := h1 (.inl rfl)
    rcases hκ with rfl | rfl
    · exact finT (bi := .list) (κr := .bo) (G.bl hl).2 (fun N pa => call_listD') (by decide +kernel) (by decide) (by decide) (.inl ⟨rfl, .inl rfl⟩)
    · exact ev_list rfl hg (G.bl hl).2 ha hst
  | all =>
    have hx : x = "all" := by simpa [biN] using hb
    subst hx
    refine fin (bi := .all) (G.bl hl).2 (fun N pa => call_allD G.calm) (by decide +kernel) (by decide) (by decide) fun ds z h => bi_atom h (by decide) (by decide) (by decide)
  | any =>
    have hx : x = "any" := by simpa [biN] using hb
    subst hx
    refine fin (bi := .any) (G.bl hl).2 (fun N pa => call_anyD G.calm) (by decide +kernel) (by decide) (by decide) fun ds z h => bi_atom h (by decide) (by decide) (by decide)
  | abs =>
    have hx : x = "abs" := by simpa [biN] using hb
    subst hx
    refine fin (bi := .abs) (G.bl hl).2 (fun N pa => call_absD) (by decide +kernel) (by decide) (by decide) fun ds z h => bi_atom h (by decide) (by decide) (by decide)
  | max =>
    have hx : x = "max" := by simpa [biN] using hb
    subst hx
    refine fin (bi := .max) (G.bl hl).2 (fun N pa => call_maxD G.calm) (by decide +kernel) (by decide) (by decide) fun ds z h => bi_atom h (by decide) (by decide) (by decide)
  | min =>
    have hx : x = "min" := by simpa [biN] using hb
    subst hx
    refine fin (bi := .min) (G.bl hl).2 (fun N pa => call_minD G.calm) (by decide +kernel) (by decide) (by decide) fun ds z h => bi_atom h (by decide) (by decide) (by decide)
  | repr =>
    have hx : x = "repr" := by simpa [biN] using hb
    subst hx
    have hl := Bool.and_eq_true_iff.mp hl
    exact fin (bi := .repr) (G.bl hl.1).2 (fun N pa => call_reprD (G.gd hl.2) G.un G.tab.sm) (by decide +kernel) (by decide) (by decide) fun ds z h => bi_atom h (by decide) (by decide) (by decide)
  | str => cases hb
  | gcd =>
    have hx : x = "gcd" := by simpa [biN] using hb
    subst hx
    exact ev_callG (x := "gcd") (tc := fun _ _ _ => True) (fun pa N => pe_callBfun (call_gcdD (pa := pa) (N := N)) hg (G.tab.gcd (Bool.and_eq_true_iff.mp hl).2) ha (by decide) (star_cons hst) (star_any hst2)) (.inr ⟨rfl, fun ds z h => bi_atom h (by decide) (by decide) (by decide)⟩)
  | sorted =>
    have hx : x = "sorted" := by simpa [biN] using hb
    subst hx
    obtain rfl := h1 (.inr rfl)
    rcases hκ with rfl | rfl
    · exact ev_callG (κr := .bo) (x := "sorted") (tc := fun _ _ _ => True) (fun pa N => pe_callB (call_sortedD (pa := pa) (N := N) G.un) hg (G.bl hl).2 (by decide +kernel) ha (by decide) (by decide) (star_cons hst) (star_any hst2)) (.inl ⟨rfl, .inl rfl⟩)
    · exact ev_sorted G.un rfl hg (G.bl hl).2 ha hst
theorem kf_bo {k : List Kd} {i : Nat} : kf k i = k.getD i .sh := rfl
theorem setKs_in {k : List Kd} {vs : List Nat} {κ : Kd} {i : Nat} (h : i ∈ vs) (hl : i < k.length) : kf (setKs k vs κ) i = κ := by
  unfold kf setKs
  rw [List.getD_eq_getElem?_getD, List.getElem?_map, List.getElem?_range hl]
  simp [h]
theorem setKs_out {k : List Kd} {vs : List Nat} {κ : Kd} {i : Nat} (h : i ∉ vs) : kf (setKs k vs κ) i = kf k i := by
  unfold kf setKs
  rw [List.getD_eq_getElem?_getD, List.getElem?_map]
  by_cases hl : i < k.length
  · rw [List.getElem?_range hl]
    simp [h]
  · rw [List.getElem?_eq_none (by rw [List.length_range]; omega), List.getD_eq_getElem?_getD, List.getElem?_eq_none (by omega)]
    rfl
mutual
theorem okP_sound {X : Cx} (G : GoodE Γ X W C F) {kl : List Kd} (hκ : κ = .bo ∨ κ = .sh) : ∀ (q : Pat) (e : Expr), okP Γ kl κ q e = true → PG X e (tgt X.K (kf kl) κ q)
  | .nm i, e, h => by
    simp only [okP] at h
    split at h
    · simp only [Bool.and_eq_true, decide_eq_true_eq] at h
      obtain ⟨h1, h2⟩ := h
      unfold Cg.to_ at h1
      simp only [Bool.and_eq_true, decide_eq_true_eq] at h1
      obtain ⟨h1, h3⟩ := h1
      split at h3
      · rename_i hl
        exact eg_nm G.nd (by rw [G.N]; exact h1) (.inl (by rw [G.sc]; exact hl)) (.inr (by rw [G.sc]; exact hl)) hκ h2
      · rename_i hl
        exact eg_nm G.nd (by rw [G.N]; exact h1) (.inr (by rw [G.sc]; exact hl)) (.inl (G.fn _ h3)) hκ h2
      · cases h3
    · cases h
  | .tp l, e, h => by
    simp only [okP] at h
    split at h
    · simp only [Bool.and_eq_true, decide_eq_true_eq] at h
      exact eg_tp G.calm (okPs_sound G hκ l _ h.1.1) h.1.2 h.2
    · cases h
theorem okPs_sound {X : Cx} (G : GoodE Γ X W C F) {kl : List Kd} (hκ : κ = .bo ∨ κ = .sh) : ∀ (q : List Pat) (e : List Expr), okPs Γ kl κ q e = true → PGs X e (tgts X.K (kf kl) κ q)
  | [], e, h => by
    simp only [okPs, List.isEmpty_iff] at h
    subst h
    exact egs_nil
  | q :: l, e, h => by
    simp only [okPs] at h
    split at h
    · simp only [Bool.and_eq_true] at h
      exact egs_cons (okP_sound G hκ q _ h.1.1) (okPs_sound G hκ l _ h.1.2) h.2
    · cases h
end
theorem GoodE.blk {X : Cx} (G : GoodE Γ X W C F) (scope : Scope) (s : Shared) (H : Hp) (Ca : Addr) (cl : List (Str × Addr)) (fp : List Addr) : GoodE (Γ.blk scope) (X.blk s H scope (compEnvC scope cl Ca X.env) fp) W0 C F where
  calm := G.calm
  nd := G.nd
  N := G.N
  sc := by
    show relabel scope X.env = relabS Γ.sc scope
    rw [← G.sc]
    rfl
  fn := fun x h => h
  un := G.un
  tk := takes_none5
  tab := G.tab
  fns := by
    obtain ⟨j, h1, h2, _, h3⟩ := G.fns
    exact ⟨j, h1, h2, fun z => Bool.noConfusion (show false = true from z), h3⟩
  gd := G.gd
  lam := fun x h => nomatch (show none = some x from h)
  flt := G.flt
/-- within a lambda -/
theorem GoodE.lamb {X : Cx} (G : GoodE Γ X W C F) {A : Around} {outer : List Env} {s : Shared} {H : Hp} {E : XK} {scope : Scope} {f c' : Addr} {j : Nat} (h2 : 2 ≤ j) (hr : Room j (A.deeper (LamX.lamEnv X scope s.heap.objs.size f c')))
    (hj : Fns X.prog X.w X.K X.mg X.base j Γ.t C) : GoodE (Γ.lam scope) (LamX.lamCx X A outer s H E scope f c') (fun cls d _ H => E cls d H) C F where
  calm := rfl
  nd := G.nd
  N := G.N
  sc := rfl
  fn := fun x h => by
    have h : (([] : List (Str × NameKind)).lookup x == some .cell) = true := h
    cases h
  un := by have := hr.un; show (A.deeper _).units + 65 < _; omega
  tk := takes_of rfl rfl rfl rfl
  tab := G.tab
  fns := ⟨j, h2, hr, fun z => Bool.noConfusion (show false = true from z), hj⟩
  gd := fun z => Bool.noConfusion (show false = true from z)
  lam := fun x h => nomatch (show none = some x from h)
  flt := G.flt
theorem evEs_len : ∀ (l : List E) (s : Sl) (p : P) (ds : List D) (p' : P), evEs C F l s p = .ok ds p' → ds.length = l.length
  | [], s, p, ds, p', h => by
    simp only [evEs] at h
    cases h
    rfl
  | c :: l, s, p, ds, p', h => by
    simp only [evEs] at h
    obtain ⟨d, p1, _, h⟩ := bd_ok h
    obtain ⟨r, p2, e2, h⟩ := bd_ok h
    cases h
    rw [List.length_cons, List.length_cons, evEs_len l _ _ _ _ e2]
end
end Mc

/-! Mc18: expressions, checked. -/
namespace Mc
open PySem PySem.Spec PyProof.Rows L2
section
variable {C : Str → List D → P → R D} {F : R D → R D}
def OkT (X : Cx) (W : WX) (k : Nat → Kd) (r : Sl → P → R D) (e : Expr) : Prop := PT X e (tevT X.K W k r) ∧ ∀ op xs pos, e = .BoolOp op xs pos → PW X e (tevT X.K W k r)
def OkV (X : Cx) (W : WX) (k : Nat → Kd) (κ : Kd) (r : Sl → P → R D) (t : Bool) (e : Expr) : Prop := (t = false → PE X e (tev X.K W k κ r)) ∧ (t = true → OkT X W k r e)
theorem OkV.of {X : Cx} {W : WX} {k : Nat → Kd} {κ : Kd} {r : Sl → P → R D} {t : Bool} {e : Expr} (h : PE X e (tev X.K W k κ r)) (hp : plainT e = true) : OkV X W k κ r t e :=
  ⟨fun _ => h, fun _ => ⟨et_plain h hp, fun op xs pos z => by subst z; cases hp⟩⟩
theorem ev_dic {X : Cx} {W : WX} {k : Nat → Kd} {ks vs : List D} {keys : List (Option Expr)} {values : List Expr} {pos : Pos} (h : dicB ks vs keys values = true) : PE X (.Dict keys values pos) (tev X.K W k .sh fun _ p => .ok (.dic ks vs) p) := by
  unfold dicB at h
  split at h
  · refine pe_dnewK.weak fun σ H Q ⟨m, pa, hr, h⟩ p hp => ?_
    refine h (.ref p) _ (Keep.new hp) (hr.pen.new hp) ?_
    show RD X.K pa m.M _ (.dic [] []) _
    simp only [RD]
    exact ⟨p, [], rfl, fun z => hr.Mdom z hp, upd_same, rfl, by simp only [List.map_nil, RDs]⟩
  · rename_i x i y _ _ j _ _
    simp only [Bool.and_eq_true, decide_eq_true_eq] at h
    obtain ⟨rfl, rfl⟩ := h
    refine (pe_disp (pps_cons pe_str pe_int pps_nil) rfl rfl (fun z => nomatch z) (by show 1 ≤ 15; decide)).weak fun σ H Q ⟨m, pa, hr, h⟩ p hp => ?_
    refine ⟨upd_same, [(.inr x, .int i)], rfl, by show 1 ≤ 15; decide, ?_⟩
    have hk : Keep pa H (upd (upd H p (.dK [])) p (.dK (mergeK [] [(.inr x, V.int i)]))) := fun b o n e => by
      rw [upd_ne (ne_of_none e hp), upd_ne (ne_of_none e hp)]; exact e
    refine h (.ref p) _ hk ?_ ?_
    · rw [L2.upd_upd]; exact hr.pen.new hp
    · show RD X.K pa m.M _ (.dic [.str x] [.int i]) _
      simp only [RD]
      refine ⟨p, [(.inr x, .int i)], rfl, fun z => hr.Mdom z hp, upd_same, rfl, ?_⟩
      exact RDs.one (by simp only [RD])
  · cases h
theorem okC_sound {Γ : Cg} {X : Cx} {W : WX} (G : GoodE Γ X W C F) {d : D} {e : Expr} (h : okC Γ d e = true) {k : Nat → Kd} : PE X e (tev X.K W k .sh fun _ p => .ok d p) ∧ plainT e = true := by
  unfold okC at h
  split at h
  · simp only [decide_eq_true_eq] at h
    subst h
    exact ⟨ev_cst pe_int (by intros; simp only [RD]), rfl⟩
  · rename_i i x _
    simp only [Bool.and_eq_true, decide_eq_true_eq] at h
    obtain ⟨⟨u, hu⟩, hd⟩ := G.tab.nums _ _ h.2
    exact ⟨ev_cst (v := .int i) (pe_glob (G.gl h.1) hu ⟨_, rfl⟩ hd) (by intros; simp only [RD]), rfl⟩
  · simp only [decide_eq_true_eq] at h
    subst h
    exact ⟨ev_cst pe_str (by intros; simp only [RD]), rfl⟩
  · simp only [decide_eq_true_eq] at h
    subst h
    exact ⟨ev_cst pe_bl (by intros; simp only [RD]), rfl⟩
  · exact ⟨ev_cst pe_non (by intros; simp only [RD]), rfl⟩
  · rename_i t x _
    simp only [Bool.and_eq_true, decide_eq_true_eq] at h
    obtain ⟨⟨h1, rfl⟩, h3⟩ := h
    obtain ⟨hg, hm⟩ := G.bl h1
    refine ⟨ev_cst (v := .ty t.name) ?_ (by intros; simp only [RD]), rfl⟩
    cases t <;> first | exact absurd rfl h3 | exact pe_bltn hg hm (by decide +kernel) rfl (by decide) (by decide)
  · rename_i c x _
    simp only [Bool.and_eq_true, decide_eq_true_eq] at h
    obtain ⟨⟨h1, rfl⟩, h3⟩ := h
    obtain ⟨hm, hc, hd⟩ := G.tab.cls _ h3
    refine ⟨ev_cst (v := .ref (He.ga X.K x)) (pe_glob (G.gl h1) hm rfl hd) (by intros; simp only [RD, true_and]; exact hc), rfl⟩
  · rename_i f x _
    simp only [Bool.and_eq_true, decide_eq_true_eq, Bool.not_eq_true'] at h
    obtain ⟨⟨⟨h1, rfl⟩, h3⟩, hd⟩ := h
    obtain ⟨⟨n, rk⟩, h3⟩ := Option.isSome_iff_exists.mp h3
    obtain ⟨j, _, hr, _, hj⟩ := G.fns
    obtain ⟨fd, ps, Fo, hm, hk, hb⟩ := hj.1 _ _ _ h3
    exact ⟨ev_cst (v := .ref (He.ga X.K x)) (pe_glob (G.gl h1) hm rfl hd) (by intros; simp only [RD]), rfl⟩
  · exact ⟨ev_dic h, rfl⟩
  · cases h
theorem if_some {α : Type} {c : Prop} [Decidable c] {x : Option α} {y : α} (h : (if c then x else none) = some y) : c ∧ x = some y := by
  split at h
  · exact ⟨by assumption, h⟩
  · cases h
theorem isVar1_some {k : List Kd} {c : E} {i : Nat} (h : isVar1 k c = some i) : c = .var i ∧ kf k i = .fr 1 := by
  unfold isVar1 at h
  split at h
  · split at h
    · cases h; exact ⟨rfl, by assumption⟩
    · cases h
  · cases h
theorem kind2 {a b : Kd} : jn a b = .bo ∨ jn a b = .sh := jn_cases a b
theorem seq1 {C : Str → List D → P → R D} {F : R D → R D} (c : E) : (evEs C F [c]) = fun s p => (evE C F c s p).bd fun d p => .ok [d] p := by
  funext s p
  simp only [evEs]
  cases evE C F c s p <;> rfl
theorem evs_val {C : Str → List D → P → R D} {F : R D → R D} (c : E) : (fun s p => (evEs C F [c] s p).bd fun ds p => R.of (items .val ds) p) = fun s p => (evE C F c s p).bd fun d p => R.of (items .val [d]) p := by
  funext s p
  rw [seq1]
  dsimp only
  cases evE C F c s p <;> rfl
/-- what a list of expressions is -/
def OkEs (C : Str → List D → P → R D) (F : R D → R D) (X : Cx) (W : WX) (k : Nat → Kd) (κ : Kd) (l : List E) (es : List Expr) : Prop := (κ = .bo ∨ κ = .sh) ∧ es.all noStar = true ∧ es.length = l.length ∧ ∀ κ', (κ' ≠ .bo → κ ≠ .bo) → PA X es (tevs X.K W k κ' (evEs C F l))
def LcPk (X : Cx) (W : WX) (k : Nat → Kd) (κ : Kd) (r : Sl → P → R D) (own : List (Str × Nat)) (elt tg it : Expr) (ifs : List Expr) (scope : Scope) : Prop := ∃ wi g tt te, PI X tg it wi ∧ BlkOk X.N X.env.scope scope own ∧
  (∀ (s : Shared) (H : Hp) (C : Addr) (cl : List (Str × Addr)) (fp : List Addr), PG (X.blk s H scope (compEnvC scope cl C X.env) fp) tg g) ∧ (∀ (s : Shared) (H : Hp) (C : Addr) (cl : List (Str × Addr)) (fp : List Addr), PTs (X.blk s H scope (compEnvC scope cl C X.env) fp) ifs tt) ∧
  (∀ (s : Shared) (H : Hp) (C : Addr) (cl : List (Str × Addr)) (fp : List Addr), PE (X.blk s H scope (compEnvC scope cl C X.env) fp) elt te) ∧ (∀ x, foldedSetIterable it X.env x = pure x) ∧ ∀ σ H Q, tev X.K W k κ r σ H Q → tLc wi g tt te (own.map (·.2)) σ H Q
theorem nsI_ok {it : Expr} {env : Env} (h : nsI it = true) (x : Value) : foldedSetIterable it env x = pure x := by
  cases it <;> first | rfl | cases h
theorem lc_mk {X : Cx} {W : WX} {Γ : Cg} (G : GoodE Γ X W C F) {k : List Kd} {vs : List Nat} {q : Pat} {κi κe : Kd} {scope : Scope} {elt tg it : Expr} {ifs : List Expr} {ri : Sl → P → R (List D)} {rc : Sl → P → R Bool} {re : Sl → P → R D} (hκ : κi = .bo ∨ κi = .sh) {ex : List Nat} (hi : PI X tg it (titX X.K W (kf k) ex κi ri))
    (h1 : nsI it = true) (h2 : blkC Γ.N Γ.sc scope (ownOf Γ vs) = true) (h3 : (ownOf Γ vs).map (·.2) = vs) (h4 : (patSl q).all (fun i => decide (i ∈ vs)) = true) (h5 : vs.all (fun i => decide (kf k i = .sh) || decide (kf k i = .bo)) = true) (h7 : okP (Γ.blk scope) (setKs k vs κi) κi q tg = true)
    (ht : ∀ X W, GoodE (Γ.blk scope) X W C F → PTs X ifs (tevB X.K W (kf (setKs k vs κi)) rc)) (he : ∀ X W, GoodE (Γ.blk scope) X W C F → PE X elt (tev X.K W (kf (setKs k vs κi)) κe re)) :
    LcPk X W (kf k) (compK κe) (fun s p => (ri s p).bd fun xs p => lstR (filR (fun d p => withP q (wipeS s vs) d fun s' => rc s' p) (fun d p => withP q (wipeS s vs) d fun s' => re s' p) xs p)) (ownOf Γ vs) elt tg it ifs scope := by
  refine ⟨_, tgt X.K (kf (setKs k vs κi)) κi q, tevB X.K W0 (kf (setKs k vs κi)) rc, tev X.K W0 (kf (setKs k vs κi)) κe re, hi, ?_, fun s H Ca cl fp => okP_sound (G.blk scope s H Ca cl fp) hκ q tg h7, fun s H Ca cl fp => ht _ _ (G.blk scope s H Ca cl fp), fun s H Ca cl fp => he _ _ (G.blk scope s H Ca cl fp), nsI_ok h1, fun σ H Q z => ?_⟩
  · rw [G.N, G.sc]; exact blkOk_by h2
  · rw [h3]
    refine lc_read hκ (fun i hi => ?_) (fun i hi => setKs_out hi) (fun i hi => ?_) z
    · have := List.all_eq_true.mp h4 i hi
      simpa using this
    · have := List.all_eq_true.mp h5 i hi
      simpa using this
theorem lc_mkO {X : Cx} {W : WX} {Γ : Cg} (G : GoodE Γ X W C F) {k : List Kd} {vs : List Nat} {q : Pat} {κi : Kd} {n : Nat} {scope : Scope} {elt tg it : Expr} {ifs : List Expr} {ri : Sl → P → R (List D)} {rc : Sl → P → R Bool} {re : Sl → P → R D} (hκ : κi = .bo ∨ κi = .sh) {ex : List Nat} (hi : PI X tg it (titX X.K W (kf k) ex κi ri))
    (h1 : nsI it = true) (h2 : blkC Γ.N Γ.sc scope (ownOf Γ vs) = true) (h3 : (ownOf Γ vs).map (·.2) = vs) (h4 : (patSl q).all (fun i => decide (i ∈ vs)) = true) (h5 : vs.all (fun i => decide (kf k i = .sh) || decide (kf k i = .bo)) = true) (h7 : okP (Γ.blk scope) (setKs k vs κi) κi q tg = true)
    (ht : ∀ X W, GoodE (Γ.blk scope) X W C F → PTs X ifs (tevB X.K W (kf (setKs k vs κi)) rc)) (he : ∀ X W, GoodE (Γ.blk scope) X W C F → PE X elt (tev X.K W (kf (setKs k vs κi)) (.fr n) re)) :
    LcPk X W (kf k) (.fr (n + 1)) (fun s p => (ri s p).bd fun xs p => lstR (filR (fun d p => withP q (wipeS s vs) d fun s' => rc s' p) (fun d p => withP q (wipeS s vs) d fun s' => re s' p) xs p)) (ownOf Γ vs) elt tg it ifs scope := by
  refine ⟨_, tgt X.K (kf (setKs k vs κi)) κi q, tevB X.K W0 (kf (setKs k vs κi)) rc, tev X.K W0 (kf (setKs k vs κi)) (.fr n) re, hi, ?_, fun s H Ca cl fp => okP_sound (G.blk scope s H Ca cl fp) hκ q tg h7, fun s H Ca cl fp => ht _ _ (G.blk scope s H Ca cl fp), fun s H Ca cl fp => he _ _ (G.blk scope s H Ca cl fp), nsI_ok h1, fun σ H Q z => ?_⟩
  · rw [G.N, G.sc]; exact blkOk_by h2
  · rw [h3]
    refine lc_readO hκ (fun i hi => ?_) (fun i hi => setKs_out hi) (fun i hi => ?_) z
    · have := List.all_eq_true.mp h4 i hi
      simpa using this
    · have := List.all_eq_true.mp h5 i hi
      simpa using this
theorem LcPk.pe {X : Cx} {W : WX} {k : Nat → Kd} {κ : Kd} {r : Sl → P → R D} {own : List (Str × Nat)} {elt tg it : Expr} {ifs : List Expr} {scope : Scope} {pos : Pos} (hc : X.calm = true) (hN : X.N.Nodup) (h : LcPk X W k κ r own elt tg it ifs scope) : PE X (.ListComp elt [⟨tg, it, ifs, 0⟩] scope pos) (tev X.K W k κ r) := by
  obtain ⟨wi, g, tt, te, h1, h2, h3, h4, h5, h6, h7⟩ := h
  exact (pe_lc hc hN h1 h2 h3 h4 h5 h6).weak h7
theorem okIt_of {Γ : Cg} {X : Cx} {W : WX} {k : List Kd} {ik : Ik} {l : List E} {tg it : Expr} {κ : Kd} (h : itK (isOwnIt k ik l) (okI ik l Γ k tg it) = some κ) (ih : ∀ κ, okI ik l Γ k tg it = some κ → (κ = .bo ∨ κ = .sh) ∧ PI X tg it (tit X.K W (kf k) κ fun s p => (evEs C F l s p).bd fun ds p => R.of (items ik ds) p)) (G : GoodE Γ X W C F) :
    (κ = .bo ∨ κ = .sh) ∧ PI X tg it (titX X.K W (kf k) ((isOwnIt k ik l).toList) κ fun s p => (evEs C F l s p).bd fun ds p => R.of (items ik ds) p) := by
  unfold itK at h
  split at h
  · rename_i j hj
    obtain ⟨κ', hI, rfl⟩ := Option.map_eq_some_iff.mp h
    refine ⟨.inr rfl, ?_⟩
    rw [hj]
    unfold isOwnIt at hj
    split at hj
    · rename_i c
      obtain ⟨rfl, hk⟩ := isVar1_some hj
      simp only [okI] at hI
      replace hI := if_some hI; obtain ⟨_, hI⟩ := hI
      obtain ⟨κ', hI, _⟩ := Option.map_eq_some_iff.mp hI
      simp only [okX] at hI
      split at hI
      · replace hI := if_some hI; obtain ⟨hx, _⟩ := hI
        obtain ⟨a1, a2, a3, a4⟩ := G.at_ hx
        rw [evs_val]
        exact ei_own a1 a2 a3 a4 hk
      · cases hI
    · cases hj
  · obtain ⟨q1, q2⟩ := ih _ h
    exact ⟨q1, ei_ex q2⟩
mutual
theorem okX_sound : ∀ (c : E) (Γ : Cg) (k : List Kd) (t : Bool) (e : Expr) (κ : Kd), okX c Γ k t e = some κ → ∀ (X : Cx) (W : WX), GoodE Γ X W C F → OkV X W (kf k) κ (evE C F c) t e
  | .var i, Γ, k, t, e, κ, h, X, W, G => by
    simp only [okX] at h
    split at h
    · replace h := if_some h; obtain ⟨hx, h⟩ := h
      cases h
      obtain ⟨h1, h2, h3, h4⟩ := G.at_ hx
      exact .of (ev_var h1 h2 h3 h4) rfl
    · cases h
  | .cst d, Γ, k, t, e, κ, h, X, W, G => by
    simp only [okX] at h
    replace h := if_some h; obtain ⟨hx, h⟩ := h
    cases h
    obtain ⟨h1, h2⟩ := okC_sound G hx (k := kf k)
    exact .of h1 h2
  | .tup l, Γ, k, t, e, κ, h, X, W, G => by
    simp only [okX] at h
    split at h
    · replace h := if_some h; obtain ⟨hl, h⟩ := h
      obtain ⟨h1, h2, h3, h4⟩ := okEs_sound l Γ k _ κ h X W G
      exact .of (ev_tup (h4 κ id) h1 fun s p ds p' e => by rw [evEs_len l s p ds p' e]; exact Nat.le_trans hl (by decide)) rfl
    · cases h
  | .lst l, Γ, k, t, e, κ, h, X, W, G => by
    simp only [okX] at h
    split at h
    · replace h := if_some h; obtain ⟨hl, h⟩ := h
      split at h
      · rename_i hq
        cases h
        obtain ⟨h1, h2, h3, h4⟩ := okEs_sound l Γ k _ _ hq X W G
        exact .of (ev_lst (h4 .sh id) fun s p ds p' e => by rw [evEs_len l s p ds p' e]; exact Nat.le_trans hl (by decide)) rfl
      · rename_i hq
        cases h
        obtain ⟨h1, h2, h3, h4⟩ := okEs_sound l Γ k _ _ hq X W G
        exact .of (ev_lstB (h4 .bo fun z => absurd rfl z) fun s p ds p' e => by rw [evEs_len l s p ds p' e]; exact Nat.le_trans hl (by decide)) rfl
      · cases h
    · cases h
  | .bin o a b, Γ, k, t, e, κ, h, X, W, G => by
    simp only [okX] at h
    split at h
    · replace h := if_some h; obtain ⟨rfl, h⟩ := h
      split at h
      · rename_i ha hb
        cases h
        exact .of (ev_bin ((okX_sound a Γ k false _ _ ha X W G).1 rfl) ((okX_sound b Γ k false _ _ hb X W G).1 rfl)) rfl
      · cases h
    · cases h
  | .neg a, Γ, k, t, e, κ, h, X, W, G => by
    simp only [okX] at h
    split at h
    · obtain ⟨κ', ha, rfl⟩ := Option.map_eq_some_iff.mp h
      exact .of (ev_neg ((okX_sound a Γ k false _ _ ha X W G).1 rfl)) rfl
    · cases h
  | .cmp o a b, Γ, k, t, e, κ, h, X, W, G => by
    simp only [okX] at h
    split at h
    · replace h := if_some h; obtain ⟨⟨rfl, hm⟩, h⟩ := h
      split at h
      · rename_i ha hb
        cases h
        have pa := (okX_sound a Γ k false _ _ ha X W G).1 rfl
        have pb := (okX_sound b Γ k false _ _ hb X W G).1 rfl
        exact ⟨fun _ => ev_cmp G.un hm pa pb, fun _ => ⟨et_cmp G.un hm pa pb, fun op xs pos z => nomatch z⟩⟩
      · cases h
    · cases h
  | .cmp2 o o2 a b c, Γ, k, t, e, κ, h, X, W, G => by
    simp only [okX] at h
    split at h
    · replace h := if_some h; obtain ⟨⟨rfl, rfl, hm⟩, h⟩ := h
      split at h
      · rename_i ha hb hc
        cases h
        have pa := (okX_sound a Γ k false _ _ ha X W G).1 rfl
        have pb := (okX_sound b Γ k false _ _ hb X W G).1 rfl
        have pc := (okX_sound c Γ k false _ _ hc X W G).1 rfl
        exact ⟨fun _ => ev_cmp2 G.un hm pa pb pc, fun _ => ⟨et_cmp2 G.un hm pa pb pc, fun op xs pos z => nomatch z⟩⟩
      · cases h
    · cases h
  | .cmp3 o o2 o3 a b c d, Γ, k, t, e, κ, h, X, W, G => by
    simp only [okX] at h
    split at h
    · replace h := if_some h; obtain ⟨⟨rfl, rfl, rfl, hm⟩, h⟩ := h
      split at h
      · rename_i ha hb hc hd
        cases h
        have pa := (okX_sound a Γ k false _ _ ha X W G).1 rfl
        have pb := (okX_sound b Γ k false _ _ hb X W G).1 rfl
        have pc := (okX_sound c Γ k false _ _ hc X W G).1 rfl
        have pd := (okX_sound d Γ k false _ _ hd X W G).1 rfl
        exact ⟨fun _ => ev_cmp3 G.un hm pa pb pc pd, fun _ => ⟨et_cmp3 G.un hm pa pb pc pd, fun op xs pos z => nomatch z⟩⟩
      · cases h
    · cases h
  | .and a b, Γ, k, t, e, κ, h, X, W, G => by
    simp only [okX] at h
    split at h
    · rename_i x y r pos
      split at h
      · rename_i κa κb ha hb
        cases h
        have pa := okX_sound a Γ k t _ _ ha X W G
        have pb := okX_sound b Γ k t _ _ hb X W G
        have key : (t = false → PE X (.BoolOp .And (y :: r) pos) (tev X.K W (kf k) κb (evE C F b))) ∧ (t = true → PW X (.BoolOp .And (y :: r) pos) (tevT X.K W (kf k) (evE C F b))) := by
          cases r with
          | nil => exact ⟨fun z => pe_one (pb.1 z), fun z => pw_and1 (pb.2 z).1⟩
          | cons y2 r => exact ⟨pb.1, fun z => (pb.2 z).2 _ _ _ rfl⟩
        exact ⟨fun z => ev_and (pa.1 z) (key.1 z), fun z => ⟨(et_and (pa.2 z).1 (key.2 z)).pt, fun _ _ _ _ => et_and (pa.2 z).1 (key.2 z)⟩⟩
      · cases h
    · cases h
  | .or a b, Γ, k, t, e, κ, h, X, W, G => by
    simp only [okX] at h
    split at h
    · rename_i x y r pos
      split at h
      · rename_i κa κb ha hb
        cases h
        have pa := okX_sound a Γ k t _ _ ha X W G
        have pb := okX_sound b Γ k t _ _ hb X W G
        have key : (t = false → PE X (.BoolOp .Or (y :: r) pos) (tev X.K W (kf k) κb (evE C F b))) ∧ (t = true → PW X (.BoolOp .Or (y :: r) pos) (tevT X.K W (kf k) (evE C F b))) := by
          cases r with
          | nil => exact ⟨fun z => pe_one (pb.1 z), fun z => pw_or1 (pb.2 z).1⟩
          | cons y2 r => exact ⟨pb.1, fun z => (pb.2 z).2 _ _ _ rfl⟩
        exact ⟨fun z => ev_or (pa.1 z) (key.1 z), fun z => ⟨(et_or (pa.2 z).1 (key.2 z)).pt, fun _ _ _ _ => et_or (pa.2 z).1 (key.2 z)⟩⟩
      · cases h
    · cases h
  | .not a, Γ, k, t, e, κ, h, X, W, G => by
    simp only [okX] at h
    split at h
    · obtain ⟨κ', ha, rfl⟩ := Option.map_eq_some_iff.mp h
      have pa := okX_sound a Γ k t _ _ ha X W G
      exact ⟨fun z => ev_not (pa.1 z), fun z => ⟨et_not (pa.2 z).1, fun _ _ _ z => nomatch z⟩⟩
    · cases h
  | .ite c a b, Γ, k, t, e, κ, h, X, W, G => by
    simp only [okX] at h
    split at h
    · cases t with
      | true => simp at h
      | false =>
        simp only [Bool.false_eq_true, if_false] at h
        split at h
        · rename_i hc ha hb
          cases h
          have pa := (okX_sound a Γ k false _ _ ha X W G).1 rfl
          have pb := (okX_sound b Γ k false _ _ hb X W G).1 rfl
          have pc := ((okX_sound c Γ k true _ _ hc X W G).2 rfl).1
          exact ⟨fun _ => ev_ite pc pa pb, fun z => nomatch z⟩
        · cases h
    · cases h
  | .idx a i, Γ, k, t, e, κ, h, X, W, G => by
    simp only [okX] at h
    split at h
    · replace h := if_some h; obtain ⟨hp, h⟩ := h
      split at h
      · rename_i ha hb
        cases h
        have pb := (okX_sound i Γ k false _ _ hb X W G).1 rfl
        split
        · exact .of (ev_idx ((okX_sound a Γ k false _ _ ha X W G).1 rfl) pb hp) rfl
        · rename_i hv
          cases hq : isVar1 k a with
          | none => exact absurd hq hv
          | some j =>
            obtain ⟨rfl, hj⟩ := isVar1_some hq
            simp only [okX] at ha
            split at ha
            · obtain ⟨hx, _⟩ := if_some ha
              obtain ⟨h1, h2, h3, h4⟩ := G.at_ hx
              exact .of (ev_idxV h1 h2 h3 h4 hj pb hp) rfl
            · cases ha
      · cases h
    · cases h
  | .slc a lo hi, Γ, k, t, e, κ, h, X, W, G => by
    simp only [okX] at h
    split at h
    · split at h
      · rename_i ha hl hh
        cases h
        exact .of (ev_slc ((okX_sound a Γ k false _ _ ha X W G).1 rfl) (okO_sound lo Γ k _ hl X W G) (okO_sound hi Γ k _ hh X W G)) rfl
      · cases h
    · cases h
  | .call f l, Γ, k, t, e, κ, h, X, W, G => by
    simp only [okX] at h
    split at h
    · replace h := if_some h; obtain ⟨⟨rfl, hg, hd, hgd⟩, h⟩ := h
      split at h
      · rename_i n rk κ1 hs he
        replace h := if_some h; obtain ⟨hn, h⟩ := h
        cases h
        obtain ⟨h1, h2, h3, h4⟩ := okEs_sound l Γ k _ _ he X W G
        obtain ⟨j, _, hr, _, hj⟩ := G.fns
        obtain ⟨fd, ps, Fo, hm, hk, hb⟩ := hj.1 _ _ _ hs
        exact .of (ev_call Fo hr (fun z => G.gd (hgd z)) (G.gl hg) hm hk hb G.tk (h4 κ1 id) h1 (fun s p ds p' e => by rw [evEs_len l s p ds p' e]; exact hn) h2 (by simpa using hd)) rfl
      · cases h
    · cases h
  | .bi b l, Γ, k, t, e, κ, h, X, W, G => by
    simp only [okX] at h
    split at h
    · rename_i x p1 y ys p2
      replace h := if_some h; obtain ⟨⟨hb, hl, h1⟩, h⟩ := h
      split at h
      · rename_i κ1 he
        obtain ⟨q1, q2, q3, q4⟩ := okEs_sound l Γ k _ _ he X W G
        rw [List.all_cons, Bool.and_eq_true] at q2
        have hls : b = .list ∨ b = .sorted → ys = [] := fun z => by
          have := h1 z
          rw [← q3, List.length_cons] at this
          exact List.length_eq_zero_iff.mp (by omega)
        have gen : PE X (.Call (.Name x p1) (y :: ys) [] p2) (tev X.K W (kf k) (biK b κ1) (evE C F (.bi b l))) := ev_bi G hb hl (q4 κ1 id) q1 q2.1 q2.2 hls
        split at h
        · rename_i c
          split at h
          · cases h
            exact .of gen rfl
          · rename_i hv
            cases h
            cases hq : isVar1 k c with
            | none => exact absurd hq hv
            | some j =>
              obtain ⟨rfl, hj⟩ := isVar1_some hq
              have hy : ys = [] := List.length_eq_zero_iff.mp (by rw [List.length_cons] at q3; simpa using q3)
              subst hy
              simp only [okEs] at he
              replace he := if_some he; obtain ⟨_, he⟩ := he
              split at he
              · rename_i ha _
                simp only [okX] at ha
                split at ha
                · replace ha := if_some ha; obtain ⟨hx, _⟩ := ha
                  obtain ⟨p1, p2, p3, p4⟩ := G.at_ hx
                  have ee : ∀ bi, (fun s p => (getS s j p).bd fun d p => R.of (biD bi [d]) p) = evE C F (.bi bi [.var j]) := fun bi => by
                    funext s p
                    simp only [evE, evEs]
                    cases getS s j p <;> rfl
                  cases b with
                  | tuple =>
                    obtain ⟨hg, hm⟩ := G.bl (show Γ.bl x = true from hl)
                    refine .of ?_ rfl
                    rw [← ee]
                    exact ev_tupleV (by simpa [biN] using hb) hg hm p1 p2 p3 p4 hj
                  | list =>
                    obtain ⟨hg, hm⟩ := G.bl (show Γ.bl x = true from hl)
                    refine .of ?_ rfl
                    rw [← ee]
                    exact ev_listV (by simpa [biN] using hb) hg hm p1 p2 p3 p4 hj
                  | sorted =>
                    obtain ⟨hg, hm⟩ := G.bl (show Γ.bl x = true from hl)
                    refine .of ?_ rfl
                    rw [← ee]
                    exact ev_sortedV G.un (by simpa [biN] using hb) hg hm p1 p2 p3 p4 hj
                  | _ => exact .of gen rfl
                · cases ha
              · cases he
        · cases h
          exact .of gen rfl
      · cases h
    · cases h
  | .flat a, Γ, k, t, e, κ, h, X, W, G => by
    simp only [okX] at h
    cases t with
    | true => simp at h
    | false =>
      simp only [Bool.false_eq_true, if_false] at h
      obtain ⟨κ', ha, rfl⟩ := Option.map_eq_some_iff.mp h
      exact ⟨fun _ => ev_flat ((okX_sound a Γ k false _ _ ha X W G).1 rfl), fun z => nomatch z⟩
  | .comp vs q ik l a, Γ, k, t, e, κ, h, X, W, G => by
    simp only [okX] at h
    split at h
    · split at h
      · rename_i κi hi
        replace h := if_some h; obtain ⟨⟨h1, h2, h3, h4, h5, h6, h7⟩, h⟩ := h
        obtain ⟨κe, ha, rfl⟩ := Option.map_eq_some_iff.mp h
        obtain ⟨hκ, hI⟩ := okIt_of hi (fun κ h => okI_sound l ik Γ k _ _ κ h X W G) G
        have e1 : evE C F (.comp vs q ik l a) = fun s p => ((evEs C F l s p).bd fun ds p => R.of (items ik ds) p).bd fun xs p => lstR (filR (fun d p => withP q (wipeS s vs) d fun s' => .ok true p) (fun d p => withP q (wipeS s vs) d fun s' => evE C F a s' p) xs p) := by
          funext s p
          simp only [evE]
          rw [bd_bd]
        rw [e1]
        exact .of ((lc_mk G hκ hI h1 h2 h3 h4 h5 h7 (fun X W G => eT_nil) (fun X W G => (okX_sound a _ _ false _ _ ha X W G).1 rfl)).pe G.calm G.nd) rfl
      · cases h
    · cases h
  | .compC vs q ik l c a, Γ, k, t, e, κ, h, X, W, G => by
    simp only [okX] at h
    split at h
    · split at h
      · rename_i κi hi
        replace h := if_some h; obtain ⟨⟨h1, h2, h3, h4, h5, h6, h7⟩, h⟩ := h
        split at h
        · rename_i hc ha
          cases h
          obtain ⟨hκ, hI⟩ := okIt_of hi (fun κ h => okI_sound l ik Γ k _ _ κ h X W G) G
          have e1 : evE C F (.compC vs q ik l c a) = fun s p => ((evEs C F l s p).bd fun ds p => R.of (items ik ds) p).bd fun xs p => lstR (filR (fun d p => withP q (wipeS s vs) d fun s' => (evE C F c s' p).bd fun x p => .of (truD x) p) (fun d p => withP q (wipeS s vs) d fun s' => evE C F a s' p) xs p) := by
            funext s p
            simp only [evE]
            rw [bd_bd]
          rw [e1]
          exact .of ((lc_mk G hκ hI h1 h2 h3 h4 h5 h7 (fun X W G => eT_one ((okX_sound c _ _ true _ _ hc X W G).2 rfl).1) (fun X W G => (okX_sound a _ _ false _ _ ha X W G).1 rfl)).pe G.calm G.nd) rfl
        · cases h
      · cases h
    · cases h
  | .pf a f, Γ, k, t, e, κ, h, X, W, G => by
    simp only [okX] at h
    split at h
    · replace h := if_some h; obtain ⟨rfl, h⟩ := h
      obtain ⟨κ', ha, rfl⟩ := Option.map_eq_some_iff.mp h
      exact .of (ev_pf G.un ((okX_sound a Γ k false _ _ ha X W G).1 rfl)) rfl
    · cases h
  | .pl a, Γ, k, t, e, κ, h, X, W, G => by
    simp only [okX] at h
    split at h
    · replace h := if_some h; obtain ⟨⟨rfl, rfl, hb⟩, h⟩ := h
      obtain ⟨κ', ha, rfl⟩ := Option.map_eq_some_iff.mp h
      obtain ⟨hg, hm⟩ := G.bl hb
      exact .of (ev_pl rfl hg hm G.un ((okX_sound a Γ k false _ _ ha X W G).1 rfl)) rfl
    · cases h
  | .pc a i, Γ, k, t, e, κ, h, X, W, G => by
    simp only [okX] at h
    split at h
    · replace h := if_some h; obtain ⟨⟨rfl, hp⟩, h⟩ := h
      split at h
      · rename_i ha hb
        cases h
        exact .of (ev_pc G.un ((okX_sound a Γ k false _ _ ha X W G).1 rfl) ((okX_sound i Γ k false _ _ hb X W G).1 rfl) hp) rfl
      · cases h
    · cases h
  | .cval i fs l, Γ, k, t, e, κ, h, X, W, G => by
    simp only [okX] at h
    split at h
    · rename_i x p1 y ys p2
      replace h := if_some h; obtain ⟨⟨hx, hk, hf⟩, h⟩ := h
      obtain ⟨κ1, he, rfl⟩ := Option.map_eq_some_iff.mp h
      obtain ⟨a1, a2, a3, a4⟩ := G.at_ hx
      obtain ⟨h1, h2, h3, h4⟩ := okEs_sound l Γ k _ _ he X W G
      obtain ⟨j, _, hr, _, hj⟩ := G.fns
      refine .of (ev_callV (g := true) (n := l.length) (j := j) a1 a2 a3 a4 hk (fun f hm => ?_) hr G.tk (h4 κ1 id) h1 (fun s p ds p' e => evEs_len l s p ds p' e) h2) rfl
      have z := List.all_eq_true.mp hf f hm
      simp only [Bool.and_eq_true, Bool.or_eq_true, decide_eq_true_eq, Bool.not_eq_true', decide_eq_false_iff_not] at z
      obtain ⟨fd, ps, Fo, hm, hk, hb⟩ := hj.1 _ _ _ z.1
      exact ⟨_, fd, ps, Fo, fun y => G.gd (z.2.resolve_left fun n => n (of_decide_eq_true y)), hk, hb⟩
    · cases h
  | .mk c l, Γ, k, t, e, κ, h, X, W, G => by
    simp only [okX] at h
    split at h
    · rename_i x p1 y ys p2
      replace h := if_some h; obtain ⟨⟨rfl, hg⟩, h⟩ := h
      split at h
      · rename_i n κ1 hs he
        replace h := if_some h; obtain ⟨hl, h⟩ := h
        cases h
        obtain ⟨j, _, hr, _, hj⟩ := G.fns
        obtain ⟨h1, h2, h3, h4⟩ := okEs_sound l Γ k _ _ he X W G
        exact .of (ev_mk (hj.2.1 _ _ hs) hr (G.gl hg) G.tk (h4 κ id) h1 (fun s p ds p' e => by rw [evEs_len l s p ds p' e]; exact hl) h2) rfl
      · cases h
    · cases h
  | .att a f, Γ, k, t, e, κ, h, X, W, G => by
    simp only [okX] at h
    split at h
    · replace h := if_some h; obtain ⟨⟨rfl, hn⟩, h⟩ := h
      obtain ⟨κ', ha, rfl⟩ := Option.map_eq_some_iff.mp h
      exact .of (ev_att ((okX_sound a Γ k false _ _ ha X W G).1 rfl) hn) rfl
    · cases h
  | .rep a n, Γ, k, t, e, κ, h, X, W, G => by
    simp only [okX] at h
    split at h
    · replace h := if_some h; obtain ⟨hst, h⟩ := h
      split at h
      · rename_i κa κb ha hb
        split at h
        · cases h
        · rename_i hκ
          cases h
          exact .of (ev_rep ((okX_sound a Γ k false _ _ ha X W G).1 rfl) hκ hst ((okX_sound n Γ k false _ _ hb X W G).1 rfl)) rfl
      · cases h
    · cases h
  | .lr1 a, Γ, k, t, e, κ, h, X, W, G => by
    simp only [okX] at h
    split at h
    · rename_i x p1 y p2 u p3 p4
      replace h := if_some h; obtain ⟨⟨hx, hy, hb1, hb2, hst⟩, h⟩ := h
      obtain ⟨κ', ha, rfl⟩ := Option.map_eq_some_iff.mp h
      exact .of (ev_lrng1 hx hy G.calm (G.bl hb1).1 (G.bl hb1).2 (G.bl hb2).1 (G.bl hb2).2 ((okX_sound a Γ k false _ _ ha X W G).1 rfl) hst) rfl
    · cases h
  | .tr1 a, Γ, k, t, e, κ, h, X, W, G => by
    simp only [okX] at h
    split at h
    · rename_i x p1 y p2 u p3 p4
      replace h := if_some h; obtain ⟨⟨hx, hy, hb1, hb2, hst⟩, h⟩ := h
      obtain ⟨κ', ha, rfl⟩ := Option.map_eq_some_iff.mp h
      exact .of (ev_trng1 hx hy G.calm (G.bl hb1).1 (G.bl hb1).2 (G.bl hb2).1 (G.bl hb2).2 ((okX_sound a Γ k false _ _ ha X W G).1 rfl) hst) rfl
    · cases h
  | .rev a, Γ, k, t, e, κ, h, X, W, G => by
    simp only [okX] at h
    split at h
    · obtain ⟨κ', ha, rfl⟩ := Option.map_eq_some_iff.mp h
      exact .of (ev_rev ((okX_sound a Γ k false _ _ ha X W G).1 rfl)) rfl
    · cases h
  | .lr2 a b, Γ, k, t, e, κ, h, X, W, G => by
    simp only [okX] at h
    split at h
    · rename_i x p1 y p2 u v p3 p4
      replace h := if_some h; obtain ⟨⟨hx, hy, hb1, hb2, hst, hst2⟩, h⟩ := h
      split at h
      · rename_i κa κb ha hb
        cases h
        exact .of (ev_lrng2 hx hy G.calm (G.bl hb1).1 (G.bl hb1).2 (G.bl hb2).1 (G.bl hb2).2 ((okX_sound a Γ k false _ _ ha X W G).1 rfl) hst ((okX_sound b Γ k false _ _ hb X W G).1 rfl) hst2) rfl
      · cases h
    · cases h
  | .nest vs q ik l a, Γ, k, t, e, κ, h, X, W, G => by
    simp only [okX] at h
    split at h
    · split at h
      · rename_i κi hi
        replace h := if_some h; obtain ⟨⟨h1, h2, h3, h4, h5, h6, h7⟩, h⟩ := h
        split at h
        · rename_i n ha
          cases h
          obtain ⟨hκ, hI⟩ := okIt_of hi (fun κ h => okI_sound l ik Γ k _ _ κ h X W G) G
          have e1 : evE C F (.nest vs q ik l a) = fun s p => ((evEs C F l s p).bd fun ds p => R.of (items ik ds) p).bd fun xs p => lstR (filR (fun d p => withP q (wipeS s vs) d fun s' => .ok true p) (fun d p => withP q (wipeS s vs) d fun s' => evE C F a s' p) xs p) := by
            funext s p
            simp only [evE]
            rw [bd_bd]
          rw [e1]
          exact .of ((lc_mkO G hκ hI h1 h2 h3 h4 h5 h7 (fun X W G => eT_nil) (fun X W G => (okX_sound a _ _ false _ _ ha X W G).1 rfl)).pe G.calm G.nd) rfl
        · cases h
      · cases h
    · cases h
  | .comp2 vs vs2 q ik l q2 ik2 l2 c a, Γ, k, t, e, κ, h, X, W, G => by
    simp only [okX] at h
    split at h
    · rename_i elt tg it tg2 it2 ifs scope p9
      split at h
      · rename_i κi hi
        replace h := if_some h; obtain ⟨⟨h1, h2, h3, h4, h5, h6, h7⟩, h⟩ := h
        split at h
        · rename_i κj hj
          replace h := if_some h; obtain ⟨⟨g1, g2, g3, g4, g5⟩, h⟩ := h
          obtain ⟨κe, ha, rfl⟩ := Option.map_eq_some_iff.mp h
          obtain ⟨hκ, hI⟩ := okIt_of hi (fun κ h => okI_sound l ik Γ k _ _ κ h X W G) G
          have hκj : κj = .bo ∨ κj = .sh := by
            unfold itK at hj
            split at hj
            · obtain ⟨_, _, rfl⟩ := Option.map_eq_some_iff.mp hj; exact .inr rfl
            · exact (okI_sound l2 ik2 _ _ _ _ κj hj _ _ (G.blk scope X.s_0 X.H_0 0 [] [])).1
          have hvs : ∀ i ∈ vs, kf k i = .sh ∨ kf k i = .bo := fun i hi => by simpa using List.all_eq_true.mp h5 i hi
          have hlt : ∀ i ∈ vs, i < k.length := fun i hi => by simpa using List.all_eq_true.mp h6 i hi
          have hs2 : ∀ i ∈ vs2, i ∈ vs := fun i hi => by simpa using List.all_eq_true.mp g2 i hi
          have rcE : ∀ X W, GoodE (Γ.blk scope) X W C F → PTs X ifs (tevB X.K W (kf (setKs (setKs k vs κi) vs2 κj)) fun s p => (evE C F c s p).bd fun x p => .of (truD x) p) := fun X W G => by
            cases ifs with
            | nil =>
              have hc : c = .cst (.bl true) := by
                have g5 : isTru c = true := g5
                unfold isTru at g5
                split at g5
                · rfl
                · cases g5
              subst hc
              exact eT_nil
            | cons cd r =>
              cases r with
              | nil =>
                obtain ⟨κc, hc⟩ := Option.isSome_iff_exists.mp (show (okX c (Γ.blk scope) (setKs (setKs k vs κi) vs2 κj) true cd).isSome = true from g5)
                exact eT_one ((okX_sound c _ _ true _ _ hc X W G).2 rfl).1
              | cons _ _ => cases g5
          have e1 : evE C F (.comp2 vs vs2 q ik l q2 ik2 l2 c a) = fun s p => ((evEs C F l s p).bd fun ds p => R.of (items ik ds) p).bd fun xs p =>
              lstR (catR (turnR q q2 vs2 (fun s' p => (evEs C F l2 s' p).bd fun ds2 p => R.of (items ik2 ds2) p) (fun s2 p => (evE C F c s2 p).bd fun x p => .of (truD x) p) (fun s2 p => evE C F a s2 p) (wipeS s vs)) xs p) := by
            funext s p
            simp only [evE]
            rw [bd_bd]
            rfl
          rw [e1]
          refine .of ((pe_lc2 (own := ownOf Γ vs) (vs1 := vs2) (g := tgt X.K (kf (setKs k vs κi)) κi q) (g1 := tgt X.K (kf (setKs (setKs k vs κi) vs2 κj)) κj q2) (tt1 := tevB X.K W0 (kf (setKs (setKs k vs κi) vs2 κj)) fun s p => (evE C F c s p).bd fun x p => .of (truD x) p) (te := tev X.K W0 (kf (setKs (setKs k vs κi) vs2 κj)) κe (evE C F a)) (tt := tevB X.K W0 (kf (setKs k vs κi)) fun _ p => .ok true p) (wi1 := titX X.K W0 (kf (setKs k vs κi)) ((isOwnIt (setKs k vs κi) ik2 l2).toList) κj fun s' p => (evEs C F l2 s' p).bd fun ds2 p => R.of (items ik2 ds2) p) G.calm G.nd hI (by rw [G.N, G.sc]; exact blkOk_by h2) (fun i hi => by rw [h3]; exact hs2 i hi) (fun s H Ca cl fp => okP_sound (G.blk scope s H Ca cl fp) hκ q tg h7) (fun s H Ca cl fp => eT_nil (W := W0) (k := kf (setKs k vs κi)))
            (fun s H Ca cl fp => (okIt_of hj (fun κ h => okI_sound l2 ik2 _ _ _ _ κ h _ _ (G.blk scope s H Ca cl fp)) (G.blk scope s H Ca cl fp)).2) (fun s H Ca cl fp => okP_sound (G.blk scope s H Ca cl fp) hκj q2 tg2 g4) (fun s H Ca cl fp => rcE _ _ (G.blk scope s H Ca cl fp))
            (fun s H Ca cl fp => (okX_sound a _ _ false _ _ ha _ _ (G.blk scope s H Ca cl fp)).1 rfl) (nsI_ok h1) (fun env x => nsI_ok g1 x)).weak fun σ H Q z => ?_) rfl
          rw [h3]
          refine lc2_read (fun i hi => by simpa using List.all_eq_true.mp h4 i hi) (fun i hi => setKs_out hi) hvs (fun i hi => by simpa using List.all_eq_true.mp g3 i hi) (fun i hi => setKs_out hi) (fun i hi => ?_) z
          rw [setKs_in (hs2 i hi) (hlt i (hs2 i hi))]
          exact hκ.symm
        · cases h
      · cases h
    · cases h
  | .fault a, Γ, k, t, e, κ, h, X, W, G => by
    simp only [okX] at h
    split at h
    · rename_i x p1 params body scope p2 p3
      replace h := if_some h; obtain ⟨⟨rfl, hg, hf, hgd, hnm, hl, hp⟩, h⟩ := h
      obtain ⟨κ', ha, rfl⟩ := Option.map_eq_some_iff.mp h
      obtain ⟨nm, hnm2⟩ := Option.isSome_iff_exists.mp hnm
      obtain ⟨j, h2, _, hr, hj⟩ := G.fns
      have e1 : evE C F (.fault a) = fun s p => fltR Γ.t.kt (evE C F a s p) := by
        funext s p
        simp only [evE]
        rw [G.flt hf]
      rw [e1]
      exact .of (ev_fault (G.tab.flt hf) G.tab.tbl (G.lam nm hnm2) (G.gd hgd) (G.gl hg) ((hr hnm).mono (by omega)) h2 (by rw [G.sc]; exact LamX.lamS_by hl) hp fun A outer s H E f c' hr2 => (okX_sound a _ _ false _ _ ha _ _ (G.lamb h2 hr2 hj)).1 rfl) rfl
    · cases h
  | .lamc f a l, Γ, k, t, e, κ, h, X, W, G => by
    simp only [okX] at h
    split at h
    · rename_i x p1 params body scope p2 ys p3
      replace h := if_some h; obtain ⟨⟨rfl, hg, hf, hgd, hnm, hl, hp⟩, h⟩ := h
      split at h
      · rename_i n rk κ1 κ' hs he ha
        replace h := if_some h; obtain ⟨hln, h⟩ := h
        cases h
        obtain ⟨nm, hnm2⟩ := Option.isSome_iff_exists.mp hnm
        obtain ⟨j, h2, _, hr, hj⟩ := G.fns
        obtain ⟨h1, h3, h5, h4⟩ := okEs_sound l Γ k _ _ he X W G
        have e1 : evE C F (.lamc x a l) = fun s p => (evEs C F l s p).bd fun ds p => (fltR Γ.t.kt (evE C F a s p)).bd fun d p => C x (d :: ds) p := by
          funext s p
          simp only [evE]
          rw [G.flt hf]
        rw [e1]
        exact .of (ev_lamc (hj.2.2 _ _ _ hs) G.tab.tbl (G.lam nm hnm2) (G.gd hgd) (G.gl hg) (hr hnm) h2 (Nat.le_refl _) (by rw [G.sc]; exact LamX.lamS_by hl) hp (fun A outer s H E f c' hr2 => (okX_sound a _ _ false _ _ ha _ _ (G.lamb h2 hr2 hj)).1 rfl) G.tk (h4 _ id) h1 (fun s p ds p' e => by rw [evEs_len l s p ds p' e]; exact hln) h3) rfl
      · cases h
    · cases h
theorem okEs_sound : ∀ (l : List E) (Γ : Cg) (k : List Kd) (es : List Expr) (κ : Kd), okEs l Γ k es = some κ → ∀ (X : Cx) (W : WX), GoodE Γ X W C F → OkEs C F X W (kf k) κ l es
  | [], Γ, k, es, κ, h, X, W, G => by
    simp only [okEs] at h
    replace h := if_some h; obtain ⟨he, h⟩ := h
    cases h
    obtain rfl := List.isEmpty_iff.mp he
    exact ⟨.inr rfl, rfl, rfl, fun κ' _ => ea_nil⟩
  | c :: l, Γ, k, es, κ, h, X, W, G => by
    simp only [okEs] at h
    split at h
    · replace h := if_some h; obtain ⟨hs, h⟩ := h
      split at h
      · rename_i ha hb
        cases h
        obtain ⟨h1, h2, h3, h4⟩ := okEs_sound l Γ k _ _ hb X W G
        have pa := (okX_sound c Γ k false _ _ ha X W G).1 rfl
        exact ⟨jn_cases _ _, by rw [List.all_cons, hs, h2]; rfl, by rw [List.length_cons, List.length_cons, h3], fun κ' hk => ea_cons pa (h4 κ' fun z => (jn_bo (hk z)).2) hs fun z => (jn_bo (hk z)).1⟩
      · cases h
    · cases h
theorem okO_sound : ∀ (l : List E) (Γ : Cg) (k : List Kd) (e : Option Expr), okO l Γ k e = true → ∀ (X : Cx) (W : WX), GoodE Γ X W C F → PO X e (tevO X.K W (kf k) fun s p => (evEs C F l s p).bd fun y p => R.of (endD y) p)
  | [], Γ, k, e, h, X, W, G => by
    simp only [okO, Option.isNone_iff_eq_none] at h
    subst h
    exact eo_none
  | c :: l, Γ, k, e, h, X, W, G => by
    simp only [okO] at h
    split at h
    · simp only [Bool.and_eq_true, List.isEmpty_iff] at h
      obtain ⟨rfl, h⟩ := h
      obtain ⟨κ', ha⟩ := Option.isSome_iff_exists.mp h
      have q : (fun s p => (evEs C F [c] s p).bd fun y p => R.of (endD y) p) = fun s p => (evE C F c s p).bd fun d p => R.of (endD [d]) p := by
        funext s p
        rw [seq1]
        dsimp only
        cases evE C F c s p <;> rfl
      rw [q]
      exact eo_some ((okX_sound c Γ k false _ _ ha X W G).1 rfl)
    · cases h
theorem okI_sound : ∀ (l : List E) (ik : Ik) (Γ : Cg) (k : List Kd) (tg e : Expr) (κ : Kd), okI ik l Γ k tg e = some κ → ∀ (X : Cx) (W : WX), GoodE Γ X W C F → (κ = .bo ∨ κ = .sh) ∧ PI X tg e (tit X.K W (kf k) κ fun s p => (evEs C F l s p).bd fun ds p => R.of (items ik ds) p)
  | [], ik, Γ, k, tg, e, κ, h, X, W, G => by simp only [okI] at h; cases h
  | c :: l, .val, Γ, k, tg, e, κ, h, X, W, G => by
    simp only [okI] at h
    replace h := if_some h; obtain ⟨hl, h⟩ := h
    obtain rfl := List.isEmpty_iff.mp hl
    obtain ⟨κa, ha, rfl⟩ := Option.map_eq_some_iff.mp h
    refine ⟨shK_cases _, ?_⟩
    rw [evs_val]
    exact ei_val ((okX_sound c Γ k false _ _ ha X W G).1 rfl)
  | c :: l, .rng, Γ, k, tg, e, κ, h, X, W, G => by
    simp only [okI] at h
    split at h
    · rename_i x p1 y ys p2
      replace h := if_some h; obtain ⟨⟨rfl, hb, hn, hl⟩, h⟩ := h
      split at h
      · rename_i ha hb2
        cases h
        refine ⟨.inr rfl, ?_⟩
        obtain ⟨q1, q2, q3, q4⟩ := okEs_sound l Γ k _ _ hb2 X W G
        obtain ⟨hg, hm⟩ := G.bl hb
        have pa := (okX_sound c Γ k false _ _ ha X W G).1 rfl
        have pA := ea_cons (κ := .bo) pa (q4 .bo fun z => absurd rfl z) hn fun z => absurd rfl z
        have pA : PA X (_ :: _) (tevs X.K W (kf k) .bo (evEs C F (c :: l))) := pA
        cases l with
        | nil =>
          cases ys with
          | nil => exact ei_rng1 rfl hg hm pA hn fun s p ds p' e => evEs_len _ _ _ _ _ e
          | cons y ys => simp at q3
        | cons c2 l =>
          cases l with
          | nil =>
            cases ys with
            | nil => simp at q3
            | cons y ys =>
              cases ys with
              | nil =>
                rw [List.all_cons, Bool.and_eq_true] at q2
                exact ei_rng2 rfl hg hm pA hn q2.1 fun s p ds p' e => evEs_len _ _ _ _ _ e
              | cons y2 ys => simp at q3
          | cons c3 l => exact absurd hl (by simp only [List.length_cons]; omega)
      · cases h
    · cases h
  | c :: l, .rg3, Γ, k, tg, e, κ, h, X, W, G => by
    simp only [okI] at h
    split at h
    · rename_i x p1 y z v p2
      replace h := if_some h; obtain ⟨⟨rfl, hb, hn, hl⟩, h⟩ := h
      split at h
      · rename_i ha hb2
        cases h
        refine ⟨.inr rfl, ?_⟩
        obtain ⟨q1, q2, q3, q4⟩ := okEs_sound l Γ k _ _ hb2 X W G
        obtain ⟨hg, hm⟩ := G.bl hb
        have pa := (okX_sound c Γ k false _ _ ha X W G).1 rfl
        have pA := ea_cons (κ := .bo) pa (q4 .bo fun z => absurd rfl z) hn fun z => absurd rfl z
        have pA : PA X [y, z, v] (tevs X.K W (kf k) .bo (evEs C F (c :: l))) := pA
        rw [List.all_cons, Bool.and_eq_true, List.all_cons, Bool.and_eq_true] at q2
        exact ei_rng3 rfl hg hm pA hn q2.1 q2.2.1 fun s p ds p' e => by rw [evEs_len _ _ _ _ _ e, List.length_cons, hl]
      · cases h
    · cases h
  | c :: l, .zip, Γ, k, tg, e, κ, h, X, W, G => by
    simp only [okI] at h
    split at h
    · rename_i x p1 y z p2
      replace h := if_some h; obtain ⟨⟨rfl, hb, hn, ht, hl⟩, h⟩ := h
      split at h
      · rename_i κa κb ha hb2
        cases h
        refine ⟨jn_cases _ _, ?_⟩
        obtain ⟨q1, q2, q3, q4⟩ := okEs_sound l Γ k _ _ hb2 X W G
        obtain ⟨hg, hm⟩ := G.bl hb
        have pa := (okX_sound c Γ k false _ _ ha X W G).1 rfl
        have pA := ea_cons (κ := jn κa κb) pa (q4 (jn κa κb) fun z => (jn_bo z).2) hn fun z => (jn_bo z).1
        have pA : PA X [y, z] (tevs X.K W (kf k) (jn κa κb) (evEs C F (c :: l))) := pA
        rw [List.all_cons, Bool.and_eq_true] at q2
        cases tg with
        | Tuple elts kk tpos => exact ei_zip rfl (jn_cases _ _) hg hm pA hn q2.1 fun s p ds p' e => by rw [evEs_len _ _ _ _ _ e, List.length_cons, hl]
        | _ => cases ht
      · cases h
    · cases h
  | c :: l, .enm, Γ, k, tg, e, κ, h, X, W, G => by
    simp only [okI] at h
    split at h
    · rename_i x p1 y p2
      replace h := if_some h; obtain ⟨⟨hx, hb, hn, ht, hl⟩, h⟩ := h
      obtain rfl := List.eq_nil_of_length_eq_zero hl
      obtain ⟨κa, ha, rfl⟩ := Option.map_eq_some_iff.mp h
      refine ⟨shK_cases _, ?_⟩
      obtain ⟨hg, hm⟩ := G.bl hb
      have pa := (okX_sound c Γ k false _ _ ha X W G).1 rfl
      have pA := ea_cons (κ := shK κa) pa ea_nil hn fun z => shK_bo z
      have pA : PA X [y] (tevs X.K W (kf k) (shK κa) (evEs C F [c])) := pA
      cases tg with
      | Tuple elts kk tpos => exact ei_enum hx (shK_cases _) hg hm pA hn fun s p ds p' e => evEs_len _ _ _ _ _ e
      | _ => cases ht
    · cases h
end
end
end Mc

/-! Mc19: pairs, walks over one's own list, stores. -/
namespace Mc
open PySem PySem.Spec PyProof.Rows L2
section
variable {X : Cx} {W : WX} {k k' kl k1 k2 : Nat → Kd} {κ κ' κa κb κc : Kd} {rk : Nat} {a b c e ix : Expr} {es : List Expr} {st : Stmt} {sts body : List Stmt} {ra rb rc re ri : Sl → P → R Mc.D} {rs : Sl → P → R (List Mc.D)} {r1 r2 : Sl → P → R (Fl × Sl)} {ms ms1 ms2 bs : List Nat} {pos p q q2 apos : Pos} {i j l : Nat} {x y z : Str}
/-- drop, then store two or three -/
theorem setAll_wipe : ∀ {is : List Nat} {ds : List Mc.D} {s s' : Sl}, setAll is ds s = some s' → ∀ t : Sl, t.length = s.length → ∃ t', setAll is ds t = some t' ∧ t'.length = s'.length ∧ ∀ j : Nat, (j ∈ is ∨ t[j]? = s[j]?) → t'[j]? = s'[j]?
  | [], [], s, s', h, t, hl => by
    simp only [setAll, Option.some.injEq] at h
    subst h
    exact ⟨t, rfl, hl, fun j hj => hj.elim (fun z => nomatch z) id⟩
  | [], _ :: _, s, s', h, t, hl => by simp only [setAll] at h; cases h
  | _ :: _, [], s, s', h, t, hl => by simp only [setAll] at h; cases h
  | i :: r, d :: ds, s, s', h, t, hl => by
    simp only [setAll] at h ⊢
    obtain ⟨t', e, l1, hj⟩ := setAll_wipe h (t.set i (some d)) (by rw [List.length_set, List.length_set, hl])
    refine ⟨t', e, l1, fun j q => hj j ?_⟩
    by_cases z : i = j
    · subst z
      right
      rw [List.getElem?_set, List.getElem?_set, hl]
      simp
    · rcases q with q | q
      · exact .inl ((List.mem_cons.mp q).resolve_left (Ne.symm z))
      · right
        rw [List.getElem?_set_ne z, List.getElem?_set_ne z, q]
theorem setAll_wipe' {is : List Nat} {ds : List Mc.D} {s s' : Sl} (h : setAll is ds s = some s') : setAll is ds (wipeS s is) = some s' := by
  obtain ⟨t', e, hl, hj⟩ := setAll_wipe h (wipeS s is) (wipeS_len _)
  rw [e]
  congr 1
  apply List.ext_getElem?
  intro j
  refine hj j ?_
  by_cases c : j ∈ is
  · exact .inl c
  · right
    rw [wipeS_get, if_neg c]
theorem es_par2 (hc : X.calm = true) (hN : X.N.Nodup) (hi : X.N[i]? = some x) (hj : X.N[j]? = some y) (hij : i ≠ j) (hx : X.env.scope.names.lookup x = some .local) (hy : X.env.scope.names.lookup y = some .local) {px py pt : Pos} {kt kt2 pt2} (ha : PA X [a, b] (tevs X.K W k κ rs))
    (hw : swappedStores [.Tuple [.Name x px, .Name y py] kt pt] (.Tuple [a, b] kt2 pt2) X.env = pure (some [x, y])) (hκ : κ = .bo ∨ κ = .sh) (hk : ∀ n, n ∉ [i, j] → k2 n = k n) (h1 : k2 i = κ) (h2 : k2 j = κ) :
    PS X (.Assign [.Tuple [.Name x px, .Name y py] kt pt] (.Tuple [a, b] kt2 pt2) pos) (tsS X.K W k k2 kl rk [i, j] fun s p => (rs s p).bd fun ds p => match setAll [i, j] ds s with | some s' => .ok (.nx, s') p | none => .bad) := by
  refine (ps_par hc hN hi hj hij hx hy ha hw).weak fun En σ H ⟨m, pa, hr, h⟩ => ?_
  refine ts_bds (κ := κ) hr h fun ds p vs H1 e hk1 hr1 hv g1 => ?_
  cases es : setAll [i, j] ds m.s with
  | none => rw [es] at g1; exact g1.elim
  | some s' =>
    rw [es] at g1
    have g1 : ∀ σ' H' fp', Rel X.K pa k2 σ' H' { m with s := s', p := p, fp := fp' } → Fm pa [i, j] m.fp H1 fp' H' → En.nx σ' H' := g1
    have es2 := setAll_wipe' es
    cases ds with
    | nil => simp only [setAll] at es; cases es
    | cons d1 ds =>
      cases ds with
      | nil => simp only [setAll] at es; cases es
      | cons d2 ds =>
        cases ds with
        | cons _ _ => simp only [setAll] at es; cases es
        | nil =>
          obtain ⟨v1, v2, rfl, q1, q2⟩ := rds2 hv
          refine ⟨v1, v2, rfl, ?_⟩
          have hd := hr1.drop (vs := [i, j]) hk
          have q1 : RD X.K pa (κ.base { m with p := p }) H1 d1 v1 := by rw [Kd.base_p]; exact q1
          have q2 : RD X.K pa (κ.base { m with p := p }) H1 d2 v2 := by rw [Kd.base_p]; exact q2
          have hs := (hd.set hκ h1 (RD.dropped (m := { m with p := p }) hκ q1)).set (i := j) hκ h2 (by rw [Kd.base_s]; exact RD.dropped (m := { m with p := p }) hκ q2)
          refine g1 _ H1 _ ?_ (.drop (vs := [i, j]) fun _ z => z)
          have e3 : ((wipeS m.s [i, j]).set i (some d1)).set j (some d2) = s' := by
            simp only [setAll] at es2
            exact Option.some.inj es2
          rw [← e3]
          exact hs
theorem es_par3 (hc : X.calm = true) (hN : X.N.Nodup) (hi : X.N[i]? = some x) (hj : X.N[j]? = some y) (hl : X.N[l]? = some z) (hij : i ≠ j) (hil : i ≠ l) (hjl : j ≠ l) (hx : X.env.scope.names.lookup x = some .local) (hy : X.env.scope.names.lookup y = some .local) (hz : X.env.scope.names.lookup z = some .local) {px py pz pt : Pos} {kt kt2 pt2} (ha : PA X [a, b, c] (tevs X.K W k κ rs))
    (hw : swappedStores [.Tuple [.Name x px, .Name y py, .Name z pz] kt pt] (.Tuple [a, b, c] kt2 pt2) X.env = pure (some [x, y, z])) (hκ : κ = .bo ∨ κ = .sh) (hk : ∀ n, n ∉ [i, j, l] → k2 n = k n) (h1 : k2 i = κ) (h2 : k2 j = κ) (h3 : k2 l = κ) :
    PS X (.Assign [.Tuple [.Name x px, .Name y py, .Name z pz] kt pt] (.Tuple [a, b, c] kt2 pt2) pos) (tsS X.K W k k2 kl rk [i, j, l] fun s p => (rs s p).bd fun ds p => match setAll [i, j, l] ds s with | some s' => .ok (.nx, s') p | none => .bad) := by
  refine (ps_par3 hc hN hi hj hl hij hil hjl hx hy hz ha hw).weak fun En σ H ⟨m, pa, hr, h⟩ => ?_
  refine ts_bds (κ := κ) hr h fun ds p vs H1 e hk1 hr1 hv g1 => ?_
  cases es : setAll [i, j, l] ds m.s with
  | none => rw [es] at g1; exact g1.elim
  | some s' =>
    rw [es] at g1
    have g1 : ∀ σ' H' fp', Rel X.K pa k2 σ' H' { m with s := s', p := p, fp := fp' } → Fm pa [i, j, l] m.fp H1 fp' H' → En.nx σ' H' := g1
    have es2 := setAll_wipe' es
    cases ds with
    | nil => simp only [setAll] at es; cases es
    | cons d1 ds =>
      cases ds with
      | nil => simp only [setAll] at es; cases es
      | cons d2 ds =>
        cases ds with
        | nil => simp only [setAll] at es; cases es
        | cons d3 ds =>
          cases ds with
          | cons _ _ => simp only [setAll] at es; cases es
          | nil =>
            simp only [RDs] at hv
            obtain ⟨v1, _, rfl, q1, v2, _, rfl, q2, v3, _, rfl, q3, rfl⟩ := hv
            refine ⟨v1, v2, v3, rfl, ?_⟩
            have hd := hr1.drop (vs := [i, j, l]) hk
            have q1 : RD X.K pa (κ.base { m with p := p }) H1 d1 v1 := by rw [Kd.base_p]; exact q1
            have q2 : RD X.K pa (κ.base { m with p := p }) H1 d2 v2 := by rw [Kd.base_p]; exact q2
            have q3 : RD X.K pa (κ.base { m with p := p }) H1 d3 v3 := by rw [Kd.base_p]; exact q3
            have hs := ((hd.set hκ h1 (RD.dropped (m := { m with p := p }) hκ q1)).set (i := j) hκ h2 (by rw [Kd.base_s]; exact RD.dropped (m := { m with p := p }) hκ q2)).set (i := l) hκ h3 (by rw [Kd.base_s, Kd.base_s]; exact RD.dropped (m := { m with p := p }) hκ q3)
            refine g1 _ H1 _ ?_ (.drop (vs := [i, j, l]) fun _ z => z)
            have e3 : (((wipeS m.s [i, j, l]).set i (some d1)).set j (some d2)).set l (some d3) = s' := by
              simp only [setAll] at es2
              exact Option.some.inj es2
            rw [← e3]
            exact hs
/-! ### which stores are the plain ones -/
def isLc : Expr → Bool
  | .ListComp _ _ _ _ => true
  | .SetComp _ _ _ _ => true
  | .DictComp _ _ _ _ _ => true
  | _ => false
theorem sw_no {e : Expr} {t : Option Expr} {l : Nat} {env : Env} (h : isLc e = false) : swapsWith e t l env = pure false := by
  cases e <;> first | rfl | cases h
def isTup : Expr → Bool
  | .Tuple _ _ _ => true
  | _ => false
theorem ss_no {e : Expr} {t : Expr} {env : Env} (h : isTup e = false) : swappedStores [t] e env = pure none := by
  cases e <;> first | (cases t <;> rfl) | cases h
theorem ss_nm {e : Expr} {x : Str} {p : Pos} {env : Env} : swappedStores [.Name x p] e env = pure none := by
  cases e <;> rfl
theorem ae1 {t : Expr} {env : Env} (h : noStar t = true) : (assignEach [t] env).map (·.2) = [assign t env] := by
  rw [assignEach_cons h] <;> rfl
/-- the pair is made, then taken apart -/
def isNm : Expr → Bool
  | .Name _ _ => true
  | _ => false
def ssB : Expr → Expr → Bool
  | .Tuple ts _ _, .Tuple vs _ _ => !(ts.length == 2 || ts.length == 3) || vs.length != ts.length || !(ts.all isNm) || vs.all (foldedForSure 8)
  | _, v => !isTup v
theorem filterMap_short {α β : Type} (f : α → Option β) (p : α → Bool) (h : ∀ a, p a = false → f a = none) : ∀ l : List α, l.all p = false → (l.filterMap f).length < l.length
  | [], e => by cases e
  | a :: l, e => by
    rw [List.all_cons] at e
    rw [List.filterMap_cons]
    cases q : p a with
    | false =>
      rw [h a q]
      have := List.length_filterMap_le f l
      rw [List.length_cons]
      exact Nat.lt_succ_of_le this
    | true =>
      rw [q, Bool.true_and] at e
      have ih := filterMap_short f p h l e
      cases f a with
      | none => rw [List.length_cons]; exact Nat.lt_succ_of_lt ih
      | some b => rw [List.length_cons, List.length_cons]; exact Nat.succ_lt_succ ih
theorem ss_B {t v : Expr} {env : Env} (h : ssB t v = true) : swappedStores [t] v env = pure none := by
  unfold ssB at h
  split at h
  · rename_i ts k1 p1 vs k2 p2
    unfold swappedStores
    dsimp only
    split
    · rfl
    · rename_i c1
      split
      · rfl
      · rename_i c2
        simp only [Bool.or_eq_true, Bool.not_eq_true'] at h
        rcases h with ((h | h) | h) | h
        · exact absurd (by simp [h]) c1
        · exact absurd (by simp [h]) c1
        · rw [if_pos]
          rw [Bool.or_eq_true]
          left
          have z : ∀ f : Expr → Option Str, (∀ a, isNm a = false → f a = none) → ((ts.filterMap f).length != ts.length) = true := fun f hf => by
            have := filterMap_short f isNm hf ts h
            rw [bne_iff_ne]; omega
          refine z _ fun a ha => ?_
          cases a <;> first | rfl | cases ha
        · split
          · rfl
          · first | rfl | (rw [if_pos h]; rfl)
  · exact ss_no (by simpa using h)
/-- one of the names is no local one -/
def ssC (sc : Scope) : Expr → Expr → Bool
  | .Tuple ts _ _, .Tuple _ _ _ => ts.any fun t => match t with
    | .Name id _ => !decide (sc.names.lookup id = some .local)
    | _ => false
  | _, _ => false
theorem ss_C {t v : Expr} {env : Env} (h : ssC env.scope t v = true) : swappedStores [t] v env = pure none := by
  unfold ssC at h
  split at h
  · rename_i ts k1 p1 vs k2 p2
    unfold swappedStores
    dsimp only
    split
    · rfl
    · split
      · rfl
      · rw [if_pos]
        rw [Bool.or_eq_true]
        left
        have z : ∀ f : Expr → Option Str, (∀ t, (match t with
            | .Name id _ => !decide (env.scope.names.lookup id = some .local)
            | _ => false) = true → f t = none) → ((ts.filterMap f).length != ts.length) = true := fun f hf => by
          have := filterMap_short f (fun t => !(match t with
            | .Name id _ => !decide (env.scope.names.lookup id = some .local)
            | _ => false)) (fun a ha => hf a (by simpa using ha)) ts (by
              obtain ⟨t, ht, hp⟩ := List.any_eq_true.mp h
              cases e : ts.all (fun t => !(match t with
                | .Name id _ => !decide (env.scope.names.lookup id = some .local)
                | _ => false)) with
              | false => rfl
              | true =>
                have := List.all_eq_true.mp e t ht
                rw [hp] at this
                cases this)
          rw [bne_iff_ne]; omega
        refine z _ fun a ha => ?_
        cases a with
        | Name id pos =>
          simp only [Bool.not_eq_true', decide_eq_false_iff_not] at ha
          have e : (env.kindOf id == some NameKind.local) = false := by
            unfold Env.kindOf
            simpa using ha
          simp only [e, Bool.false_and]
          rfl
        | _ => cases ha
  · cases h
/-- the comprehension takes the name's place -/
def swB (sc scope : Scope) (y : Str) (py : Pos) (pos : Pos) : Bool := decide (sc.kind = .function) && decide (sc.names.lookup y = some .local) && (py.line == pos.line) && !(scope.names.any fun (n, k) => n == y && (k == .local || k == .cell))
def swF (sc : Scope) (py : Pos) (pos : Pos) : Bool := decide (sc.kind = .function) && !(py.line == pos.line)
theorem sw_par2 {x y : Str} {px py pt : Pos} {kt kt2 pt2} {a b : Expr} {env : Env} (hk : env.scope.kind = .function) (hx : env.scope.names.lookup x = some .local) (hy : env.scope.names.lookup y = some .local) (hxy : x ≠ y) (hl : (py.line == px.line) = true) (ha : noStar a = true) (hb : noStar b = true)
    (hf : [a, b].all (foldedForSure 8) = false) (hc : [a, b].all (constantsAlone 8) = false) : swappedStores [.Tuple [.Name x px, .Name y py] kt pt] (.Tuple [a, b] kt2 pt2) env = pure (some [x, y]) := by
  have kx : env.kindOf x = some .local := hx
  have ky : env.kindOf y = some .local := hy
  have hB : env.blockKind = .function := by unfold Env.blockKind; rw [hk]; rfl
  unfold swappedStores
  have e1 : (List.filterMap (fun t => match t with
      | Expr.Name id pos => if (env.kindOf id == some .local && pos.line == px.line) = true then some id else none
      | _ => none) [Expr.Name x px, .Name y py]) = [x, y] := by
    simp only [List.filterMap_cons, kx, ky, hl, beq_self_eq_true, Bool.and_self, if_true, List.filterMap_nil, Bool.true_and]
  have e2 : ([x, y].length != 2) = false := rfl
  have e3 : ([x, y].eraseDups.length != [x, y].length) = false := by
    have : [x, y].eraseDups = [x, y] := by
      simp [List.eraseDups_cons, Ne.symm hxy]
    rw [this]; rfl
  dsimp only
  split
  · rename_i h
    simp [hB] at h
  · split
    · rename_i h
      exfalso
      simp only [List.any_cons, List.any_nil, Bool.or_false, Bool.or_eq_true] at h
      rcases h with h | h
      · cases a <;> first | (cases ha; done) | exact absurd h Bool.false_ne_true
      · cases b <;> first | (cases hb; done) | exact absurd h Bool.false_ne_true
    · have key : ∀ l : List Str, l = [x, y] → (if (l.length != 2 || l.eraseDups.length != l.length) = true then (pure none : Sem (Option (List Str))) else if [a, b].all (foldedForSure 8) = true then pure none else if [a, b].all (constantsAlone 8) = true then (do let _ ← (unsupported "assign.tuple-of-constant-expressions:order-of-the-stores" : Sem Unit); pure (some l)) else pure (some l)) = pure (some [x, y]) := fun l e => by
        subst e
        rw [e2, e3, hf, hc]
        rfl
      exact key _ e1
theorem sw_par3 {x y z : Str} {px py pz pt : Pos} {kt kt2 pt2} {a b c : Expr} {env : Env} (hk : env.scope.kind = .function) (hx : env.scope.names.lookup x = some .local) (hy : env.scope.names.lookup y = some .local) (hz : env.scope.names.lookup z = some .local) (hxy : x ≠ y) (hxz : x ≠ z) (hyz : y ≠ z) (hl : (py.line == px.line) = true) (hl2 : (pz.line == px.line) = true) (ha : noStar a = true) (hb : noStar b = true) (hcc : noStar c = true)
    (hf : [a, b, c].all (foldedForSure 8) = false) (hc : [a, b, c].all (constantsAlone 8) = false) : swappedStores [.Tuple [.Name x px, .Name y py, .Name z pz] kt pt] (.Tuple [a, b, c] kt2 pt2) env = pure (some [x, y, z]) := by
  have kx : env.kindOf x = some .local := hx
  have ky : env.kindOf y = some .local := hy
  have kz : env.kindOf z = some .local := hz
  have hB : env.blockKind = .function := by unfold Env.blockKind; rw [hk]; rfl
  unfold swappedStores
  have e1 : (List.filterMap (fun t => match t with
      | Expr.Name id pos => if (env.kindOf id == some .local && pos.line == px.line) = true then some id else none
      | _ => none) [Expr.Name x px, .Name y py, .Name z pz]) = [x, y, z] := by
    simp only [List.filterMap_cons, kx, ky, kz, hl, hl2, beq_self_eq_true, Bool.and_self, if_true, List.filterMap_nil, Bool.true_and]
  have e2 : ([x, y, z].length != 3) = false := rfl
  have e3 : ([x, y, z].eraseDups.length != [x, y, z].length) = false := by
    have : [x, y, z].eraseDups = [x, y, z] := by
      simp [List.eraseDups_cons, Ne.symm hxy, Ne.symm hxz, Ne.symm hyz]
    rw [this]; rfl
  dsimp only
  split
  · rename_i h
    simp [hB] at h
  · split
    · rename_i h
      exfalso
      simp only [List.any_cons, List.any_nil, Bool.or_false, Bool.or_eq_true] at h
      rcases h with h | h | h
      · cases a <;> first | (cases ha; done) | exact absurd h Bool.false_ne_true
      · cases b <;> first | (cases hb; done) | exact absurd h Bool.false_ne_true
      · cases c <;> first | (cases hcc; done) | exact absurd h Bool.false_ne_true
    · have key : ∀ l : List Str, l = [x, y, z] → (if (l.length != 3 || l.eraseDups.length != l.length) = true then (pure none : Sem (Option (List Str))) else if [a, b, c].all (foldedForSure 8) = true then pure none else if [a, b, c].all (constantsAlone 8) = true then (do let _ ← (unsupported "assign.tuple-of-constant-expressions:order-of-the-stores" : Sem Unit); pure (some l)) else pure (some l)) = pure (some [x, y, z]) := fun l e => by
        subst e
        rw [e2, e3, hf, hc]
        rfl
      exact key _ e1
end
end Mc

/-! Mc19b: pairs with lists of one's own. -/
namespace Mc
open PySem PySem.Spec PyProof.Rows L2
section
variable {K : PySem.W.Frag} {pa : Pa} {k k2 kl : Nat → Kd} {σ σ' : L2.St} {H Hc H1 : Hp} {m mm : Ms} {W : WX} {κ : Kd} {rk : Nat} {En : Ends} {p p1 : Pen} {M1 : Addr → Prop} {is rem : List Nat} {sR : Sl} {fpR : Nat → List Addr}
structure ParI (K : PySem.W.Frag) (pa : Pa) (k k2 : Nat → Kd) (σ : L2.St) (m : Ms) (H Hc : Hp) (p : Pen) (M1 : Addr → Prop) (is rem : List Nat) (σ' : L2.St) (sR : Sl) (fpR : Nat → List Addr) : Prop where
  ev : Rel K pa k σ Hc { m with p := p, M0 := M1 }
  tg : Rel K pa k2 σ' Hc { m with s := sR, p := p, fp := fpR }
  le : ∀ a, m.M0 a → M1 a
  fresh : ∀ a, M1 a → m.M0 a ∨ H a = none
  sub : ∀ i a, a ∈ fpR i → (∃ j, a ∈ m.fp j) ∨ M1 a
  same : ∀ i, i ∉ is → fpR i = m.fp i
  new : ∀ i ∈ is, ∀ a ∈ fpR i, H a = none
  emp : ∀ i ∈ rem, fpR i = []
  kp : Keep pa H Hc
  pen : PenR pa m.M0 p Hc
theorem ParI.start (hr : Rel K pa k σ H m) (hk : ∀ i, i ∉ is → k2 i = k i) : ParI K pa k k2 σ m H H m.p m.M0 is is σ (wipeS m.s is) (fun i => if i ∈ is then [] else m.fp i) where
  ev := hr
  tg := hr.drop hk
  le := fun _ z => z
  fresh := fun _ z => .inl z
  sub := fun i a ha => by
    split at ha
    · cases ha
    · exact .inl ⟨i, ha⟩
  same := fun i hi => if_neg hi
  new := fun i hi a ha => by rw [if_pos hi] at ha; cases ha
  emp := fun i hi => if_pos hi
  kp := .refl
  pen := hr.pen
theorem ParI.step {i : Nat} {d : Mc.D} {v : V} (I : ParI K pa k k2 σ m H Hc p M1 is (i :: rem) σ' sR fpR) (his : i ∈ is) (hn : i ∉ rem) (hl : i < sR.length) (hκ : κ ≠ .bo) (hki : k2 i = κ) (hk : Keep pa Hc H1) (hp : PenR pa M1 p1 H1) (hv : VR K pa { m with p := p, M0 := M1 } Hc H1 κ d v) :
    ∃ M2 fp2, ParI K pa k k2 σ m H H1 p1 M2 is rem (σ'.set i (some v)) (sR.set i (some d)) fp2 := by
  have mR : ∀ a, Ms.M { m with s := sR, p := p, fp := fpR } a → Ms.M { m with p := p, M0 := M1 } a := fun a z => by
    rcases z with z | ⟨j, z⟩
    · exact .inl (I.le a z)
    · rcases I.sub j a z with y | y
      · exact .inr y
      · exact .inl y
  have pen1 : PenR pa m.M0 p1 H1 := hp.re I.pen
  have pen1 : PenR pa m.M0 p1 H1 := ⟨I.pen.m1, I.pen.m2, hp.ne, hp.d, hp.c, I.pen.tm, hp.tb⟩
  cases κ with
  | bo => exact absurd rfl hκ
  | sh =>
    refine ⟨M1, fpR, ⟨?_, ?_, I.le, I.fresh, I.sub, I.same, I.new, fun j hj => I.emp j (List.mem_cons_of_mem _ hj), I.kp.trans hk, pen1⟩⟩
    · exact I.ev.keep (p' := p1) hk hp
    · refine (I.tg.keep (p' := p1) hk pen1).set (κ := .sh) (.inr rfl) hki (RD.stay (fun _ _ _ e => e) (fun a n _ z => n (mR a z)) d v ?_)
      exact hv
  | fr n =>
    obtain ⟨f, o, nd, fr⟩ := hv
    refine ⟨fun a => M1 a ∨ a ∈ f, fun j => if j = i then f else fpR j, ⟨?_, ?_, fun a z => .inl (I.le a z), fun a z => ?_, fun j a ha => ?_, fun j hj => ?_, fun j hj a ha => ?_, fun j hj => ?_, I.kp.trans hk, pen1⟩⟩
    · refine I.ev.holdF (p1 := p1) hk hp fun a ha => ⟨fr a ha, ?_⟩
      obtain ⟨xs, e⟩ := Own.at o a ha
      rw [e]; exact fun z => nomatch z
    · exact I.tg.own (p := p1) hk pen1 (I.emp i List.mem_cons_self) hki hl (Own.stay (fun _ _ _ e => e) (fun a n _ z => n (z.imp (mR a) id)) o) nd fr
    · rcases z with z | z
      · exact I.fresh a z
      · exact .inr (back_none I.kp I.pen.at (fr a z))
    · split at ha
      · exact .inr (.inr ha)
      · exact (I.sub j a ha).imp id .inl
    · rw [if_neg (fun z => hj (by rw [z]; exact his))]
      exact I.same j hj
    · split at ha
      · exact back_none I.kp I.pen.at (fr a ha)
      · exact I.new j hj a ha
    · rw [if_neg (fun z => hn (by rw [← z]; exact hj))]
      exact I.emp j (List.mem_cons_of_mem _ hj)
theorem ParI.ev1 {i : Nat} {r : Sl → P → R Mc.D} {f : Mc.D → P → R (Fl × Sl)} {Z : VK} (I : ParI K pa k k2 σ m H Hc p M1 is (i :: rem) σ' sR fpR) (his : i ∈ is) (hn : i ∉ rem) (hl : i < sR.length) (hκ : κ ≠ .bo) (hki : k2 i = κ) (h : PostS K pa W k2 kl rk is m H ((r m.s p).bd f) En)
    (go : ∀ d p1 v H1 M2 fp2, ParI K pa k k2 σ m H H1 p1 M2 is rem (σ'.set i (some v)) (sR.set i (some d)) fp2 → PostS K pa W k2 kl rk is m H (f d p1) En → Z v H1) : tev K W k κ r σ Hc Z := by
  refine ⟨_, pa, I.ev, ?_⟩
  show Post K pa W σ _ Hc κ (r m.s p) Z
  cases e : r m.s p with
  | ok d p1 =>
    rw [e] at h
    intro v H1 hk hp hv
    obtain ⟨M2, fp2, J⟩ := I.step his hn hl hκ hki hk hp hv
    exact go d p1 v H1 M2 fp2 J h
  | err x p1 =>
    rw [e] at h
    intro cls dd H1 hk hp hx
    refine h cls dd H1 σ (I.tg.kp.trans hk) ⟨I.pen.m1, I.pen.m2, hp.ne, hp.d, hp.c, I.pen.tm, hp.tb⟩ ?_
    obtain ⟨h1, h2⟩ := hx
    refine ⟨h1, ?_⟩
    rcases h2 with h2 | ⟨e, fs, xs, a1, a2, a3, a4, a5, a6⟩
    · exact .inl h2
    · exact .inr ⟨e, fs, xs, a1, a2, fun z => a3 (I.le e z), a4, RDs.stay (fun _ _ _ e => e) (fun a n _ z => n (I.le a z)) _ _ a5, a6⟩
  | bad =>
    rw [e] at h
    exact h
theorem ParI.keep (I : ParI K pa k k2 σ m H Hc p M1 is rem σ' sR fpR) (hk : Keep pa Hc H1) (hp : PenR pa M1 p H1) : ParI K pa k k2 σ m H H1 p M1 is rem σ' sR fpR :=
  have pen1 : PenR pa m.M0 p H1 := ⟨I.pen.m1, I.pen.m2, hp.ne, hp.d, hp.c, I.pen.tm, hp.tb⟩
  ⟨I.ev.keep (p' := p) hk hp, I.tg.keep (p' := p) hk pen1, I.le, I.fresh, I.sub, I.same, I.new, I.emp, I.kp.trans hk, pen1⟩
theorem ParI.fin {s' : Sl} {rem : List Nat} (I : ParI K pa k k2 σ m H Hc p M1 is rem σ' sR fpR) (e : sR = s') (g : ∀ σ' H' fp', Rel K pa k2 σ' H' { m with s := s', p := p, fp := fp' } → Fm pa is m.fp H fp' H' → En.nx σ' H') : En.nx σ' Hc := by
  subst e
  exact g σ' Hc fpR I.tg ⟨fun a o n _ e => I.kp a o n e, I.same, fun i hi a ha => .inr (I.new i hi a ha)⟩
end
section
variable {X : Cx} {W : WX} {k kl k2 : Nat → Kd} {κa κb κc : Kd} {rk : Nat} {a b c : Expr} {ra rb rc : Sl → P → R Mc.D} {pos : Pos} {i j l : Nat} {x y z : Str}
theorem es_parF2 (hc : X.calm = true) (hN : X.N.Nodup) (hi : X.N[i]? = some x) (hj : X.N[j]? = some y) (hij : i ≠ j) (hx : X.env.scope.names.lookup x = some .local) (hy : X.env.scope.names.lookup y = some .local) {px py pt : Pos} {kt kt2 pt2} (ha : PE X a (tev X.K W k κa ra)) (hb : PE X b (tev X.K W k κb rb)) (sa : noStar a = true) (sb : noStar b = true)
    (hw : swappedStores [.Tuple [.Name x px, .Name y py] kt pt] (.Tuple [a, b] kt2 pt2) X.env = pure (some [x, y])) (ka : κa ≠ .bo) (kb : κb ≠ .bo) (hk : ∀ n, n ∉ [i, j] → k2 n = k n) (h1 : k2 i = κa) (h2 : k2 j = κb) :
    PS X (.Assign [.Tuple [.Name x px, .Name y py] kt pt] (.Tuple [a, b] kt2 pt2) pos) (tsS X.K W k k2 kl rk [i, j] fun s p => (ra s p).bd fun d1 p => (rb s p).bd fun d2 p => match setAll [i, j] [d1, d2] s with | some s' => .ok (.nx, s') p | none => .bad) := by
  refine ⟨fun pins s σ H En I ⟨m, pa, hr, h⟩ => (ps_par hc hN hi hj hij hx hy (pa_cons ha (pa_cons hb pa_nil (star_cons sb)) (star_cons sa)) hw).run pins s σ H En I ?_⟩
  have h : PostS X.K pa W k2 kl rk [i, j] m H ((ra m.s m.p).bd fun d1 p => (rb m.s p).bd fun d2 p => match setAll [i, j] [d1, d2] m.s with | some s' => .ok (.nx, s') p | none => .bad) En := h
  have li : i < m.s.length := by rw [← hr.len, I.len]; exact (List.getElem?_eq_some_iff.mp hi).1
  have lj : j < m.s.length := by rw [← hr.len, I.len]; exact (List.getElem?_eq_some_iff.mp hj).1
  refine (ParI.start (k2 := k2) (is := [i, j]) hr hk).ev1 List.mem_cons_self (by simpa using hij) (by rw [wipeS_len]; exact li) ka h1 h fun d1 p1 v1 H1 M1 fp1 I1 h => ?_
  refine I1.ev1 (List.mem_cons_of_mem _ List.mem_cons_self) (fun z => nomatch z) (by rw [List.length_set, wipeS_len]; exact lj) kb h2 h fun d2 p2 v2 H2 M2 fp2 I2 h => ?_
  refine ⟨v1, v2, rfl, ?_⟩
  cases es : setAll [i, j] [d1, d2] m.s with
  | none => rw [es] at h; exact h.elim
  | some s' =>
    rw [es] at h
    have es2 := setAll_wipe' es
    refine I2.fin (s' := s') ?_ h
    simp only [setAll] at es2
    exact Option.some.inj es2
/-- the same, the pair made and taken apart -/
theorem es_parT2 (hc : X.calm = true) (hi : X.N[i]? = some x) (hj : X.N[j]? = some y) (hij : i ≠ j) {px py pt : Pos} {kt kt2 pt2} (gx : PG X (.Name x px) (gName i)) (gy : PG X (.Name y py) (gName j)) (ha : PE X a (tev X.K W k κa ra)) (hb : PE X b (tev X.K W k κb rb)) (sa : noStar a = true) (sb : noStar b = true)
    (hw : swappedStores [.Tuple [.Name x px, .Name y py] kt pt] (.Tuple [a, b] kt2 pt2) X.env = pure none) (ka : κa ≠ .bo) (kb : κb ≠ .bo) (hk : ∀ n, n ∉ [i, j] → k2 n = k n) (h1 : k2 i = κa) (h2 : k2 j = κb) :
    PS X (.Assign [.Tuple [.Name x px, .Name y py] kt pt] (.Tuple [a, b] kt2 pt2) pos) (tsS X.K W k k2 kl rk [i, j] fun s p => (ra s p).bd fun d1 p => (rb s p).bd fun d2 p => match setAll [i, j] [d1, d2] s with | some s' => .ok (.nx, s') p | none => .bad) := by
  refine ⟨fun pins s σ H En I ⟨m, pa, hr, h⟩ => (ps_asg (pe_tup (pa_cons ha (pa_cons hb pa_nil (star_cons sb)) (star_cons sa))) (pg_tup hc (pgs_cons gx (pgs_cons gy pgs_nil (by rw [assignEach_cons rfl] <;> rfl)) (by rw [assignEach_cons rfl] <;> rfl)) assignEach_len (assignEach_idx rfl)) (hw := hw) (h1 := ae1 rfl)).run pins s σ H En I ?_⟩
  have h : PostS X.K pa W k2 kl rk [i, j] m H ((ra m.s m.p).bd fun d1 p => (rb m.s p).bd fun d2 p => match setAll [i, j] [d1, d2] m.s with | some s' => .ok (.nx, s') p | none => .bad) En := h
  have li : i < m.s.length := by rw [← hr.len, I.len]; exact (List.getElem?_eq_some_iff.mp hi).1
  have lj : j < m.s.length := by rw [← hr.len, I.len]; exact (List.getElem?_eq_some_iff.mp hj).1
  refine (ParI.start (k2 := k2) (is := [i, j]) hr hk).ev1 List.mem_cons_self (by simpa using hij) (by rw [wipeS_len]; exact li) ka h1 h fun d1 p1 v1 H1 M1 fp1 I1 h => ?_
  refine I1.ev1 (List.mem_cons_of_mem _ List.mem_cons_self) (fun z => nomatch z) (by rw [List.length_set, wipeS_len]; exact lj) kb h2 h fun d2 p2 v2 H2 M2 fp2 I2 h => ?_
  refine ⟨by rw [sizeLine_eq]; simp, fun c hc => ⟨c, [v1, v2], rfl, .of upd_same, rfl, v1, [v2], rfl, v2, [], rfl, rfl, ?_⟩⟩
  cases es : setAll [i, j] [d1, d2] m.s with
  | none => rw [es] at h; exact h.elim
  | some s' =>
    rw [es] at h
    have es2 := setAll_wipe' es
    refine (I2.keep (Keep.new hc) (I2.ev.pen.new hc)).fin (s' := s') ?_ h
    simp only [setAll] at es2
    exact Option.some.inj es2
theorem es_parF3 (hc : X.calm = true) (hN : X.N.Nodup) (hi : X.N[i]? = some x) (hj : X.N[j]? = some y) (hl : X.N[l]? = some z) (hij : i ≠ j) (hil : i ≠ l) (hjl : j ≠ l) (hx : X.env.scope.names.lookup x = some .local) (hy : X.env.scope.names.lookup y = some .local) (hz : X.env.scope.names.lookup z = some .local) {px py pz pt : Pos} {kt kt2 pt2}
    (ha : PE X a (tev X.K W k κa ra)) (hb : PE X b (tev X.K W k κb rb)) (hcc : PE X c (tev X.K W k κc rc)) (sa : noStar a = true) (sb : noStar b = true) (sc : noStar c = true)
    (hw : swappedStores [.Tuple [.Name x px, .Name y py, .Name z pz] kt pt] (.Tuple [a, b, c] kt2 pt2) X.env = pure (some [x, y, z])) (ka : κa ≠ .bo) (kb : κb ≠ .bo) (kc : κc ≠ .bo) (hk : ∀ n, n ∉ [i, j, l] → k2 n = k n) (h1 : k2 i = κa) (h2 : k2 j = κb) (h3 : k2 l = κc) :
    PS X (.Assign [.Tuple [.Name x px, .Name y py, .Name z pz] kt pt] (.Tuple [a, b, c] kt2 pt2) pos) (tsS X.K W k k2 kl rk [i, j, l] fun s p => (ra s p).bd fun d1 p => (rb s p).bd fun d2 p => (rc s p).bd fun d3 p => match setAll [i, j, l] [d1, d2, d3] s with | some s' => .ok (.nx, s') p | none => .bad) := by
  refine ⟨fun pins s σ H En I ⟨m, pa, hr, h⟩ => (ps_par3 hc hN hi hj hl hij hil hjl hx hy hz (pa_cons ha (pa_cons hb (pa_cons hcc pa_nil (star_cons sc)) (star_cons sb)) (star_cons sa)) hw).run pins s σ H En I ?_⟩
  have h : PostS X.K pa W k2 kl rk [i, j, l] m H ((ra m.s m.p).bd fun d1 p => (rb m.s p).bd fun d2 p => (rc m.s p).bd fun d3 p => match setAll [i, j, l] [d1, d2, d3] m.s with | some s' => .ok (.nx, s') p | none => .bad) En := h
  have li : i < m.s.length := by rw [← hr.len, I.len]; exact (List.getElem?_eq_some_iff.mp hi).1
  have lj : j < m.s.length := by rw [← hr.len, I.len]; exact (List.getElem?_eq_some_iff.mp hj).1
  have ll : l < m.s.length := by rw [← hr.len, I.len]; exact (List.getElem?_eq_some_iff.mp hl).1
  refine (ParI.start (k2 := k2) (is := [i, j, l]) hr hk).ev1 List.mem_cons_self (by simp [hij, hil]) (by rw [wipeS_len]; exact li) ka h1 h fun d1 p1 v1 H1 M1 fp1 I1 h => ?_
  refine I1.ev1 (List.mem_cons_of_mem _ List.mem_cons_self) (by simpa using hjl) (by rw [List.length_set, wipeS_len]; exact lj) kb h2 h fun d2 p2 v2 H2 M2 fp2 I2 h => ?_
  refine I2.ev1 (List.mem_cons_of_mem _ (List.mem_cons_of_mem _ List.mem_cons_self)) (fun z => nomatch z) (by rw [List.length_set, List.length_set, wipeS_len]; exact ll) kc h3 h fun d3 p3 v3 H3 M3 fp3 I3 h => ?_
  refine ⟨v1, v2, v3, rfl, ?_⟩
  cases es : setAll [i, j, l] [d1, d2, d3] m.s with
  | none => rw [es] at h; exact h.elim
  | some s' =>
    rw [es] at h
    have es2 := setAll_wipe' es
    refine I3.fin (s' := s') ?_ h
    simp only [setAll] at es2
    exact Option.some.inj es2
end
end Mc

/-! Mc20: statements, checked. -/
namespace Mc
open PySem PySem.Spec PyProof.Rows L2
mutual
/-- the slots that a statement writes -/
def mdS : S → List Nat
  | .set q _ => patSl q
  | .own i _ => [i]
  | .par is _ => is
  | .frz i => [i]
  | .drop vs _ => vs
  | .setI i _ _ _ => [i]
  | .setII i _ _ _ _ => [i]
  | .popa i j _ _ => [i, j]
  | .app i _ _ => [i]
  | .ext i _ _ => [i]
  | .ife _ a b => mdSs a ++ mdSs b
  | .loop _ _ _ b => mdSs b
  | .whl _ b => mdSs b
  | _ => []
def mdSs : List S → List Nat
  | [] => []
  | c :: r => mdS c ++ mdSs r
end
def lcE : E → Bool
  | .comp _ _ _ _ _ => true
  | .nest _ _ _ _ _ => true
  | .compC _ _ _ _ _ _ => true
  | _ => false
def lcE2 : E → Bool
  | .comp2 _ _ _ _ _ _ _ _ _ _ => true
  | _ => false
def lcOf (sc : Scope) (e : E) (v : Expr) (y : Str) (py : Pos) : Bool := match v with
  | .ListComp _ [⟨_, _, _, 0⟩] s pos => lcE e && swB sc s y py pos
  | .ListComp _ [⟨_, _, _, 0⟩, ⟨_, _, _, 0⟩] s pos => lcE2 e && swB sc s y py pos
  | _ => false
def bsOk (k : List Kd) (bs : List Nat) : Bool := (List.range k.length).all (fun i => !decide (kf k i = .bo) || decide (i ∈ bs)) && bs.all (fun i => decide (kf k i = .bo) || decide (kf k i = .sh))
def jnR : Option (List Kd) → Option (List Kd) → Option (Option (List Kd))
  | none, r => some r
  | r, none => some r
  | some a, some b => if a = b then some (some a) else none
def loc (Γ : Cg) (i : Nat) (x : Str) : Bool := decide (Γ.N[i]? = some x) && decide (Γ.sc.names.lookup x = some .local)
def isFr : Kd → Bool
  | .fr _ => true
  | _ => false
/-- the kinds of the parts, if a list of one's own is among them -/
def parK2 (l : List E) (Γ : Cg) (k : List Kd) (a b : Expr) : Option (Kd × Kd) := match l with
  | [c1, c2] => (match okX c1 Γ k false a, okX c2 Γ k false b with
    | some κa, some κb => if (isFr κa = true ∨ isFr κb = true) ∧ κa ≠ .bo ∧ κb ≠ .bo ∧ noStar a = true ∧ noStar b = true then some (κa, κb) else none
    | _, _ => none)
  | _ => none
def parK3 (l : List E) (Γ : Cg) (k : List Kd) (a b c : Expr) : Option (Kd × Kd × Kd) := match l with
  | [c1, c2, c3] => (match okX c1 Γ k false a, okX c2 Γ k false b, okX c3 Γ k false c with
    | some κa, some κb, some κc => if (isFr κa = true ∨ isFr κb = true ∨ isFr κc = true) ∧ κa ≠ .bo ∧ κb ≠ .bo ∧ κc ≠ .bo ∧ noStar a = true ∧ noStar b = true ∧ noStar c = true then some (κa, κb, κc) else none
    | _, _, _ => none)
  | _ => none
/-- the steps that no statement stands for -/
def psd : S → Option (Nat ⊕ (List Nat × Kd))
  | .frz i => some (.inl i)
  | .drop vs κ => some (.inr (vs, κ))
  | _ => none
/-- expression statements -/
def okXs (Γ : Cg) (k : List Kd) : List E → List Stmt → Bool
  | [], sts => sts.isEmpty
  | e :: l, sts => (match sts with
    | .Expr v _ :: r => !isLc v && ((okX e Γ k false v).isSome && okXs Γ k l r)
    | _ => false)
mutual
def okS : S → Cg → List Kd → Nat → List Kd → Stmt → Option (Option (List Kd))
  | .set q e, Γ, kl, rk, k, st => (match st with
    | .Assign [tg] v _ => (match okX e Γ k false v with
      | some κ => if noStar tg = true ∧ okP Γ (setKs k (patSl q) (shK κ)) (shK κ) q tg = true then (match tg with
        | .Name y py => if isLc v = false ∨ lcOf Γ.sc e v y py = true then some (some (setKs k (patSl q) (shK κ))) else none
        | _ => if isLc v = false ∧ (ssB tg v = true ∨ ssC Γ.sc tg v = true) then some (some (setKs k (patSl q) (shK κ))) else none) else none
      | none => none)
    | _ => none)
  | .own i e, Γ, kl, rk, k, st => (match st with
    | .Assign [.Name y py] v _ => (match okX e Γ k false v with
      | some (.fr n) => if Γ.to_ i y = true ∧ i < k.length ∧ (isLc v = false ∨ lcOf Γ.sc e v y py = true) then some (some (setKs k [i] (.fr n))) else none
      | _ => none)
    | _ => none)
  | .par is l, Γ, kl, rk, k, st => (match is, st with
    | [i, j], .Assign [.Tuple [.Name x px, .Name y py] kt pt] (.Tuple [a, b] kt2 pt2) _ => if loc Γ i x = true ∧ loc Γ j y = true ∧ i ≠ j ∧ x ≠ y ∧ (py.line == px.line) = true ∧ [a, b].all (foldedForSure 8) = false ∧ [a, b].all (constantsAlone 8) = false ∧ i < k.length ∧ j < k.length ∧ Γ.sc.kind = .function then
        (match parK2 l Γ k a b with
          | some ks => some (some (setKs (setKs k [i] ks.1) [j] ks.2))
          | none => (match okEs l Γ k [a, b] with
            | some κ => some (some (setKs k [i, j] κ))
            | none => none)) else if Γ.to_ i x = true ∧ Γ.to_ j y = true ∧ i ≠ j ∧ ssC Γ.sc (.Tuple [.Name x px, .Name y py] kt pt) (.Tuple [a, b] kt2 pt2) = true ∧ i < k.length ∧ j < k.length then
        (match parK2 l Γ k a b with
          | some ks => some (some (setKs (setKs k [i] ks.1) [j] ks.2))
          | none => none) else none
    | [i, j, n], .Assign [.Tuple [.Name x px, .Name y py, .Name z pz] _ _] (.Tuple [a, b, c] _ _) _ => if loc Γ i x = true ∧ loc Γ j y = true ∧ loc Γ n z = true ∧ (i ≠ j ∧ i ≠ n ∧ j ≠ n) ∧ (x ≠ y ∧ x ≠ z ∧ y ≠ z) ∧ (py.line == px.line) = true ∧ (pz.line == px.line) = true ∧ [a, b, c].all (foldedForSure 8) = false ∧ [a, b, c].all (constantsAlone 8) = false ∧ (i < k.length ∧ j < k.length ∧ n < k.length) ∧ Γ.sc.kind = .function then
        (match parK3 l Γ k a b c with
          | some ks => some (some (setKs (setKs (setKs k [i] ks.1) [j] ks.2.1) [n] ks.2.2))
          | none => (match okEs l Γ k [a, b, c] with
            | some κ => some (some (setKs k [i, j, n] κ))
            | none => none)) else none
    | _, _ => none)
  | .setI i x e bs, Γ, kl, rk, k, st => (match st with
    | .Assign [.Subscript (.Name y _) ix _] v _ => if Γ.at_ i y = true ∧ kf k i = .fr 1 ∧ plainIx ix = true ∧ bsOk k bs = true then (match okX e Γ k false v, okX x Γ k false ix with
      | some .sh, some _ => some (some k)
      | _, _ => none) else none
    | _ => none)
  | .setII i x y e bs, Γ, kl, rk, k, st => (match st with
    | .Assign [.Subscript (.Subscript (.Name z _) ix _) iy _] v _ => if Γ.at_ i z = true ∧ kf k i = .fr 2 ∧ plainIx ix = true ∧ plainIx iy = true ∧ bsOk k bs = true then (match okX e Γ k false v, okX x Γ k false ix, okX y Γ k false iy with
      | some .sh, some _, some _ => some (some k)
      | _, _, _ => none) else none
    | _ => none)
  | .popa i j e bs, Γ, kl, rk, k, st => (match st with
    | .Expr (.Call (.Attribute (.Name x _) m ap) [.Call (.Attribute (.Name y _) m2 ap2) [v] [] p4] [] p) _ => if m = "append" ∧ m2 = "pop" ∧ i ≠ j ∧ Γ.at_ i x = true ∧ kf k i = .fr 1 ∧ Γ.at_ j y = true ∧ kf k j = .fr 1 ∧ noStar v = true ∧ bsOk k bs = true ∧ (ap.endLine == p.line) = true ∧ (ap2.endLine == p4.line) = true then (match okX e Γ k false v with
      | some _ => some (some k)
      | none => none) else none
    | _ => none)
  | .app i e bs, Γ, kl, rk, k, st => (match st with
    | .Expr (.Call (.Attribute (.Name y _) m ap) [v] [] p) _ => if m = "append" ∧ Γ.at_ i y = true ∧ kf k i = .fr 1 ∧ noStar v = true ∧ bsOk k bs = true ∧ (ap.endLine == p.line) = true then (match okX e Γ k false v with
      | some κ => if κ = .bo then none else some (some k)
      | none => none) else none
    | _ => none)
  | .ext i e bs, Γ, kl, rk, k, st => (match st with
    | .Expr (.Call (.Attribute (.Name y _) m ap) [v] [] p) _ => if m = "extend" ∧ Γ.at_ i y = true ∧ kf k i = .fr 1 ∧ noStar v = true ∧ bsOk k bs = true ∧ (ap.endLine == p.line) = true then (match okX e Γ k false v with
      | some κ => if κ = .bo then none else some (some k)
      | none => none) else none
    | _ => none)
  | .exp e, Γ, kl, rk, k, st => (match st with
    | .Expr v _ => if isLc v = false ∧ (okX e Γ k false v).isSome = true then some (some k) else none
    | _ => none)
  | .ret e, Γ, kl, rk, k, st => (match st with
    | .Return (some v) _ => (match okX e Γ k false v with
      | some κ => if rk = 0 then some none else if κ = .fr rk then some none else (match isVar1 k e with
        | some _ => if rk = 1 then some none else none
        | none => none)
      | none => none)
    | .Return none _ => (match e with
      | .cst .non => if rk = 0 then some none else none
      | _ => none)
    | _ => none)
  | .ife c a b, Γ, kl, rk, k, st => (match st with
    | .If v sa sb _ => if (okX c Γ k true v).isSome = true then (match okSs a Γ kl rk k sa, okSs b Γ kl rk k sb with
      | some x, some y => jnR x y
      | _, _ => none) else none
    | _ => none)
  | .loop q ik l b, Γ, kl, rk, k, st => (match st with
    | .For tg it body [] _ => if nsI it = true then (match isOwnIt k ik l with
        | some j => if okP Γ k .sh q tg = true ∧ j ∉ mdSs b ∧ (okI ik l Γ k tg it).isSome = true then (match okSs b Γ k rk k body with
          | some none => some (some k)
          | some (some k') => if k' = k then some (some k) else none
          | none => none) else none
        | none => (match okI ik l Γ k tg it with
          | some κ => if okP Γ k κ q tg = true ∧ (κ = .sh ∨ (mdSs b).all (fun i => decide (kf k i = .bo) || decide (kf k i = .sh)) = true) then (match okSs b Γ k rk k body with
            | some none => some (some k)
            | some (some k') => if k' = k then some (some k) else none
            | none => none) else none
          | none => none)) else none
    | _ => none)
  | .whl c b, Γ, kl, rk, k, st => (match st with
    | .While v body [] _ => if (okX c Γ k true v).isSome = true then (match okSs b Γ k rk k body with
        | some none => some (some k)
        | some (some k') => if k' = k then some (some k) else none
        | none => none) else none
    | _ => none)
  | .rai c ns l, Γ, kl, rk, k, st => (match st with
    | .Raise (some (.Call (.Name x _) (y :: ys) [] _)) none _ => if x = c ∧ Γ.gl x = true ∧ Γ.t.exc.lookup c = some ns ∧ l.length = ns.length then (match okEs l Γ k (y :: ys) with
      | some _ => some none
      | none => none) else none
    | .Raise (some (.Call (.Name x _) [] [] _)) none _ => if x = c ∧ Γ.gl x = true ∧ Γ.t.exc.lookup c = some [] ∧ ns = [] ∧ l.isEmpty = true then some none else none
    | _ => none)
  | .tryk kt i j l, Γ, kl, rk, k, st => (match st with
    | .Try body [.ExceptHandler (some (.Name rn _)) (some en) [.If (.Call (.Name i0 _) [.Name e0 _, .Name v0 _] [] _) [.Assign [.Name f0 _] (.Call (.Name k0 _) [.Name e1 _] [] _) _] [] _] _] [] [] _ =>
      if (Γ.t.knd = true ∧ kt = Γ.t.kt ∧ Γ.g = true ∧ rn = "RoomsError" ∧ en = "e" ∧ i0 = "isinstance" ∧ e0 = "e" ∧ v0 = "ValueError" ∧ f0 = "found" ∧ k0 = "_law_kinds" ∧ e1 = "e") ∧ loc Γ i "e" = true ∧ loc Γ j "found" = true ∧ i ≠ j ∧ j < k.length ∧ kf k i = .sh ∧ kf k j = .sh ∧
        (["isinstance", "ValueError", "_law_kinds", "RoomsError"] : List Str).all Γ.gl = true ∧ okXs Γ k l body = true then some (some (setKs k [j] .bo)) else none
    | _ => none)
  | .pset i f e, Γ, kl, rk, k, st => (match st with
    | .Assign [.Subscript (.Name y _) (.Constant (.str n) _ _) _] v _ => if n = f.name ∧ Γ.at_ i y = true ∧ kf k i = .sh ∧ isLc v = false ∧ (okX e Γ k false v).isSome = true then some (some k) else none
    | _ => none)
  | .brk, Γ, kl, rk, k, st => (match st with
    | .Break _ => if k = kl then some none else none
    | _ => none)
  | .cont, Γ, kl, rk, k, st => (match st with
    | .Continue _ => if k = kl then some none else none
    | _ => none)
  | .pass, Γ, kl, rk, k, st => (match st with
    | .Pass _ => some (some k)
    | .Expr (.Constant (.str _) _ _) _ => some (some k)
    | _ => none)
  | _, _, _, _, _, _ => none
def okSs : List S → Cg → List Kd → Nat → List Kd → List Stmt → Option (Option (List Kd))
  | [], _, _, _, k, sts => if sts.isEmpty = true then some (some k) else none
  | c :: r, Γ, kl, rk, k, sts => (match psd c with
    | some (.inl i) => if kf k i = .fr 1 ∧ i < k.length then okSs r Γ kl rk (setKs k [i] .sh) sts else none
    | some (.inr (vs, κ)) => okSs r Γ kl rk (setKs k vs κ) sts
    | none => (match sts with
      | st :: sts => (match okS c Γ kl rk k st with
        | some (some k1) => okSs r Γ kl rk k1 sts
        | some none => if r.isEmpty = true ∧ sts.isEmpty = true then some none else none
        | none => none)
      | [] => none))
end
end Mc

/-! Mc21: they are right. -/
namespace Mc
open PySem PySem.Spec PyProof.Rows L2
section
variable {C : Str → List D → P → R D} {F : R D → R D}
theorem sw_no1 {e t : Expr} {l : Nat} {env : Env} (h : isLc e = false) : swapsWithSole [t] e l env = pure false := sw_no (t := some t) h
theorem okLc_sound {X : Cx} {W : WX} {Γ : Cg} (G : GoodE Γ X W C F) {k : List Kd} {t : Bool} {κ : Kd} {e : E} {elt tg it : Expr} {ifs : List Expr} {scope : Scope} {pos : Pos} (he : lcE e = true) (h : okX e Γ k t (.ListComp elt [⟨tg, it, ifs, 0⟩] scope pos) = some κ) :
    ∃ own, LcPk X W (kf k) κ (evE C F e) own elt tg it ifs scope := by
  cases e with
  | comp vs q ik l a =>
    simp only [okX] at h
    split at h
    · rename_i q1
      cases q1
      split at h
      · rename_i κi hi
        replace h := if_some h; obtain ⟨⟨h1, h2, h3, h4, h5, h6, h7⟩, h⟩ := h
        obtain ⟨κe, ha, rfl⟩ := Option.map_eq_some_iff.mp h
        obtain ⟨hκ, hI⟩ := okIt_of (F := F) hi (fun κ h => okI_sound l ik Γ k _ _ κ h X W G) G
        have e1 : evE C F (.comp vs q ik l a) = fun s p => ((evEs C F l s p).bd fun ds p => R.of (items ik ds) p).bd fun xs p => lstR (filR (fun d p => withP q (wipeS s vs) d fun s' => .ok true p) (fun d p => withP q (wipeS s vs) d fun s' => evE C F a s' p) xs p) := by
          funext s p
          simp only [evE]
          rw [bd_bd]
        rw [e1]
        exact ⟨_, lc_mk G hκ hI h1 h2 h3 h4 h5 h7 (fun X W G => eT_nil) (fun X W G => (okX_sound a _ _ false _ _ ha X W G).1 rfl)⟩
      · cases h
    · cases h
  | nest vs q ik l a =>
    simp only [okX] at h
    split at h
    · rename_i q1
      cases q1
      split at h
      · rename_i κi hi
        replace h := if_some h; obtain ⟨⟨h1, h2, h3, h4, h5, h6, h7⟩, h⟩ := h
        split at h
        · rename_i n ha
          cases h
          obtain ⟨hκ, hI⟩ := okIt_of (F := F) hi (fun κ h => okI_sound l ik Γ k _ _ κ h X W G) G
          have e1 : evE C F (.nest vs q ik l a) = fun s p => ((evEs C F l s p).bd fun ds p => R.of (items ik ds) p).bd fun xs p => lstR (filR (fun d p => withP q (wipeS s vs) d fun s' => .ok true p) (fun d p => withP q (wipeS s vs) d fun s' => evE C F a s' p) xs p) := by
            funext s p
            simp only [evE]
            rw [bd_bd]
          rw [e1]
          exact ⟨_, lc_mkO G hκ hI h1 h2 h3 h4 h5 h7 (fun X W G => eT_nil) (fun X W G => (okX_sound a _ _ false _ _ ha X W G).1 rfl)⟩
        · cases h
      · cases h
    · cases h
  | compC vs q ik l c a =>
    simp only [okX] at h
    split at h
    · rename_i q1
      cases q1
      split at h
      · rename_i κi hi
        replace h := if_some h; obtain ⟨⟨h1, h2, h3, h4, h5, h6, h7⟩, h⟩ := h
        split at h
        · rename_i hc ha
          cases h
          obtain ⟨hκ, hI⟩ := okIt_of (F := F) hi (fun κ h => okI_sound l ik Γ k _ _ κ h X W G) G
          have e1 : evE C F (.compC vs q ik l c a) = fun s p => ((evEs C F l s p).bd fun ds p => R.of (items ik ds) p).bd fun xs p => lstR (filR (fun d p => withP q (wipeS s vs) d fun s' => (evE C F c s' p).bd fun x p => .of (truD x) p) (fun d p => withP q (wipeS s vs) d fun s' => evE C F a s' p) xs p) := by
            funext s p
            simp only [evE]
            rw [bd_bd]
          rw [e1]
          exact ⟨_, lc_mk G hκ hI h1 h2 h3 h4 h5 h7 (fun X W G => eT_one ((okX_sound c _ _ true _ _ hc X W G).2 rfl).1) (fun X W G => (okX_sound a _ _ false _ _ ha X W G).1 rfl)⟩
        · cases h
      · cases h
    · cases h
  | _ => cases he
/-- what is asked of the pieces of a comprehension of two clauses -/
def Lc2Pk (X : Cx) (W : WX) (k : Nat → Kd) (κ : Kd) (r : Sl → P → R D) (own : List (Str × Nat)) (vs1 : List Nat) (elt tg it tg1 it1 : Expr) (ifs1 : List Expr) (scope : Scope) : Prop := ∃ wi wi1 g g1 tt tt1 te, PI X tg it wi ∧ BlkOk X.N X.env.scope scope own ∧ (∀ i ∈ vs1, i ∈ own.map (·.2)) ∧
  (∀ (s : Shared) (H : Hp) (C : Addr) (cl : List (Str × Addr)) (fp : List Addr), PG (X.blk s H scope (compEnvC scope cl C X.env) fp) tg g) ∧ (∀ (s : Shared) (H : Hp) (C : Addr) (cl : List (Str × Addr)) (fp : List Addr), PTs (X.blk s H scope (compEnvC scope cl C X.env) fp) [] tt) ∧
  (∀ (s : Shared) (H : Hp) (C : Addr) (cl : List (Str × Addr)) (fp : List Addr), PI (X.blk s H scope (compEnvC scope cl C X.env) fp) tg1 it1 wi1) ∧ (∀ (s : Shared) (H : Hp) (C : Addr) (cl : List (Str × Addr)) (fp : List Addr), PG (X.blk s H scope (compEnvC scope cl C X.env) fp) tg1 g1) ∧
  (∀ (s : Shared) (H : Hp) (C : Addr) (cl : List (Str × Addr)) (fp : List Addr), PTs (X.blk s H scope (compEnvC scope cl C X.env) fp) ifs1 tt1) ∧ (∀ (s : Shared) (H : Hp) (C : Addr) (cl : List (Str × Addr)) (fp : List Addr), PE (X.blk s H scope (compEnvC scope cl C X.env) fp) elt te) ∧
  (∀ x, foldedSetIterable it X.env x = pure x) ∧ (∀ env x, foldedSetIterable it1 env x = pure x) ∧ ∀ σ H Q, tev X.K W k κ r σ H Q → tLc2 wi g tt wi1 g1 tt1 te (own.map (·.2)) vs1 σ H Q
theorem okLc2_sound {X : Cx} {W : WX} {Γ : Cg} (G : GoodE Γ X W C F) {k : List Kd} {t : Bool} {κ : Kd} {e : E} {elt tg it tg2 it2 : Expr} {ifs : List Expr} {scope : Scope} {pos : Pos} (he : lcE2 e = true) (h : okX e Γ k t (.ListComp elt [⟨tg, it, [], 0⟩, ⟨tg2, it2, ifs, 0⟩] scope pos) = some κ) :
    ∃ own vs1, Lc2Pk X W (kf k) κ (evE C F e) own vs1 elt tg it tg2 it2 ifs scope := by
  cases e with
  | comp2 vs vs2 q ik l q2 ik2 l2 c a =>
    simp only [okX] at h
    split at h
    · rename_i κi hi
      replace h := if_some h; obtain ⟨⟨h1, h2, h3, h4, h5, h6, h7⟩, h⟩ := h
      split at h
      · rename_i κj hj
        replace h := if_some h; obtain ⟨⟨g1, g2, g3, g4, g5⟩, h⟩ := h
        obtain ⟨κe, ha, rfl⟩ := Option.map_eq_some_iff.mp h
        obtain ⟨hκ, hI⟩ := okIt_of hi (fun κ h => okI_sound l ik Γ k _ _ κ h X W G) G
        have hκj : κj = .bo ∨ κj = .sh := by
          unfold itK at hj
          split at hj
          · obtain ⟨_, _, rfl⟩ := Option.map_eq_some_iff.mp hj; exact .inr rfl
          · exact (okI_sound l2 ik2 _ _ _ _ κj hj _ _ (G.blk scope X.s_0 X.H_0 0 [] [])).1
        have hvs : ∀ i ∈ vs, kf k i = .sh ∨ kf k i = .bo := fun i hi => by simpa using List.all_eq_true.mp h5 i hi
        have hlt : ∀ i ∈ vs, i < k.length := fun i hi => by simpa using List.all_eq_true.mp h6 i hi
        have hs2 : ∀ i ∈ vs2, i ∈ vs := fun i hi => by simpa using List.all_eq_true.mp g2 i hi
        have rcE : ∀ X W, GoodE (Γ.blk scope) X W C F → PTs X ifs (tevB X.K W (kf (setKs (setKs k vs κi) vs2 κj)) fun s p => (evE C F c s p).bd fun x p => .of (truD x) p) := fun X W G => by
          cases ifs with
          | nil =>
            have hc : c = .cst (.bl true) := by
              have g5 : isTru c = true := g5
              unfold isTru at g5
              split at g5
              · rfl
              · cases g5
            subst hc
            exact eT_nil
          | cons cd r =>
            cases r with
            | nil =>
              obtain ⟨κc, hc⟩ := Option.isSome_iff_exists.mp (show (okX c (Γ.blk scope) (setKs (setKs k vs κi) vs2 κj) true cd).isSome = true from g5)
              exact eT_one ((okX_sound c _ _ true _ _ hc X W G).2 rfl).1
            | cons _ _ => cases g5
        have e1 : evE C F (.comp2 vs vs2 q ik l q2 ik2 l2 c a) = fun s p => ((evEs C F l s p).bd fun ds p => R.of (items ik ds) p).bd fun xs p =>
            lstR (catR (turnR q q2 vs2 (fun s' p => (evEs C F l2 s' p).bd fun ds2 p => R.of (items ik2 ds2) p) (fun s2 p => (evE C F c s2 p).bd fun x p => .of (truD x) p) (fun s2 p => evE C F a s2 p) (wipeS s vs)) xs p) := by
          funext s p
          simp only [evE]
          rw [bd_bd]
          rfl
        rw [e1]
        refine ⟨_, vs2, _, (titX X.K W0 (kf (setKs k vs κi)) ((isOwnIt (setKs k vs κi) ik2 l2).toList) κj fun s' p => (evEs C F l2 s' p).bd fun ds2 p => R.of (items ik2 ds2) p), (tgt X.K (kf (setKs k vs κi)) κi q), (tgt X.K (kf (setKs (setKs k vs κi) vs2 κj)) κj q2), (tevB X.K W0 (kf (setKs k vs κi)) fun _ p => .ok true p), (tevB X.K W0 (kf (setKs (setKs k vs κi) vs2 κj)) fun s p => (evE C F c s p).bd fun x p => .of (truD x) p), (tev X.K W0 (kf (setKs (setKs k vs κi) vs2 κj)) κe (evE C F a)), hI, (by rw [G.N, G.sc]; exact blkOk_by h2), (fun i hi => by rw [h3]; exact hs2 i hi), (fun s H Ca cl fp => okP_sound (G.blk scope s H Ca cl fp) hκ q tg h7), (fun s H Ca cl fp => eT_nil (W := W0) (k := kf (setKs k vs κi))), (fun s H Ca cl fp => (okIt_of hj (fun κ h => okI_sound l2 ik2 _ _ _ _ κ h _ _ (G.blk scope s H Ca cl fp)) (G.blk scope s H Ca cl fp)).2), (fun s H Ca cl fp => okP_sound (G.blk scope s H Ca cl fp) hκj q2 tg2 g4), (fun s H Ca cl fp => rcE _ _ (G.blk scope s H Ca cl fp)), (fun s H Ca cl fp => (okX_sound a _ _ false _ _ ha _ _ (G.blk scope s H Ca cl fp)).1 rfl), (nsI_ok h1), (fun env x => nsI_ok g1 x), fun σ H Q z => ?_⟩
        rw [h3]
        refine lc2_read (fun i hi => by simpa using List.all_eq_true.mp h4 i hi) (fun i hi => setKs_out hi) hvs (fun i hi => by simpa using List.all_eq_true.mp g3 i hi) (fun i hi => setKs_out hi) (fun i hi => ?_) z
        rw [setKs_in (hs2 i hi) (hlt i (hs2 i hi))]
        exact hκ.symm
      · cases h
    · cases h
  | _ => cases he
theorem to_ok {X : Cx} {W : WX} {Γ : Cg} (G : GoodE Γ X W C F) {i : Nat} {x : Str} (h : Γ.to_ i x = true) : X.N[i]? = some x ∧ Loc X.env.scope x ∧ (X.fn x = true ∨ X.env.scope.names.lookup x = some .local) := by
  unfold Cg.to_ at h
  simp only [Bool.and_eq_true, decide_eq_true_eq] at h
  obtain ⟨h1, h3⟩ := h
  rw [G.N, G.sc]
  split at h3
  · rename_i hl
    exact ⟨h1, .inl hl, .inr hl⟩
  · rename_i hl
    exact ⟨h1, .inr hl, .inl (G.fn _ h3)⟩
  · cases h3
theorem okAsg {X : Cx} {W : WX} {Γ : Cg} (G : GoodE Γ X W C F) {k : List Kd} {κ : Kd} {e : E} {v : Expr} {i : Nat} {y : Str} {py : Pos} (h : okX e Γ k false v = some κ) (hy : Γ.to_ i y = true) (hl : isLc v = false ∨ lcOf Γ.sc e v y py = true) :
    ∃ te, (∀ pos, PS X (.Assign [.Name y py] v pos) (tAsg te (gName i))) ∧ ∀ σ H Q, tev X.K W (kf k) κ (evE C F e) σ H Q → te σ H Q := by
  obtain ⟨h1, h2, h3⟩ := to_ok G hy
  rcases hl with hl | hl
  · exact ⟨_, fun pos => ps_asg ((okX_sound e Γ k false _ _ h X W G).1 rfl) (pg_name G.nd h1 h2 h3) (sw_no1 hl) ss_nm (ae1 rfl), fun _ _ _ z => z⟩
  · unfold lcOf at hl
    split at hl
    · rename_i elt tg it ifs s p
      simp only [Bool.and_eq_true] at hl
      obtain ⟨hl1, hl2⟩ := hl
      obtain ⟨own, wi, g, tt, te, a1, a2, a3, a4, a5, a6, a7⟩ := okLc_sound (F := F) G hl1 h
      unfold swB at hl2
      simp only [Bool.and_eq_true, decide_eq_true_eq, Bool.not_eq_true'] at hl2
      obtain ⟨⟨⟨b1, b2⟩, b3⟩, b4⟩ := hl2
      rw [← G.sc] at b1 b2
      exact ⟨_, fun pos => ps_setLc G.calm G.nd h1 b2 (sw_true b1 b2 b3 b4) a1 a2 a3 a4 a5 a6, a7⟩
    · rename_i elt tg it ifs0 tg2 it2 ifs2 s p
      simp only [Bool.and_eq_true] at hl
      obtain ⟨hl1, hl2⟩ := hl
      cases ifs0 with
      | cons _ _ =>
        cases e <;> first | (cases hl1; done) | (simp [okX] at h; done)
      | nil =>
        obtain ⟨own, vs1, wi, wi1, g, g1, tt, tt1, te, a1, a2, a3, a4, a5, a6, a7, a8, a9, a10, a11, a12⟩ := okLc2_sound (F := F) G hl1 h
        unfold swB at hl2
        simp only [Bool.and_eq_true, decide_eq_true_eq, Bool.not_eq_true'] at hl2
        obtain ⟨⟨⟨b1, b2⟩, b3⟩, b4⟩ := hl2
        rw [← G.sc] at b1 b2
        exact ⟨_, fun pos => ps_setLc2 G.calm G.nd h1 b2 (sw_true b1 b2 b3 b4) a1 a2 a3 a4 a5 a6 a7 a8 a9 a10 a11, a12⟩
    · cases hl
theorem tgt_nm {K : PySem.W.Frag} {k : Nat → Kd} {κ : Kd} {i : Nat} (hκ : κ = .bo ∨ κ = .sh) (hk : k i = κ) (v : V) (σ : L2.St) (H : Hp) (Q : L2.St → Hp → Prop) (h : tgt K k κ (.nm i) v σ H Q) : gName i v σ H Q := by
  obtain ⟨m, pa, d, s', hr, r, e, q⟩ := h
  simp only [bindP, Option.some.injEq] at e
  subst e
  refine q _ (hr.set hκ hk r) ⟨by rw [List.length_set], fun j hj => ?_⟩
  have hj' : i ≠ j := fun z => hj (by simp [patSl, z])
  rw [List.getElem?_set_ne hj']
structure GoodS (Γ : Cg) (X : Cx) (W : WX) (C : Str → List D → P → R D) (F : R D → R D) : Prop where
  e : GoodE Γ X W C F
  own : PassesOwn (model X.prog X.w) X.A X.env X.xe
  stk : X.stack = X.env :: X.outer
  frm : X.env.frame = some X.env.locals
variable {w : Nat}
def OkSt (C : Str → List D → P → R D) (F : R D → R D) (w : Nat) (X : Cx) (W : WX) (k : Nat → Kd) (r : Option (List Kd)) (kl : Nat → Kd) (rk : Nat) (c : S) (st : Stmt) : Prop := ∀ k', (∀ k2, r = some k2 → k' = kf k2) → PS X st (tsS X.K W k k' kl rk (mdS c) (evS C F w c))
def OkSts (C : Str → List D → P → R D) (F : R D → R D) (w : Nat) (X : Cx) (W : WX) (k : Nat → Kd) (r : Option (List Kd)) (kl : Nat → Kd) (rk : Nat) (c : List S) (st : List Stmt) : Prop := ∀ k', (∀ k2, r = some k2 → k' = kf k2) → PSs X st (tsS X.K W k k' kl rk (mdSs c) (evSs C F w c))
theorem shK_or (κ : Kd) : shK κ = .bo ∨ shK κ = .sh := shK_cases κ
theorem patSl_nm {k : List Kd} {i : Nat} {κ : Kd} (h : kf (setKs k [i] κ) i = κ) : True := trivial
theorem bs_ok {k : List Kd} {bs : List Nat} (h : bsOk k bs = true) : (∀ j, kf k j = .bo → j ∈ bs) ∧ ∀ j ∈ bs, ∀ n, kf k j ≠ .fr n := by
  unfold bsOk at h
  simp only [Bool.and_eq_true, List.all_eq_true, Bool.or_eq_true, Bool.not_eq_true', decide_eq_false_iff_not, decide_eq_true_eq] at h
  refine ⟨fun j hj => ?_, fun j hj n z => ?_⟩
  · by_cases hl : j < k.length
    · exact (h.1 j (List.mem_range.mpr hl)).resolve_left fun z => z hj
    · unfold kf at hj
      rw [List.getD_eq_getElem?_getD, List.getElem?_eq_none (by omega)] at hj
      cases hj
  · rcases h.2 j hj with q | q <;> · rw [q] at z; cases z
theorem loc_ok {X : Cx} {W : WX} {Γ : Cg} (G : GoodE Γ X W C F) {i : Nat} {x : Str} (h : loc Γ i x = true) : X.N[i]? = some x ∧ X.env.scope.names.lookup x = some .local := by
  unfold loc at h
  simp only [Bool.and_eq_true, decide_eq_true_eq] at h
  rw [G.N, G.sc]
  exact h
theorem psd_l {c : S} {i : Nat} (h : psd c = some (.inl i)) : c = .frz i := by
  cases c <;> simp [psd] at h
  subst h; rfl
theorem psd_r {c : S} {vs : List Nat} {κ : Kd} (h : psd c = some (.inr (vs, κ))) : c = .drop vs κ := by
  cases c <;> simp [psd] at h
  obtain ⟨rfl, rfl⟩ := h; rfl
theorem setKs_len {k : List Kd} {vs : List Nat} {κ : Kd} : (setKs k vs κ).length = k.length := by
  unfold setKs
  rw [List.length_map, List.length_range]
/-- expressions for what they raise -/
def PostX (K : PySem.W.Frag) (pa : Pa) (W : WX) (σ : L2.St) (m : Ms) (H : Hp) (r : R Unit) (Q : Hp → Prop) : Prop := match r with
  | .ok _ p => ∀ H', Keep pa H H' → PenR pa m.M0 p H' → Q H'
  | .err x p => ∀ cls dd H', Keep pa H H' → PenR pa m.M0 p H' → ExR K pa m.M0 x cls dd H' → W cls dd σ H'
  | .bad => False
def tsX (K : PySem.W.Frag) (W : WX) (k : Nat → Kd) (r : Sl → P → R Unit) : TS := fun D σ H => ∃ m pa, Rel K pa k σ H m ∧ PostX K pa W σ m H (r m.s m.p) fun H' => D.nx σ H'
theorem okXs_sound {Γ : Cg} {k : List Kd} : ∀ (l : List E) (sts : List Stmt), okXs Γ k l sts = true → ∀ (X : Cx) (W : WX), GoodE Γ X W C F → PSs X sts (tsX X.K W (kf k) (evX C F l))
  | [], sts, h, X, W, G => by
    simp only [okXs] at h
    obtain rfl := List.isEmpty_iff.mp h
    exact pss_nil.weak fun D σ H ⟨m, pa, hr, h⟩ => h H .refl hr.pen
  | e :: l, sts, h, X, W, G => by
    simp only [okXs] at h
    split at h
    · rename_i v p r
      simp only [Bool.and_eq_true, Bool.not_eq_true'] at h
      obtain ⟨h1, h2, h3⟩ := h
      obtain ⟨κ, h2⟩ := Option.isSome_iff_exists.mp h2
      have he := (okX_sound (F := F) (C := C) e Γ k false v κ h2 X W G).1 rfl
      refine (pss_cons (ps_expr he (sw_no h1)) (okXs_sound l r h3 X W G)).weak fun D σ H ⟨m, pa, hr, h⟩ => ?_
      refine ⟨m, pa, hr, ?_⟩
      have h : PostX X.K pa W σ m H ((evE C F e m.s m.p).bd fun _ p => evX C F l m.s p) fun H' => D.nx σ H' := h
      cases q : evE C F e m.s m.p with
      | ok d p =>
        rw [q] at h
        intro v1 H1 k1 p1 _
        refine ⟨{ m with p := p }, pa, hr.keep k1 p1, ?_⟩
        have h : PostX X.K pa W σ m H (evX C F l m.s p) fun H' => D.nx σ H' := h
        show PostX X.K pa W σ _ H1 (evX C F l m.s p) _
        cases q2 : evX C F l m.s p with
        | ok u p2 => rw [q2] at h; exact fun H2 k2 p2 => h H2 (k1.trans k2) p2
        | err x p2 => rw [q2] at h; exact fun cls dd H2 k2 p2 x2 => h cls dd H2 (k1.trans k2) p2 x2
        | bad => rw [q2] at h; exact h
      | err x p => rw [q] at h; exact h
      | bad => rw [q] at h; exact h
    · cases h
theorem GoodE.tr {Γ : Cg} {X : Cx} {W W' : WX} (G : GoodE Γ X W C F) {pn : List (Addr × Obj)} {xe : Value → Shared → Prop} (tk : Takes (X.tr pn xe) W') : GoodE Γ (X.tr pn xe) W' C F :=
  ⟨G.calm, G.nd, G.N, G.sc, G.fn, G.un, tk, G.tab, G.fns, G.gd, G.lam, G.flt⟩
theorem Rel.toBo {K : PySem.W.Frag} {pa : Pa} {k k2 : Nat → Kd} {σ : L2.St} {H : Hp} {m : Ms} {j : Nat} (h : Rel K pa k σ H m) (hj : k j = .sh) (hj2 : k2 j = .bo) (hk : ∀ i, i ≠ j → k2 i = k i) : Rel K pa k2 σ H m := by
  refine ⟨h.dom, h.pen, fun i d e => ?_, h.no, h.disj, h.nd, h.free, h.len, h.kp, h.fr0, h.tk⟩
  obtain ⟨v, e1, r⟩ := h.sl i d e
  refine ⟨v, e1, ?_⟩
  by_cases c : i = j
  · subst c
    rw [hj] at r
    rw [hj2]
    exact ⟨r.1, RD.stay (fun _ _ _ e => e) (fun a n _ z => n (.inl z)) d v r.2⟩
  · rw [hk i c]; exact r
theorem loc_at {Γ : Cg} {X : Cx} {W : WX} (G : GoodE Γ X W C F) {i : Nat} {x : Str} (h : loc Γ i x = true) : X.N[i]? = some x ∧ X.env.scope.names.lookup x = some .local := by
  unfold loc at h
  simp only [Bool.and_eq_true, decide_eq_true_eq] at h
  rw [G.N, G.sc]
  exact h
theorem es_try {Γ : Cg} {X : Cx} {W : WX} {kl k : List Kd} {rk i j : Nat} {l : List E} {body : List Stmt} {p0 p1 p2 p3 p4 p5 p6 p7 p8 p9 p10 p11 p12 : Pos} (G : GoodS Γ X W C F) (hf : Γ.t.knd = true) (hg : Γ.g = true) (hi : loc Γ i "e" = true) (hj : loc Γ j "found" = true) (hij : i ≠ j) (hjl : j < k.length)
    (hki : kf k i = .sh) (hkj : kf k j = .sh) (hgl : (["isinstance", "ValueError", "_law_kinds", "RoomsError"] : List Str).all Γ.gl = true) (hx : okXs Γ k l body = true) :
    PS X (.Try body [.ExceptHandler (some (.Name "RoomsError" p0)) (some "e") [.If (.Call (.Name "isinstance" p1) [.Name "e" p2, .Name "ValueError" p3] [] p4) [.Assign [.Name "found" p5] (.Call (.Name "_law_kinds" p6) [.Name "e" p7] [] p8) p9] [] p10] p11] [] [] p12)
      (tsS X.K W (kf k) (kf (setKs k [j] .bo)) (kf kl) rk [] (fun s p => tryR Γ.t.kt i j s (evX C F l s p))) := by
  obtain ⟨n1, l1⟩ := loc_at G.e hi
  obtain ⟨n2, l2⟩ := loc_at G.e hj
  obtain ⟨mR, hex, hk⟩ := G.e.tab.knd hf
  have gl : ∀ x ∈ (["isinstance", "ValueError", "_law_kinds", "RoomsError"] : List Str), Gl X x := fun x hx => G.e.gl (List.all_eq_true.mp hgl x hx)
  have gn : ∀ x ∈ (["isinstance", "ValueError", "_law_kinds"] : List Str), X.env.scope.names.lookup x = some .globalImplicit := fun x hx => gl x (by
    simp only [List.mem_cons, List.not_mem_nil, or_false] at hx ⊢
    rcases hx with rfl | rfl | rfl <;> simp)
  obtain ⟨jj, hj2, hroom, _, _⟩ := G.e.fns
  refine (ps_try_as (X := X) (i := i) (n := "e") (c := .ref (He.ga X.K "RoomsError")) (Wout := fun _ _ _ _ => False) (tb := fun W' => tsX X.K W' (kf k) (evX C F l))
    G.stk G.frm G.e.nd n1 l1 ⟨gl _ (by simp), by decide, .inl mR⟩ LamX.takes0 (fun W' pn xe tk _ => okXs_sound l body hx (X.tr pn xe) W' (G.e.tr tk))
    (fun a oe cls d pn hz hd => hk X rfl rfl rfl rfl rfl G.e.nd (G.e.gd hg) (hroom.mono hj2) i j hij n1 n2 l1 l2 gn a oe cls d pn p1 p2 p3 p4 p5 p6 p7 p8 p9 p10 hz hd)).weak fun D σ H ⟨m, pa, hr, h⟩ => ?_
  refine ⟨m, pa, hr, ?_⟩
  have kb : kf (setKs k [j] .bo) j = .bo := setKs_in List.mem_cons_self hjl
  have ko : ∀ x, x ≠ j → kf (setKs k [j] .bo) x = kf k x := fun x hx => setKs_out (by simpa using hx)
  have fp0 : ∀ x, kf k x = .sh → m.fp x = [] := fun x hx => by
    by_cases e : ∃ d, m.s[x]? = some (some d)
    · obtain ⟨d, e⟩ := e
      obtain ⟨v, _, r⟩ := hr.sl x d e
      rw [hx] at r
      exact r.1
    · exact hr.no x fun d z => e ⟨d, z⟩
  have h : PostS X.K pa W (kf (setKs k [j] .bo)) (kf kl) rk [] m H (tryR Γ.t.kt i j m.s (evX C F l m.s m.p)) D := h
  cases q : evX C F l m.s m.p with
  | ok u p =>
    rw [q] at h
    intro H1 k1 p1
    have h : ∀ σ' H' fp', Rel X.K pa (kf (setKs k [j] .bo)) σ' H' { m with s := m.s, p := p, fp := fp' } → Fm pa [] m.fp H fp' H' → D.nx σ' H' := h
    exact h σ H1 m.fp ((hr.keep k1 p1).toBo hkj kb ko) (.keep k1)
  | err x p =>
    rw [q] at h
    intro cls dd H1 k1 p1 x1
    have h : PostS X.K pa W (kf (setKs k [j] .bo)) (kf kl) rk [] m H (match Γ.t.kt.lookup x.c with
      | some l => (match kesD x l with
        | some ds => .ok (.nx, (m.s.set j (some (.lst [.tup ds]))).set i none) p
        | none => .bad)
      | none => .bad) D := h
    split at h
    · rename_i ll hll
      split at h
      · rename_i ds hds
        have h : ∀ σ' H' fp', Rel X.K pa (kf (setKs k [j] .bo)) σ' H' { m with s := (m.s.set j (some (.lst [.tup ds]))).set i none, p := p, fp := fp' } → Fm pa [] m.fp H fp' H' → D.nx σ' H' := h
        have hc := x1.1
        subst hc
        refine ⟨true, hex _ (List.mem_map.mpr ⟨(x.c, ll), PySem.mem_of_lookup hll, rfl⟩), fun _ a na => ?_, fun z => nomatch z⟩
        have hr1 := (hr.keep k1 p1).toBo hkj kb ko
        refine ⟨x, pa, m.M0, ll, ds, rfl, hll, hds, x1, hr1.dom, ?_, fun v H2 gr rd => ?_⟩
        · exact ⟨σ, rfl⟩
        · have gk : Keep pa H1 H2 := fun a o _ e => gr a o e
          have hr2 : Rel X.K pa (kf (setKs k [j] .bo)) σ H2 { m with p := p } := hr1.keep gk (hr1.pen.grow gr)
          have hr3 := hr2.set (i := j) (κ := .bo) (.inl rfl) kb rd
          have hr4 := hr3.wipe (vs := [i]) (fun x hx => by
            simp only [List.mem_singleton] at hx
            subst hx
            rw [ko _ hij]
            exact .inl hki)
          have es : ((σ.set i (some (V.ref a))).set j (some v)).set i none = wipe (σ.set j (some v)) [i] := by
            rw [List.set_comm _ _ hij, List.set_set]
            rfl
          show D.nx (((σ.set i (some (V.ref a))).set j (some v)).set i none) H2
          rw [es]
          exact h _ H2 m.fp hr4 (.keep (k1.trans gk))
      · exact h.elim
    · exact h.elim
  | bad =>
    rw [q] at h
    exact h
mutual
theorem okS_sound : ∀ (c : S) (Γ : Cg) (kl : List Kd) (rk : Nat) (k : List Kd) (st : Stmt) (r : Option (List Kd)), okS c Γ kl rk k st = some r → ∀ (X : Cx) (W : WX), GoodS Γ X W C F → OkSt C F w X W (kf k) r (kf kl) rk c st
  | .set q e, Γ, kl, rk, k, st, r, h, X, W, G => by
    simp only [okS] at h
    split at h
    · rename_i tg v pos
      split at h
      · rename_i κ he
        replace h := if_some h; obtain ⟨⟨hn, hp⟩, h⟩ := h
        split at h
        · rename_i y py
          replace h := if_some h; obtain ⟨hl, h⟩ := h
          cases h
          intro k' hk'
          rw [hk' _ rfl]
          cases q with
          | tp l => simp only [okP] at hp; cases hp
          | nm i =>
            simp only [okP, Bool.and_eq_true, decide_eq_true_eq] at hp
            obtain ⟨te, t1, t2⟩ := okAsg (F := F) G.e he hp.1 hl
            exact es_set (t1 pos) t2 (tgt_nm (shK_or κ) hp.2) (shK_or κ) (fun z => shK_bo z) fun j hj => setKs_out hj
        · replace h := if_some h; obtain ⟨⟨hl, ht⟩, h⟩ := h
          cases h
          intro k' hk'
          rw [hk' _ rfl]
          exact es_set (ps_asg ((okX_sound e Γ k false _ _ he X W G.e).1 rfl) (okP_sound G.e (shK_or κ) q tg hp) (sw_no1 hl) (ht.elim ss_B fun z => ss_C (by rw [G.e.sc]; exact z)) (ae1 hn)) (fun _ _ _ z => z) (fun _ _ _ _ z => z) (shK_or κ) (fun z => shK_bo z) fun j hj => setKs_out hj
      · cases h
    · cases h
  | .own i e, Γ, kl, rk, k, st, r, h, X, W, G => by
    simp only [okS] at h
    split at h
    · rename_i y py v pos
      split at h
      · rename_i n he
        replace h := if_some h; obtain ⟨⟨hy, hi, hl⟩, h⟩ := h
        cases h
        intro k' hk'
        rw [hk' _ rfl]
        obtain ⟨te, t1, t2⟩ := okAsg (F := F) G.e he hy hl
        exact es_setF (t1 pos) t2 (fun j hj => setKs_out (by simpa using hj)) (setKs_in List.mem_cons_self hi)
      · cases h
    · cases h
  | .par is l, Γ, kl, rk, k, st, r, h, X, W, G => by
    simp only [okS] at h
    split at h
    · rename_i i j x px y py kt pt a b kt2 pt2 pos
      split at h
      · rename_i hcnd
        obtain ⟨h1, h2, h3, h4, h5, h6, h7, h8, h9, h10⟩ := hcnd
        obtain ⟨a1, a2⟩ := loc_ok G.e h1
        obtain ⟨b1, b2⟩ := loc_ok G.e h2
        split at h
        · rename_i ks hks
          cases h
          intro k' hk'
          rw [hk' _ rfl]
          unfold parK2 at hks
          split at hks
          · rename_i c1 c2
            split at hks
            · rename_i κa κb ea eb
              split at hks
              · rename_i hc
                cases hks
                obtain ⟨_, z1, z2, s1, s2⟩ := hc
                have e1 : (evS C F w (.par [i, j] [c1, c2])) = fun s p => (evE C F c1 s p).bd fun d1 p => (evE C F c2 s p).bd fun d2 p => match setAll [i, j] [d1, d2] s with | some s' => .ok (.nx, s') p | none => .bad := by
                  funext s p
                  simp only [evS, evEs]
                  cases evE C F c1 s p with
                  | ok d1 p1 =>
                    show R.bd (R.bd (R.bd (evE C F c2 s p1) _) _) _ = R.bd (evE C F c2 s p1) _
                    cases evE C F c2 s p1 <;> rfl
                  | err _ _ => rfl
                  | bad => rfl
                rw [e1]
                exact es_parF2 G.e.calm G.e.nd a1 b1 h3 a2 b2 ((okX_sound c1 Γ k false _ _ ea X W G.e).1 rfl) ((okX_sound c2 Γ k false _ _ eb X W G.e).1 rfl) s1 s2 (sw_par2 (by rw [G.e.sc]; exact h10) a2 b2 h4 h5 s1 s2 h6 h7) z1 z2
                  (fun n hn => by rw [setKs_out (by simpa using fun z => hn (by simp [z])), setKs_out (by simpa using fun z => hn (by simp [z]))]) (by rw [setKs_out (by simpa using h3), setKs_in List.mem_cons_self h8]) (setKs_in List.mem_cons_self (by rw [setKs_len]; exact h9))
              · cases hks
            · cases hks
          · cases hks
        · split at h
          · rename_i κ he
            cases h
            intro k' hk'
            rw [hk' _ rfl]
            obtain ⟨q1, q2, q3, q4⟩ := okEs_sound (F := F) l Γ k _ _ he X W G.e
            simp only [List.all_cons, List.all_nil, Bool.and_true, Bool.and_eq_true] at q2
            exact es_par2 G.e.calm G.e.nd a1 b1 h3 a2 b2 (q4 κ id) (sw_par2 (by rw [G.e.sc]; exact h10) a2 b2 h4 h5 q2.1 q2.2 h6 h7) q1 (fun n hn => setKs_out hn) (setKs_in List.mem_cons_self h8) (setKs_in (List.mem_cons_of_mem _ List.mem_cons_self) h9)
          · cases h
      · replace h := if_some h; obtain ⟨⟨h1, h2, h3, h4, h8, h9⟩, h⟩ := h
        have pgn : ∀ {i : Nat} {x : Str} {px : Pos}, Γ.to_ i x = true → X.N[i]? = some x ∧ PG X (.Name x px) (gName i) := fun {i x px} h1 => by
          unfold Cg.to_ at h1
          simp only [Bool.and_eq_true, decide_eq_true_eq] at h1
          obtain ⟨h1, h3⟩ := h1
          refine ⟨by rw [G.e.N]; exact h1, ?_⟩
          split at h3
          · rename_i hl
            exact pg_name G.e.nd (by rw [G.e.N]; exact h1) (.inl (by rw [G.e.sc]; exact hl)) (.inr (by rw [G.e.sc]; exact hl))
          · rename_i hl
            exact pg_name G.e.nd (by rw [G.e.N]; exact h1) (.inr (by rw [G.e.sc]; exact hl)) (.inl (G.e.fn _ h3))
          · cases h3
        split at h
        · rename_i ks hks
          cases h
          intro k' hk'
          rw [hk' _ rfl]
          unfold parK2 at hks
          split at hks
          · rename_i c1 c2
            split at hks
            · rename_i κa κb ea eb
              split at hks
              · rename_i hc
                cases hks
                obtain ⟨_, z1, z2, s1, s2⟩ := hc
                have e1 : (evS C F w (.par [i, j] [c1, c2])) = fun s p => (evE C F c1 s p).bd fun d1 p => (evE C F c2 s p).bd fun d2 p => match setAll [i, j] [d1, d2] s with | some s' => .ok (.nx, s') p | none => .bad := by
                  funext s p
                  simp only [evS, evEs]
                  cases evE C F c1 s p with
                  | ok d1 p1 =>
                    show R.bd (R.bd (R.bd (evE C F c2 s p1) _) _) _ = R.bd (evE C F c2 s p1) _
                    cases evE C F c2 s p1 <;> rfl
                  | err _ _ => rfl
                  | bad => rfl
                rw [e1]
                exact es_parT2 G.e.calm (pgn (px := px) h1).1 (pgn (px := py) h2).1 h3 (pgn h1).2 (pgn h2).2 ((okX_sound c1 Γ k false _ _ ea X W G.e).1 rfl) ((okX_sound c2 Γ k false _ _ eb X W G.e).1 rfl) s1 s2 (ss_C (by rw [G.e.sc]; exact h4)) z1 z2
                  (fun n hn => by rw [setKs_out (by simpa using fun z => hn (by simp [z])), setKs_out (by simpa using fun z => hn (by simp [z]))]) (by rw [setKs_out (by simpa using h3), setKs_in List.mem_cons_self h8]) (setKs_in List.mem_cons_self (by rw [setKs_len]; exact h9))
              · cases hks
            · cases hks
          · cases hks
        · cases h
    · rename_i i j n x px y py z pz kt pt a b c kt2 pt2 pos
      replace h := if_some h; obtain ⟨⟨h1, h2, h2', ⟨h3, h3', h3''⟩, ⟨h4, h4', h4''⟩, h5, h5', h6, h7, ⟨h8, h9, h9'⟩, h10⟩, h⟩ := h
      obtain ⟨a1, a2⟩ := loc_ok G.e h1
      obtain ⟨b1, b2⟩ := loc_ok G.e h2
      obtain ⟨c1, c2⟩ := loc_ok G.e h2'
      split at h
      · rename_i ks hks
        cases h
        intro k' hk'
        rw [hk' _ rfl]
        unfold parK3 at hks
        split at hks
        · rename_i g1 g2 g3
          split at hks
          · rename_i κa κb κc ea eb ec
            split at hks
            · rename_i hc
              cases hks
              obtain ⟨_, z1, z2, z3, s1, s2, s3⟩ := hc
              have e1 : (evS C F w (.par [i, j, n] [g1, g2, g3])) = fun s p => (evE C F g1 s p).bd fun d1 p => (evE C F g2 s p).bd fun d2 p => (evE C F g3 s p).bd fun d3 p => match setAll [i, j, n] [d1, d2, d3] s with | some s' => .ok (.nx, s') p | none => .bad := by
                funext s p
                simp only [evS, evEs]
                cases evE C F g1 s p with
                | ok d1 p1 =>
                  simp only [R.bd]
                  cases evE C F g2 s p1 with
                  | ok d2 p2 =>
                    simp only [R.bd]
                    cases evE C F g3 s p2 <;> rfl
                  | err _ _ => rfl
                  | bad => rfl
                | err _ _ => rfl
                | bad => rfl
              rw [e1]
              exact es_parF3 G.e.calm G.e.nd a1 b1 c1 h3 h3' h3'' a2 b2 c2 ((okX_sound g1 Γ k false _ _ ea X W G.e).1 rfl) ((okX_sound g2 Γ k false _ _ eb X W G.e).1 rfl) ((okX_sound g3 Γ k false _ _ ec X W G.e).1 rfl) s1 s2 s3 (sw_par3 (by rw [G.e.sc]; exact h10) a2 b2 c2 h4 h4' h4'' h5 h5' s1 s2 s3 h6 h7) z1 z2 z3
                (fun n' hn => by rw [setKs_out (by simpa using fun z => hn (by simp [z])), setKs_out (by simpa using fun z => hn (by simp [z])), setKs_out (by simpa using fun z => hn (by simp [z]))])
                (by rw [setKs_out (by simpa using h3'), setKs_out (by simpa using h3), setKs_in List.mem_cons_self h8]) (by rw [setKs_out (by simpa using h3''), setKs_in List.mem_cons_self (by rw [setKs_len]; exact h9)]) (setKs_in List.mem_cons_self (by rw [setKs_len, setKs_len]; exact h9'))
            · cases hks
          · cases hks
        · cases hks
      · split at h
        · rename_i κ he
          cases h
          intro k' hk'
          rw [hk' _ rfl]
          obtain ⟨q1, q2, q3, q4⟩ := okEs_sound (F := F) l Γ k _ _ he X W G.e
          simp only [List.all_cons, List.all_nil, Bool.and_true, Bool.and_eq_true] at q2
          exact es_par3 G.e.calm G.e.nd a1 b1 c1 h3 h3' h3'' a2 b2 c2 (q4 κ id) (sw_par3 (by rw [G.e.sc]; exact h10) a2 b2 c2 h4 h4' h4'' h5 h5' q2.1 q2.2.1 q2.2.2 h6 h7) q1 (fun n hn => setKs_out hn) (setKs_in List.mem_cons_self h8) (setKs_in (List.mem_cons_of_mem _ List.mem_cons_self) h9) (setKs_in (List.mem_cons_of_mem _ (List.mem_cons_of_mem _ List.mem_cons_self)) h9')
        · cases h
    · cases h
  | .setI i x e bs, Γ, kl, rk, k, st, r, h, X, W, G => by
    simp only [okS] at h
    split at h
    · replace h := if_some h; obtain ⟨⟨h1, h2, h3, h4⟩, h⟩ := h
      split at h
      · rename_i he hx
        cases h
        intro k' hk'
        rw [hk' _ rfl]
        obtain ⟨a1, a2, a3, a4⟩ := G.e.at_ h1
        obtain ⟨b1, b2⟩ := bs_ok h4
        exact es_setI a1 a2 a3 a4 h2 ((okX_sound e Γ k false _ _ he X W G.e).1 rfl) rfl ((okX_sound x Γ k false _ _ hx X W G.e).1 rfl) h3 b1 b2
      · cases h
    · cases h
  | .setII i x y e bs, Γ, kl, rk, k, st, r, h, X, W, G => by
    simp only [okS] at h
    split at h
    · replace h := if_some h; obtain ⟨⟨h1, h2, h3, h4, h5⟩, h⟩ := h
      split at h
      · rename_i he hx hy
        cases h
        intro k' hk'
        rw [hk' _ rfl]
        obtain ⟨a1, a2, a3, a4⟩ := G.e.at_ h1
        obtain ⟨b1, b2⟩ := bs_ok h5
        exact es_setII a1 a2 a3 a4 h2 ((okX_sound e Γ k false _ _ he X W G.e).1 rfl) rfl ((okX_sound x Γ k false _ _ hx X W G.e).1 rfl) h3 ((okX_sound y Γ k false _ _ hy X W G.e).1 rfl) h4 b1 b2
      · cases h
    · cases h
  | .popa i j e bs, Γ, kl, rk, k, st, r, h, X, W, G => by
    simp only [okS] at h
    split at h
    · replace h := if_some h; obtain ⟨⟨rfl, rfl, hij, h1, h2, g1, g2, h3, h4, h5, h6⟩, h⟩ := h
      split at h
      · rename_i κ he
        cases h
        intro k' hk'
        rw [hk' _ rfl]
        obtain ⟨a1, a2, a3, a4⟩ := G.e.at_ h1
        obtain ⟨c1, c2, c3, c4⟩ := G.e.at_ g1
        obtain ⟨b1, b2⟩ := bs_ok h4
        exact es_popa hij a1 a2 a3 a4 h2 c1 c2 c3 c4 g2 ((okX_sound e Γ k false _ _ he X W G.e).1 rfl) h3 b1 b2 h5 h6
      · cases h
    · cases h
  | .app i e bs, Γ, kl, rk, k, st, r, h, X, W, G => by
    simp only [okS] at h
    split at h
    · replace h := if_some h; obtain ⟨⟨rfl, h1, h2, h3, h4, h5⟩, h⟩ := h
      split at h
      · rename_i κ he
        split at h
        · cases h
        · rename_i hκ
          cases h
          intro k' hk'
          rw [hk' _ rfl]
          obtain ⟨a1, a2, a3, a4⟩ := G.e.at_ h1
          obtain ⟨b1, b2⟩ := bs_ok h4
          exact es_app a1 a2 a3 a4 h2 ((okX_sound e Γ k false _ _ he X W G.e).1 rfl) hκ h3 b1 b2 h5 rfl
      · cases h
    · cases h
  | .ext i e bs, Γ, kl, rk, k, st, r, h, X, W, G => by
    simp only [okS] at h
    split at h
    · replace h := if_some h; obtain ⟨⟨rfl, h1, h2, h3, h4, h5⟩, h⟩ := h
      split at h
      · rename_i κ he
        split at h
        · cases h
        · rename_i hκ
          cases h
          intro k' hk'
          rw [hk' _ rfl]
          obtain ⟨a1, a2, a3, a4⟩ := G.e.at_ h1
          obtain ⟨b1, b2⟩ := bs_ok h4
          exact es_ext a1 a2 a3 a4 h2 ((okX_sound e Γ k false _ _ he X W G.e).1 rfl) hκ h3 b1 b2 h5 rfl
      · cases h
    · cases h
  | .exp e, Γ, kl, rk, k, st, r, h, X, W, G => by
    simp only [okS] at h
    split at h
    · replace h := if_some h; obtain ⟨⟨h1, h2⟩, h⟩ := h
      cases h
      intro k' hk'
      rw [hk' _ rfl]
      obtain ⟨κ, he⟩ := Option.isSome_iff_exists.mp h2
      exact es_exp ((okX_sound e Γ k false _ _ he X W G.e).1 rfl) (sw_no h1)
    · cases h
  | .ret e, Γ, kl, rk, k, st, r, h, X, W, G => by
    simp only [okS] at h
    split at h
    · rename_i v pos
      split at h
      · rename_i κ he
        have pe := (okX_sound (F := F) e Γ k false _ _ he X W G.e).1 rfl
        intro k' _
        by_cases h0 : rk = 0
        · subst h0
          exact es_ret0 pe
        · rw [if_neg h0] at h
          by_cases h1 : κ = .fr rk
          · subst h1
            obtain ⟨n, rfl⟩ : ∃ n, rk = n + 1 := ⟨rk - 1, by omega⟩
            exact es_retF pe
          · rw [if_neg h1] at h
            split at h
            · rename_i i hv
              replace h := if_some h; obtain ⟨rfl, _⟩ := h
              obtain ⟨rfl, hk⟩ := isVar1_some hv
              simp only [okX] at he
              split at he
              · replace he := if_some he; obtain ⟨hx, _⟩ := he
                obtain ⟨a1, a2, a3, a4⟩ := G.e.at_ hx
                exact es_retV a1 a2 a3 a4 hk
              · cases he
            · cases h
      · cases h
    · split at h
      · replace h := if_some h; obtain ⟨rfl, h⟩ := h
        intro k' _
        exact es_retN
      · cases h
    · cases h
  | .ife c a b, Γ, kl, rk, k, st, r, h, X, W, G => by
    simp only [okS] at h
    split at h
    · replace h := if_some h; obtain ⟨hc, h⟩ := h
      obtain ⟨κ, hc⟩ := Option.isSome_iff_exists.mp hc
      split at h
      · rename_i x y ha hb
        intro k' hk'
        have pa := okSs_sound a Γ kl rk k _ _ ha X W G
        have pb := okSs_sound b Γ kl rk k _ _ hb X W G
        have key : (∀ k2, x = some k2 → k' = kf k2) ∧ ∀ k2, y = some k2 → k' = kf k2 := by
          cases x with
          | none =>
            simp only [jnR, Option.some.injEq] at h
            subst h
            exact ⟨fun _ z => (nomatch z), hk'⟩
          | some kx =>
            cases y with
            | none =>
              simp only [jnR, Option.some.injEq] at h
              subst h
              exact ⟨hk', fun _ z => nomatch z⟩
            | some ky =>
              simp only [jnR] at h
              replace h := if_some h; obtain ⟨rfl, h⟩ := h
              cases h
              exact ⟨hk', hk'⟩
        exact es_if ((okX_sound c Γ k true _ _ hc X W G.e).2 rfl).1 (pa k' key.1) (pb k' key.2)
      · cases h
    · cases h
  | .loop q ik l b, Γ, kl, rk, k, st, r, h, X, W, G => by
    simp only [okS] at h
    split at h
    · rename_i tg it body pos
      replace h := if_some h; obtain ⟨hn, h⟩ := h
      have e1 : evS C F w (.loop q ik l b) = fun s p => ((evEs C F l s p).bd fun ds p => R.of (items ik ds) p).bd fun xs p => loopR (fun d s p => withP q s d fun s' => evSs C F w b s' p) xs s p := by
        funext s p
        simp only [evS]
        rw [bd_bd]
      have go : ∀ {r' : Option (List Kd)} {κ : Kd} {ex : List Nat}, okSs b Γ k rk k body = some r' → (∀ k2, r' = some k2 → kf k = kf k2) → r = some k → okP Γ k κ q tg = true → PI X tg it (titX X.K W (kf k) ex κ fun s p => (evEs C F l s p).bd fun ds p => R.of (items ik ds) p) → (∀ j ∈ ex, j ∉ mdSs b) → (κ = .sh ∨ (κ = .bo ∧ ∀ i ∈ mdSs b, ∀ n, kf k i ≠ .fr n)) → OkSt C F w X W (kf k) r (kf kl) rk (.loop q ik l b) (.For tg it body [] pos) := fun {r' κ ex} hb h1 h2 hp hi hx hκ k' hk' => by
        rw [hk' _ h2, e1]
        have hκ' : κ = .bo ∨ κ = .sh := hκ.elim .inr fun z => .inl z.1
        exact es_for G.own G.e.calm hi (okP_sound G.e hκ' q tg hp) (okSs_sound b Γ k rk k body _ hb X W G (kf k) h1) (nsI_ok hn) (fun _ z => z) hx hκ
      split at h
      · rename_i j hj
        replace h := if_some h; obtain ⟨⟨hp, hm, hI⟩, h⟩ := h
        have pi : PI X tg it (titX X.K W (kf k) [j] .sh fun s p => (evEs C F l s p).bd fun ds p => R.of (items ik ds) p) := by
          unfold isOwnIt at hj
          split at hj
          · rename_i c
            obtain ⟨rfl, hk⟩ := isVar1_some hj
            obtain ⟨κ, hI⟩ := Option.isSome_iff_exists.mp hI
            simp only [okI] at hI
            replace hI := if_some hI; obtain ⟨_, hI⟩ := hI
            obtain ⟨κ', hI, _⟩ := Option.map_eq_some_iff.mp hI
            simp only [okX] at hI
            split at hI
            · replace hI := if_some hI; obtain ⟨hx, _⟩ := hI
              obtain ⟨a1, a2, a3, a4⟩ := G.e.at_ hx
              rw [evs_val]
              exact ei_own a1 a2 a3 a4 hk
            · cases hI
          · cases hj
        have hx : ∀ i ∈ [j], i ∉ mdSs b := fun i hi => by rw [List.mem_singleton.mp hi]; exact hm
        split at h
        · rename_i hb
          cases h
          exact go hb (fun _ z => nomatch z) rfl hp pi hx (.inl rfl)
        · rename_i k2 hb
          replace h := if_some h; obtain ⟨rfl, h⟩ := h
          cases h
          exact go hb (fun _ z => by cases z; rfl) rfl hp pi hx (.inl rfl)
        · cases h
      · split at h
        · rename_i κ hI
          replace h := if_some h; obtain ⟨⟨hp, hκ⟩, h⟩ := h
          obtain ⟨q1, q2⟩ := okI_sound (F := F) l ik Γ k _ _ _ hI X W G.e
          have pi := ei_ex (ex := []) q2
          have hκ' : κ = .sh ∨ (κ = .bo ∧ ∀ i ∈ mdSs b, ∀ n, kf k i ≠ .fr n) := by
            rcases q1 with rfl | rfl
            · rcases hκ with z | z
              · cases z
              · refine .inr ⟨rfl, fun i hi n e => ?_⟩
                have := List.all_eq_true.mp z i hi
                simp only [Bool.or_eq_true, decide_eq_true_eq] at this
                rcases this with y | y <;> · rw [y] at e; cases e
            · exact .inl rfl
          split at h
          · rename_i hb
            cases h
            exact go hb (fun _ z => nomatch z) rfl hp pi (fun _ z => nomatch z) hκ'
          · rename_i k2 hb
            replace h := if_some h; obtain ⟨rfl, h⟩ := h
            cases h
            exact go hb (fun _ z => by cases z; rfl) rfl hp pi (fun _ z => nomatch z) hκ'
          · cases h
        · cases h
    · cases h
  | .whl c b, Γ, kl, rk, k, st, r, h, X, W, G => by
    simp only [okS] at h
    split at h
    · rename_i v body pos
      replace h := if_some h; obtain ⟨hc, h⟩ := h
      obtain ⟨κ, hc⟩ := Option.isSome_iff_exists.mp hc
      have go : ∀ r', okSs b Γ k rk k body = some r' → (∀ k2, r' = some k2 → kf k = kf k2) → r = some k → OkSt C F w X W (kf k) r (kf kl) rk (.whl c b) (.While v body [] pos) := fun r' hb h1 h2 k' hk' => by
        rw [hk' _ h2]
        exact es_while G.own ((okX_sound c Γ k true _ _ hc X W G.e).2 rfl).1 (okSs_sound b Γ k rk k body _ hb X W G (kf k) h1)
      split at h
      · rename_i hb
        cases h
        exact go none hb (fun _ z => nomatch z) rfl
      · rename_i k2 hb
        replace h := if_some h; obtain ⟨rfl, h⟩ := h
        cases h
        exact go (some k2) hb (fun _ z => by cases z; rfl) rfl
      · cases h
    · cases h
  | .pset i f e, Γ, kl, rk, k, st, r, h, X, W, G => by
    simp only [okS] at h
    split at h
    · replace h := if_some h; obtain ⟨⟨rfl, h1, h2, h3, h4⟩, h⟩ := h
      cases h
      intro k' hk'
      rw [hk' _ rfl]
      obtain ⟨κ, he⟩ := Option.isSome_iff_exists.mp h4
      obtain ⟨a1, a2, a3, a4⟩ := G.e.at_ h1
      exact es_pset G.e.un a1 a2 a3 a4 h2 ((okX_sound e Γ k false _ _ he X W G.e).1 rfl) fun t l => sw_no h3
    · cases h
  | .brk, Γ, kl, rk, k, st, r, h, X, W, G => by
    simp only [okS] at h
    split at h
    · replace h := if_some h; obtain ⟨rfl, h⟩ := h
      exact fun k' _ => es_brk
    · cases h
  | .cont, Γ, kl, rk, k, st, r, h, X, W, G => by
    simp only [okS] at h
    split at h
    · replace h := if_some h; obtain ⟨rfl, h⟩ := h
      exact fun k' _ => es_cont
    · cases h
  | .pass, Γ, kl, rk, k, st, r, h, X, W, G => by
    simp only [okS] at h
    split at h
    · cases h
      intro k' hk'
      rw [hk' _ rfl]
      exact es_pass
    · cases h
      intro k' hk'
      rw [hk' _ rfl]
      exact es_doc
    · cases h
  | .rai c ns l, Γ, kl, rk, k, st, r, h, X, W, G => by
    simp only [okS] at h
    split at h
    · replace h := if_some h; obtain ⟨⟨rfl, h1, h2, h3⟩, h⟩ := h
      split at h
      · rename_i κ he
        cases h
        obtain ⟨q1, q2, q3, q4⟩ := okEs_sound (F := F) l Γ k _ _ he X W G.e
        rw [List.all_cons, Bool.and_eq_true] at q2
        obtain ⟨j, hj, hr, _, _⟩ := G.e.fns
        intro k' _
        have hne : ns ≠ [] := fun z => by
          subst z
          rw [List.length_nil, ← q3, List.length_cons] at h3
          omega
        exact es_rai G.e.calm G.e.tk (G.e.gl h1) (hr.mono hj) (G.e.tab.exc _ _ h2 hne) (q4 κ id) q1 (fun s p ds p' e => by rw [evEs_len l s p ds p' e]; exact h3) q2.1 q2.2
      · cases h
    · replace h := if_some h; obtain ⟨⟨rfl, h1, h2, rfl, h4⟩, h⟩ := h
      obtain rfl := List.isEmpty_iff.mp h4
      cases h
      obtain ⟨hm, hx, hd⟩ := G.e.tab.ex0 _ h2
      intro k' _
      exact es_rai0 G.e.calm G.e.tk (G.e.gl h1) hm hx hd
    · cases h
  | .tryk kt i j l, Γ, kl, rk, k, st, r, h, X, W, G => by
    simp only [okS] at h
    split at h
    · replace h := if_some h; obtain ⟨⟨⟨hf, rfl, hg, rfl, rfl, rfl, rfl, rfl, rfl, rfl, rfl⟩, hi, hj, hij, hjl, hki, hkj, hgl, hx⟩, h⟩ := h
      cases h
      intro k' hk'
      rw [hk' _ rfl]
      exact es_try G hf hg hi hj hij hjl hki hkj hgl hx
    · cases h
  | .frz _, Γ, kl, rk, k, st, r, h, X, W, G => by simp only [okS] at h; cases h
  | .drop _ _, Γ, kl, rk, k, st, r, h, X, W, G => by simp only [okS] at h; cases h
theorem okSs_sound : ∀ (c : List S) (Γ : Cg) (kl : List Kd) (rk : Nat) (k : List Kd) (st : List Stmt) (r : Option (List Kd)), okSs c Γ kl rk k st = some r → ∀ (X : Cx) (W : WX), GoodS Γ X W C F → OkSts C F w X W (kf k) r (kf kl) rk c st
  | [], Γ, kl, rk, k, st, r, h, X, W, G => by
    simp only [okSs] at h
    replace h := if_some h; obtain ⟨he, h⟩ := h
    cases h
    obtain rfl := List.isEmpty_iff.mp he
    intro k' hk'
    rw [hk' _ rfl]
    exact es_nil
  | c :: l, Γ, kl, rk, k, st, r, h, X, W, G => by
    simp only [okSs] at h
    split at h
    · rename_i i hc
      replace h := if_some h; obtain ⟨⟨hk, hi⟩, h⟩ := h
      intro k' hk'
      have hc := psd_l hc
      have z := es_frz (okSs_sound l Γ kl rk _ _ _ h X W G k' hk') (k := kf k) (i := i) (fun j hj => setKs_out (by simpa using hj)) (setKs_in List.mem_cons_self hi) hk
      have e1 : evSs C F w (.frz i :: l) = evSs C F w l := by
        funext s p
        simp only [evSs, evS]
        rfl
      rw [hc, e1]
      exact z
    · rename_i vs κ hc
      intro k' hk'
      have hc := psd_r hc
      have z := es_drop (okSs_sound l Γ kl rk _ _ _ h X W G k' hk') (k := kf k) (vs := vs) (fun j hj => setKs_out hj)
      have e1 : evSs C F w (.drop vs κ :: l) = fun s p => evSs C F w l (wipeS s vs) p := by
        funext s p
        simp only [evSs, evS]
        rfl
      rw [hc, e1]
      exact z
    · have e1 : evSs C F w (c :: l) = fun s p => (evS C F w c s p).bd fun x p => match x with | (.nx, s') => evSs C F w l s' p | y => .ok y p := by
        funext s p
        simp only [evSs]
        try rfl
      split at h
      · rename_i st1 sts
        split at h
        · rename_i k1 h1
          intro k' hk'
          rw [e1]
          exact es_cons (okS_sound c Γ kl rk k _ _ h1 X W G (kf k1) fun _ z => by cases z; rfl) (okSs_sound l Γ kl rk k1 _ _ h X W G k' hk')
        · rename_i h1
          replace h := if_some h; obtain ⟨⟨h2, h3⟩, h⟩ := h
          cases h
          obtain rfl := List.isEmpty_iff.mp h2
          obtain rfl := List.isEmpty_iff.mp h3
          intro k' _
          rw [e1]
          exact es_cons (okS_sound c Γ kl rk k _ _ h1 X W G k' fun _ z => nomatch z) es_nil
        · cases h
      · cases h
end
end
end Mc

/-! Mc21b: the body of an __init__. -/
namespace Mc
open PySem PySem.Spec PyProof.Rows L2
/-- the statements ahead of the fields; what is left -/
def preB (Γ : Cg) : List Kd → List S → List Stmt → Option (List Kd × List Stmt)
  | k, [], sts => some (k, sts)
  | k, c :: b, sts => (match c, sts with
    | .exp e, .Expr v _ :: r => if isLc v = false ∧ (okX e Γ k false v).isSome = true then preB Γ k b r else none
    | .set (.nm i) e, .Assign [.Name y _] v _ :: r => if 0 < i ∧ i < k.length ∧ Γ.to_ i y = true ∧ kf k i = .sh ∧ isLc v = false ∧ (match okX e Γ k false v with
      | some .bo => false
      | some _ => true
      | none => false) = true then preB Γ k b r else none
    | .ife t [.rai c ns l] [], .If v [sa] [] _ :: r => if (okX t Γ k true v).isSome = true ∧ (match okS (.rai c ns l) Γ [] 0 k sa with
      | some none => true
      | _ => false) = true then preB Γ k b r else none
    | _, _ => none)
/-- the fields -/
def fldB (Γ : Cg) (k : List Kd) (x0 : Str) : List Str → List E → List Stmt → Bool
  | [], [], sts => sts.isEmpty
  | f :: ns, e :: es, sts => (match sts with
    | .Assign [.Attribute (.Name y _) g _] v _ :: r => decide (y = x0) && (decide (g = f) && (!decide (f ∈ ns) && (!isLc v && ((match okX e Γ k false v with
      | some .sh => true
      | _ => false) && fldB Γ k x0 ns es r))))
    | _ => false)
  | _, _, _ => false
theorem putF_zip {f : Str} {v : V} : ∀ {n : List Str} {xs : List V}, n.length = xs.length → f ∉ n → putF f v (n.zip xs) = (n ++ [f]).zip (xs ++ [v])
  | [], [], _, _ => rfl
  | m :: n, x :: xs, hl, hf => by
    have h1 : ¬ m = f := fun z => hf (by rw [z]; exact List.mem_cons_self)
    show putF f v ((m, x) :: n.zip xs) = (m, x) :: (n ++ [f]).zip (xs ++ [v])
    rw [← putF_zip (by simpa using hl) (fun z => hf (List.mem_cons_of_mem _ z))]
    show (if m = f then _ else _) = _
    rw [if_neg h1]
section
variable {C : Str → List D → P → R D} {F : R D → R D} {w : Nat} {Γ : Cg} {X : Cx} {W : WX}
/-- what is wanted behind the statements ahead -/
def PreR (K : PySem.W.Frag) (pa : Pa) (W : WX) (k1 : Nat → Kd) (x : Addr) (m : Ms) (H : Hp) (r : R (Fl × Sl)) (Z : L2.St → Hp → Prop) : Prop := match r with
  | .ok (.nx, s') p => ∀ σ' H', σ'[0]? = some (some (.ref x)) → Keep pa H H' → Rel K pa k1 σ' H' { m with s := s', p := p } → Z σ' H'
  | .err e p => ∀ cls dd H' σ', Keep pa m.H0 H' → PenR pa m.M0 p H' → ExR K pa m.M0 e cls dd H' → W cls dd σ' H'
  | _ => False
theorem PreR.move {K : PySem.W.Frag} {pa : Pa} {k1 : Nat → Kd} {x : Addr} {m : Ms} {H H1 : Hp} {r : R (Fl × Sl)} {Z : L2.St → Hp → Prop} (hk : Keep pa H H1) (h : PreR K pa W k1 x m H r Z) : PreR K pa W k1 x m H1 r Z := by
  unfold PreR at h ⊢
  split at h
  · exact fun σ' H' a b c => h σ' H' a (hk.trans b) c
  · exact h
  · exact h.elim
theorem pre_ok (G : GoodS Γ X W C F) {rest : List Stmt} {u : TS} {k1 : List Kd} (hu : PSs X rest u) : ∀ (b : List S) (k : List Kd) (sts : List Stmt), preB Γ k b sts = some (k1, rest) →
    ∃ t, PSs X sts t ∧ ∀ (En : Ends) (m : Ms) (pa : Pa) (σ : L2.St) (H : Hp) (x : Addr), Rel X.K pa (kf k) σ H m → σ[0]? = some (some (.ref x)) → PreR X.K pa W (kf k1) x m H (evSs C F w b m.s m.p) (u En) → t En σ H
  | [], k, sts, h => by
    simp only [preB, Option.some.injEq, Prod.mk.injEq] at h
    obtain ⟨rfl, rfl⟩ := h
    exact ⟨u, hu, fun En m pa σ H x hr h0 hq => hq σ H h0 .refl hr⟩
  | c :: b, k, sts, h => by
    simp only [preB] at h
    split at h
    · rename_i e v pos r
      replace h := if_some h; obtain ⟨⟨hl, he⟩, h⟩ := h
      obtain ⟨κ, he⟩ := Option.isSome_iff_exists.mp he
      obtain ⟨t, ht, hq⟩ := pre_ok G hu b k r h
      refine ⟨_, pss_cons (ps_expr ((okX_sound (F := F) (C := C) e Γ k false v κ he X W G.e).1 rfl) (sw_no hl)) ht, fun En m pa σ H x hr h0 z => ?_⟩
      have z : PreR X.K pa W (kf k1) x m H (((evE C F e m.s m.p).bd fun _ p => R.ok (Fl.nx, m.s) p).bd fun x p => match x with
        | (.nx, s') => evSs C F w b s' p
        | y => .ok y p) (u En) := z
      refine ⟨m, pa, hr, ?_⟩
      cases q : evE C F e m.s m.p with
      | ok d p =>
        rw [q] at z
        intro v1 H1 k2 p1 _
        exact hq En { m with p := p } pa σ H1 x (hr.keep k2 p1) h0 (PreR.move (m := { m with p := p }) k2 z)
      | err e p =>
        rw [q] at z
        exact fun cls dd H1 k2 p1 x1 => z cls dd H1 σ (hr.kp.trans k2) p1 x1
      | bad => rw [q] at z; exact z.elim
    · rename_i i e y q1 v pos r
      replace h := if_some h; obtain ⟨⟨hi, hik, hy, hk, hl, he⟩, h⟩ := h
      have he : ∃ κ, okX e Γ k false v = some κ ∧ κ ≠ .bo := by
        split at he
        · cases he
        · rename_i κ hn q
          exact ⟨κ, q, fun z => hn z⟩
        · cases he
      obtain ⟨κ, he, hκ⟩ := he
      obtain ⟨t, ht, hq⟩ := pre_ok G hu b k r h
      obtain ⟨z1, z2, z3⟩ := to_ok G.e hy
      refine ⟨_, pss_cons (ps_asg ((okX_sound (F := F) (C := C) e Γ k false v κ he X W G.e).1 rfl) (pg_name G.e.nd z1 z2 z3) (sw_no1 hl) ss_nm (ae1 rfl)) ht, fun En m pa σ H x hr h0 z => ?_⟩
      have z : PreR X.K pa W (kf k1) x m H (((evE C F e m.s m.p).bd fun d p => R.ok (Fl.nx, m.s.set i (some d)) p).bd fun x p => match x with
        | (.nx, s') => evSs C F w b s' p
        | y => .ok y p) (u En) := z
      refine ⟨m, pa, hr, ?_⟩
      cases q : evE C F e m.s m.p with
      | ok d p =>
        rw [q] at z
        intro v1 H1 k2 p1 hv
        have rd : RD X.K pa m.M H1 d v1 := by
          have y := hv.base fun a => hr.Mdom
          rw [base_sh hκ] at y; exact y
        have hr1 := hr.keep k2 p1
        have hr2 := Rel.set (i := i) (d := d) (v := v1) hr1 (.inr rfl) hk rd
        exact hq En { m with p := p, s := m.s.set i (some d) } pa (σ.set i (some v1)) H1 x hr2 (by rw [List.getElem?_set_ne (by omega)]; exact h0) (PreR.move (m := { m with p := p, s := m.s.set i (some d) }) k2 z)
      | err e p =>
        rw [q] at z
        exact fun cls dd H1 k2 p1 x1 => z cls dd H1 σ (hr.kp.trans k2) p1 x1
      | bad => rw [q] at z; exact z.elim
    · rename_i t c ns l v sa pos r
      replace h := if_some h; obtain ⟨⟨he, hs⟩, h⟩ := h
      obtain ⟨κ, he⟩ := Option.isSome_iff_exists.mp he
      have hs : okS (.rai c ns l) Γ [] 0 k sa = some none := by
        split at hs
        · assumption
        · cases hs
      obtain ⟨t', ht, hq⟩ := pre_ok G hu b k r h
      have pr := okS_sound (F := F) (C := C) (w := w) (.rai c ns l) Γ [] 0 k sa none hs X W G (kf k) (fun _ z => nomatch z)
      refine ⟨_, pss_cons (ps_if ((okX_sound (F := F) (C := C) t Γ k true v κ he X W G.e).2 rfl).1 (pss_one pr) pss_nil) ht, fun En m pa σ H x hr h0 z => ?_⟩
      have z : PreR X.K pa W (kf k1) x m H (((evE C F t m.s m.p).bd fun x p => (R.of (truD x) p).bd fun k p => if k = true then evSs C F w [.rai c ns l] m.s p else evSs C F w [] m.s p).bd fun x p => match x with
        | (.nx, s') => evSs C F w b s' p
        | y => .ok y p) (u En) := z
      refine ⟨m, pa, hr, ?_⟩
      cases q : evE C F t m.s m.p with
      | ok d p =>
        rw [q] at z
        show match R.of (truD d) p with
          | .ok b p => _
          | .err x p => _
          | .bad => False
        cases q2 : truD d with
        | none =>
          have z : PreR X.K pa W (kf k1) x m H (((R.of (truD d) p).bd fun k p => if k = true then evSs C F w [.rai c ns l] m.s p else evSs C F w [] m.s p).bd fun x p => match x with
            | (.nx, s') => evSs C F w b s' p
            | y => .ok y p) (u En) := z
          rw [q2] at z; exact z.elim
        | some bb =>
          have z : PreR X.K pa W (kf k1) x m H (((R.of (truD d) p).bd fun k p => if k = true then evSs C F w [.rai c ns l] m.s p else evSs C F w [] m.s p).bd fun x p => match x with
            | (.nx, s') => evSs C F w b s' p
            | y => .ok y p) (u En) := z
          rw [q2] at z
          intro H1 k2 p1
          have hr1 := hr.keep k2 p1
          cases bb with
          | true =>
            have z : PreR X.K pa W (kf k1) x m H ((((evEs C F l m.s p).bd fun ds p => (R.err ⟨c, ns, ds⟩ p : R (Fl × Sl))).bd fun x p => match x with
                | (.nx, s') => evSs C F w [] s' p
                | y => .ok y p).bd fun x p => match x with
              | (.nx, s') => evSs C F w b s' p
              | y => .ok y p) (u En) := z
            rw [if_pos rfl]
            refine ⟨_, pa, hr1, ?_⟩
            show PostS X.K pa W _ _ _ _ _ _ ((evEs C F l m.s p).bd fun ds p => (R.err ⟨c, ns, ds⟩ p : R (Fl × Sl))) _
            cases q3 : evEs C F l m.s p with
            | ok ds p3 => rw [q3] at z; exact z
            | err e p3 => rw [q3] at z; exact z
            | bad => rw [q3] at z; exact z.elim
          | false =>
            rw [if_neg Bool.false_ne_true]
            exact hq En { m with p := p } pa σ H1 x hr1 h0 (PreR.move (m := { m with p := p }) k2 z)
      | err e p =>
        rw [q] at z
        exact fun cls dd H1 k2 p1 x1 => z cls dd H1 σ (hr.kp.trans k2) p1 x1
      | bad => rw [q] at z; exact z.elim
    · cases h
/-- what is wanted behind the fields -/
def FldR (K : PySem.W.Frag) (pa : Pa) (W : WX) (c : Addr) (x dx : Addr) (dn ns : List Str) (ld : List D) (m : Ms) (r : R (List D)) (Z : Hp → Prop) : Prop := match r with
  | .ok l p => ∀ H' xs, Keep pa m.H0 H' → PenR pa m.M0 p H' → H' x = some (.ins c dx ((dn ++ ns).zip xs)) → (dn ++ ns).length = xs.length → RDs K pa m.M0 H' (ld ++ l) xs → Z H'
  | .err e p => ∀ cls dd H' σ', Keep pa m.H0 H' → PenR pa m.M0 p H' → ExR K pa m.M0 e cls dd H' → W cls dd σ' H'
  | .bad => False
theorem fld_ok (G : GoodS Γ X W C F) {x0 : Str} {k : List Kd} {c : Addr} (h0 : X.N[0]? = some x0) (hv : Vis X.env.scope x0) (hd : (x0 == ("__debug__" : Str)) = false) (hcd : (x0 == ("__classdict__" : Str)) = false) (hc : Cls X.K c) :
    ∀ (ns : List Str) (es : List E) (sts : List Stmt), fldB Γ k x0 ns es sts = true → (∀ f ∈ ns, NoAttr X.K c f) →
    ∃ t, PSs X sts t ∧ ∀ (En : Ends) (m : Ms) (pa : Pa) (σ : L2.St) (H : Hp) (x dx : Addr) (dn : List Str) (xd : List V) (ld : List D), Rel X.K pa (kf k) σ H m → σ[0]? = some (some (.ref x)) → m.M0 x → pa.No x → x ≠ pa.c → m.H0 x = none → H x = some (.ins c dx (dn.zip xd)) → dn.length = xd.length → (∀ f ∈ ns, f ∉ dn) → dn.length + ns.length ≤ 900 →
      RDs X.K pa m.M H ld xd → FldR X.K pa W c x dx dn ns ld m (evEs C F es m.s m.p) (En.nx σ) → t En σ H
  | [], [], sts, h, _ => by
    simp only [fldB, List.isEmpty_iff] at h
    subst h
    refine ⟨_, pss_nil, fun En m pa σ H x dx dn xd ld hr s0 hM hno hxc hH0 hx hl _ _ hld z => ?_⟩
    have z : ∀ H' xs, Keep pa m.H0 H' → PenR pa m.M0 m.p H' → H' x = some (.ins c dx ((dn ++ []).zip xs)) → (dn ++ []).length = xs.length → RDs X.K pa m.M0 H' (ld ++ []) xs → En.nx σ H' := z
    exact z H xd hr.kp hr.pen (by rw [List.append_nil]; exact hx) (by rw [List.append_nil]; exact hl) (by rw [List.append_nil]; exact RDs.weak hld)
  | f :: ns, e :: es, sts, h, hna => by
    simp only [fldB] at h
    split at h
    · rename_i y q1 g q2 v q3 r
      simp only [Bool.and_eq_true, decide_eq_true_eq, Bool.not_eq_true', decide_eq_false_iff_not] at h
      obtain ⟨rfl, rfl, hf, hl, he, h⟩ := h
      have he : okX e Γ k false v = some .sh := by
        split at he
        · assumption
        · cases he
      obtain ⟨t, ht, hq⟩ := fld_ok G h0 hv hd hcd hc ns es r h fun f hf => hna f (List.mem_cons_of_mem _ hf)
      refine ⟨_, pss_cons (ps_fld (pe_var h0 hv hd hcd) ((okX_sound (F := F) (C := C) e Γ k false v .sh he X W G.e).1 rfl) (sw_no hl)) ht, fun En m pa σ H x dx dn xd ld hr s0 hM hno hxc hH0 hx hlen hnd hsz hld z => ?_⟩
      have z : FldR X.K pa W c x dx dn (g :: ns) ld m ((evE C F e m.s m.p).bd fun d p => (evEs C F es m.s p).bd fun ds p => .ok (d :: ds) p) (En.nx σ) := z
      refine ⟨m, pa, hr, ?_⟩
      cases q : evE C F e m.s m.p with
      | ok d p =>
        rw [q] at z
        intro v1 H1 k2 p1 hv1
        have rd : RD X.K pa m.M H1 d v1 := hv1
        have hr1 := hr.keep k2 p1
        have hx1 : H1 x = some (.ins c dx (dn.zip xd)) := k2 x _ hno hx
        refine ⟨.ref x, s0, x, c, dx, dn.zip xd, rfl, hx1, hc, hna g List.mem_cons_self, ?_, ?_⟩
        · have : (dn.zip xd).length ≤ dn.length := by rw [List.length_zip]; omega
          simp only [List.length_cons] at hsz
          omega
        · have gd : g ∉ dn := hnd g List.mem_cons_self
          rw [putF_zip hlen gd]
          have hr2 : Rel X.K pa (kf k) σ (upd H1 x (.ins c dx ((dn ++ [g]).zip (xd ++ [v1])))) { m with p := p } := hr1.held hM hno.1 hxc hH0 (tabs_upd hr1.pen.tb hx1 (fun _ z => nomatch z) (fun _ _ z => nomatch z))
          have st : ∀ a o, ¬ m.M a → H1 a = some o → upd H1 x (.ins c dx ((dn ++ [g]).zip (xd ++ [v1]))) a = some o := fun a o n e => by rw [upd_ne (fun z => n (by rw [z]; exact .inl hM))]; exact e
          refine hq En { m with p := p } pa σ _ x dx (dn ++ [g]) (xd ++ [v1]) (ld ++ [d]) hr2 s0 hM hno hxc hH0 upd_same (by simp [hlen]) (fun f hf2 => ?_) (by simp only [List.length_append, List.length_cons, List.length_nil] at hsz ⊢; omega) ?_ ?_
          · rw [List.mem_append]
            rintro (y | y)
            · exact hnd f (List.mem_cons_of_mem _ hf2) y
            · rw [List.mem_singleton.mp y] at hf2; exact hf hf2
          · exact (RDs.stay st (fun _ n _ => n) _ _ (RDs.stay (fun a o na e => k2 a o (Pa.no_of (fun b n => .inl (hr.pa0 b n)) na) e) (fun _ n _ => n) _ _ hld)).append (RDs.one (RD.stay st (fun _ n _ => n) _ _ rd))
          · have z : FldR X.K pa W c x dx dn (g :: ns) ld m ((evEs C F es m.s p).bd fun ds p => .ok (d :: ds) p) (En.nx σ) := z
            show FldR X.K pa W c x dx (dn ++ [g]) ns (ld ++ [d]) _ (evEs C F es m.s p) (En.nx σ)
            cases q2 : evEs C F es m.s p with
            | ok l p2 =>
              rw [q2] at z
              intro H' xs a1 a2 a3 a4 a5
              have e1 : dn ++ [g] ++ ns = dn ++ g :: ns := by rw [List.append_assoc]; rfl
              have e2 : ld ++ [d] ++ l = ld ++ d :: l := by rw [List.append_assoc]; rfl
              rw [e1] at a3 a4
              rw [e2] at a5
              exact z H' xs a1 a2 a3 a4 a5
            | err e2 p2 => rw [q2] at z; exact z
            | bad => rw [q2] at z; exact z.elim
      | err e p =>
        rw [q] at z
        exact fun cls dd H1 k2 p1 x1 => z cls dd H1 σ (hr.kp.trans k2) p1 x1
      | bad => rw [q] at z; exact z.elim
    · cases h
  | [], _ :: _, sts, h, _ => by simp only [fldB] at h; cases h
  | _ :: _, [], sts, h, _ => by simp only [fldB] at h; cases h
end
end Mc

/-! Mc22: a def, a text of defs. -/
namespace Mc
open PySem PySem.Spec PyProof.Rows L2
section
variable {P : Program} {w : World} {K : PySem.W.Frag} {mg : Str → Option Value} {base : Heap}
theorem start_get {N : List Str} {vs : List V} {i : Nat} (h : i < vs.length) : (L2.start N vs)[i]? = (vs[i]?).map some := by
  unfold L2.start
  rw [List.getElem?_append_left (by simpa using h), List.getElem?_map]
theorem startS_get {k i : Nat} {ds : List D} {d : D} (h : (startS k ds)[i]? = some (some d)) : ds[i]? = some d := by
  unfold startS at h
  by_cases hi : i < ds.length
  · rw [List.getElem?_append_left (by simpa using hi), List.getElem?_map] at h
    cases e : ds[i]? with
    | none => rw [e] at h; cases h
    | some x => rw [e] at h; cases h; rfl
  · rw [List.getElem?_append_right (by simpa using hi), List.getElem?_replicate] at h
    split at h <;> cases h
theorem tabIn_code {x : Str} {c P : Addr} {oc : Value} {od : Option Addr} {osl : Array (Option Value)} {fd : FuncData} (h : PySem.W.tabIn K x = some (c, P)) (lk : K.lookup (He.ga K x) = some ⟨oc, od, .func fd, osl⟩) : fd.code = .ref c := by
  unfold PySem.W.tabIn at h
  split at h
  · rename_i f hf
    have e : He.ga K x = f := by
      unfold He.ga
      rw [hf]
    rw [e] at lk
    rw [lk] at h
    dsimp only at h
    split at h
    · rename_i c' hc
      split at h
      · split at h
        · cases h; exact hc
        · cases h
      · cases h
    · cases h
  · cases h
/-- the context of a text's def -/
def Df.cg (d : Df) (scope : Scope) (tb : Tab) : Cg := ⟨d.N, scope, none, tb, d.g, if d.l = true then some d.nm else none⟩
def Df.lamB (K : PySem.W.Frag) (d : Df) (qual : Str) : Bool := lamH K d.l d.nm qual
theorem good_def {d : Df} {qual : Str} {params : Arguments} {body : List Stmt} {scope : Scope} {tb : Tab} {C : Str → List D → Mc.P → R D} {F : R D → R D} {k : Nat} {dV kV doc pm cdv ct oc : Value} {an od : Option Addr} {osl : Array (Option Value)}
    {A : Around} {outer : List Env} {s : Shared} {H : Hp} {E : XK} (lk : K.lookup (He.ga K d.nm) = some ⟨oc, od, .func (PySem.W.fnOf d.nm qual params body scope dV kV doc pm an cdv ct), osl⟩) (S : FnScope d.N (d.N.take d.n) scope) (hl : d.lamB K qual = true) (ht : TabOk P w K mg base tb) (hF : tb.flt = true → F = fltR tb.kt) (hk2 : 2 ≤ k)
    (hC : Fns P w K mg base k tb C) (hg : d.g = true → A.guards = some []) (hr : Room (k + 3) (A.deeper (envOfC qual scope s.heap.objs.size (He.ga K d.nm) cdv))) :
    GoodS (d.cg scope tb) (cxOf (L2.CX P w) P w K mg base d.N qual scope (He.ga K d.nm) cdv A outer s H E) (fun cls dd _ H => E cls dd H) C F where
  e := { calm := rfl, nd := S.nd, N := rfl, sc := rfl, fn := fun _ _ => rfl, un := by have := hr.un; show (A.deeper _).units + 65 < _; omega
         tk := takes_of rfl rfl rfl rfl
         tab := ht, fns := ⟨k, hk2, hr.mono (by omega), fun _ => hr, hC⟩, gd := hg, flt := hF
         lam := fun x hx => by
          have hx : (if d.l = true then some d.nm else none) = some x := hx
          split at hx
          · rename_i hd
            cases hx
            unfold Df.lamB lamH at hl
            rw [hd] at hl
            simp only [Bool.not_true, Bool.false_or, Bool.and_eq_true, decide_eq_true_eq] at hl
            obtain ⟨h1, h2, h3⟩ := hl
            obtain ⟨⟨c, P⟩, h3⟩ := Option.isSome_iff_exists.mp h3
            exact ⟨h2, by rw [← h1]; rfl, c, P, h3, tabIn_code h3 lk⟩
          · cases hx }
  own := passes_of rfl
  stk := rfl
  frm := rfl
theorem def_ok {d : Df} {qual : Str} {params : Arguments} {body : List Stmt} {scope : Scope} {fd : FuncData} {tb : Tab} {C : Str → List D → Mc.P → R D} {F : R D → R D} {wh k : Nat} {r : Option (List Kd)}
    (FD : FunD K d.nm qual params body scope [] [] (He.ga K d.nm) fd) (S : FnScope d.N (d.N.take d.n) scope) (hn : d.n ≤ d.N.length) (hk : (List.range d.n).all (fun i => decide (kf d.k i = .sh)) = true) (hlam : d.lamB K qual = true)
    (ok : okSs d.b (d.cg scope tb) [] d.rk d.k body = some r) (ht : TabOk P w K mg base tb) (hF : tb.flt = true → F = fltR tb.kt)
    (hk2 : 2 ≤ k) (hC : Fns P w K mg base k tb C) :
    Fg d.g P w K mg base (k + 4) (He.ga K d.nm) fd (d.N.take d.n) (spC K d.n (evF C F wh d.N.length d.rk d.b) d.rk) := by
  obtain ⟨oc, od, dV, kV, doc, pm, an, cdv, ct, osl, rfl, lk, hcd, _, _⟩ := FD.ex
  have hlen : ∀ vs H Q E, spC K d.n (evF C F wh d.N.length d.rk d.b) d.rk vs H Q E → vs.length = (d.N.take d.n).length := fun vs H Q E h => by
    rw [h.1, List.length_take]; omega
  refine ⟨hlen, fun A outer s H args us vs Q E hr hgd e0 hb rv h => LamX.run_ofS (k := k + 3) (N := d.N) (ps := d.N.take d.n) lk hcd S hr e0 hb rv (hlen _ _ _ _ h) fun hr2 => ?_⟩
  have G := good_def (F := F) (C := C) (outer := outer) (H := H) (E := E) lk S hlam ht hF hk2 hC hgd hr2
  obtain ⟨hl, pa, M0, p, ds, htk, hd, hp, hv, hc⟩ := h
  refine ⟨_, okSs_sound (F := F) (w := wh) d.b _ _ _ _ _ _ ok _ _ G (kf (r.getD [])) (fun k2 e => by rw [e]; rfl), ⟨H, M0, fun _ => [], startS d.N.length ds, p⟩, pa, ?_, ?_⟩
  · have M1 : ∀ b, ¬ M0 b → ¬ Ms.M ⟨H, M0, fun _ => [], startS d.N.length ds, p⟩ b := fun b n z => by
      rcases z with z | ⟨i, z⟩
      · exact n z
      · cases z
    refine ⟨hd, hp, fun i x e => ?_, fun _ _ => rfl, fun _ _ _ _ z => (nomatch z), fun _ => List.nodup_nil, fun _ _ z => (nomatch z), ?_, .refl, fun _ _ z => (nomatch z), htk⟩
    · have e1 := startS_get e
      obtain ⟨v, ev, rv⟩ := hv.get e1
      have hi : i < vs.length := (List.getElem?_eq_some_iff.mp ev).1
      refine ⟨v, by rw [start_get hi, ev]; rfl, ?_⟩
      have hki := List.all_eq_true.mp hk i (List.mem_range.mpr (by omega))
      simp only [decide_eq_true_eq] at hki
      rw [hki]
      exact ⟨rfl, RD.stay (fun _ _ _ e => e) (fun b n _ => M1 b n) _ _ rv⟩
    · show (L2.start d.N vs).length = (startS d.N.length ds).length
      unfold L2.start startS
      rw [List.length_append, List.length_append, List.length_map, List.length_map, List.length_replicate, List.length_replicate, hv.length]
  · show PostS K pa _ _ _ d.rk _ _ H (evSs C F wh d.b (startS d.N.length ds) p) _
    unfold evF at hc
    cases q : evSs C F wh d.b (startS d.N.length ds) p with
    | ok x p1 =>
      rw [q] at hc
      obtain ⟨fl, s'⟩ := x
      cases fl with
      | nx =>
        intro σ' H' fp' hr' f
        have hc : CallR' K pa M0 H d.rk (if d.rk = 0 then .ok .non p1 else .bad) Q E := hc
        split at hc
        · rename_i h0
          rw [h0] at hc
          exact hc .non H' hr'.kp hr'.pen (by show RD _ _ _ _ _ _; simp only [RD])
        · exact hc.elim
      | rt x => exact hc
      | bk => exact hc.elim
      | ct => exact hc.elim
    | err x p1 =>
      rw [q] at hc
      exact fun cls dd H' σ' hk hp hx => hc cls dd H' hk hp hx
    | bad => rw [q] at hc; exact hc
/-- _law_fault(call), in a def that got the lambda -/
theorem pe_fltc {CX : CXT} {X : Cx} {pins : List (Addr × Obj)} {σ : L2.St} {H : Hp} {s : Shared} {N : List Str} {qual a : Str} {scope sc' : Scope} {g fa c' : Addr} {cdv pm ctv : Value} {E : XK} {params : Arguments} {body : Expr} {kt : List (Str × List Ke)} {k : Nat → Kd} {κ : Kd} {ra : Sl → Mc.P → R D} {jb : Nat} {p q pos : Pos}
    (I : Inv X pins σ H s) (F : FltOk X.prog X.w X.K X.mg X.base kt) (hg : scope.names.lookup ("_law_fault" : Str) = some .globalImplicit) (hN : N[0]? = some a) (hv : Vis scope a) (hd : (a == ("__debug__" : Str)) = false) (hcd : (a == ("__classdict__" : Str)) = false)
    (L : LamX.LamS X.env.scope sc') (hp : noPar params = true) (of : s.heap.get? fa = some (lamO X params body sc' pm ctv c')) (nf : H fa = none) (nfr : fa ∉ frs X.stack) (known : H c' = some (LamX.CodeO c' (X.env.qual ++ "<lambda>")))
    (hgd : X.A.guards = some []) (h2 : 2 ≤ jb) (hr : Room (jb + 2) (X.A.deeper (envOfC qual scope s.heap.objs.size g cdv)))
    (hbody : ∀ (A : Around) (outer : List Env) (s : Shared) (H : Hp) (E : XK) (f c' : Addr), Room jb (A.deeper (LamX.lamEnv X sc' s.heap.objs.size f c')) → PE (LamX.lamCx X A outer s H E sc' f c') body (tev X.K (fun cls d _ H => E cls d H) k κ ra)) :
    PE (cxOf CX X.prog X.w X.K X.mg X.base N qual scope g cdv X.A X.stack s H E) (.Call (.Name "_law_fault" p) [.Name a q] [] pos) (fun σY HY Q => σY[0]? = some (some (.ref fa)) ∧ HY = H ∧ TTf X.K kt (fun E' H' Q' => tev X.K (fun cls d _ H => E' cls d H) k κ ra σ H' Q') H Q) := by
  obtain ⟨gf, af, pg, bg, sg, dV, kV, doc, pm0, cdf, ct, oc, an, od, osl, Ng, hm, hk, lk, hcg, hb, Sg, hNg, hva, hda, hcda, hG⟩ := F
  have hpar := noPar_eq hp
  refine ⟨fun pinsY sY σY HY Q IY h => ?_⟩
  obtain ⟨h0, rfl, hT⟩ := h
  refine wpAny_Call_Name_kw (ld_glob IY hg hm ?_ (by decide))
  refine PySem.W.callWith_K (h₀ := X.base) IY.ok.mod.kin hk ?_ (by rfl) (by rfl)
  show wpAny _ _ (spliced ((false, eval (.Name a q) (envOfC qual scope s.heap.objs.size g cdv)) :: backTo pos (starEach [] (envOfC qual scope s.heap.objs.size g cdv)))) _ _ sY
  refine Calls.spliced_cons (thn ((pe_var (X := cxOf CX X.prog X.w X.K X.mg X.base N qual scope g cdv X.A X.stack s HY E) (pos := q) hN hv hd hcd).run pinsY sY σY HY (fun v H1 => v = .ref fa ∧ H1 = HY) IY ⟨.ref fa, h0, rfl, rfl⟩) fun u s1 ⟨v, H1, I1, r1, q1, q2⟩ => ?_)
  subst q1 q2
  obtain rfl : u = Value.ref fa := r1
  refine Calls.spliced_nil ⟨I1.kIn, ?_⟩
  have un : Un (frs X.stack) [] H1 H1 s.heap s1.heap := I1.base
  have fe : frs (envOfC qual scope s.heap.objs.size g cdv :: X.stack) = s.heap.objs.size :: frs X.stack := by unfold frs; rw [List.filterMap_cons]; rfl
  have rc : codeAny (model X.prog X.w) (X.A.deeper (envOfC qual scope s.heap.objs.size g cdv)) (.call (.ref gf) ⟨[.ref fa], []⟩) (CR C8.CX0 (envOfC qual scope s.heap.objs.size g cdv :: X.stack) X.prog X.w H1 s1 Q C8.E0) s1 := by
    refine LamX.run_ofS (N := Ng) (ps := [af]) (us := [.ref fa]) (vs := [.ref fa]) lk hcg Sg (hr.mono (by omega : jb + 1 + 1 ≤ jb + 2)) I1.env0 (hb s1 [.ref fa] I1.kIn rfl) (.cons rfl .nil) rfl fun hr' => ?_
    have act : ∀ (W : WX) (pn : List (Addr × Obj)) (xe : Value → Shared → Prop) (E : XK) (p1 p2 : Pos), Takes ((cxOf C8.CX0 X.prog X.w X.K X.mg X.base Ng "_law_fault" sg gf cdf (X.A.deeper (envOfC qual scope s.heap.objs.size g cdv)) (envOfC qual scope s.heap.objs.size g cdv :: X.stack) s1 H1 C8.E0).tr pn xe) W → (∀ cls d σ' H', E cls d H' → W cls d σ' H') →
        PE ((cxOf C8.CX0 X.prog X.w X.K X.mg X.base Ng "_law_fault" sg gf cdf (X.A.deeper (envOfC qual scope s.heap.objs.size g cdv)) (envOfC qual scope s.heap.objs.size g cdv :: X.stack) s1 H1 C8.E0).tr pn xe) (.Call (.Name af p1) [] [] p2)
          (fun σZ HZ Q => σZ[0]? = some (some (.ref fa)) ∧ HZ c' = some (LamX.CodeO c' (X.env.qual ++ "<lambda>")) ∧ tev X.K (fun cls d _ H => E cls d H) k κ ra σ HZ Q) := fun W pn xe E p1 p2 tk hW =>
      pe_act2 (CXg := C8.CX0) (Eg := C8.E0) (Ng := Ng) (qg := "_law_fault") (sg := sg) (g := gf) (cdg := cdf) (A1 := X.A.deeper (envOfC qual scope s.heap.objs.size g cdv)) (st1 := envOfC qual scope s.heap.objs.size g cdv :: X.stack) (s2 := s1) (H2 := H1) (i := 0) (k := jb) (tb := tev X.K (fun cls d _ H => E cls d H) k κ ra)
        I L of nf nfr un (fun b hb => by rw [fe]; exact List.mem_cons_of_mem _ hb) (fun b hb => by
        rw [fe] at hb
        rcases List.mem_cons.mp hb with e | hb
        · exact .inr (by rw [e]; exact Heap.get?_none_of_le (Nat.le_refl _))
        · exact .inl hb) (by rw [hpar]; rfl) tk hW hr' (fun A outer s H hr2 => hbody A outer s H E fa c' hr2) hNg hva hda hcda
    obtain ⟨t', ht', hq'⟩ := hG (cxOf CX X.prog X.w X.K X.mg X.base N qual scope g cdv X.A X.stack s H1 E) rfl rfl rfl rfl rfl hgd (hr.mono (by omega)) (X.env.qual ++ "<lambda>") fa c' s1 H1 Q (fun E H' Q' => tev X.K (fun cls d _ H => E cls d H) k κ ra σ H' Q') act known hT
    exact ⟨t', ht'.nox, hq'⟩
  refine wpAny_call (codeAny_mono rc ?_)
  rintro (e | fl) s2 hq2
  · exact (show False from hq2).elim
  · cases fl with
    | ret u => exact I1.after hq2
    | next => exact hq2.elim
    | brk => exact hq2.elim
    | cont => exact hq2.elim
/-- a def whose first statement is found = _law_fault(call) -/
def lcB (d : Df) (Γ : Cg) : List Stmt → Bool
  | .Assign [.Name x _] (.Call (.Name y _) [.Name z _] [] _) _ :: rest => (match d.b with
    | .set (.nm j) (.var 0) :: .drop [0] .sh :: b => decide (y = "_law_fault") && (Γ.gl y && (Γ.t.flt && (Γ.g && (Γ.at_ 0 z && (decide (Γ.N[j]? = some x) && (decide (Γ.sc.names.lookup x = some .local) && (decide (d.n ≤ j) && (decide (kf d.k j = .sh) && (okSs b Γ [] d.rk d.k rest).isSome))))))))
    | _ => false)
  | _ => false
theorem def_lam {d : Df} {qual : Str} {params : Arguments} {body : List Stmt} {scope : Scope} {fd : FuncData} {tb : Tab} {C : Str → List D → Mc.P → R D} {F : R D → R D} {wh k j : Nat}
    (FD : FunD K d.nm qual params body scope [] [] (He.ga K d.nm) fd) (S : FnScope d.N (d.N.take d.n) scope) (hn : d.n ≤ d.N.length) (hn1 : 1 ≤ d.n) (hk : (List.range d.n).all (fun i => decide (kf d.k i = .sh)) = true) (hlam : d.lamB K qual = true)
    (ok : lcB d (d.cg scope tb) body = true) (ht : TabOk P w K mg base tb) (hF : tb.flt = true → F = fltR tb.kt)
    (hk2 : 2 ≤ k) (hC : Fns P w K mg base k tb C) (hm : mg d.nm = some (.ref (He.ga K d.nm))) (hdb : (d.nm == ("__debug__" : Str)) = false) (hb : Binds K fd (d.N.take d.n) []) (hj : k + 4 ≤ j) :
    LcOk P w K mg base j tb.kt d.nm d.n d.rk (evF C F wh d.N.length d.rk d.b) := by
  obtain ⟨oc, od, dV, kV, doc, pm0, an, cdv, ct, osl, rfl, lk, hcd, _, _⟩ := FD.ex
  refine ⟨hm, FD.kp, hdb, _, d.N.take d.n, hb, by rw [List.length_take]; omega, ?_⟩
  rintro X rfl rfl rfl rfl rfl hgd hroom pins σ H s I params' body' scope' fa c' pm ctv L hp of nf nfr known kk κ ra jb hj2 hj3 hbody m pa hR κ2 us vs ds rv hds hl Q E hc args hbd
  have hvl : vs.length = ds.length := hds.length.symm
  refine LamX.run_ofS (k := j - 1) (N := d.N) (ps := d.N.take d.n) (vs := .ref fa :: vs) (us := .ref fa :: us) lk hcd S (hroom.mono (by omega)) I.env0 hbd (.cons rfl rv) (by rw [List.length_take, List.length_cons]; omega) fun hr2 => ?_
  unfold lcB at ok
  split at ok
  · rename_i x p1 y p2 z p3 p4 p5 rest
    split at ok
    · rename_i jf b hdbb
      simp only [Bool.and_eq_true, decide_eq_true_eq] at ok
      obtain ⟨rfl, c1, c2, c3, c4, c5, c6, c7, c8, c9⟩ := ok
      obtain ⟨r, ok⟩ := Option.isSome_iff_exists.mp c9
      have hg : d.g = true := c3
      have G := good_def (F := F) (C := C) (outer := X.stack) (H := H) (E := E) lk S hlam ht hF hk2 hC (fun _ => hgd) (hr2.mono (by omega))
      obtain ⟨a1, a2, a3, a4⟩ := G.e.at_ c4
      have hgl : scope.names.lookup ("_law_fault" : Str) = some .globalImplicit := G.e.gl c1
      have c5 : d.N[jf]? = some x := c5
      have c6 : scope.names.lookup x = some .local := c6
      have hjf : jf < d.N.length := (List.getElem?_eq_some_iff.mp c5).1
      refine ⟨_, pss_cons (ps_asg (pe_fltc I (ht.flt c2) hgl a1 a2 a3 a4 L hp of nf nfr known hgd hj2 (hr2.mono (by omega)) hbody) (pg_name G.e.nd (i := jf) c5 (.inl c6) (.inr c6)) (sw_no1 rfl) ss_nm (ae1 rfl)) (okSs_sound (F := F) (w := wh) b _ _ _ _ _ _ ok _ _ G (kf (r.getD [])) (fun k2 e => by rw [e]; rfl)), ?_⟩
      have fin : ∀ (d0 : D) (p2 : Mc.P) (v : V) (H3 : Hp), fltR tb.kt (ra m.s m.p) = .ok d0 p2 → Keep pa H H3 → PenR pa m.M0 p2 H3 → RD X.K pa (κ2.base m) H3 d0 v →
          tsS X.K (fun cls dd _ H => E cls dd H) (kf d.k) (kf (r.getD [])) (kf []) d.rk (mdSs b) (evSs C F wh b) { nx := fun _ H' => Q .non H', rt := Q } ((L2.start d.N (V.ref fa :: vs)).set jf (some v)) H3 := fun d0 p2 v H3 e hk3 hp3 hv => by
        rw [e] at hc
        have hc : CallR' X.K pa (κ2.base m) H d.rk (evF C F wh d.N.length d.rk d.b (d0 :: ds) p2) Q E := hc
        rw [hdbb] at hc
        have hsl : evF C F wh d.N.length d.rk (.set (.nm jf) (.var 0) :: .drop [0] .sh :: b) (d0 :: ds) p2 = (evSs C F wh b (((startS d.N.length (d0 :: ds)).set jf (some d0)).set 0 none) p2).bd fun x p => match x with
            | (.rt d, _) => .ok d p
            | (.nx, _) => if d.rk = 0 then .ok .non p else .bad
            | _ => .bad := by
          have e0 : (startS d.N.length (d0 :: ds))[0]? = some (some d0) := rfl
          unfold evF
          simp only [evSs, evS, evE, getS, e0, R.bd, bindP, wipeS]
          generalize evSs C F wh b _ p2 = r0
          cases r0 with
          | ok x p => obtain ⟨fl, s⟩ := x; cases fl <;> rfl
          | err x p => rfl
          | bad => rfl
        rw [hsl] at hc
        have hbase : ∀ a, κ2.base m a → H a ≠ none := hR.baseDom κ2
        refine ⟨⟨H, κ2.base m, fun _ => [], ((startS d.N.length (d0 :: ds)).set jf (some d0)).set 0 none, p2⟩, pa, ?_, ?_⟩
        · have M1 : ∀ b, ¬ κ2.base m b → ¬ Ms.M ⟨H, κ2.base m, fun _ => [], ((startS d.N.length (d0 :: ds)).set jf (some d0)).set 0 none, p2⟩ b := fun b n z => by
            rcases z with z | ⟨i, z⟩
            · exact n z
            · cases z
          have hPen : PenR pa (κ2.base m) p2 H3 := ⟨M_base κ2 hp3.m1, M_base κ2 hp3.m2, hp3.ne, hp3.d, hp3.c, fun q hq => M_base κ2 (hp3.tm q hq), hp3.tb⟩
          refine ⟨fun a ha => ?_, hPen, fun i x e => ?_, fun _ _ => rfl, fun _ _ _ _ z => (nomatch z), fun _ => List.nodup_nil, fun _ _ z => (nomatch z), ?_, hk3, fun _ _ z => (nomatch z), hR.tk⟩
          · by_cases q : pa.No a
            · cases z : H a with
              | none => exact absurd z (hbase a ha)
              | some o => rw [hk3 a o q z]; exact fun y => nomatch y
            · exact hp3.at a q
          · have e : (((startS d.N.length (d0 :: ds)).set jf (some d0)).set 0 none)[i]? = some (some x) := e
            by_cases hi0 : i = 0
            · subst hi0
              rw [List.getElem?_set_self (by rw [List.length_set]; unfold startS; rw [List.length_append, List.length_map, List.length_cons]; omega)] at e
              cases e
            rw [List.getElem?_set_ne (Ne.symm hi0)] at e
            by_cases hij : i = jf
            · subst hij
              have hli : i < (startS d.N.length (d0 :: ds)).length := by unfold startS; rw [List.length_append, List.length_map, List.length_replicate, List.length_cons]; omega
              rw [List.getElem?_set_self hli] at e
              cases e
              have hls : i < (L2.start d.N (V.ref fa :: vs)).length := by unfold L2.start; rw [List.length_append, List.length_map, List.length_replicate, List.length_cons]; omega
              refine ⟨v, List.getElem?_set_self hls, ?_⟩
              rw [c8]
              exact ⟨rfl, RD.stay (fun _ _ _ e => e) (fun b n _ => M1 b n) _ _ hv⟩
            · rw [List.getElem?_set_ne (Ne.symm hij)] at e
              have e1 := startS_get e
              match i, hi0, e1 with
              | i + 1, _, e1 =>
                rw [List.getElem?_cons_succ] at e1
                obtain ⟨v', ev, rv'⟩ := hds.get e1
                have hi : i < vs.length := (List.getElem?_eq_some_iff.mp ev).1
                refine ⟨v', by rw [List.getElem?_set_ne (Ne.symm hij), start_get (by rw [List.length_cons]; omega), List.getElem?_cons_succ, ev]; rfl, ?_⟩
                have hki := List.all_eq_true.mp hk (i + 1) (List.mem_range.mpr (by omega))
                simp only [decide_eq_true_eq] at hki
                rw [hki]
                refine ⟨rfl, RD.stay (stay_of hk3 fun a n => hPen.pa0 a n) (fun b n _ => M1 b n) _ _ rv'⟩
          · show ((L2.start d.N (V.ref fa :: vs)).set jf (some v)).length = (((startS d.N.length (d0 :: ds)).set jf (some d0)).set 0 none).length
            unfold L2.start startS
            rw [List.length_set, List.length_set, List.length_set, List.length_append, List.length_append, List.length_map, List.length_map, List.length_replicate, List.length_replicate, List.length_cons, List.length_cons, hvl]
        · show PostS X.K pa _ _ _ d.rk _ _ H3 (evSs C F wh b (((startS d.N.length (d0 :: ds)).set jf (some d0)).set 0 none) p2) _
          cases q : evSs C F wh b (((startS d.N.length (d0 :: ds)).set jf (some d0)).set 0 none) p2 with
          | ok x p1 =>
            rw [q] at hc
            obtain ⟨fl, s'⟩ := x
            cases fl with
            | nx =>
              intro σ' H' fp' hr' f
              have hc : CallR' X.K pa (κ2.base m) H d.rk (if d.rk = 0 then .ok .non p1 else .bad) Q E := hc
              split at hc
              · rename_i h0
                rw [h0] at hc
                exact hc .non H' hr'.kp hr'.pen (by show RD _ _ _ _ _ _; simp only [RD])
              · exact hc.elim
            | rt x => exact hc
            | bk => exact hc.elim
            | ct => exact hc.elim
          | err x p1 =>
            rw [q] at hc
            exact fun cls dd H' σ' hk hp hx => hc cls dd H' hk hp hx
          | bad => rw [q] at hc; exact hc
      refine ⟨by rw [start_get (by rw [List.length_cons]; omega)]; rfl, rfl, m, pa, hR, ?_⟩
      show Post X.K pa _ σ m H κ (ra m.s m.p) _
      cases q : ra m.s m.p with
      | ok d2 p2 =>
        intro v H2 k2 p2' r2
        exact fin .non p2 .non H2 (by rw [q]; rfl) k2 p2' (by simp only [RD])
      | err x2 p2 =>
        intro cls dd H2 k2 p2' r2
        cases e : faultD tb.kt x2 with
        | none =>
          rw [q] at hc
          simp only [fltR, e] at hc
          exact hc.elim
        | some d2 =>
          refine ⟨pa, m.M0, x2, d2, r2, (hR.keep k2 p2').dom, e, fun v H3 gr rd => ?_⟩
          have hR2 := hR.keep k2 p2'
          refine fin d2 p2 v H3 (by rw [q]; simp only [fltR, e]) (k2.trans fun b o _ e => gr b o e) ⟨p2'.m1, p2'.m2, p2'.ne, gr _ _ p2'.d, gr _ _ p2'.c, p2'.tm, p2'.tb.ext gr⟩ ?_
          have fl : flat d2 = true := by
            unfold faultD at e
            split at e
            · split at e
              · split at e
                · cases e; assumption
                · cases e
              · cases e
            · cases e
          refine RD.flat (fun b xs n e z => ?_) d2 v fl rd
          have z : m.M0 b ∨ ∃ i, b ∈ m.fp i := by
            cases κ2 with
            | bo => exact .inl z
            | sh => exact z
            | fr n => exact z
          rcases z with z | ⟨i, z⟩
          · exact n z
          · obtain ⟨ys, y⟩ := hR2.fpl z
            have y3 := gr _ _ y
            rw [e] at y3
            cases y3
      | bad =>
        rw [q] at hc
        exact hc
    · cases ok
  · cases ok
/-- the context of an __init__ -/
def Cd.cg (d : Cd) (scope : Scope) (tb : Tab) : Cg := ⟨d.N, scope, none, tb, false, none⟩
theorem ini_def {d : Cd} {qual : Str} {params : Arguments} {body rest : List Stmt} {scope : Scope} {fd : FuncData} {fI : Addr} {tb : Tab} {C : Str → List D → Mc.P → R D} {F : R D → R D} {wh k : Nat} {k1 : List Kd} {x0 : Str}
    (FD : FunD K "__init__" qual params body scope [] [] fI fd) (S : FnScope d.N (d.N.take (d.n + 1)) scope) (hn : d.n + 1 ≤ d.N.length) (hk : (List.range (d.n + 1)).all (fun i => decide (kf d.k i = .sh)) = true)
    (hpre : preB (d.cg scope tb) d.k d.b body = some (k1, rest)) (hfld : fldB (d.cg scope tb) k1 x0 d.ns d.es rest = true) (hat : (d.cg scope tb).at_ 0 x0 = true) (hlen : d.ns.length ≤ 900) (hcl : clsB K d.c = true) (hna : (d.ns.all fun f => naB K d.c f) = true)
    (ht : TabOk P w K mg base tb) (hF : tb.flt = true → F = fltR tb.kt) (hk2 : 2 ≤ k) (hC : Fns P w K mg base k tb C) :
    FnOk P w K mg base (L2.CX P w) (k + 1) fI fd (d.N.take (d.n + 1)) (spIni K d.c d.ns d.n (evI C F wh d)) := by
  refine FD.ok S (fun vs H Q E h => ?_) fun cdv A outer s H vs Q E hr h => ?_
  · obtain ⟨x, dx, vals, pa, M0, p, ds, rfl, hvl, _⟩ := h
    rw [List.length_cons, hvl, List.length_take]; omega
  have G : GoodS (d.cg scope tb) (cxOf (L2.CX P w) P w K mg base d.N qual scope fI cdv A outer s H E) (fun cls dd _ H => E cls dd H) C F :=
    { e := { calm := rfl, nd := S.nd, N := rfl, sc := rfl, fn := fun _ _ => rfl, un := by have := hr.un; show (A.deeper _).units + 65 < _; omega
             tk := takes_of rfl rfl rfl rfl
             tab := ht, fns := ⟨k, hk2, hr, fun z => Bool.noConfusion (show false = true from z), hC⟩, gd := fun z => Bool.noConfusion (show false = true from z), flt := hF
             lam := fun x h => nomatch (show none = some x from h) }
      own := passes_of rfl, stk := rfl, frm := rfl }
  obtain ⟨x, dx, vals, pa, M0, p, ds, rfl, hvl, hx, tk, dom, pen, Mx, nox, xc, hds, hctr⟩ := h
  obtain ⟨a1, a2, a3, a4⟩ := G.e.at_ hat
  obtain ⟨u, hu, hqu⟩ := fld_ok G a1 a2 a3 a4 (clsB_cls hcl) d.ns d.es rest hfld fun f hf => by
    have := List.all_eq_true.mp hna f hf
    exact (by simpa [naB] using this : PySem.W.findIn K (.ref (He.ga K d.c)) f = some none)
  obtain ⟨t, ht', hqt⟩ := pre_ok (w := wh) G hu d.b d.k body hpre
  have hdl : ds.length = d.n := by rw [hds.length]; exact hvl
  refine ⟨t, ht', hqt _ ⟨fun b => if b = x then none else H b, M0, fun _ => [], none :: startS (d.N.length - 1) ds, p⟩ pa _ H x ?_ ?_ ?_⟩
  · refine ⟨dom, pen, fun i z e => ?_, fun _ _ => rfl, fun _ _ _ _ z => (nomatch z), fun _ => List.nodup_nil, fun _ _ z => (nomatch z), ?_, fun a o _ e => ?_, fun _ _ z => (nomatch z), tk⟩
    · match i, e with
      | 0, e => cases (show (none : Option Mc.D) = some z from Option.some.inj e)
      | j + 1, e =>
        have e : (startS (d.N.length - 1) ds)[j]? = some (some z) := e
        have e1 := startS_get e
        obtain ⟨v, ev, rv⟩ := hds.get e1
        have hj : j < vals.length := (List.getElem?_eq_some_iff.mp ev).1
        refine ⟨v, by rw [start_get (by rw [List.length_cons]; omega), List.getElem?_cons_succ, ev]; rfl, ?_⟩
        have hki := List.all_eq_true.mp hk (j + 1) (List.mem_range.mpr (by omega))
        simp only [decide_eq_true_eq] at hki
        rw [hki]
        refine ⟨rfl, RD.stay (fun _ _ _ e => e) (fun a n _ y => n ?_) _ _ rv⟩
        rcases y with y | ⟨i, y⟩
        · exact y
        · cases y
    · show (L2.start d.N (V.ref x :: vals)).length = (none :: startS (d.N.length - 1) ds).length
      unfold L2.start startS
      simp only [List.length_append, List.length_map, List.length_replicate, List.length_cons]
      omega
    · have e : (if a = x then none else H a) = some o := e
      split at e
      · cases e
      · exact e
  · rw [start_get (by rw [List.length_cons]; omega)]; rfl
  · unfold evI at hctr
    have keepX : ∀ H', Keep pa (fun b => if b = x then none else H b) H' → KeepX pa x H H' := fun H' hk' a o na ne e => hk' a o na (by show (if a = x then none else H a) = some o; rw [if_neg ne]; exact e)
    show PreR _ pa _ _ x _ H (evSs C F wh d.b (none :: startS (d.N.length - 1) ds) p) _
    cases q : evSs C F wh d.b (none :: startS (d.N.length - 1) ds) p with
    | ok y p1 =>
      rw [q] at hctr
      obtain ⟨fl, s'⟩ := y
      cases fl with
      | nx =>
        intro σ' H' s0 kHH hR
        have hctr : CtrR K pa d.c d.ns M0 x dx H ((evEs C F d.es s' p1).bd fun l p => .ok (.obj d.c d.ns l) p) Q E := hctr
        refine hqu _ _ pa σ' H' x dx [] [] [] hR s0 Mx nox xc (if_pos rfl) (kHH x _ nox hx) rfl (fun _ _ z => nomatch z) (by simpa using hlen) RDs.nil ?_
        show FldR K pa _ _ x dx [] d.ns [] _ (evEs C F d.es s' p1) _
        cases q2 : evEs C F d.es s' p1 with
        | ok l p2 =>
          rw [q2] at hctr
          obtain ⟨l', e, hq⟩ := hctr
          cases e
          intro H'' xs b1 b2 b3 b4 b5
          exact hq H'' xs (keepX _ b1) b2 b3 b4 b5
        | err e p2 =>
          rw [q2] at hctr
          intro cls dd H'' σ'' b1 b2 b3
          exact hctr cls dd H'' (keepX _ b1) b2 b3
        | bad => rw [q2] at hctr; exact hctr.elim
      | rt _ => exact hctr.elim
      | bk => exact hctr.elim
      | ct => exact hctr.elim
    | err e p1 =>
      rw [q] at hctr
      intro cls dd H'' σ'' b1 b2 b3
      exact hctr cls dd H'' (keepX _ b1) b2 b3
    | bad => rw [q] at hctr; exact hctr.elim
theorem evI_obj {C : Str → List D → Mc.P → R D} {F : R D → R D} {wh : Nat} {d : Cd} (ds : List D) (p : Mc.P) (z : D) (p' : Mc.P) (h : evI C F wh d ds p = .ok z p') : ∃ l, z = .obj d.c d.ns l := by
  unfold evI at h
  obtain ⟨⟨fl, s'⟩, p1, e1, h⟩ := bd_ok h
  cases fl with
  | nx =>
    obtain ⟨l, p2, e2, h⟩ := bd_ok h
    cases h
    exact ⟨l, rfl⟩
  | _ => cases h
/-- a text's defs and classes, run to the depth n -/
def runT (T : List Df) (I : List Cd) (F : R D → R D) (wh : Nat) : Nat → Str → List D → Mc.P → R D
  | 0, _, _, _ => .bad
  | n + 1, f, ds, p => match T.find? (fun d => d.nm == f) with
    | some d => evF (runT T I F wh n) F wh d.N.length d.rk d.b ds p
    | none => match I.find? (fun d => d.c == f) with
      | some d => evI (runT T I F wh n) F wh d ds p
      | none => .bad
/-- what is known of each def of the text -/
structure DfOk (K : PySem.W.Frag) (mg : Str → Option Value) (tb : Tab) (d : Df) : Prop where
  ex : ∃ (qual : Str) (params : Arguments) (body : List Stmt) (scope : Scope) (fd : FuncData) (r : Option (List Kd)), FunD K d.nm qual params body scope [] [] (He.ga K d.nm) fd ∧ d.lamB K qual = true ∧ FnScope d.N (d.N.take d.n) scope ∧ okSs d.b (d.cg scope tb) [] d.rk d.k body = some r ∧ Binds K fd (d.N.take d.n) []
  n : d.n ≤ d.N.length
  k : (List.range d.n).all (fun i => decide (kf d.k i = .sh)) = true
  m : mg d.nm = some (.ref (He.ga K d.nm))
structure LdOk (K : PySem.W.Frag) (mg : Str → Option Value) (tb : Tab) (d : Df) : Prop where
  ex : ∃ (qual : Str) (params : Arguments) (body : List Stmt) (scope : Scope) (fd : FuncData), FunD K d.nm qual params body scope [] [] (He.ga K d.nm) fd ∧ d.lamB K qual = true ∧ FnScope d.N (d.N.take d.n) scope ∧ lcB d (d.cg scope tb) body = true ∧ Binds K fd (d.N.take d.n) []
  n : d.n ≤ d.N.length
  n1 : 1 ≤ d.n
  k : (List.range d.n).all (fun i => decide (kf d.k i = .sh)) = true
  m : mg d.nm = some (.ref (He.ga K d.nm))
  db : (d.nm == ("__debug__" : Str)) = false
/-- and of each class -/
structure CdOk (K : PySem.W.Frag) (mg : Str → Option Value) (tb : Tab) (d : Cd) : Prop where
  ex : ∃ (fI : Addr) (qual : Str) (params : Arguments) (body rest : List Stmt) (scope : Scope) (fd : FuncData) (k1 : List Kd) (x0 : Str), FunD K "__init__" qual params body scope [] [] fI fd ∧ FnScope d.N (d.N.take (d.n + 1)) scope ∧ preB (d.cg scope tb) d.k d.b body = some (k1, rest) ∧ fldB (d.cg scope tb) k1 x0 d.ns d.es rest = true ∧ (d.cg scope tb).at_ 0 x0 = true ∧
    Binds K fd (d.N.take (d.n + 1)) [] ∧ Mk K (He.ga K d.c) fI
  n : d.n + 1 ≤ d.N.length
  k : (List.range (d.n + 1)).all (fun i => decide (kf d.k i = .sh)) = true
  len : d.ns.length ≤ 900
  cl : clsB K d.c = true
  na : (d.ns.all fun f => naB K d.c f) = true
  m : mg d.c = some (.ref (He.ga K d.c))
  db : (d.c == ("__debug__" : Str)) = false
theorem Fg.bad {g : Bool} {f : Addr} {fd : FuncData} {k n rk : Nat} {ps : List Str} {C : List D → Mc.P → R D} (h0 : ∀ ds p, C ds p = .bad) : Fg g P w K mg base k f fd ps (spC K n C rk) :=
  ⟨fun vs H Q E h => by
    obtain ⟨_, pa, M0, p, ds, _, _, _, _, h⟩ := h
    rw [h0] at h
    exact h.elim, fun A outer s H args us vs Q E hr hg he hb hv h => by
    obtain ⟨_, pa, M0, p, ds, _, _, _, _, h⟩ := h
    rw [h0] at h
    exact h.elim⟩
theorem ini_bad {c : Str} {ns : List Str} {n k : Nat} {f : Addr} {fd : FuncData} {ps : List Str} {C : List D → Mc.P → R D} (h0 : ∀ ds p, C ds p = .bad) : FnOk P w K mg base (L2.CX P w) k f fd ps (spIni K c ns n C) :=
  ⟨fun vs H Q E h => by
    obtain ⟨x, dx, vals, pa, M0, p, ds, _, _, _, _, _, _, _, _, _, _, h⟩ := h
    rw [h0] at h
    exact h.elim, fun A outer s H args us vs Q E hr he hb hv h => by
    obtain ⟨x, dx, vals, pa, M0, p, ds, _, _, _, _, _, _, _, _, _, _, h⟩ := h
    rw [h0] at h
    exact h.elim⟩
theorem text_ok {T : List Df} {I : List Cd} {F : R D → R D} {wh k0 : Nat} {tb : Tab} (ht : TabOk P w K mg base tb) (hF : tb.flt = true → F = fltR tb.kt)
    (hk2 : 2 ≤ k0) (hsig : ∀ f n rk, tb.sig.lookup f = some (n, rk) → ∃ d, T.find? (fun d => d.nm == f) = some d ∧ d.nm = f ∧ d.n = n ∧ d.rk = rk ∧ d.g = decide (f ∈ tb.gd) ∧ DfOk K mg tb d)
    (hmk : ∀ c n, tb.mks.lookup c = some n → T.find? (fun d => d.nm == c) = none ∧ ∃ d, I.find? (fun d => d.c == c) = some d ∧ d.c = c ∧ d.n = n ∧ CdOk K mg tb d)
    (hlsg : ∀ f n rk, tb.lsg.lookup f = some (n, rk) → ∃ d, T.find? (fun d => d.nm == f) = some d ∧ d.nm = f ∧ d.n = n ∧ d.rk = rk ∧ LdOk K mg tb d) :
    ∀ m, Fns P w K mg base (k0 + 4 * m) tb (runT T I F wh m)
  | 0 => by
    refine ⟨fun f n rk e => ?_, fun c n e => ?_, fun f n rk e => ?_⟩
    · obtain ⟨d, h1, h2, h3, h4, h6, h5⟩ := hsig f n rk e
      obtain ⟨qual, params, body, scope, fd, r, q1, q0, q2, q3, q4⟩ := h5.ex
      subst h2
      exact ⟨fd, d.N.take d.n, Fg.bad fun _ _ => rfl, h5.m, q1.kp, q4⟩
    · obtain ⟨h0, d, h1, h2, h3, h5⟩ := hmk c n e
      obtain ⟨fI, qual, params, body, rest, scope, fd, k1, x0, q1, q2, q3, q4, q5, q6, q7⟩ := h5.ex
      subst h2
      exact ⟨fI, fd, d.N.take (d.n + 1), d.ns, 0, by omega, ini_bad fun _ _ => rfl, q7, h5.m, q6, h5.cl, h5.na, h5.db, fun ds p z p' e => nomatch (show R.bad = R.ok z p' from e)⟩
    · obtain ⟨d, h1, h2, h3, h4, h5⟩ := hlsg f n rk e
      obtain ⟨qual, params, body, scope, fd, q1, q0, q2, q3, q4⟩ := h5.ex
      subst h2
      refine ⟨h5.m, q1.kp, h5.db, fd, d.N.take d.n, q4, by rw [List.length_take]; have := h5.n; omega, ?_⟩
      rintro X rfl rfl rfl rfl rfl hgd hroom pins σ H s I params' body' scope' fa c' pm ctv L hp of nf nfr known kk κ ra jb hj2 hj3 hbody m pa hR κ2 us vs ds rv hds hl Q E hc args hbd
      refine False.elim ?_
      cases q : fltR tb.kt (ra m.s m.p) with
      | ok d p => rw [q] at hc; exact hc
      | err x p =>
        cases y : ra m.s m.p with
        | ok d p => rw [y] at q; cases q
        | err x p =>
          rw [y] at q
          simp only [fltR] at q
          split at q <;> cases q
        | bad => rw [y] at q; cases q
      | bad => rw [q] at hc; exact hc
  | m + 1 => by
    have ih := text_ok (wh := wh) ht hF hk2 hsig hmk hlsg m
    refine ⟨fun f n rk e => ?_, fun c n e => ?_, fun f n rk e => ?_⟩
    · obtain ⟨d, h1, h2, h3, h4, h6, h5⟩ := hsig f n rk e
      obtain ⟨qual, params, body, scope, fd, r, q1, q0, q2, q3, q4⟩ := h5.ex
      subst h2 h3 h4
      refine ⟨fd, d.N.take d.n, ?_, h5.m, q1.kp, q4⟩
      have e1 : runT T I F wh (m + 1) d.nm = evF (runT T I F wh m) F wh d.N.length d.rk d.b := by
        funext ds p
        simp only [runT, h1]
      rw [e1, ← h6]
      exact def_ok (k := k0 + 4 * m) q1 q2 h5.n h5.k q0 q3 ht hF (Nat.le_trans hk2 (Nat.le_add_right _ _)) ih
    · obtain ⟨h0, d, h1, h2, h3, h5⟩ := hmk c n e
      obtain ⟨fI, qual, params, body, rest, scope, fd, k1, x0, q1, q2, q3, q4, q5, q6, q7⟩ := h5.ex
      subst h2 h3
      have e1 : runT T I F wh (m + 1) d.c = evI (runT T I F wh m) F wh d := by
        funext ds p
        simp only [runT, h0, h1]
      rw [MkOk, e1]
      exact ⟨fI, fd, d.N.take (d.n + 1), d.ns, k0 + 4 * m + 1, by omega, ini_def q1 q2 h5.n h5.k q3 q4 q5 h5.len h5.cl h5.na ht hF (Nat.le_trans hk2 (Nat.le_add_right _ _)) ih, q7, h5.m, q6, h5.cl, h5.na, h5.db, evI_obj⟩
    · obtain ⟨d, h1, h2, h3, h4, h5⟩ := hlsg f n rk e
      obtain ⟨qual, params, body, scope, fd, q1, q0, q2, q3, q4⟩ := h5.ex
      subst h2 h3 h4
      have e1 : runT T I F wh (m + 1) d.nm = evF (runT T I F wh m) F wh d.N.length d.rk d.b := by
        funext ds p
        simp only [runT, h1]
      rw [e1]
      exact def_lam (k := k0 + 4 * m) q1 q2 h5.n h5.n1 h5.k q0 q3 ht hF (Nat.le_trans hk2 (Nat.le_add_right _ _)) ih h5.m h5.db q4 (by omega)
end
end Mc

/-! Mc23: _law_pen. -/
namespace Mc
open PySem PySem.Spec PyProof.Rows L2
def penStep (f c : Int) : Int := (f * 47 + c).fmod 1000000007
def penFold (ns : List Int) : Int := ns.foldl penStep 0
def pen0 (ns : List Int) : Pen := ⟨ns, 0, 0, 0, penFold ns⟩
/-- the pen is made of the list of the script's numbers -/
def spPen (K : PySem.W.Frag) : Sp := fun vs H Q E => ∃ a ns, vs = [.ref a] ∧ SqL K H a (ns.map V.int) ∧ ∀ d c H', (∀ b o, H b = some o → H' b = some o) → H d = none → H c = none → d ≠ c →
  H' d = some (.dK (penK (pen0 ns) c)) → H' c = some (.lst (ns.map V.int)) → Q (.ref d) H'
def isC (i : Int) : Expr → Bool
  | .Constant (.int j) _ _ => decide (i = j)
  | _ => false
def isN (x : Str) : Expr → Bool
  | .Name y _ => decide (y = x)
  | _ => false
def isK (x : Str) : Option Expr → Bool
  | some (.Constant (.str y) _ _) => decide (y = x)
  | _ => false
def penB1 : Expr → Bool
  | .BinOp (.Call f [.BinOp (.BinOp a .Mult b _) .Add c _] [] _) .Mod d _ => isN "int" f && (isN "fold" a && (isC 47 b && (isN "cell" c && isC 1000000007 d)))
  | _ => false
def penB : List Stmt → Bool
  | [.Assign [f0] e0 _, .For t0 i0 [.Assign [f1] e1 _] [] _, .Return (some (.Dict [k1, k2, k3, k4, k5] [.Call l0 [l1] [] _, z2, z3, z4, z5] _)) _] =>
    isN "fold" f0 && (isC 0 e0 && (isN "cell" t0 && (isN "script" i0 && (isN "fold" f1 && (penB1 e1 && (isK "cells" k1 && (isK "at" k2 && (isK "digits" k3 && (isK "count" k4 && (isK "fold" k5 &&
      (isN "list" l0 && (isN "script" l1 && (isC 0 z2 && (isC 0 z3 && (isC 0 z4 && isN "fold" z5)))))))))))))))
  | _ => false
theorem isC_eq {i : Int} {e : Expr} (h : isC i e = true) : ∃ k p, e = .Constant (.int i) k p := by
  unfold isC at h
  split at h
  · simp only [decide_eq_true_eq] at h
    subst h
    exact ⟨_, _, rfl⟩
  · cases h
theorem isN_eq {x : Str} {e : Expr} (h : isN x e = true) : ∃ p, e = .Name x p := by
  unfold isN at h
  split at h
  · simp only [decide_eq_true_eq] at h
    subst h
    exact ⟨_, rfl⟩
  · cases h
theorem isK_eq {x : Str} {e : Option Expr} (h : isK x e = true) : ∃ k p, e = some (.Constant (.str x) k p) := by
  unfold isK at h
  split at h
  · simp only [decide_eq_true_eq] at h
    subst h
    exact ⟨_, _, rfl⟩
  · cases h
def penN : List Str := ["script", "fold", "cell"]
section
variable {X : Cx}
theorem pe_step {e : Expr} (h : penB1 e = true) (hN : X.N = penN) (hl : ∀ x ∈ X.N, Vis X.env.scope x) (hg : Gl X "int") (hm : X.mg "int" = none) :
    PE X e (fun σ H Q => ∃ f c, σ[1]? = some (some (V.int f)) ∧ σ[2]? = some (some (V.int c)) ∧ mulOk f 47 = true ∧ Q (.int (penStep f c)) H) := by
  unfold penB1 at h
  split at h
  · simp only [Bool.and_eq_true] at h
    obtain ⟨h1, h2, h3, h4, h5⟩ := h
    obtain ⟨_, rfl⟩ := isN_eq h1
    obtain ⟨_, rfl⟩ := isN_eq h2
    obtain ⟨_, _, rfl⟩ := isC_eq h3
    obtain ⟨_, rfl⟩ := isN_eq h4
    obtain ⟨_, _, rfl⟩ := isC_eq h5
    refine (pe_op (op_modN (X := X)) (pe_callTy call_int1 hg hm (by decide +kernel) (pa_cons (pe_op op_add (pe_op op_mulD (pe_var (i := 1) (by rw [hN]; rfl) (hl _ (by rw [hN]; decide)) (by decide) (by decide)) pe_int) (pe_var (i := 2) (by rw [hN]; rfl) (hl _ (by rw [hN]; decide)) (by decide) (by decide))) pa_nil (star_cons rfl)) (by decide) (by decide) (star_cons rfl) (star_any (es := []) rfl)) pe_int).weak fun σ H Q ⟨f, c, e1, e2, hmul, q⟩ => ?_
    exact ⟨.int f, e1, f, 47, rfl, rfl, hmul, .int c, e2, f * 47, c, rfl, rfl, .inl ⟨f * 47 + c, rfl, f * 47 + c, 1000000007, rfl, rfl, (by decide : (1000000007 : Int) ≠ 0), q⟩⟩
  · cases h
theorem penStep_lt (f c : Int) : 0 ≤ penStep f c ∧ penStep f c < 1000000007 := by
  unfold penStep
  rw [Int.fmod_eq_emod_of_nonneg _ (by omega)]
  omega
theorem fold_lt : ∀ (l : List Int) (f : Int), 0 ≤ f ∧ f < 1000000007 → 0 ≤ l.foldl penStep f ∧ l.foldl penStep f < 1000000007
  | [], f, h => h
  | c :: l, f, h => fold_lt l _ (penStep_lt f c)
theorem mul47 {f : Int} (h : 0 ≤ f ∧ f < 1000000007) : mulOk f 47 = true := by
  unfold mulOk
  have h1 : f.natAbs.log2 < 31 := by
    by_cases z : f.natAbs = 0
    · rw [z]; decide
    · exact (Nat.log2_lt z).mpr (by omega)
  have h2 : (47 : Int).natAbs.log2 = 5 := by decide
  rw [h2]
  exact decide_eq_true (by omega)
theorem pen_body {W : WX} {body : List Stmt} {En : Ends} {a : Addr} {ns : List Int} {H : Hp} (h : penB body = true) (hp : PassesOwn (model X.prog X.w) X.A X.env X.xe) (hc : X.calm = true) (hnd : X.N.Nodup) (hN : X.N = penN) (hl : ∀ x ∈ X.N, Vis X.env.scope x) (hlo : ∀ x ∈ X.N, Loc X.env.scope x) (hfn : ∀ x, X.fn x = true)
    (hg : Gl X "int") (hm : X.mg "int" = none) (hg2 : Gl X "list") (hm2 : X.mg "list" = none) (hs : SqL X.K H a (ns.map V.int))
    (q : ∀ d c H', (∀ b o, H b = some o → H' b = some o) → H d = none → H c = none → d ≠ c → H' d = some (.dK (penK (pen0 ns) c)) → H' c = some (.lst (ns.map V.int)) → En.rt (.ref d) H') :
    ∃ t, PSs X body t ∧ t En [some (.ref a), none, none] H := by
  unfold penB at h
  split at h
  · simp only [Bool.and_eq_true] at h
    obtain ⟨h1, h2, h3, h4, h5, h6, h7, h8, h9, h10, h11, h12, h13, h14, h15, h16, h17⟩ := h
    obtain ⟨_, rfl⟩ := isN_eq h1
    obtain ⟨_, _, rfl⟩ := isC_eq h2
    obtain ⟨_, rfl⟩ := isN_eq h3
    obtain ⟨_, rfl⟩ := isN_eq h4
    obtain ⟨_, rfl⟩ := isN_eq h5
    obtain ⟨_, _, rfl⟩ := isK_eq h7
    obtain ⟨_, _, rfl⟩ := isK_eq h8
    obtain ⟨_, _, rfl⟩ := isK_eq h9
    obtain ⟨_, _, rfl⟩ := isK_eq h10
    obtain ⟨_, _, rfl⟩ := isK_eq h11
    obtain ⟨_, rfl⟩ := isN_eq h12
    obtain ⟨_, rfl⟩ := isN_eq h13
    obtain ⟨_, _, rfl⟩ := isC_eq h14
    obtain ⟨_, _, rfl⟩ := isC_eq h15
    obtain ⟨_, _, rfl⟩ := isC_eq h16
    obtain ⟨_, rfl⟩ := isN_eq h17
    have i0 : X.N[0]? = some ("script" : Str) := by rw [hN]; rfl
    have i1 : X.N[1]? = some ("fold" : Str) := by rw [hN]; rfl
    have i2 : X.N[2]? = some ("cell" : Str) := by rw [hN]; rfl
    have v0 := hl ("script" : Str) (by rw [hN]; decide)
    have v1 := hl ("fold" : Str) (by rw [hN]; decide)
    have v2 := hl ("cell" : Str) (by rw [hN]; decide)
    have l1 := hlo ("fold" : Str) (by rw [hN]; decide)
    have l2 := hlo ("cell" : Str) (by rw [hN]; decide)
    have hv0 := fun p => pe_var (X := X) (pos := p) (i := 0) i0 v0 (by decide) (by decide)
    have hv1 := fun p => pe_var (X := X) (pos := p) (i := 1) i1 v1 (by decide) (by decide)
    refine ⟨_, pss_cons (ps_asg pe_int (pg_name hnd i1 l1 (.inl (hfn _)))) (pss_cons (ps_for hp hc (pi_seq (hv0 _)) (pg_name hnd i2 l2 (.inl (hfn _))) (pss_one (ps_asg (pe_step h6 hN hl hg hm) (pg_name hnd i1 l1 (.inl (hfn _))) (sw_no1 (by
      unfold penB1 at h6
      split at h6
      · rfl
      · cases h6)) ss_nm (ae1 rfl)))) (pss_one (ps_ret (pe_disp (pps_cons pe_str (pe_callTy call_list_of hg2 hm2 (by decide +kernel) (pa_cons (hv0 _) pa_nil (star_cons rfl)) (by decide) (by decide) (star_cons rfl) (star_any (es := []) rfl)) (pps_cons pe_str pe_int (pps_cons pe_str pe_int (pps_cons pe_str pe_int (pps_cons pe_str (hv1 _) pps_nil))))) rfl rfl (by simp) (by simp))))), ?_⟩
    have hw : Walk X.K (⟨0, 0, []⟩ : Pa) (fun _ => False) (Itl X.K a) (ns.map D.int) H := by
      refine walk_list hs ?_
      clear q hs
      induction ns with
      | nil => exact RDs.nil
      | cons n r ih => exact RDs.cons (by simp only [RD]) ih
    refine ⟨.ref a, rfl, a, rfl, .inl ⟨⟨_, hs⟩, fun i n σ Hc => i ≤ ns.length ∧ n = ns.length - i ∧ Hc = H ∧ ∃ x, σ = [some (.ref a), some (.int ((ns.take i).foldl penStep 0)), x], ⟨ns.length, Nat.zero_le _, rfl, rfl, _, rfl⟩, ?_⟩⟩
    rintro i n σ Hc ⟨hi, rfl, rfl, x, rfl⟩
    by_cases hlt : i < ns.length
    · refine .inr ?_
      have ex : (ns.map D.int)[i]? = some (.int ns[i]) := by rw [List.getElem?_map, List.getElem?_eq_getElem hlt]; rfl
      obtain ⟨go, yld⟩ := hw.1 i _ ex
      refine ⟨go, fun σ' H' => i + 1 ≤ ns.length ∧ H' = Hc ∧ ∃ x, σ' = [some (.ref a), some (.int ((ns.take (i + 1)).foldl penStep 0)), x], fun σ' H' ⟨h1, h2⟩ => ⟨ns.length - (i + 1), by omega, h1, rfl, h2⟩, fun y H' hy => ?_⟩
      obtain ⟨g, ry⟩ := yld y H' hy
      simp only [RD] at ry
      subst ry
      obtain rfl : H' = Hc := by
        obtain ⟨e', _⟩ := hy
        exact e'
      refine ⟨(ns.take i).foldl penStep 0, ns[i], rfl, rfl, mul47 (fold_lt _ 0 (by omega)), by omega, rfl, some (.int ns[i]), ?_⟩
      rw [List.take_add_one, List.getElem?_eq_getElem hlt, Option.toList_some, List.foldl_append]
      rfl
    · have e : i = ns.length := by omega
      subst e
      refine .inl ⟨hw.2 _ (by simp), ?_⟩
      rw [List.take_length]
      intro p hpn
      have hsq : SqL X.K (upd Hc p (.dK [])) a (ns.map V.int) := by
        rcases hs with (hs | ⟨o, hs⟩) | hs
        · exact .inl (.inl (by rw [upd_ne (ne_of_none hs hpn)]; exact hs))
        · exact .inl (.inr ⟨o, by rw [upd_ne (ne_of_none hs hpn)]; exact hs⟩)
        · exact .inr hs
      refine ⟨.ref a, rfl, a, ns.map V.int, rfl, .inl hsq, fun l hln => ⟨_, rfl, ?_⟩⟩
      have hlp : l ≠ p := fun z => by rw [z, upd_same] at hln; cases hln
      have hl0 : Hc l = none := by rw [upd_ne hlp] at hln; exact hln
      refine ⟨by rw [upd_ne (Ne.symm hlp), upd_same], penK (pen0 ns) l, rfl, by show 5 ≤ 15; omega, ?_⟩
      refine q p l _ (fun b o e => ?_) hpn hl0 (Ne.symm hlp) upd_same ?_
      · rw [upd_ne (ne_of_none e hpn), upd_ne (ne_of_none e hl0), upd_ne (ne_of_none e hpn)]
        exact e
      · rw [upd_ne hlp, upd_same]
  · cases h
end
end Mc

/-! Mc24: the law itself. -/
namespace Mc
open PySem PySem.Spec PyProof.Rows L2
section
variable {P : Program} {w : World} {K : PySem.W.Frag} {mg : Str → Option Value} {base : Heap}
theorem pen_ok {qual : Str} {params : Arguments} {body : List Stmt} {scope : Scope} {fd : FuncData} {a : Addr} (FD : FunD K "_law_pen" qual params body scope [] [] a fd) (S : FnScope penN [("script" : Str)] scope) (hb : penB body = true)
    (hl : penN.all (fun x => decide (scope.names.lookup x = some .local)) = true) (hg : scope.names.lookup ("int" : Str) = some .globalImplicit) (hg2 : scope.names.lookup ("list" : Str) = some .globalImplicit) (hm : mg "int" = none) (hm2 : mg "list" = none) : FnOk P w K mg base (L2.CX P w) 1 a fd [("script" : Str)] (spPen K) := by
  have hloc : ∀ x ∈ penN, scope.names.lookup x = some .local := fun x hx => by simpa using List.all_eq_true.mp hl x hx
  refine FD.ok S (fun vs H Q E h => by obtain ⟨_, _, rfl, _⟩ := h; rfl) fun cdv A outer s H vs Q E hr h => ?_
  obtain ⟨l, ns, rfl, hs, q⟩ := h
  obtain ⟨t, ht, hq⟩ := pen_body (W := fun cls dd _ H => E cls dd H) (X := cxOf (L2.CX P w) P w K mg base penN qual scope a cdv A outer s H E) (En := { nx := fun _ H' => Q .non H', rt := Q }) hb (passes_of rfl) rfl S.nd rfl
    (fun x hx => .inl (hloc x hx)) (fun x hx => .inl (hloc x hx)) (fun _ => rfl) hg hm hg2 hm2 hs q
  exact ⟨t, ht, hq⟩
theorem uniqT_ok : ∀ {l : List (Addr × Str)}, uniqT l = true → ∀ p ∈ l, ∀ q ∈ l, q.1 = p.1 → q.2 = p.2
  | [], _, p, hp, _, _, _ => by cases hp
  | x :: r, h, p, hp, q, hq, e => by
    have h' : (r.all (fun q => !decide (q.1 = x.1) || decide (q.2 = x.2)) && uniqT r) = true := h
    rw [Bool.and_eq_true] at h'
    have key : ∀ q ∈ r, q.1 = x.1 → q.2 = x.2 := fun q hq e => by
      have := List.all_eq_true.mp h'.1 q hq
      simpa [e] using this
    rcases List.mem_cons.mp hp with e1 | hp <;> rcases List.mem_cons.mp hq with e2 | hq
    · rw [e1, e2]
    · rw [e1]; exact key q hq (by rw [e, e1])
    · rw [e2]; exact (key p hp (by rw [← e, e2])).symm
    · exact uniqT_ok h'.2 p hp q hq e
theorem tk_of {pa : Pa} (hT : pa.T = tabsOf K) (hu : uniqT (tabsOf K) = true) : TK K pa := fun x hx c P ht => by
  have m : (P, lamQ x) ∈ tabsOf K := List.mem_filterMap.mpr ⟨x, hx, by rw [ht]; rfl⟩
  exact ⟨by rw [hT]; exact m, fun p hp e => uniqT_ok hu _ m p (by rw [← hT]; exact hp) e⟩
theorem tabs_mem {p : Addr × Str} (h : p ∈ tabsOf K) : ∃ cp ∈ tabCs K, cp.2 = p.1 := by
  obtain ⟨x, hx, e⟩ := List.mem_filterMap.mp h
  obtain ⟨cp, e1, e2⟩ := Option.map_eq_some_iff.mp e
  exact ⟨cp, List.mem_filterMap.mpr ⟨x, hx, e1⟩, by rw [← e2]⟩
/-- the law holds at the script -/
def spLaw (K : PySem.W.Frag) (n : Nat) (r : Sl → Mc.P → R (Fl × Sl)) : Sp := fun vs H Q E => ∃ a ns, vs = [.ref a] ∧ SqL K H a (ns.map V.int) ∧ (∀ p ∈ tabCs K, H p.2 = some (.tbl #[])) ∧
  (∃ s' p', r ((none :: some .pen :: List.replicate (n - 2) none)) (pen0 ns) = .ok (.rt (.bl true), s') p') ∧ ∀ H', Q (.bl true) H'
def lawB : List Stmt → Option (List Stmt)
  | .Assign [t] (.Call f [x] [] _) _ :: r => if isN "pen" t && (isN "_law_pen" f && isN "script" x) then some r else none
  | _ => none
theorem law_ok {d : Df} {qual : Str} {params : Arguments} {body rest : List Stmt} {scope : Scope} {fd fdp : FuncData} {tb : Tab} {C : Str → List D → Mc.P → R D} {F : R D → R D} {wh k : Nat} {r : Option (List Kd)}
    (FD : FunD K d.nm qual params body scope [] [] (He.ga K d.nm) fd) (S : FnScope d.N [("script" : Str)] scope) (hN0 : d.N[0]? = some ("script" : Str)) (hN1 : d.N[1]? = some ("pen" : Str)) (hlam : d.lamB K qual = true)
    (hbody : lawB body = some rest) (ok : okSs d.b (d.cg scope tb) [] 0 d.k rest = some r) (hk1 : kf d.k 1 = .sh) (ht : TabOk P w K mg base tb) (hF : tb.flt = true → F = fltR tb.kt) (hu : uniqT (tabsOf K) = true)
    (hv0 : (d.cg scope tb).vis "script" = true) (hv1 : (d.cg scope tb).to_ 1 "pen" = true) (hgp : scope.names.lookup ("_law_pen" : Str) = some .globalImplicit) (hmp : mg "_law_pen" = some (.ref (He.ga K "_law_pen"))) (hkp : PySem.W.keepIn K (.ref (He.ga K "_law_pen")) = true)
    (FP : FnOk P w K mg base (L2.CX P w) 1 (He.ga K "_law_pen") fdp [("script" : Str)] (spPen K)) (hbp : Binds K fdp [("script" : Str)] [])
    (hk2 : 2 ≤ k) (hC : Fns P w K mg base k tb C) :
    Fg d.g P w K mg base (k + 4) (He.ga K d.nm) fd [("script" : Str)] (spLaw K d.N.length (evSs C F wh d.b)) := by
  obtain ⟨oc, od, dV, kV, doc, pm, an, cdv, ct, osl, rfl, lk, hcd, _, _⟩ := FD.ex
  have hlen : ∀ vs H Q E, spLaw K d.N.length (evSs C F wh d.b) vs H Q E → vs.length = [("script" : Str)].length := fun vs H Q E h => by
    obtain ⟨_, _, rfl, _⟩ := h; rfl
  refine ⟨hlen, fun A outer s H args us vs Q E hr hgd e0 hb rv h => LamX.run_ofS (k := k + 3) (N := d.N) (ps := [("script" : Str)]) lk hcd S hr e0 hb rv (hlen _ _ _ _ h) fun hr2 => ?_⟩
  have hps : d.N.take 1 = [("script" : Str)] := S.pre
  have hln : 1 < d.N.length := (List.getElem?_eq_some_iff.mp hN1).1
  have S' : FnScope d.N (d.N.take 1) scope := by rw [hps]; exact S
  have G : GoodS (d.cg scope tb) (cxOf (L2.CX P w) P w K mg base d.N qual scope (He.ga K d.nm) cdv A outer s H E) (fun cls dd _ H => E cls dd H) C F :=
    good_def (d := { d with n := 1 }) lk S' hlam ht hF hk2 hC hgd hr2
  obtain ⟨a, ns, rfl, hs, htb, ⟨s', p', hrun⟩, hq⟩ := h
  unfold lawB at hbody
  split at hbody
  · split at hbody
    · rename_i hc
      cases hbody
      simp only [Bool.and_eq_true] at hc
      obtain ⟨c1, c2, c3⟩ := hc
      obtain ⟨_, rfl⟩ := isN_eq c1
      obtain ⟨_, rfl⟩ := isN_eq c2
      obtain ⟨_, rfl⟩ := isN_eq c3
      obtain ⟨z1, z2, z3⟩ := to_ok G.e hv1
      refine ⟨_, pss_cons (ps_asg (pe_callS (E := WE fun cls dd _ H => E cls dd H) (X := cxOf (L2.CX P w) P w K mg base d.N qual scope (He.ga K d.nm) cdv A outer s H E) FP (hr2.mono (by omega)) hgp hmp hkp hbp (fun σ => passAt G.e.tk σ) (pa_cons (pe_var (i := 0) hN0 (G.e.vis hv0) (by decide) (by decide)) pa_nil (star_cons rfl)) (by decide) (star_cons rfl) (star_any (es := []) rfl)) (pg_name G.e.nd z1 z2 z3) (sw_no1 rfl) ss_nm (ae1 rfl)) (okSs_sound (F := F) (w := wh) d.b _ _ _ _ _ _ ok _ _ G (kf (r.getD [])) (fun k2 e => by rw [e]; rfl)), ?_⟩
      refine ⟨.ref a, rfl, a, ns, rfl, hs, fun dd c H1 hk hnd hnc hne hd hcc => ?_⟩
      have hT1 : ∀ p ∈ tabsOf K, H1 p.1 = some (.tbl #[]) := fun p hp => by
        obtain ⟨cp, hcp, e⟩ := tabs_mem hp
        rw [← e]
        exact hk _ _ (htb cp hcp)
      let M0 : Addr → Prop := fun b => b = dd ∨ b = c ∨ ∃ p ∈ tabsOf K, b = p.1
      have hdom : ∀ b, M0 b → H1 b ≠ none := fun b hb => by
        rcases hb with rfl | rfl | ⟨p, hp, rfl⟩
        · rw [hd]; exact fun z => nomatch z
        · rw [hcc]; exact fun z => nomatch z
        · rw [hT1 p hp]; exact fun z => nomatch z
      refine ⟨⟨H1, M0, fun _ => [], none :: some .pen :: List.replicate (d.N.length - 2) none, pen0 ns⟩, ⟨dd, c, tabsOf K⟩, ?_, ?_⟩
      · refine ⟨hdom, ⟨.inl rfl, .inr (.inl rfl), hne, hd, hcc, fun p hp => .inr (.inr ⟨p, hp, rfl⟩), fun p hp => .nil (hT1 p hp)⟩, fun i x e => ?_, fun _ _ => rfl, fun _ _ _ _ z => (nomatch z), fun _ => List.nodup_nil, fun _ _ z => (nomatch z), ?_, .refl, fun _ _ z => (nomatch z), tk_of rfl hu⟩
        · have e : (none :: some D.pen :: List.replicate (d.N.length - 2) none)[i]? = some (some x) := e
          match i, e with
          | 0, e => cases e
          | 1, e =>
            cases e
            refine ⟨.ref dd, ?_, ?_⟩
            · show ((L2.start d.N [V.ref a]).set 1 (some (V.ref dd)))[1]? = _
              rw [List.getElem?_set_self (by unfold L2.start; rw [List.length_append, List.length_map, List.length_replicate]; simp only [List.length_cons, List.length_nil]; omega)]
            · show SlotR K _ _ _ (kf d.k 1) _ _ _
              rw [hk1]
              exact ⟨rfl, by simp only [RD]⟩
          | i + 2, e =>
            simp only [List.getElem?_cons_succ, List.getElem?_replicate] at e
            split at e <;> cases e
        · show ((L2.start d.N [V.ref a]).set 1 _).length = (none :: some D.pen :: List.replicate (d.N.length - 2) none).length
          unfold L2.start
          rw [List.length_set, List.length_append, List.length_map, List.length_replicate]
          simp only [List.length_cons, List.length_nil, List.length_replicate]
          omega
      · show PostS K _ _ _ _ 0 _ _ H1 (evSs C F wh d.b _ (pen0 ns)) _
        rw [hrun]
        intro v H' _ _ rr
        have rr : RD _ _ _ _ _ _ := rr
        simp only [RD] at rr
        subst rr
        exact hq H'
    · cases hbody
  · cases hbody
end
end Mc

/-! Mc25: an error that is caught, read by the defs that the suite calls. -/
namespace Mc
open PySem PySem.Spec PyProof.Rows L2
abbrev CXn : CXT := C8.CX0
/-- a def that is called while the object p is handled -/
structure FnC (P : Program) (w : World) (K : PySem.W.Frag) (mg : Str → Option Value) (base : Heap) (k : Nat) (f : Addr) (fd : FuncData) (ps : List Str) (sp : Addr × Obj → List V → Hp → VK → Prop) : Prop where
  len : ∀ p vs H Q, sp p vs H Q → vs.length = ps.length
  run : ∀ (A : Around) (outer : List Env) (s : Shared) (H : Hp) (us : List Value) (vs : List V) (Q : VK) (p : Addr × Obj), L2H.RoomH k A → A.guards = some [] → L2H.PinOk outer H s p → Env0 P w K mg base A outer s H →
    BindsTo s fd ⟨us, []⟩ (ps.zip us) → Vals vs us → sp p vs H Q → codeAny (model P w) A (.call (.ref f) ⟨us, []⟩) (CR CXn outer P w H s Q C8.E0) s
/-- its body's context -/
abbrev cxC (P : Program) (w : World) (K : PySem.W.Frag) (mg : Str → Option Value) (base : Heap) (N : List Str) (qual : Str) (scope : Scope) (f : Addr) (cd : Value) (A : Around) (outer : List Env) (s : Shared) (H : Hp) (p : Addr × Obj) : Cx := L2H.cxH CXn P w K mg base N qual scope f cd A outer s H C8.E0 p
section
variable {P : Program} {w : World} {K : PySem.W.Frag} {mg : Str → Option Value} {base : Heap}
theorem fnC_of {qual x : Str} {params : Arguments} {body : List Stmt} {scope : Scope} {fd : FuncData} {f : Addr} {N ps : List Str} {k : Nat} {sp : Addr × Obj → List V → Hp → VK → Prop} (FD : FunD K x qual params body scope [] [] f fd) (S : FnScope N ps scope) (len : ∀ p vs H Q, sp p vs H Q → vs.length = ps.length)
    (hbody : ∀ (cdv : Value) (A : Around) (outer : List Env) (s : Shared) (H : Hp) (vs : List V) (Q : VK) (p : Addr × Obj), L2H.RoomH k (A.deeper (envOfC qual scope s.heap.objs.size f cdv)) → A.guards = some [] → sp p vs H Q →
      ∃ t, PSs (cxC P w K mg base N qual scope f cdv A outer s H p) body t ∧ t { nx := fun _ H' => Q .non H', rt := Q } (L2.start N vs) H) : FnC P w K mg base (k + 1) f fd ps sp := by
  obtain ⟨oc, od, dV, kV, doc, pm, an, cdv, ct, osl, rfl, lk, hcd, _, _⟩ := FD.ex
  refine ⟨len, fun A outer s H us vs Q p room gds pin e0 hb rel hsp => ?_⟩
  have inK : K.In s.heap := e0.mod.kin.keeps fun b o e => (e0.bs b o e).1
  have nolim : s.heap.NoLimit := e0.mod.nolimit.keeps fun b o e => (e0.bs b o e).1
  have kinds : ∀ y ∈ ps.zip us, scope.names.lookup y.1 = some .local ∨ (scope.names.lookup y.1 = some .cell ∧ ((cellsFrom (s.heap.objs.size + 1) scope.names []).lookup y.1).isSome = true) := by
    rintro ⟨n, v⟩ hy
    cases S.par n (List.of_mem_zip hy).1 with
    | inl q => exact .inl q
    | inr q => exact .inr ⟨q, PySem.W.cellsFrom_some _ _ _ (.inl q)⟩
  refine codeAny_call_function room.depth (inK _ _ lk) rfl S.co S.gen rfl (PySem.W.codeRec_of inK hcd) (hb _ _ _ _ (wpAny_newFunctionEnv_cells S.kind kinds fun env he s1 x => ?_))
  subst he
  obtain ⟨t, ht, hq⟩ := hbody cdv A outer s H vs Q p (room.deeper _) gds hsp
  refine ⟨nolim.keeps x.toInCall.keep, codeAny_func (wpAny_mono (ht.run [] s1 (L2.start N vs) H _ (L2H.inv_startH S pin e0 (len _ _ _ _ hsp) rel x) hq) ?_ fun e s' hs => hs)⟩
  rintro fl s2 hs
  cases fl with
  | ret u =>
    obtain ⟨v, σ2, H2, J, rv, q⟩ := hs
    exact ⟨v, H2, J.os, J.bare, J.base, J.hok, rv, q⟩
  | next =>
    obtain ⟨σ2, H2, J, q⟩ := hs
    exact ⟨.non, H2, J.os, J.bare, J.base, J.hok, rfl, q⟩
  | brk => obtain ⟨_, _, _, q⟩ := hs; exact False.elim q
  | cont => obtain ⟨_, _, _, q⟩ := hs; exact False.elim q
end
section
variable {X : Cx} {p : Addr × Obj} {e : Expr} {es : List Expr} {t : TA} {te : TE} {pos q : Pos}
theorem pe_callC {k : Nat} {f : Addr} {fd : FuncData} {ps : List Str} {x : Str} {sp : Addr × Obj → List V → Hp → VK → Prop} (hp : p ∈ X.pn) (F : FnC X.prog X.w X.K X.mg X.base k f fd ps sp) (hr : L2H.RoomH k X.A) (hgd : X.A.guards = some []) (hg : Gl X x) (hm : X.mg x = some (.ref f))
    (hk : PySem.W.keepIn X.K (.ref f) = true) (hb : Binds X.K fd ps []) (ha : PA X (e :: es) t) (hst : noStar e = true) (hst2 : es.all noStar = true) (hdb : (x == ("__debug__" : Str)) = false) :
    PE X (.Call (.Name x q) (e :: es) [] pos) (fun σ H Q => t σ H fun vs H1 => sp p vs H1 Q) := by
  refine ⟨fun pins s σ H Q I h => wpAny_Call_Name_kw (ld_glob I hg hm (PySem.W.callWith_K (h₀ := X.base) I.ok.mod.kin hk (thn (ha.run pos pins s σ H _ I h) ?_) (star_cons hst) (star_any hst2)) hdb)⟩
  rintro us s1 ⟨vs, H1, J, rel, q2⟩
  refine ⟨J.kIn, ?_⟩
  have hlen : (us ++ []).length = ps.length := by rw [List.append_nil, ← rel.length, F.len _ _ _ _ q2]
  have bound := hb s1 us J.kIn hlen
  rw [List.append_nil] at bound
  obtain ⟨at_, fre, nloc, nfs, ncell⟩ := J.pin p (List.mem_append_left _ hp)
  have pinned : L2H.PinOk X.stack H1 s1 p := ⟨at_, fre, fun m => (List.mem_cons.mp (J.stkSub p.1 m)).elim nloc nfs, ncell⟩
  refine wpAny_call (codeAny_mono (F.run X.A X.stack s1 H1 us vs Q p hr hgd pinned J.env0 bound rel q2) ?_)
  rintro (er | fl) s2 hq
  · exact (show False from hq).elim
  · cases fl with
    | ret u => exact J.after hq
    | next => exact hq.elim
    | brk => exact hq.elim
    | cont => exact hq.elim
/-- the error's object: its class is c, its dict d -/
def ExAt (p : Addr × Obj) (C : Addr) (d : Option Addr) : Prop := Zc (.ref C) d p.2 ∧ ∃ vs, p.2.data = .fields vs
theorem ExAt.inst {pins : List (Addr × Obj)} {σ : L2.St} {H : Hp} {s : Shared} {C : Addr} {d : Option Addr} (x : ExAt p C d) (hp : p ∈ X.pn) (I : Inv X pins σ H s) (hd : d = none ∨ ∃ dd fs, d = some dd ∧ H dd = some (.xd fs)) : ∃ od, PySem.W.InstAt s.heap p.1 p.2 C od := by
  obtain ⟨⟨z1, z2⟩, vs, hv⟩ := x
  have at_ := (I.pin p (List.mem_append_left _ hp)).1
  have nc : PySem.W.notCls p.2 = true := by unfold PySem.W.notCls; rw [hv]
  rcases hd with rfl | ⟨dd, fs, rfl, hdd⟩
  · exact ⟨none, at_, z1, nc, by rw [z2]; trivial⟩
  · have hx : ObjOk X.prog X.w H s.heap dd (.xd fs) := I.hok dd _ hdd
    obtain ⟨mA, hns, hr⟩ := hx
    obtain ⟨od, ho, hl⟩ := lookIn_ns hns
    exact ⟨some od, at_, z1, nc, by rw [z2]; exact ho⟩
/-- e.f -/
theorem pe_fld {C : Addr} {n : Str} (hp : p ∈ X.pn) (T : XfC X.K C) (hno : PySem.W.findIn X.K (.ref C) n = some none) (he : PE X e te) (hb : attributeBase e n X.env (eval e X.env) = eval e X.env) :
    PE X (.Attribute e n pos) (fun σ H Q => te σ H fun x H1 => x = .ref p.1 ∧ ∃ dd fs v, ExAt p C (some dd) ∧ H1 dd = some (.xd fs) ∧ fs.lookup n = some v ∧ Q v H1) := by
  refine ⟨fun pins s σ H Q I h => attr_of hb (thn (he.run pins s σ H _ I h) ?_)⟩
  rintro u s1 ⟨x, H1, J, rx, rfl, dd, fs, v, ⟨⟨z1, z2⟩, vs, hv⟩, hdd, look, q⟩
  obtain rfl : u = Value.ref p.1 := rx
  have at_ := (J.pin p (List.mem_append_left _ hp)).1
  have hx : ObjOk X.prog X.w H1 s1.heap dd (.xd fs) := J.hok dd _ hdd
  obtain ⟨mA, hns, hr⟩ := hx
  obtain ⟨od, ho, hl⟩ := lookIn_ns hns
  obtain ⟨u, hu, ru⟩ := RelO.some_of (v := v) (o := mA n) (by rw [← look]; exact hr n)
  have inst : PySem.W.InstAt s1.heap p.1 p.2 C (some od) := ⟨at_, z1, by unfold PySem.W.notCls; rw [hv], by rw [z2]; exact ho⟩
  exact HandSPX.exc_get J.kIn inst T.ga T.gg T.exC (PySem.W.findObj_own T.hdC hno rfl (by rw [hl, hu])) (handed_of ru) ⟨v, H1, J.tok _, ru, q⟩
/-- what a class of errors must say -/
structure ExCl (K : PySem.W.Frag) (D : Addr) : Prop where
  cl : (PySem.W.clsIn K D).isSome = true
  hg : PySem.W.findIn K (.ref D) "__getattribute__" = some (some (.builtin "BaseException.__getattribute__"))
  hk : ∃ gt, PySem.W.findIn K (.ref D) "__getattr__" = some gt
  hs : PySem.W.subIn K (.ref D) (.type "BaseException") = some true
  ha : PySem.W.findIn K (.ref D) "__class__" = some (some (.builtin "object.__class__"))
  hn : PySem.W.specialIn K (.builtin "object.__class__") "__get__" = some (some (.builtin "getset_descriptor.__get__"))
  ht : PySem.W.takesIn K (.builtin "object.__class__") = some true
  hm : PySem.W.mroIn K D (.type "object") = some true
/-- isinstance(e, c) -/
theorem call_isC {C : Addr} {d : Option Addr} (hp : p ∈ X.pn) (T : ExCl X.K C) (x : ExAt p C d) : CallR X (.builtin "isinstance") (fun xs H Q => ∃ c cv b, xs = [.ref p.1, c] ∧ (∀ u, RelV c u → u = cv) ∧ PySem.W.kitOne X.K (.ref C) cv = some b ∧ (d = none ∨ ∃ dd fs, d = some dd ∧ H dd = some (.xd fs)) ∧ Q (.bl b) H) := by
  intro pins s σ H xs us Q I r h
  obtain ⟨c, cv, b, rfl, hcv, e, hd, q⟩ := h
  cases r with
  | cons rx rr =>
    cases rr with
    | cons rt rr =>
      cases rr
      cases rx
      have ec := hcv _ rt
      subst ec
      obtain ⟨od, inst⟩ := x.inst hp I hd
      obtain ⟨gt, hk⟩ := T.hk
      exact PySem.W.kia_one (PySem.W.kitx_exc (gt := gt) T.cl T.hg hk T.hs T.ha T.hn T.ht T.hm) I.kIn inst e (fun z => nomatch z) fun tk => ⟨.bl b, H, I.kept (t' := tk) fun _ _ z => z, rfl, q⟩
end
end Mc

/-! Mc26: the kinds of an error. -/
namespace Mc
open PySem PySem.Spec PyProof.Rows L2
/-! ### the text's form -/
def kElB : Ke → Expr → Bool
  | .s t, .Constant (.str u) _ _ => decide (u = t)
  | .f n, .Attribute y m _ => isN "e" y && decide (m = n)
  | .r n, .Call r [.Attribute y m _] [] _ => isN "repr" r && (isN "e" y && decide (m = n))
  | _, _ => false
def kElsB : List Ke → List Expr → Bool
  | [], es => es.isEmpty
  | k :: l, es => (match es with
    | e :: r => kElB k e && kElsB l r
    | [] => false)
def kIfB (c : Str) (l : List Ke) : Stmt → Bool
  | .If (.Call i [y, c'] [] _) [.Expr (.Call (.Attribute f ap apos) [.Tuple es _ _] [] p) _] [] _ => isN "isinstance" i && (isN "e" y && (isN c c' && (isN "found" f && (decide (ap = "append") && ((apos.endLine == p.line) && (decide (l.length ≤ 100) && kElsB l es))))))
  | _ => false
def kIfsB : List (Str × List Ke) → List Stmt → Option (List Stmt)
  | [], sts => some sts
  | (c, l) :: r, sts => (match sts with
    | st :: more => if kIfB c l st = true then kIfsB r more else none
    | [] => none)
/-! ### what it tells -/
def kRun (x : Ex) : List (Str × List Ke) → Option (List D)
  | [] => some []
  | (c, l) :: r => if c = x.c then (match kesD x l, kRun x r with
    | some ds, some rs => some (.tup ds :: rs)
    | _, _ => none) else kRun x r
theorem kRun_none {x : Ex} : ∀ {tb : List (Str × List Ke)}, x.c ∉ tb.map (·.1) → kRun x tb = some []
  | [], _ => rfl
  | (c, l) :: r, h => by
    simp only [List.map_cons, List.mem_cons, not_or] at h
    unfold kRun
    rw [if_neg (fun z => h.1 z.symm)]
    exact kRun_none h.2
theorem kRun_one {x : Ex} {l : List Ke} {ds : List D} : ∀ {tb : List (Str × List Ke)}, (tb.map (·.1)).Nodup → tb.lookup x.c = some l → kesD x l = some ds → kRun x tb = some [.tup ds]
  | [], _, h, _ => by cases h
  | (c, l') :: r, hn, h, hd => by
    rw [List.map_cons, List.nodup_cons] at hn
    unfold kRun
    rw [List.lookup_cons] at h
    by_cases e : c = x.c
    · rw [if_pos e]
      have : (x.c == c) = true := by simp [e]
      rw [this] at h
      cases h
      rw [hd, kRun_none (by rw [← e]; exact hn.1)]
    · rw [if_neg e]
      have : (x.c == c) = false := by simpa using fun z => e z.symm
      rw [this] at h
      exact kRun_one hn.2 h hd
/-- what is known of the classes of the errors -/
structure KtOk (K : PySem.W.Frag) (mg : Str → Option Value) (kt : List (Str × List Ke)) : Prop where
  cl : ∀ c ∈ kt.map (·.1), ExCl K (He.ga K c) ∧ XfC K (He.ga K c) ∧ mg c = some (.ref (He.ga K c)) ∧ (c == ("__debug__" : Str)) = false ∧ PySem.W.exmOne K (.ref (He.ga K c)) (.ref (He.ga K "RoomsError")) = some true ∧ PySem.W.kitOne K (.ref (He.ga K c)) (.type "ValueError") = some true
  fl : ∀ c ∈ kt.map (·.1), ∀ q ∈ kt, ∀ f, (Ke.f f ∈ q.2 ∨ Ke.r f ∈ q.2) → PySem.W.findIn K (.ref (He.ga K c)) f = some none
  kit : ∀ c ∈ kt.map (·.1), ∀ c' ∈ kt.map (·.1), PySem.W.kitOne K (.ref (He.ga K c)) (.ref (He.ga K c')) = some (decide (c' = c))
  nd : (kt.map (·.1)).Nodup
/-- the error x stands in the object p -/
structure ErrIn (K : PySem.W.Frag) (kt : List (Str × List Ke)) (pa : Pa) (M0 : Addr → Prop) (x : Ex) (p : Addr × Obj) (d : Option Addr) (H : Hp) : Prop where
  mem : x.c ∈ kt.map (·.1)
  at_ : ExAt p (He.ga K x.c) d
  ex : ExR K pa M0 x (.ref (He.ga K x.c)) d H
  dom : ∀ a, M0 a → H a ≠ none
theorem ErrIn.grow {K : PySem.W.Frag} {kt : List (Str × List Ke)} {pa : Pa} {M0 : Addr → Prop} {x : Ex} {p : Addr × Obj} {d : Option Addr} {H H' : Hp} (e : ErrIn K kt pa M0 x p d H) (g : ∀ a o, H a = some o → H' a = some o) : ErrIn K kt pa M0 x p d H' := by
  refine ⟨e.mem, e.at_, ⟨e.ex.1, ?_⟩, fun a ha z => ?_⟩
  · rcases e.ex.2 with h | ⟨a, fs, xs, h1, h2, h3, h4, h5, h6⟩
    · exact .inl h
    · exact .inr ⟨a, fs, xs, h1, g _ _ h2, h3, h4, RDs.stay (fun b o _ e => g b o e) (fun _ n _ => n) _ _ h5, h6⟩
  · cases q : H a with
    | none => exact e.dom a ha q
    | some o => rw [g a o q] at z; cases z
theorem ErrIn.dict {K : PySem.W.Frag} {kt : List (Str × List Ke)} {pa : Pa} {M0 : Addr → Prop} {x : Ex} {p : Addr × Obj} {d : Option Addr} {H : Hp} (e : ErrIn K kt pa M0 x p d H) : d = none ∨ ∃ dd fs, d = some dd ∧ H dd = some (.xd fs) := by
  rcases e.ex.2 with ⟨_, _, h⟩ | ⟨a, fs, xs, h1, h2, _⟩
  · exact .inl h
  · exact .inr ⟨a, fs, h1, h2⟩
theorem zip_look {K : PySem.W.Frag} {pa : Pa} {M : Addr → Prop} {H : Hp} {f : Str} {d : D} : ∀ {n : List Str} {l : List D} {xs : List V}, n.length = xs.length → RDs K pa M H l xs → (n.zip l).lookup f = some d → ∃ v, (n.zip xs).lookup f = some v ∧ RD K pa M H d v
  | [], _, _, _, _, h => by cases h
  | a :: n, [], _, _, _, h => by cases h
  | a :: n, e :: l, xs, hn, r, h => by
    simp only [RDs] at r
    obtain ⟨v, ys, rfl, r1, r2⟩ := r
    rw [List.zip_cons_cons, List.lookup_cons] at h ⊢
    cases q : f == a with
    | true => rw [q] at h; cases h; exact ⟨v, rfl, r1⟩
    | false => rw [q] at h; exact zip_look (by simpa using hn) r2 h
theorem ErrIn.fld {K : PySem.W.Frag} {kt : List (Str × List Ke)} {pa : Pa} {M0 : Addr → Prop} {x : Ex} {p : Addr × Obj} {d : Option Addr} {H : Hp} {f : Str} {z : D} (e : ErrIn K kt pa M0 x p d H) (h : (x.n.zip x.l).lookup f = some z) : ∃ dd fs v, d = some dd ∧ H dd = some (.xd fs) ∧ fs.lookup f = some v ∧ RD K pa M0 H z v := by
  rcases e.ex.2 with ⟨h1, h2, h3⟩ | ⟨a, fs, xs, h1, h2, h3, h4, h5, h6⟩
  · rw [h1] at h; cases h
  · obtain ⟨v, e1, e2⟩ := zip_look h4 h5 h
    exact ⟨a, fs, v, h1, h2, by rw [h6, e1], e2⟩
/-- a def's context in which the error is read -/
structure HotE (X : Cx) (p : Addr × Obj) (ie ifd : Nat) : Prop where
  hp : p ∈ X.pn
  nd : X.N.Nodup
  ne : X.N[ie]? = some ("e" : Str)
  nf : X.N[ifd]? = some ("found" : Str)
  v : ∀ x ∈ X.N, Vis X.env.scope x
  gd : X.A.guards = some []
  un : X.A.units + 65 < cLine
  sm : ∃ o, X.base.get? sysModules = some o
  gi : Gl X "isinstance" ∧ X.mg "isinstance" = none
  gr : Gl X "repr" ∧ X.mg "repr" = none
section
variable {X : Cx} {p : Addr × Obj} {ie ifd : Nat} {kt : List (Str × List Ke)} {pa : Pa} {M0 : Addr → Prop} {x : Ex} {d : Option Addr}
theorem HotE.e (G : HotE X p ie ifd) {q : Pos} : PE X (.Name "e" q) (tVar ie) := pe_var G.ne (G.v _ (List.mem_of_getElem? G.ne)) (by decide) (by decide)
theorem HotE.f (G : HotE X p ie ifd) {q : Pos} : PE X (.Name "found" q) (tVar ifd) := pe_var G.nf (G.v _ (List.mem_of_getElem? G.nf)) (by decide) (by decide)
theorem call_rep (hg : X.A.guards = some []) (hu : X.A.units + 65 < cLine) (hsm : ∃ o, X.base.get? sysModules = some o) : CallR X (.builtin "repr") (fun xs H Q => ∃ v z s pa N, xs = [v] ∧ RD X.K pa N H z v ∧ repD z = some s ∧ Q (.str s) H) := by
  intro pins s σ H xs us Q I r h
  obtain ⟨v, z, t, pa, N, rfl, rd, e, q⟩ := h
  cases r with
  | cons r1 r2 =>
    cases r2
    exact run_repr hg hu hsm I r1 rd e q
theorem el_ok (G : HotE X p ie ifd) (T : KtOk X.K X.mg kt) (hm : x.c ∈ kt.map (·.1)) {k : Ke} {e : Expr} (h : kElB k e = true) (hf : ∀ f, (k = .f f ∨ k = .r f) → PySem.W.findIn X.K (.ref (He.ga X.K x.c)) f = some none) :
    ∃ t, PE X e t ∧ ∀ σ Hb H Q z, σ[ie]? = some (some (.ref p.1)) → ErrIn X.K kt pa M0 x p d Hb → (∀ a o, Hb a = some o → H a = some o) → keD x k = some z → (∀ v, RD X.K pa M0 Hb z v → Q v H) → t σ H Q := by
  obtain ⟨c1, c2, c3, c4, c5, c6⟩ := T.cl _ hm
  unfold kElB at h
  split at h
  · simp only [decide_eq_true_eq] at h
    subst h
    exact ⟨_, pe_str, fun σ Hb H Q z he hE gr hz q => by cases hz; exact q _ (by simp only [RD])⟩
  · simp only [Bool.and_eq_true, decide_eq_true_eq] at h
    obtain ⟨h1, rfl⟩ := h
    obtain ⟨_, rfl⟩ := isN_eq h1
    refine ⟨_, pe_fld (C := He.ga X.K x.c) G.hp c2 (hf _ (.inl rfl)) G.e rfl, fun σ Hb H Q z he hE gr hz q => ?_⟩
    obtain ⟨dd, fs, v, e1, e2, e3, e4⟩ := hE.fld hz
    exact ⟨_, he, rfl, dd, fs, v, by rw [← e1]; exact hE.at_, gr _ _ e2, e3, q v e4⟩
  · simp only [Bool.and_eq_true, decide_eq_true_eq] at h
    obtain ⟨h0, h1, rfl⟩ := h
    obtain ⟨_, rfl⟩ := isN_eq h0
    obtain ⟨_, rfl⟩ := isN_eq h1
    refine ⟨_, pe_callB (call_rep G.gd G.un G.sm) G.gr.1 G.gr.2 (by decide +kernel) (pa_cons (pe_fld (C := He.ga X.K x.c) G.hp c2 (hf _ (.inr rfl)) G.e rfl) pa_nil (star_cons rfl)) (by decide) (by decide) (star_cons rfl) (star_any (es := []) rfl), fun σ Hb H Q z he hE gr hz q => ?_⟩
    simp only [keD] at hz
    split at hz
    · rename_i z' hz'
      obtain ⟨s, hs, rfl⟩ := Option.map_eq_some_iff.mp hz
      obtain ⟨dd, fs, v, e1, e2, e3, e4⟩ := hE.fld hz'
      exact ⟨_, he, rfl, dd, fs, v, by rw [← e1]; exact hE.at_, gr _ _ e2, e3, v, z', s, pa, M0, rfl, RD.stay (fun a o _ e => gr a o e) (fun _ n _ => n) _ _ e4, hs, q _ (by simp only [RD])⟩
    · cases hz
  · cases h
theorem els_ok (G : HotE X p ie ifd) (T : KtOk X.K X.mg kt) (hm : x.c ∈ kt.map (·.1)) : ∀ (l : List Ke) (es : List Expr), kElsB l es = true → (∀ f, (Ke.f f ∈ l ∨ Ke.r f ∈ l) → PySem.W.findIn X.K (.ref (He.ga X.K x.c)) f = some none) →
    ∃ t, PA X es t ∧ ∀ σ Hb H Q zs, σ[ie]? = some (some (.ref p.1)) → ErrIn X.K kt pa M0 x p d Hb → (∀ a o, Hb a = some o → H a = some o) → kesD x l = some zs → (∀ vs, RDs X.K pa M0 Hb zs vs → Q vs H) → t σ H Q
  | [], es, h, _ => by
    simp only [kElsB, List.isEmpty_iff] at h
    subst h
    exact ⟨_, pa_nil, fun σ Hb H Q zs _ _ _ hz q => by cases hz; exact q [] RDs.nil⟩
  | k :: l, es, h, hf => by
    simp only [kElsB] at h
    split at h
    · rename_i e r
      rw [Bool.and_eq_true] at h
      obtain ⟨t1, a1, a2⟩ := el_ok (pa := pa) (M0 := M0) (d := d) G T hm h.1 (fun f hk => hf f (by
        rcases hk with rfl | rfl
        · exact .inl List.mem_cons_self
        · exact .inr List.mem_cons_self))
      obtain ⟨t2, b1, b2⟩ := els_ok G T hm l r h.2 (fun f hk => hf f (hk.imp (List.mem_cons_of_mem _) (List.mem_cons_of_mem _)))
      have hst : noStar e = true := by
        have := h.1
        unfold kElB at this
        split at this <;> first | rfl | cases this
      refine ⟨_, pa_cons a1 b1 (star_cons hst), fun σ Hb H Q zs he hE gr hz q => ?_⟩
      simp only [kesD] at hz
      split at hz
      · rename_i z zs' h1 h2
        cases hz
        exact a2 σ Hb H _ z he hE gr h1 fun v rv => b2 σ Hb H _ zs' he hE gr h2 fun vs rvs => q _ (RDs.cons rv rvs)
      · cases hz
    · cases h
/-- the state of such a def: Hb the heap at its entry, fa its list -/
structure KSt (K : PySem.W.Frag) (pa : Pa) (M0 : Addr → Prop) (Hb : Hp) (fa : Addr) (ds : List D) (H : Hp) : Prop where
  gr : ∀ a o, Hb a = some o → H a = some o
  nb : Hb fa = none
  ex : ∃ xs, H fa = some (.lst xs) ∧ RDs K pa (fun a => M0 a ∨ a = fa) H ds xs
theorem kesD_len {x : Ex} : ∀ {l : List Ke} {ds : List D}, kesD x l = some ds → ds.length = l.length
  | [], ds, h => by cases h; rfl
  | k :: l, ds, h => by
    simp only [kesD] at h
    split at h
    · rename_i h1 h2
      cases h
      rw [List.length_cons, List.length_cons, kesD_len h2]
    · cases h
theorem is_test (G : HotE X p ie ifd) (T : KtOk X.K X.mg kt) (hm : x.c ∈ kt.map (·.1)) (ha : ExAt p (He.ga X.K x.c) d) {c : Str} (hc : c ∈ kt.map (·.1)) (hcg : Gl X c) {q1 q2 q3 pos : Pos} :
    PT X (.Call (.Name "isinstance" q1) [.Name "e" q2, .Name c q3] [] pos) (fun σ H Q => σ[ie]? = some (some (.ref p.1)) ∧ (d = none ∨ ∃ dd fs, d = some dd ∧ H dd = some (.xd fs)) ∧ Q (decide (c = x.c)) H) := by
  obtain ⟨c1, _⟩ := T.cl _ hm
  obtain ⟨_, _, d3, d4, _, _⟩ := T.cl _ hc
  refine (pt_truth (X := X) (pe_callB (call_isC (C := He.ga X.K x.c) G.hp c1 ha) G.gi.1 G.gi.2 (by decide +kernel) (pa_cons (G.e) (pa_cons (pe_glob (v := .ref (He.ga X.K c)) hcg d3 rfl d4) pa_nil (star_cons rfl)) (star_cons rfl)) (by decide) (by decide) (star_cons rfl) (star_any (es := [.Name c _]) rfl)) (fun _ => rfl)).weak fun σ H Q ⟨he, hd, q⟩ => ?_
  exact ⟨_, he, _, .ref (He.ga X.K c), _, rfl, fun u hu => hu, T.kit _ hm _ hc, hd, _, rfl, q⟩
theorem if_ok (G : HotE X p ie ifd) (T : KtOk X.K X.mg kt) {c : Str} {l : List Ke} {st : Stmt} (h : kIfB c l st = true) (hc : c ∈ kt.map (·.1)) (hcg : Gl X c) (hl : (c, l) ∈ kt) {Hb : Hp} (hE : ErrIn X.K kt pa M0 x p d Hb) :
    ∃ t, PS X st t ∧ ∀ σ H fa ds rs D, σ[ie]? = some (some (.ref p.1)) → σ[ifd]? = some (some (.ref fa)) → KSt X.K pa M0 Hb fa ds H → ds.length + 1 < sizeLine → kRun x [(c, l)] = some rs → (∀ H', KSt X.K pa M0 Hb fa (ds ++ rs) H' → D.nx σ H') → t D σ H := by
  have hm := hE.mem
  unfold kIfB at h
  split at h
  · simp only [Bool.and_eq_true, decide_eq_true_eq] at h
    obtain ⟨h1, h2, h3, h4, rfl, h5, h7, h6⟩ := h
    obtain ⟨_, rfl⟩ := isN_eq h1
    obtain ⟨_, rfl⟩ := isN_eq h2
    obtain ⟨_, rfl⟩ := isN_eq h3
    obtain ⟨_, rfl⟩ := isN_eq h4
    obtain ⟨t1, a1, a2⟩ := els_ok (pa := pa) (M0 := M0) (d := d) G T hm l _ h6 (fun f hk => T.fl _ hm _ hl f hk)
    by_cases ec : c = x.c
    · refine ⟨_, ps_if (is_test G T hm hE.at_ hc hcg) (pss_one (ps_expr (pe_bm F.plainAttrs_list F.slot_list_append F.type_list_append mt_append G.f (pa_cons (pe_tup a1) pa_nil (star_cons rfl)) rfl (few1 rfl) h5 (star_cons rfl) (star_any (es := []) rfl)) rfl)) pss_nil, fun σ H fa ds rs D he hf K hz hr q => ?_⟩
      obtain ⟨xs, k1, k2⟩ := K.ex
      refine ⟨he, (hE.grow K.gr).dict, ?_⟩
      rw [decide_eq_true ec]
      refine ⟨.ref fa, hf, .inl ⟨rfl, xs, .of k1⟩, ?_⟩
      simp only [kRun, if_pos ec] at hr
      split at hr
      · rename_i zs ts hz1 hz2
        cases hz2
        cases hr
        refine a2 σ Hb H _ zs he hE K.gr hz1 fun vs rvs => ⟨by rw [← rvs.length, kesD_len hz1, sizeLine_eq]; omega, fun q1 hq1 => ?_⟩
        have nfa : q1 ≠ fa := fun z => by rw [z, k1] at hq1; cases hq1
        refine ⟨fa, xs, .ref q1, rfl, rfl, by rw [upd_ne (Ne.symm nfa)]; exact k1, by rw [← k2.length]; omega, ?_⟩
        have hb1 : Hb q1 = none := by
          cases z : Hb q1 with
          | none => rfl
          | some o => rw [K.gr _ _ z] at hq1; cases hq1
        refine q _ ⟨fun a o e => ?_, K.nb, xs ++ [.ref q1], upd_same, ?_⟩
        · rw [upd_ne (ne_of_none e K.nb), upd_ne (ne_of_none e hb1)]
          exact K.gr a o e
        · have st : ∀ a o, ¬ (M0 a ∨ a = fa) → H a = some o → upd (upd H q1 (.tup vs)) fa (.lst (xs ++ [.ref q1])) a = some o := fun a o n e => by
            rw [upd_ne (fun z => n (.inr z)), upd_ne (ne_of_none e hq1)]
            exact e
          have stb : ∀ a o, ¬ M0 a → Hb a = some o → upd (upd H q1 (.tup vs)) fa (.lst (xs ++ [.ref q1])) a = some o := fun a o n e => by
            rw [upd_ne (ne_of_none e K.nb), upd_ne (ne_of_none e hb1)]
            exact K.gr a o e
          refine (RDs.stay st (fun _ n _ => n) _ _ k2).append (RDs.one ?_)
          simp only [RD]
          exact ⟨q1, vs, rfl, fun z => z.elim (fun z => hE.dom _ z hb1) nfa, by rw [upd_ne nfa, upd_same], RDs.stay stb (fun a n e z => z.elim n fun w => e (by rw [w]; exact K.nb)) _ _ rvs⟩
      · cases hr
    · refine ⟨_, ps_if (is_test G T hm hE.at_ hc hcg) (pss_one (ps_expr (pe_bm F.plainAttrs_list F.slot_list_append F.type_list_append mt_append G.f (pa_cons (pe_tup a1) pa_nil (star_cons rfl)) rfl (few1 rfl) h5 (star_cons rfl) (star_any (es := []) rfl)) rfl)) pss_nil, fun σ H fa ds rs D he hf K hz hr q => ?_⟩
      refine ⟨he, (hE.grow K.gr).dict, ?_⟩
      rw [decide_eq_false ec]
      simp only [kRun, if_neg ec] at hr
      cases hr
      rw [List.append_nil] at q
      exact q H K
  · cases h
theorem kRun_cons {x : Ex} {c : Str} {l : List Ke} {r : List (Str × List Ke)} {rs : List D} (h : kRun x ((c, l) :: r) = some rs) : ∃ a b, kRun x [(c, l)] = some a ∧ kRun x r = some b ∧ rs = a ++ b := by
  simp only [kRun] at h ⊢
  by_cases e : c = x.c
  · rw [if_pos e] at h
    rw [if_pos e]
    split at h
    · rename_i ds bs h1 h2
      cases h
      exact ⟨[.tup ds], bs, by rw [h1], h2, rfl⟩
    · cases h
  · rw [if_neg e] at h
    rw [if_neg e]
    exact ⟨[], rs, rfl, h, rfl⟩
theorem ifs_ok (G : HotE X p ie ifd) (T : KtOk X.K X.mg kt) {Hb : Hp} (hE : ErrIn X.K kt pa M0 x p d Hb) : ∀ (tb : List (Str × List Ke)) (sts rest : List Stmt) (t : TS), kIfsB tb sts = some rest → (∀ q ∈ tb, q ∈ kt ∧ Gl X q.1) → PSs X rest t →
    ∃ t', PSs X sts t' ∧ ∀ σ H fa ds rs D, σ[ie]? = some (some (.ref p.1)) → σ[ifd]? = some (some (.ref fa)) → KSt X.K pa M0 Hb fa ds H → ds.length + rs.length + tb.length < 1000 → kRun x tb = some rs → (∀ H', KSt X.K pa M0 Hb fa (ds ++ rs) H' → t D σ H') → t' D σ H
  | [], sts, rest, t, h, _, ht => by
    cases h
    exact ⟨t, ht, fun σ H fa ds rs D he hf K _ hr q => by
      cases hr
      rw [List.append_nil] at q
      exact q H K⟩
  | (c, l) :: r, sts, rest, t, h, hm, ht => by
    simp only [kIfsB] at h
    split at h
    · rename_i st more
      split at h
      · rename_i hst
        obtain ⟨hk, hg⟩ := hm _ List.mem_cons_self
        obtain ⟨t1, a1, a2⟩ := if_ok G T hst (List.mem_map.mpr ⟨_, hk, rfl⟩) hg hk hE
        obtain ⟨t2, b1, b2⟩ := ifs_ok G T hE r more rest t h (fun q hq => hm q (List.mem_cons_of_mem _ hq)) ht
        refine ⟨_, pss_cons a1 b1, fun σ H fa ds rs D he hf K hz hr q => ?_⟩
        obtain ⟨x1, x2, e1, e2, rfl⟩ := kRun_cons hr
        rw [List.length_append, List.length_cons] at hz
        refine a2 σ H fa ds x1 _ he hf K (by rw [sizeLine_eq]; omega) e1 fun H1 K1 => ?_
        refine b2 σ H1 fa (ds ++ x1) x2 D he hf K1 (by rw [List.length_append]; omega) e2 fun H2 K2 => ?_
        exact q H2 (by rw [← List.append_assoc]; exact K2)
      · cases h
    · cases h
end
/-! ### the two defs -/
/-- what is told by a def of the error's kinds -/
def spKn (K : PySem.W.Frag) (kt tb : List (Str × List Ke)) : Addr × Obj → List V → Hp → VK → Prop := fun p vs H Q => ∃ pa M0 x d ds, vs = [.ref p.1] ∧ ErrIn K kt pa M0 x p d H ∧ kRun x tb = some ds ∧ ds.length ≤ 100 ∧
  ∀ fa ys H', (∀ a o, H a = some o → H' a = some o) → H fa = none → H' fa = some (.lst ys) → RDs K pa (fun a => M0 a ∨ a = fa) H' ds ys → Q (.ref fa) H'
def kN : List Str := ["e", "found"]
def moreB (tb : List (Str × List Ke)) : List Stmt → Bool
  | .Assign [f] (.List [] _) _ :: sts => isN "found" f && (match kIfsB tb sts with
    | some [.Return (some g) _] => isN "found" g
    | _ => false)
  | _ => false
section
variable {P : Program} {w : World} {K : PySem.W.Frag} {mg : Str → Option Value} {base : Heap} {kt : List (Str × List Ke)}
theorem hotE_of {N : List Str} {qual : Str} {scope : Scope} {f : Addr} {cdv : Value} {A : Around} {outer : List Env} {s : Shared} {H : Hp} {p : Addr × Obj} (hN : N = kN) (hnd : N.Nodup) (hl : kN.all (fun x => decide (scope.names.lookup x = some .local)) = true) (hgd : A.guards = some []) (hsm : ∃ o, base.get? sysModules = some o) {k : Nat} (hr : L2H.RoomH k (A.deeper (envOfC qual scope s.heap.objs.size f cdv)))
    (hi : scope.names.lookup ("isinstance" : Str) = some .globalImplicit) (hrp : scope.names.lookup ("repr" : Str) = some .globalImplicit) (mi : mg "isinstance" = none) (mr : mg "repr" = none) : HotE (cxC P w K mg base N qual scope f cdv A outer s H p) p 0 1 where
  hp := List.mem_singleton.mpr rfl
  nd := hnd
  ne := by subst hN; rfl
  nf := by subst hN; rfl
  v := fun x hx => by
    subst hN
    have := List.all_eq_true.mp hl x hx
    have this : scope.names.lookup x = some .local := by simpa using this
    exact .inl this
  gd := hgd
  un := by have := hr.un; show (A.deeper _).units + 65 < _; omega
  sm := hsm
  gi := ⟨hi, mi⟩
  gr := ⟨hrp, mr⟩
theorem more_ok {qual nm : Str} {params : Arguments} {body : List Stmt} {scope : Scope} {fd : FuncData} {a : Addr} {tb : List (Str × List Ke)} (FD : FunD K nm qual params body scope [] [] a fd) (S : FnScope kN [("e" : Str)] scope) (hb : moreB tb body = true)
    (hl : kN.all (fun x => decide (scope.names.lookup x = some .local)) = true) (hi : scope.names.lookup ("isinstance" : Str) = some .globalImplicit) (hrp : scope.names.lookup ("repr" : Str) = some .globalImplicit) (mi : mg "isinstance" = none) (mr : mg "repr" = none)
    (hsm : ∃ o, base.get? sysModules = some o) (T : KtOk K mg kt) (htb : ∀ q ∈ tb, q ∈ kt ∧ scope.names.lookup q.1 = some .globalImplicit) (hsz : tb.length ≤ 100) : FnC P w K mg base 1 a fd [("e" : Str)] (spKn K kt tb) := by
  refine fnC_of FD S (fun p vs H Q h => by obtain ⟨_, _, _, _, _, rfl, _⟩ := h; rfl) fun cdv A outer s H vs Q p hr hgd h => ?_
  obtain ⟨pa, M0, x, d, ds, rfl, hE, hk, hlen, q⟩ := h
  have G := hotE_of (P := P) (w := w) (K := K) (mg := mg) (base := base) (outer := outer) (H := H) (p := p) rfl S.nd hl hgd hsm hr hi hrp mi mr
  have hloc : Loc scope "found" := .inl (by simpa using List.all_eq_true.mp hl "found" (by decide))
  unfold moreB at hb
  split at hb
  · rw [Bool.and_eq_true] at hb
    obtain ⟨h1, h2⟩ := hb
    obtain ⟨_, rfl⟩ := isN_eq h1
    split at h2
    · rename_i sts _ g pg hif
      obtain ⟨_, rfl⟩ := isN_eq h2
      obtain ⟨t', a1, a2⟩ := ifs_ok (pa := pa) (M0 := M0) (d := d) (x := x) G T hE tb _ _ _ hif htb (pss_one (ps_ret G.f))
      refine ⟨_, pss_cons (ps_asg (pe_lst pa_nil) (pg_name S.nd G.nf hloc (.inl rfl)) (sw_no1 rfl) ss_nm (ae1 rfl)) a1, ?_⟩
      refine ⟨by show 0 ≤ _; omega, fun fa hfa => ?_⟩
      refine a2 _ _ fa [] ds _ rfl rfl ⟨fun b o e => by rw [upd_ne (ne_of_none e hfa)]; exact e, hfa, [], upd_same, RDs.nil⟩ (by simp only [List.length_nil]; omega) hk fun H' K' => ?_
      obtain ⟨ys, k1, k2⟩ := K'.ex
      exact ⟨.ref fa, rfl, q fa ys H' K'.gr hfa k1 k2⟩
    · cases h2
  · cases hb
end
end Mc

/-! Mc27: _law_kinds, _law_fault. -/
namespace Mc
open PySem PySem.Spec PyProof.Rows L2
theorem kRun_append {x : Ex} : ∀ {a b : List (Str × List Ke)} {rs : List D}, kRun x (a ++ b) = some rs → ∃ u v, kRun x a = some u ∧ kRun x b = some v ∧ rs = u ++ v
  | [], b, rs, h => ⟨[], rs, rfl, h, rfl⟩
  | (c, l) :: a, b, rs, h => by
    obtain ⟨u, v, e1, e2, rfl⟩ := kRun_cons (show kRun x ((c, l) :: (a ++ b)) = some rs from h)
    obtain ⟨u2, v2, e3, e4, rfl⟩ := kRun_append e2
    refine ⟨u ++ u2, v2, ?_, e4, by rw [List.append_assoc]⟩
    simp only [kRun] at e1 ⊢
    by_cases e : c = x.c
    · rw [if_pos e] at e1 ⊢
      split at e1
      · rename_i h1 h2
        cases h2
        cases e1
        rw [h1, e3]; rfl
      · cases e1
    · rw [if_neg e] at e1 ⊢
      cases e1
      exact e3
def kindsB (tb : List (Str × List Ke)) : List Stmt → Bool
  | .Assign [f] (.List [] _) _ :: sts => isN "found" f && (match kIfsB tb sts with
    | some [.Return (some (.BinOp g .Add (.Call m [e] [] _) _)) _] => isN "found" g && (isN "_law_more_kinds" m && isN "e" e)
    | _ => false)
  | _ => false
section
variable {P : Program} {w : World} {K : PySem.W.Frag} {mg : Str → Option Value} {base : Heap} {kt : List (Str × List Ke)}
theorem kinds_ok {qual nm : Str} {params : Arguments} {body : List Stmt} {scope : Scope} {fd fd2 : FuncData} {a : Addr} {tb tb2 : List (Str × List Ke)} (FD : FunD K nm qual params body scope [] [] a fd) (S : FnScope kN [("e" : Str)] scope) (hb : kindsB tb body = true)
    (hl : kN.all (fun x => decide (scope.names.lookup x = some .local)) = true) (hi : scope.names.lookup ("isinstance" : Str) = some .globalImplicit) (hrp : scope.names.lookup ("repr" : Str) = some .globalImplicit) (hgm : scope.names.lookup ("_law_more_kinds" : Str) = some .globalImplicit) (mi : mg "isinstance" = none) (mr : mg "repr" = none)
    (hsm : ∃ o, base.get? sysModules = some o) (T : KtOk K mg kt) (htb : ∀ q ∈ tb, q ∈ kt ∧ scope.names.lookup q.1 = some .globalImplicit) (hsz : tb.length ≤ 100)
    (F2 : FnC P w K mg base 1 (He.ga K "_law_more_kinds") fd2 [("e" : Str)] (spKn K kt tb2)) (hm2 : mg "_law_more_kinds" = some (.ref (He.ga K "_law_more_kinds"))) (hk2 : PySem.W.keepIn K (.ref (He.ga K "_law_more_kinds")) = true) (hb2 : Binds K fd2 [("e" : Str)] []) : FnC P w K mg base 2 a fd [("e" : Str)] (spKn K kt (tb ++ tb2)) := by
  refine fnC_of (k := 1) FD S (fun p vs H Q h => by obtain ⟨_, _, _, _, _, rfl, _⟩ := h; rfl) fun cdv A outer s H vs Q p hr hgd h => ?_
  obtain ⟨pa, M0, x, d, ds, rfl, hE, hk, hlen, q⟩ := h
  have G := hotE_of (P := P) (w := w) (K := K) (mg := mg) (base := base) (outer := outer) (H := H) (p := p) rfl S.nd hl hgd hsm hr hi hrp mi mr
  have hloc : Loc scope "found" := .inl (by simpa using List.all_eq_true.mp hl "found" (by decide))
  obtain ⟨d1, d2, k1, k2, rfl⟩ := kRun_append hk
  unfold kindsB at hb
  split at hb
  · rw [Bool.and_eq_true] at hb
    obtain ⟨h1, h2⟩ := hb
    obtain ⟨_, rfl⟩ := isN_eq h1
    split at h2
    · rename_i hif
      simp only [Bool.and_eq_true] at h2
      obtain ⟨g1, g2, g3⟩ := h2
      obtain ⟨_, rfl⟩ := isN_eq g1
      obtain ⟨_, rfl⟩ := isN_eq g2
      obtain ⟨_, rfl⟩ := isN_eq g3
      rw [List.length_append] at hlen
      obtain ⟨t', a1, a2⟩ := ifs_ok (pa := pa) (M0 := M0) (d := d) (x := x) G T hE tb _ _ _ hif htb (pss_one (ps_ret (pe_op op_cat G.f (pe_callC (p := p) G.hp F2 hr hgd hgm hm2 hk2 hb2 (pa_cons G.e pa_nil (star_cons rfl)) rfl rfl (by decide)))))
      refine ⟨_, pss_cons (ps_asg (pe_lst pa_nil) (pg_name S.nd G.nf hloc (.inl rfl)) (sw_no1 rfl) ss_nm (ae1 rfl)) a1, ?_⟩
      refine ⟨by show 0 ≤ _; omega, fun fa hfa => ?_⟩
      refine a2 _ _ fa [] d1 _ rfl rfl ⟨fun b o e => by rw [upd_ne (ne_of_none e hfa)]; exact e, hfa, [], upd_same, RDs.nil⟩ (by simp only [List.length_nil]; omega) k1 fun H1 K1 => ?_
      obtain ⟨ys, y1, y2⟩ := K1.ex
      refine ⟨.ref fa, rfl, _, rfl, pa, M0, x, d, d2, rfl, hE.grow K1.gr, k2, by omega, fun fb zs H2 gr nfb hfb rz => ?_⟩
      refine ⟨fa, fb, ys, zs, rfl, rfl, gr _ _ y1, hfb, by rw [← y2.length, ← rz.length, sizeLine_eq]; simp only [List.nil_append]; omega, fun c hc => ?_⟩
      have nHc : H c = none := by
        cases z : H c with
        | none => rfl
        | some o => rw [gr _ _ (K1.gr _ _ z)] at hc; cases hc
      have st2 : ∀ a o, H2 a = some o → upd H2 c (.lst (ys ++ zs)) a = some o := fun a o e => by rw [upd_ne (ne_of_none e hc)]; exact e
      refine q c (ys ++ zs) _ (fun b o e => st2 _ _ (gr _ _ (K1.gr _ _ e))) nHc upd_same ?_
      refine RDs.append (RDs.stay (fun b o _ e => st2 _ _ (gr _ _ e)) (fun b n e z => z.elim (fun z => n (.inl z)) fun w => e ?_) _ _ y2) (RDs.stay (fun b o _ e => st2 _ _ e) (fun b n e z => z.elim (fun z => n (.inl z)) fun w => e (by rw [w]; exact hc)) _ _ rz)
      rw [w]
      cases z : H1 c with
      | none => rfl
      | some o => rw [gr _ _ z] at hc; cases hc
    · cases h2
  · cases hb
def isNo : Expr → Bool
  | .Constant .none _ _ => true
  | _ => false
def isS (x : Str) : Expr → Bool
  | .Constant (.str y) _ _ => decide (y = x)
  | _ => false
theorem isS_eq {x : Str} {e : Expr} (h : isS x e = true) : ∃ k p, e = .Constant (.str x) k p := by
  unfold isS at h
  split at h
  · simp only [decide_eq_true_eq] at h
    subst h
    exact ⟨_, _, rfl⟩
  · cases h
theorem isNo_eq {e : Expr} (h : isNo e = true) : ∃ k p, e = .Constant .none k p := by
  unfold isNo at h
  split at h
  · exact ⟨_, _, rfl⟩
  · cases h
def fltB : List Stmt → Bool
  | [.Assign [f0] e0 _, .Try [.Expr (.Call c0 [] [] _) _] [.ExceptHandler (some r0) (some en) [.Assign [f1] (.Call k0 [e1] [] _) _, .Assign [f2] (.IfExp (.BoolOp .And [.Compare (.Call l0 [f3] [] _) [.Eq] [c1] _, .Call i0 [e2, v0] [] _] _) (.Subscript f4 c2 _) (.Tuple [s0, .Call l1 [f5] [] _] _ _) _) _] _] [] [] _, .Return (some f6) _] =>
    isN "found" f0 && (isNo e0 && (isN "call" c0 && (isN "RoomsError" r0 && (decide (en = "e") && (isN "found" f1 && (isN "_law_kinds" k0 && (isN "e" e1 && (isN "found" f2 && (isN "len" l0 && (isN "found" f3 && (isC 1 c1 && (isN "isinstance" i0 && (isN "e" e2 && (isN "ValueError" v0 &&
      (isN "found" f4 && (isC 0 c2 && (isS "several" s0 && (isN "len" l1 && (isN "found" f5 && isN "found" f6)))))))))))))))))))
  | _ => false
def fN : List Str := ["call", "found", "e"]
theorem suite_ok {X : Cx} {Z : Cx} {fdk : FuncData} {a : Addr} {oe : Obj} {cls : Value} {d : Option Addr} {pn : List (Addr × Obj)} {p1 p2 p3 p4 p5 p6 p7 p8 p9 p10 p11 p12 p13 p14 p15 p16 p17 p18 p19 p20 p21 p22 p23 p25 p26 p27 : Pos} {k1 k2 k3 : Nat} {tk : Nat} (hN : Z.N = fN) (hnd : Z.N.Nodup) (hloc : ∀ x ∈ fN, Z.env.scope.names.lookup x = some .local)
    (hgl : ∀ x ∈ (["isinstance", "len", "RoomsError", "ValueError", "_law_kinds"] : List Str), Z.env.scope.names.lookup x = some .globalImplicit) (mb : ∀ x ∈ (["isinstance", "len", "ValueError"] : List Str), Z.mg x = none) (T : KtOk Z.K Z.mg kt) (hgd : Z.A.guards = some []) (room : L2H.RoomH 2 Z.A)
    (F : FnC Z.prog Z.w Z.K Z.mg Z.base 2 (He.ga Z.K "_law_kinds") fdk [("e" : Str)] (spKn Z.K kt kt)) (hmk : Z.mg "_law_kinds" = some (.ref (He.ga Z.K "_law_kinds"))) (hkk : PySem.W.keepIn Z.K (.ref (He.ga Z.K "_law_kinds")) = true) (hbk : Binds Z.K fdk [("e" : Str)] [])
    (hz : Zc cls d oe) (hf : ∃ vs, oe.data = .fields vs) :
    PSs (Z.suite a ((a, oe) :: pn)) [.Assign [.Name "found" p1] (.Call (.Name "_law_kinds" p2) [.Name "e" p3] [] p4) p5, .Assign [.Name "found" p6] (.IfExp (.BoolOp .And [.Compare (.Call (.Name "len" p7) [.Name "found" p8] [] p9) [.Eq] [.Constant (.int 1) k1 p10] p11, .Call (.Name "isinstance" p12) [.Name "e" p13, .Name "ValueError" p14] [] p15] p16)
      (.Subscript (.Name "found" p17) (.Constant (.int 0) k2 p18) p19) (.Tuple [.Constant (.str "several") k3 p20, .Call (.Name "len" p21) [.Name "found" p22] [] p23] tk p25) p26) p27]
      (fun D σ H1 => ∃ x pa M0 dd, cls = .ref (He.ga Z.K x.c) ∧ x.c ∈ kt.map (·.1) ∧ ExR Z.K pa M0 x cls d H1 ∧ (∀ a, M0 a → H1 a ≠ none) ∧ faultD kt x = some dd ∧
        (∃ σ' : L2.St, σ = σ'.set 2 (some (.ref a))) ∧ ∀ v H2, 1 < σ.length → (∀ a o, H1 a = some o → H2 a = some o) → RD Z.K pa M0 H2 dd v → D.nx (σ.set 1 (some v)) H2) := by
  refine ⟨fun pins s1 σ H1 D I h1 => ?_⟩
  obtain ⟨x, pa, M0, dd, rfl, hmem, hex, hdom, hfd, ⟨σ', hs2⟩, hq⟩ := h1
  have hln : σ.length = 3 := by
    have := I.len
    rw [show (Z.suite a ((a, oe) :: pn)).N = fN from hN] at this
    exact this
  have hlen : 1 < σ.length := by omega
  have hs2 : σ[2]? = some (some (.ref a)) := by
    rw [hs2] at hln ⊢
    rw [List.length_set] at hln
    exact List.getElem?_set_self (by omega)
  obtain ⟨c1, c2, c3, c4, c5, c6⟩ := T.cl _ hmem
  have xat : ExAt (a, oe) (He.ga Z.K x.c) d := ⟨hz, hf⟩
  have hE : ErrIn Z.K kt pa M0 x (a, oe) d H1 := ⟨hmem, xat, hex, hdom⟩
  have hp : (a, oe) ∈ (Z.suite a ((a, oe) :: pn)).pn := List.mem_cons_self
  have i1 : (Z.suite a ((a, oe) :: pn)).N[1]? = some ("found" : Str) := by show Z.N[1]? = _; rw [hN]; rfl
  have i2 : (Z.suite a ((a, oe) :: pn)).N[2]? = some ("e" : Str) := by show Z.N[2]? = _; rw [hN]; rfl
  have l1 := hloc ("found" : Str) (by decide)
  have l2 := hloc ("e" : Str) (by decide)
  have pe_f : ∀ p, PE (Z.suite a ((a, oe) :: pn)) (.Name "found" p) (tVar 1) := fun p => pe_var i1 (.inl l1) (by decide) (by decide)
  have pe_e : ∀ p, PE (Z.suite a ((a, oe) :: pn)) (.Name "e" p) (tVar 2) := fun p => pe_var i2 (.inl l2) (by decide) (by decide)
  have hroom : L2H.RoomH 2 (Z.suite a ((a, oe) :: pn)).A := ⟨room.dp, room.un⟩
  have pe_len := fun q1 q2 q3 => pe_callB (X := Z.suite a ((a, oe) :: pn)) (x := "len") (p := q1) (pos := q3) call_len (hgl _ (by decide)) (mb _ (by decide)) (by decide +kernel) (pa_cons (pe_f q2) pa_nil (star_cons rfl)) (by decide) (by decide) (star_cons rfl) (star_any (es := []) rfl)
  refine (pss_cons (ps_asg (pe_callC hp F hroom hgd (hgl _ (by decide)) hmk hkk hbk (pa_cons (pe_e _) pa_nil (star_cons rfl)) rfl rfl (by decide)) (pg_name hnd i1 (.inl l1) (.inr l1)) (sw_no1 rfl) ss_nm (ae1 rfl))
    (pss_one (ps_asg (pe_ifExp (pw_and (pt_cmpR op_eq (pe_len p7 p8 p9) pe_int rfl) (pw_and1 (pt_truth (pe_callB (x := "isinstance") (call_isC hp c1 xat) (hgl _ (by decide)) (mb _ (by decide)) (by decide +kernel) (pa_cons (pe_e _) (pa_cons (pe_bltn (x := "ValueError") (v := .ty "ValueError") (hgl _ (by decide)) (mb _ (by decide)) (by decide +kernel) rfl (by decide) (by decide)) pa_nil (star_cons rfl)) (star_cons rfl)) (by decide) (by decide) (star_cons rfl) (star_any (es := [.Name "ValueError" _]) rfl)) (fun _ => rfl)))).pt
      (pe_ix ix_list (pe_f _) pe_int (plainIx_ok rfl)) (pe_tup (pa_cons pe_str (pa_cons (pe_len p21 p22 p23) pa_nil (star_cons rfl)) (star_cons rfl)))) (pg_name hnd i1 (.inl l1) (.inr l1)) (sw_no1 rfl) ss_nm (ae1 rfl)))).run pins s1 σ H1 D I ?_
  unfold faultD at hfd
  split at hfd
  · rename_i l hl
    split at hfd
    · rename_i ds hds
      split at hfd
      · cases hfd
        refine ⟨.ref a, hs2, pa, M0, x, d, [.tup ds], rfl, hE, kRun_one T.nd hl hds, by simp, fun fa ys H2 gr nfa hfa rds => ?_⟩
        simp only [RDs] at rds
        obtain ⟨v, _, rfl, rv, rfl⟩ := rds
        have hset : (σ.set 1 (some (V.ref fa)))[1]? = some (some (.ref fa)) := List.getElem?_set_self hlen
        have hset2 : (σ.set 1 (some (V.ref fa)))[2]? = some (some (.ref a)) := by rw [List.getElem?_set_ne (by decide)]; exact hs2
        refine ⟨.ref fa, hset, .ref fa, 1, rfl, .inl ⟨[v], .of hfa, rfl⟩, rfl, true, ?_, ?_⟩
        · show V.bl (decide (V.int ((1 : Nat) : Int) = V.int 1)) = V.bl true
          exact congrArg V.bl (decide_eq_true (show V.int ((1 : Nat) : Int) = V.int 1 from rfl))
        · dsimp only
          rw [if_pos rfl]
          refine ⟨.ref a, hset2, .ty "ValueError", .type "ValueError", true, rfl, fun u hu => hu, c6, (hE.grow gr).dict, true, rfl, ?_⟩
          rw [if_pos rfl]
          refine ⟨.ref fa, hset, fa, [v], 0, v, rfl, rfl, .of hfa, rfl, ?_⟩
          have := hq v H2 hlen gr (RD.stay (fun _ _ _ e => e) (fun b n _ z => n (.inl z)) _ _ rv)
          rw [← List.set_set (a := some (V.ref fa)) (i := 1)] at this
          exact this
      · cases hfd
    · cases hfd
  · cases hfd
theorem knd_ok {fdk : FuncData} (T : KtOk K mg kt) (F : FnC P w K mg base 2 (He.ga K "_law_kinds") fdk [("e" : Str)] (spKn K kt kt)) (hmk : mg "_law_kinds" = some (.ref (He.ga K "_law_kinds"))) (hkk : PySem.W.keepIn K (.ref (He.ga K "_law_kinds")) = true) (hbk : Binds K fdk [("e" : Str)] [])
    (mb : ∀ x ∈ (["isinstance", "ValueError"] : List Str), mg x = none) (mR : mg "RoomsError" = some (.ref (He.ga K "RoomsError"))) : KndOk P w K mg base kt := by
  refine ⟨mR, fun c hc => (T.cl c hc).2.2.2.2.1, ?_⟩
  rintro Z rfl rfl rfl rfl rfl hnd hgd hroom ie jf hij n1 n2 l1 l2 hgl a oe cls d pn p1 p2 p3 p4 p5 p6 p7 p8 p9 p10 hz hf
  refine ⟨fun pins s1 σ H1 D I h1 => ?_⟩
  obtain ⟨x, pa, M0, l, ds, rfl, hl, hds, hex, hdom, ⟨σ', hs2⟩, hq⟩ := h1
  have hmem : x.c ∈ kt.map (·.1) := List.mem_map.mpr ⟨(x.c, l), PySem.mem_of_lookup hl, rfl⟩
  have hln : σ.length = Z.N.length := I.len
  have hie : ie < Z.N.length := (List.getElem?_eq_some_iff.mp n1).1
  have hs2 : σ[ie]? = some (some (.ref a)) := by
    rw [hs2] at hln ⊢
    rw [List.length_set] at hln
    exact List.getElem?_set_self (by omega)
  obtain ⟨c1, c2, c3, c4, c5, c6⟩ := T.cl _ hmem
  have xat : ExAt (a, oe) (He.ga Z.K x.c) d := ⟨hz, hf⟩
  have hE : ErrIn Z.K kt pa M0 x (a, oe) d H1 := ⟨hmem, xat, hex, hdom⟩
  have hp : (a, oe) ∈ (Z.suite a ((a, oe) :: pn)).pn := List.mem_cons_self
  have hroom2 : L2H.RoomH 2 (Z.suite a ((a, oe) :: pn)).A := ⟨hroom.dp, hroom.un⟩
  have pe_e : ∀ p, PE (Z.suite a ((a, oe) :: pn)) (.Name "e" p) (tVar ie) := fun p => pe_var n1 (.inl l1) (by decide) (by decide)
  refine (pss_one (ps_if (pt_truth (pe_callB (X := Z.suite a ((a, oe) :: pn)) (x := "isinstance") (p := p1) (pos := p4) (call_isC hp c1 xat) (hgl _ (by decide)) (mb _ (by decide)) (by decide +kernel) (pa_cons (pe_e p2) (pa_cons (pe_bltn (x := "ValueError") (v := .ty "ValueError") (pos := p3) (hgl _ (by decide)) (mb _ (by decide)) (by decide +kernel) rfl (by decide) (by decide)) pa_nil (star_cons rfl)) (star_cons rfl)) (by decide) (by decide) (star_cons rfl) (star_any (es := [.Name "ValueError" _]) rfl)) (fun _ => rfl))
    (pss_one (ps_asg (pe_callC (p := (a, oe)) (X := Z.suite a ((a, oe) :: pn)) hp F hroom2 hgd (hgl _ (by decide)) hmk hkk hbk (pa_cons (pe_e p7) pa_nil (star_cons rfl)) rfl rfl (by decide)) (pg_name hnd n2 (.inl l2) (.inr l2)) (sw_no1 rfl) ss_nm (ae1 rfl))) pss_nil)).run pins s1 σ H1 D I ?_
  refine ⟨.ref a, hs2, .ty "ValueError", .type "ValueError", true, rfl, fun u hu => hu, c6, hE.dict, true, rfl, ?_⟩
  dsimp only
  rw [if_pos rfl]
  refine ⟨.ref a, hs2, pa, M0, x, d, [.tup ds], rfl, hE, kRun_one T.nd hl hds, by simp, fun fa ys H2 gr nfa hfa rds => ?_⟩
  refine hq (.ref fa) H2 gr ?_
  simp only [RD]
  exact ⟨fa, ys, rfl, fun z => hdom _ z nfa, hfa, RDs.stay (fun _ _ _ e => e) (fun b n _ z => n (.inl z)) _ _ rds⟩
theorem fault_ok {pg : Arguments} {bg : List Stmt} {sg : Scope} {g : Addr} {fd fdk : FuncData} (FD : FunD K "_law_fault" "_law_fault" pg bg sg [] [] g fd) (S : FnScope fN [("call" : Str)] sg) (hb : fltB bg = true) (hm : mg "_law_fault" = some (.ref g)) (hbd : Binds K fd [("call" : Str)] [])
    (hl : fN.all (fun x => decide (sg.names.lookup x = some .local)) = true) (hgs : (["isinstance", "len", "RoomsError", "ValueError", "_law_kinds"] : List Str).all (fun x => decide (sg.names.lookup x = some .globalImplicit)) = true) (mb : ∀ x ∈ (["isinstance", "len", "ValueError"] : List Str), mg x = none)
    (mR : mg "RoomsError" = some (.ref (He.ga K "RoomsError"))) (T : KtOk K mg kt) (hsz : kt.length ≤ 100)
    (F : FnC P w K mg base 2 (He.ga K "_law_kinds") fdk [("e" : Str)] (spKn K kt kt)) (hmk : mg "_law_kinds" = some (.ref (He.ga K "_law_kinds"))) (hkk : PySem.W.keepIn K (.ref (He.ga K "_law_kinds")) = true) (hbk : Binds K fdk [("e" : Str)] []) : FltOk P w K mg base kt := by
  obtain ⟨oc, od, dV, kV, doc, pm, an, cdv, ct, osl, rfl, lk, hcd, _, _⟩ := FD.ex
  have hloc : ∀ x ∈ fN, sg.names.lookup x = some .local := fun x hx => by simpa using List.all_eq_true.mp hl x hx
  have hgl : ∀ x ∈ (["isinstance", "len", "RoomsError", "ValueError", "_law_kinds"] : List Str), sg.names.lookup x = some .globalImplicit := fun x hx => by simpa using List.all_eq_true.mp hgs x hx
  refine ⟨g, "call", pg, bg, sg, dV, kV, doc, pm, cdv, ct, oc, an, od, osl, fN, hm, FD.kp, lk, hcd, hbd, S, rfl, .inl (hloc _ (by decide)), by decide, by decide, ?_⟩
  rintro X rfl rfl rfl rfl rfl hgd hroom q f c' s H Q tl act hc h
  unfold fltB at hb
  split at hb
  · simp only [Bool.and_eq_true, decide_eq_true_eq] at hb
    obtain ⟨b1, b2, b3, b4, rfl, b6, b7, b8, b9, b10, b11, b12, b13, b14, b15, b16, b17, b18, b19, b20, b21⟩ := hb
    obtain ⟨_, rfl⟩ := isN_eq b1
    obtain ⟨_, _, rfl⟩ := isNo_eq b2
    obtain ⟨_, rfl⟩ := isN_eq b3
    obtain ⟨_, rfl⟩ := isN_eq b4
    obtain ⟨_, rfl⟩ := isN_eq b6
    obtain ⟨_, rfl⟩ := isN_eq b7
    obtain ⟨_, rfl⟩ := isN_eq b8
    obtain ⟨_, rfl⟩ := isN_eq b9
    obtain ⟨_, rfl⟩ := isN_eq b10
    obtain ⟨_, rfl⟩ := isN_eq b11
    obtain ⟨_, _, rfl⟩ := isC_eq b12
    obtain ⟨_, rfl⟩ := isN_eq b13
    obtain ⟨_, rfl⟩ := isN_eq b14
    obtain ⟨_, rfl⟩ := isN_eq b15
    obtain ⟨_, rfl⟩ := isN_eq b16
    obtain ⟨_, _, rfl⟩ := isC_eq b17
    obtain ⟨_, _, rfl⟩ := isS_eq b18
    obtain ⟨_, rfl⟩ := isN_eq b19
    obtain ⟨_, rfl⟩ := isN_eq b20
    obtain ⟨_, rfl⟩ := isN_eq b21
    let Z : Cx := (cxOf C8.CX0 X.prog X.w X.K X.mg X.base fN "_law_fault" sg g cdv X.A X.stack s H C8.E0).nox
    have act2 := fun (W : WX) (pn : List (Addr × Obj)) (xe : Value → Shared → Prop) (tk : Takes (Z.tr pn xe) W) (E : XK) (hW : ∀ cls d σ' H', E cls d H' → W cls d σ' H') p1 p2 => act W pn xe E p1 p2 tk hW
    have hl1 : sg.names.lookup ("e" : Str) = some .local := hloc _ (by decide)
    have lf := hloc ("found" : Str) (by decide)
    have room : L2H.RoomH 2 Z.A := by
      have r := (hroom.mono (by omega : 3 ≤ 4)).deeper (envOfC "_law_fault" sg s.heap.objs.size g cdv)
      exact ⟨r.dp, r.un⟩
    refine ⟨_, pss_cons (ps_asg (X := Z) pe_non (pg_name S.nd (i := 1) rfl (.inl lf) (.inr lf)) (sw_no1 rfl) ss_nm (ae1 rfl)) (pss_cons (ps_try_as (X := Z) (i := 2) (n := "e") (c := .ref (He.ga X.K "RoomsError")) (Wout := fun _ _ _ _ => False)
      (tb := fun W D σ H => ∃ Ech : XK, (∀ cls d σ' H', Ech cls d H' → W cls d σ' H') ∧ σ[0]? = some (some (.ref f)) ∧ H c' = some (LamX.CodeO c' q) ∧ tl Ech H fun _ H1 => D.nx σ H1)
      rfl rfl S.nd rfl hl1 ⟨hgl _ (by decide), by decide, .inl mR⟩ LamX.takes0 (fun W pn xe tk _ => ?_)
      (fun a oe cls d pn hz hf => suite_ok (X := X) (Z := Z) rfl S.nd hloc hgl mb T hgd room F hmk hkk hbk hz hf)) (pss_one (ps_ret (pe_var (i := 1) rfl (.inl lf) (by decide) (by decide))))), ?_⟩
    · refine ⟨fun pins s' σ H' D I h' => ?_⟩
      obtain ⟨Ech, hW, h1, h2, h3⟩ := h'
      exact (pss_one (ps_expr (act2 W pn xe tk Ech hW _ _) rfl)).run pins s' σ H' D I ⟨h1, h2, h3⟩
    · have eq : (fun (_ : V) (H1 : Hp) => ∃ v, ((L2.start fN [V.ref f]).set 1 (some V.non))[1]? = some (some v) ∧ Q v H1) = fun _ H1 => Q .non H1 := by
        funext _ H1
        refine propext ⟨fun ⟨v, e, q⟩ => ?_, fun q => ⟨.non, rfl, q⟩⟩
        cases e
        exact q
      have h : tl (fun cls dd H1 => ∃ pa M0 x d, ExR X.K pa M0 x cls dd H1 ∧ (∀ a, M0 a → H1 a ≠ none) ∧ faultD kt x = some d ∧ ∀ v H2, (∀ a o, H1 a = some o → H2 a = some o) → RD X.K pa M0 H2 d v → Q v H2) H fun _ H1 => Q .non H1 := h
      rw [← eq] at h
      refine ⟨fun cls d H1 => ∃ pa M0 x dd, ExR X.K pa M0 x cls d H1 ∧ (∀ a, M0 a → H1 a ≠ none) ∧ faultD kt x = some dd ∧ ∀ v H2, (∀ a o, H1 a = some o → H2 a = some o) → RD X.K pa M0 H2 dd v → Q v H2, fun cls d σ' H1 ⟨pa, M0, x, dd, e1, e2, e3, e4⟩ => ?_, rfl, hc, h⟩
      have hmem : x.c ∈ kt.map (·.1) := by
        unfold faultD at e3
        split at e3
        · rename_i l hl
          exact List.mem_map.mpr ⟨(x.c, l), PySem.mem_of_lookup hl, rfl⟩
        · cases e3
      obtain ⟨_, _, _, _, c5, _⟩ := T.cl _ hmem
      have hcls := e1.1
      subst hcls
      refine ⟨true, c5, fun _ a na => ⟨x, pa, M0, dd, rfl, hmem, e1, e2, e3, ⟨σ', rfl⟩, fun v H2 hlt gr rd => ?_⟩, fun z => nomatch z⟩
      refine ⟨v, ?_, e4 v H2 gr rd⟩
      rw [List.getElem?_set_ne (by decide), List.getElem?_set_self hlt]
  · cases hb
end
end Mc

/-! Mc28: from the law's def to the row. -/
namespace Mc
open PySem PySem.Spec PyProof.Rows L2
abbrev tabO : Obj := { cls := .none, data := .fields #[] }
abbrev scrO (vs : List Value) : Obj := { cls := .type "list", data := .seq vs.toArray }
/-- what is tracked at the start: the tables; the script, unless the fragment tells it -/
def trk0 (K : PySem.W.Frag) (ts : List Addr) (a : Addr) (vs : List Value) (ns : List Int) : Hp := fun b => if b ∈ ts then some (.tbl #[]) else if b = a ∧ K.lookup a = none then some (.frz (scrO vs) (.lst (ns.map V.int))) else none
section
variable {P : Program} {w : World} {K : PySem.W.Frag} {ts : List Addr} {a : Addr} {vs : List Value} {ns : List Int} {h : Heap}
theorem trk0_tab {b : Addr} (hb : b ∈ ts) : trk0 K ts a vs ns b = some (.tbl #[]) := if_pos hb
theorem trk0_cases (b : Addr) : (b ∈ ts ∧ trk0 K ts a vs ns b = some (.tbl #[])) ∨ (b ∉ ts ∧ b = a ∧ K.lookup a = none ∧ trk0 K ts a vs ns b = some (.frz (scrO vs) (.lst (ns.map V.int)))) ∨ (b ∉ ts ∧ trk0 K ts a vs ns b = none) := by
  unfold trk0
  by_cases h1 : b ∈ ts
  · exact .inl ⟨h1, if_pos h1⟩
  · by_cases h2 : b = a ∧ K.lookup a = none
    · exact .inr (.inl ⟨h1, h2.1, h2.2, by rw [if_neg h1, if_pos h2]⟩)
    · exact .inr (.inr ⟨h1, by rw [if_neg h1, if_neg h2]⟩)
/-- what is neither a table nor a sequence is not tracked -/
theorem trk0_free {b : Addr} {o : Obj} (ht : ∀ b ∈ ts, h.get? b = some tabO) (ha : h.get? a = some (scrO vs)) (e : h.get? b = some o) (h1 : ∀ v n, o.data ≠ .seq v n) (h2 : o.data ≠ .fields #[]) : trk0 K ts a vs ns b = none := by
  rcases trk0_cases (K := K) (ts := ts) (a := a) (vs := vs) (ns := ns) b with ⟨m, _⟩ | ⟨_, rfl, _, _⟩ | ⟨_, z⟩
  · rw [ht b m] at e; cases e; exact absurd rfl h2
  · rw [ha] at e; cases e; exact absurd rfl (h1 _ _)
  · exact z
theorem trk0_ok (ht : ∀ b ∈ ts, h.get? b = some tabO) (ha : h.get? a = some (scrO vs)) (hi : IntsAre vs ns) (hl : ns.length ≤ sizeLine) : HOk P w (trk0 K ts a vs ns) h := fun b u e => by
  rcases trk0_cases (K := K) (ts := ts) (a := a) (vs := vs) (ns := ns) b with ⟨m, z⟩ | ⟨_, rfl, _, z⟩ | ⟨_, z⟩
  · rw [z] at e; cases e; exact ht b m
  · rw [z] at e; cases e
    exact ⟨ha, by rw [List.length_map]; exact hl, vs, _, vals_ints hi, ha⟩
  · rw [z] at e; cases e
theorem trk0_in {b : Addr} {o : Obj} (hn : ∀ b ∈ ts, K.lookup b = none) (e : K.lookup b = some o) : trk0 K ts a vs ns b = none := by
  rcases trk0_cases (K := K) (ts := ts) (a := a) (vs := vs) (ns := ns) b with ⟨m, _⟩ | ⟨_, rfl, k, _⟩ | ⟨_, z⟩
  · rw [hn b m] at e; cases e
  · rw [k] at e; cases e
  · exact z
theorem trk0_scr (KX : K.In h) (aN : a ∉ ts) (ha : h.get? a = some (scrO vs)) (hi : IntsAre vs ns) (hl : ns.length ≤ sizeLine) : SqL K (trk0 K ts a vs ns) a (ns.map V.int) := by
  cases k : K.lookup a with
  | none => exact .inl (.inr ⟨scrO vs, by unfold trk0; rw [if_neg aN, if_pos ⟨rfl, k⟩]⟩)
  | some o =>
    have e := KX a o k
    rw [ha] at e
    cases e
    exact .inr ⟨_, vs.toArray, _, k, rfl, rfl, rfl, by rw [List.size_toArray, hi.length]; exact hl, by simpa using vals_ints hi⟩
end
section
variable {P : Program} {w : World} {K : PySem.W.Frag} {mg mb : Str → Option Value}
/-- the call of the law's def -/
theorem law_run {k : Nat} {fa a : Addr} {cs : List (Addr × Addr)} {fd : FuncData} {x : Str} {sp : Sp} {s : Shared} {vs : List Value} {ns : List Int} {g : Bool} (KX : K.In s.heap) (hmg : s.heap.Ns mainGlobals mg) (hmb : s.heap.Ns builtinsNs mb) (hbo : ∀ x : Str, x ≠ "__name__" → mb x = bootBuiltins x) (hnl : s.heap.NoLimit) (hgen : s.gens = #[])
    (hT : ∀ p ∈ cs, s.heap.get? p.2 = some tabO) (hK : ∀ p ∈ cs, K.lookup p.2 = none) (hC : ∀ p ∈ cs, PySem.W.CodeHd s.heap p.1 p.2)
    (hbm : ∃ (bm : Addr) (ob : Obj), mg "__builtins__" = some (.ref bm) ∧ bm ≠ builtinsNs ∧ s.heap.get? bm = some ob ∧ ob.cls = .type "module" ∧ ob.dict = some builtinsNs ∧ ob.data = .plain)
    (ha : s.heap.get? a = some (scrO vs)) (hi : IntsAre vs ns) (hl : ns.length ≤ sizeLine) (hr : Room k callerA)
    (F : ∀ base : Heap, K.In base → base.Ns mainGlobals mg → (∀ p ∈ cs, LamX.TabB base mg p.1 p.2) → (∃ o, base.get? sysModules = some o) → Fg g P w K mg base k fa fd [x] sp) (hsm : ∃ o es n, s.heap.get? sysModules = some o ∧ o.data = .dict es n) (hbind : ∀ (s : Shared) (u : Value), BindsTo s fd ⟨[u], []⟩ [(x, u)])
    (hsp : ∀ H : Hp, (∀ p ∈ cs, H p.2 = some (.tbl #[])) → SqL K H a (ns.map V.int) → sp [.ref a] H (fun v _ => v = .bl true) fun _ _ _ => False) :
    codeAny (model P w) callerA (.call (.ref fa) ⟨[.ref a], []⟩) (fun r s' => r = .ok (.ret (.bool true)) ∧ OldK s.heap s'.heap ∧ s'.os = s.os ∧ AllBare s'.gens) s := by
  have ht : ∀ b ∈ cs.map (·.2), s.heap.get? b = some tabO := fun b hb => by
    obtain ⟨p, hp, rfl⟩ := List.mem_map.mp hb
    exact hT p hp
  have hkt : ∀ b ∈ cs.map (·.2), K.lookup b = none := fun b hb => by
    obtain ⟨p, hp, rfl⟩ := List.mem_map.mp hb
    exact hK p hp
  have aN : a ∉ cs.map (·.2) := fun z => by
    have q := ht a z
    rw [ha] at q
    cases congrArg Obj.data (Option.some.inj q)
  have tin : ∀ p ∈ cs, p.2 ∈ cs.map (·.2) := fun p hp => List.mem_map.mpr ⟨p, hp, rfl⟩
  generalize hH : trk0 K (cs.map (·.2)) a vs ns = H
  have hcs : ∀ b, (b ∈ cs.map (·.2) ∧ H b = some (.tbl #[])) ∨ (b ∉ cs.map (·.2) ∧ b = a ∧ K.lookup a = none ∧ H b = some (.frz (scrO vs) (.lst (ns.map V.int)))) ∨ (b ∉ cs.map (·.2) ∧ H b = none) := fun b => by rw [← hH]; exact trk0_cases b
  have hok : HOk P w H s.heap := by rw [← hH]; exact trk0_ok ht ha hi hl
  have fr : ∀ {b : Addr} {o : Obj}, s.heap.get? b = some o → (∀ v n, o.data ≠ .seq v n) → o.data ≠ .fields #[] → (hidT s.heap H).get? b = some o := fun {b o} e h1 h2 => hidT_get e (by rw [← hH]; exact trk0_free ht ha e h1 h2)
  have nss : ∀ {b : Addr} {m : Str → Option Value}, s.heap.Ns b m → (hidT s.heap H).Ns b m := fun {b m} ⟨o, es, ep, e, d, r⟩ => ⟨o, es, ep, fr e (fun v n z => by rw [d] at z; cases z) (fun z => by rw [d] at z; cases z), d, r⟩
  have inK : K.In (hidT s.heap H) := fun b o e => hidT_get (KX b o e) (by rw [← hH]; exact trk0_in hkt e)
  have md : L2.Mod K mg (hidT s.heap H) := by
    obtain ⟨mc, l1, l2⟩ := hnl
    exact ⟨inK, nss hmg, ⟨mb, nss hmb, hbo⟩, ⟨mc, nss l1, l2⟩⟩
  have tb : ∀ p ∈ cs, LamX.TabB (hidT s.heap H) mg p.1 p.2 := fun p hp => by
    have hTp := hT p hp
    refine ⟨?_, ?_, fun z => ?_⟩
    · obtain ⟨o, us, file, tf, flags, tg, inF, text, tt, e1, r1, r2, r3, rest⟩ := hC p hp
      refine ⟨o, us, file, tf, flags, tg, inF, text, tt, fr e1 (fun v n z => by rw [r2] at z; cases z) (fun z => ?_), r1, r2, r3, rest⟩
      rw [r2] at z
      cases z
      simp at r3
    · obtain ⟨bm, ob, m1, m2, m3, m4, m5, m6⟩ := hbm
      refine ⟨bm, ob, m1, m2, fun q => ?_, fun q => ?_, fr m3 (fun v n z => by rw [m6] at z; cases z) (fun z => by rw [m6] at z; cases z), m4, m5, m6⟩
      · obtain ⟨o, es, ep, e, hd, _⟩ := hmg
        rw [q, e] at m3
        cases m3
        rw [hd] at m6
        cases m6
      · rw [q, hTp] at m3
        cases m3
        cases m6
    · obtain ⟨o, es, ep, e, hd, _⟩ := hmg
      rw [z, hTp] at e
      cases e
      cases hd
  have e0 : Env0 P w K mg (hidT s.heap H) callerA [] s H := ⟨rfl, md, fun b o e => of_hidT e, Nat.le_of_eq (hidT_size _ _), trivial, fun b hb => (nomatch (show b ∈ ([] : List Addr) from hb)), hok, .of_eq hgen⟩
  have want := hsp H (fun p hp => by rw [← hH]; exact trk0_tab (tin p hp)) (by rw [← hH]; exact trk0_scr KX aN ha hi hl)
  obtain ⟨so, ses, sn, so1, so2⟩ := hsm
  have tsm : ∃ o, (hidT s.heap H).get? sysModules = some o := ⟨so, fr so1 (fun v n z => by rw [so2] at z; cases z) (fun z => by rw [so2] at z; cases z)⟩
  refine codeAny_mono ((F _ inK (nss hmg) tb tsm).run callerA [] s H ⟨[.ref a], []⟩ [.ref a] [.ref a] _ _ hr (fun _ => rfl) e0 (hbind s (.ref a)) (.cons rfl .nil) want) ?_
  rintro (er | fl) s2 q
  · obtain ⟨_, _, _, _, _, _, _, _, _, _, _, _, z⟩ := q
    exact z.elim
  · cases fl with
    | next => exact q.elim
    | brk => exact q.elim
    | cont => exact q.elim
    | ret u =>
      obtain ⟨v, H2, os, bare, un, hok2, rv, hv⟩ := q
      obtain rfl : v = V.bl true := hv
      obtain rfl : u = Value.bool true := rv
      have keep : ∀ b o, b ∉ cs.map (·.2) → s.heap.get? b = some o → s2.heap.get? b = some o := fun b o nb e => by
        rcases hcs b with ⟨m, _⟩ | ⟨_, rfl, _, z⟩ | ⟨_, z⟩
        · exact absurd m nb
        · obtain ⟨g1, _⟩ := hok _ _ z
          obtain ⟨g2, _⟩ := hok2 _ _ (un.frzs _ _ _ z)
          rw [e] at g1
          cases g1
          exact g2
        · exact un.keep b o e z (fun y => nomatch (show b ∈ ([] : List Addr) from y)) (fun y => nomatch y)
      have grown : ∀ b ∈ cs.map (·.2), ∃ more : Array Value, s2.heap.get? b = some { cls := .none, data := .fields more } := fun b hb => by
        rcases hcs b with ⟨_, z⟩ | ⟨m, _⟩ | ⟨m, _⟩
        · obtain ⟨more, y⟩ := un.tbls b #[] z
          exact ⟨_, hok2 b _ y⟩
        · exact absurd hb m
        · exact absurd hb m
      refine ⟨rfl, ⟨fun b o e => ?_, fun b o e => ?_⟩, os, bare⟩
      · by_cases hb : b ∈ cs.map (·.2)
        · obtain ⟨more, hm⟩ := grown b hb
          obtain ⟨p, hp, rfl⟩ := List.mem_map.mp hb
          rw [hT p hp] at e
          cases e
          exact .inr (.inl ⟨((hC p hp).tab (hT p hp)).isCodeTable, rfl, #[], more, rfl, by rw [Array.empty_append]; exact hm⟩)
        · exact .inl (keep b o hb e)
      · by_cases hb : b ∈ cs.map (·.2)
        · obtain ⟨more, hm⟩ := grown b hb
          exact ⟨_, hm⟩
        · exact ⟨o, keep b o hb e⟩
end
/-- what is known at the head's heap -/
def LawIn (l : PySem.W.OpenLaw) (w : World) (K : PySem.W.Frag) (k n : Nat) (x : Str) (mg : Str → Option Value) (fa : Addr) (h : Heap) : Prop :=
  ∃ (fd : FuncData) (cs : List (Addr × Addr)) (sp : Sp) (g : Bool), (∀ p ∈ cs, h.get? p.2 = some tabO) ∧ (∀ p ∈ cs, K.lookup p.2 = none) ∧ (∀ p ∈ cs, PySem.W.CodeHd h p.1 p.2) ∧ (∀ (s : Shared) (u : Value), BindsTo s fd ⟨[u], []⟩ [(x, u)]) ∧
    (∀ (H : Hp) (a : Addr) (ns : List Int), ns.length ≤ n → (∀ z ∈ ns, Builtin.Int.intBits z ≤ 1048576) → (∀ p ∈ cs, H p.2 = some (.tbl #[])) → SqL K H a (ns.map V.int) → sp [.ref a] H (fun v _ => v = .bl true) fun _ _ _ => False) ∧
    (∃ o es n, h.get? sysModules = some o ∧ o.data = .dict es n) ∧
    ∀ base : Heap, K.In base → base.Ns mainGlobals mg → (∀ p ∈ cs, LamX.TabB base mg p.1 p.2) → (∃ o, base.get? sysModules = some o) → Fg g l.prog w K mg base k fa fd [x] sp
theorem walk_law {l : PySem.W.OpenLaw} {n k : Nat} {q : Program} {loose : List Str} {XP : (Str → Option Value) → Heap → Prop} {YP : World → Heap → Prop} {d : DefRec} {x : Str} (hn : l.most = some n) (hn2 : n ≤ sizeLine) (hdf : d.params.defaults = []) (hr : Room k callerA)
    (F : ∀ (w : World) (mg : Str → Option Value) (fa : Addr) (h : Heap), YP w h → h.Ns mainGlobals mg → mg d.name = some (.ref fa) → ∃ K : PySem.W.Frag, K.In h ∧ LawIn l w K k n x mg fa h) :
    PySem.W.WalkO q loose XP YP l.row.toRowW d [] (fun f vs => PySem.call f vs) := by
  refine Att.attach_callB hn hdf fun w s0 s mg mb fa o pm cd doc a vs ns G Y _ _ _ mgf obj nsA few bits gens => ?_
  obtain ⟨K, inK, fd, cs, sp, g, t1, t2, t3, bnd, holds, hsm, fg⟩ := F w mg fa _ Y G.T.g mgf
  exact law_run inK G.T.g G.T.b G.T.builtins G.T.nolimit gens t1 t2 t3 G.T.bmain obj nsA (Nat.le_trans few hn2) hr fg hsm bnd fun H => holds H a ns few bits
end Mc

/-! Mc29: what a law's text must say, by one look. -/
namespace Mc
open PySem PySem.Spec PyProof.Rows L2
/-! ### a def -/
def scB (N P : List Str) (sc : Scope) : Bool := decide (sc.kind = .function) && (!sc.isCoroutine && (!sc.isGenerator && (decide (N.Nodup) && (decide (N.take P.length = P) && (P.all (fun x => decide (sc.names.lookup x = some .local) || decide (sc.names.lookup x = some .cell)) && sc.names.all fun y => !decide (y.2 = .free))))))
theorem scB_ok {N P : List Str} {sc : Scope} (h : scB N P sc = true) : FnScope N P sc := by
  unfold scB at h
  simp only [Bool.and_eq_true, decide_eq_true_eq, Bool.not_eq_true', List.all_eq_true, Bool.or_eq_true, decide_eq_false_iff_not] at h
  obtain ⟨h1, h2, h3, h4, h5, h6, h7⟩ := h
  exact ⟨h1, h2, h3, h4, h5, h6, h7⟩
def defB (tb : Tab) (d : Df) (st : Stmt) : Bool := (okSs d.b (d.cg (defScope st) tb) [] d.rk d.k (defBody st)).isSome && (scB d.N (d.N.take d.n) (defScope st) && (decide (d.n ≤ d.N.length) && (List.range d.n).all fun i => decide (kf d.k i = .sh)))
/-- a def that gets a lambda -/
def ldB (tb : Tab) (d : Df) (st : Stmt) : Bool := lcB d (d.cg (defScope st) tb) (defBody st) && (scB d.N (d.N.take d.n) (defScope st) && (decide (d.n ≤ d.N.length) && (decide (1 ≤ d.n) && (!(d.nm == ("__debug__" : Str)) && (List.range d.n).all fun i => decide (kf d.k i = .sh)))))
def defX (tb : Tab) (d : Df) (st : Stmt) : Bool := if (tb.lsg.lookup d.nm).isSome = true then ldB tb d st else defB tb d st
/-- its parameters are bound one by one -/
def BdOk (d : Df) (st : Stmt) : Prop := ∀ (kV doc pm : Value) (an : Option Addr) (cdv ct : Value) (us : List Value), us.length = (d.N.take d.n).length → bindArgs (PySem.W.fnOf d.nm d.nm (defArgs st) (defBody st) (defScope st) .none kV doc pm an cdv ct) ⟨us, []⟩ = pure ((d.N.take d.n).zip us)
section
variable {K : PySem.W.Frag} {mg : Str → Option Value} {tb : Tab}
theorem dfOk_of {d : Df} {st : Stmt} {fd : FuncData} (F : FunD K d.nm d.nm (defArgs st) (defBody st) (defScope st) [] [] (He.ga K d.nm) fd) (hc : defB tb d st = true) (hl : d.lamB K d.nm = true) (hm : mg d.nm = some (.ref (He.ga K d.nm))) (hb : BdOk d st) : DfOk K mg tb d := by
  unfold defB at hc
  simp only [Bool.and_eq_true, decide_eq_true_eq] at hc
  obtain ⟨h1, h2, h3, h4⟩ := hc
  obtain ⟨r, h1⟩ := Option.isSome_iff_exists.mp h1
  exact ⟨⟨d.nm, defArgs st, defBody st, defScope st, fd, r, F, hl, scB_ok h2, h1, F.bindsN hb⟩, h3, h4, hm⟩
theorem ldOk_of {d : Df} {st : Stmt} {fd : FuncData} (F : FunD K d.nm d.nm (defArgs st) (defBody st) (defScope st) [] [] (He.ga K d.nm) fd) (hc : ldB tb d st = true) (hl : d.lamB K d.nm = true) (hm : mg d.nm = some (.ref (He.ga K d.nm))) (hb : BdOk d st) : LdOk K mg tb d := by
  unfold ldB at hc
  simp only [Bool.and_eq_true, decide_eq_true_eq, Bool.not_eq_true'] at hc
  obtain ⟨h1, h2, h3, h4, h5, h6⟩ := hc
  exact ⟨⟨d.nm, defArgs st, defBody st, defScope st, fd, F, hl, scB_ok h2, h1, F.bindsN hb⟩, h3, h4, h6, hm, h5⟩
end
/-! ### the errors' classes -/
theorem oexB_ok {K : PySem.W.Frag} {C : Addr} (h : oexB K C = true) : OexC K C := by
  unfold oexB at h
  simp only [Bool.and_eq_true, decide_eq_true_eq] at h
  obtain ⟨h1, h2, h3, h4, h5⟩ := h
  refine ⟨?_, h2, h3, h4, h5⟩
  split at h1
  · rename_i dd cd sl ho
    split at h1
    · rename_i C' bm k0 k1 k2 k3 n k5 hm hs
      simp only [Bool.and_eq_true, decide_eq_true_eq, Bool.not_eq_true'] at h1
      obtain ⟨rfl, rfl, hdel, hdct, hv⟩ := h1
      obtain ⟨nm, bs, mro, ns, qn, hd, sn, sub, ab, col, del⟩ := cd
      dsimp only at hm hdel hdct
      subst hm hdel hdct
      have e : sl = #[k0, k1, k2, k3, some (.builtin "ValueError.__new__"), k5] := by
        apply Array.ext'
        rw [hs]
      subst e
      exact ⟨_, _, _, _, _, _, _, _, _, _, _, _, _, _, _, ho, hv⟩
    · cases h1
  · cases h1
theorem kefs_mem {l : List Ke} {f : Str} (h : Ke.f f ∈ l ∨ Ke.r f ∈ l) : f ∈ kefs l := by
  unfold kefs
  rcases h with h | h <;> exact List.mem_filterMap.mpr ⟨_, h, rfl⟩
theorem ktB_ok {K : PySem.W.Frag} {mg : Str → Option Value} {kt : List (Str × List Ke)} (h : ktB K kt = true) (hm : ∀ c ∈ kt.map (·.1), mg c = some (.ref (He.ga K c))) : KtOk K mg kt := by
  unfold ktB at h
  simp only [Bool.and_eq_true, decide_eq_true_eq] at h
  obtain ⟨h1, h2, h3, h4, h5, h6⟩ := h
  refine ⟨fun c hc => ?_, fun c hc q hq f hf => ?_, fun c hc c' hc' => ?_, h3⟩
  · obtain ⟨q, hq, rfl⟩ := List.mem_map.mp hc
    have z := List.all_eq_true.mp h4 q hq
    unfold clB at z
    simp only [Bool.and_eq_true, decide_eq_true_eq, Bool.not_eq_true'] at z
    obtain ⟨z1, z2, z3, z4, z5, z6, z7⟩ := z
    have x := xfB_ok z2
    exact ⟨⟨z1, x.ga, ⟨_, x.gg⟩, x.exC, z3, h1, h2, z4⟩, x, hm _ hc, z5, z6, z7⟩
  · obtain ⟨r, hr, rfl⟩ := List.mem_map.mp hc
    have z := List.all_eq_true.mp (List.all_eq_true.mp h6 r hr) f (by
      rw [List.mem_eraseDups]
      exact List.mem_flatMap.mpr ⟨q, hq, kefs_mem hf⟩)
    simpa using z
  · obtain ⟨q, hq, rfl⟩ := List.mem_map.mp hc
    obtain ⟨r, hr, rfl⟩ := List.mem_map.mp hc'
    have z := List.all_eq_true.mp (List.all_eq_true.mp h5 q hq) r hr
    simpa using z
/-! ### a law's text -/
/-- an error's class: its name, its fields, its __init__ -/
structure Xt where
  c : Str
  ns : List Str
  s0 : Str
  st : Stmt
/-- a class: its code, its __init__ -/
structure Ct where
  d : Cd
  x0 : Str
  st : Stmt
structure LawT where
  TS : List (Df × Stmt)
  lw : Df
  lst : Stmt
  pst : Stmt
  kst : Stmt
  mst : Stmt
  fst : Stmt
  xs : List Xt
  tb : Tab
  k1 : List (Str × List Ke)
  k2 : List (Str × List Ke)
  tf : List He.Defn
  ex0 : List Str
  cs : List Ct
def di (x : Xt) : He.DefD := dIni x.c x.st
def dc (x : Ct) : He.DefD := dIni x.d.c x.st
def LawT.fn (L : LawT) : List He.DefD := dd "law" L.lst :: dd "_law_pen" L.pst :: (((if L.tb.knd = true then [dd "_law_kinds" L.kst, dd "_law_more_kinds" L.mst] else []) ++ if L.tb.flt = true then [dd "_law_fault" L.fst] else []) ++ (L.TS.map (fun p => dd p.1.nm p.2) ++ (L.xs.map di ++ L.cs.map dc)))
def LawT.fa (L : LawT) : List He.Fa := .glo "law" :: .glo "_law_pen" :: (((if L.tb.knd = true then [.glo "_law_kinds", .glo "_law_more_kinds", .glo "RoomsError"] ++ L.tb.kt.map (fun q => .glo q.1) else []) ++ if L.tb.flt = true then [.glo "_law_fault"] else []) ++ (L.TS.map (fun p => He.Fa.glo p.1.nm) ++ ((L.xs.map (fun x => He.Fa.glo x.c) ++ L.ex0.map He.Fa.glo) ++
  (L.tb.bn.map He.Fa.free ++ (L.tb.nums.map (fun q => He.Fa.int q.1 q.2) ++ (L.cs.map (fun c => He.Fa.glo c.d.c) ++ L.cs.map (fun c => He.Fa.mkr c.d.c)))))))
def LawT.ex (L : LawT) : PySem.W.Frag → Bool := exH (L.TS.map fun p => (p.1.l, p.1.nm)) L.lw.l L.lw.nm L.tf L.tb.exc L.tb.knd L.tb.kt L.tb.gcd (L.cs.map fun c => (c.d.c, c.d.ns))
def glB (sc : Scope) (xs : List Str) : Bool := xs.all fun x => decide (sc.names.lookup x = some .globalImplicit)
def loB (sc : Scope) (xs : List Str) : Bool := xs.all fun x => decide (sc.names.lookup x = some .local)
def lawChk (L : LawT) : Bool := (match lawB (defBody L.lst) with
    | some rest => (okSs L.lw.b (L.lw.cg (defScope L.lst) L.tb) [] 0 L.lw.k rest).isSome
    | none => false) && (scB L.lw.N ["script"] (defScope L.lst) && (decide (L.lw.nm = "law") && (decide (L.lw.N[0]? = some ("script" : Str)) && (decide (L.lw.N[1]? = some ("pen" : Str)) && (decide (kf L.lw.k 1 = .sh) && ((L.lw.cg (defScope L.lst) L.tb).vis "script" &&
    ((L.lw.cg (defScope L.lst) L.tb).to_ 1 "pen" && glB (defScope L.lst) ["_law_pen"])))))))
def penChk (L : LawT) : Bool := scB penN ["script"] (defScope L.pst) && (penB (defBody L.pst) && (loB (defScope L.pst) penN && (glB (defScope L.pst) ["int", "list"] && (decide (("int" : Str) ∈ L.tb.bn) && decide (("list" : Str) ∈ L.tb.bn)))))
def kndChk (L : LawT) : Bool := !L.tb.knd || (decide (L.tb.kt = L.k1 ++ L.k2) && (decide (L.tb.kt.length ≤ 100) && (scB kN ["e"] (defScope L.kst) && (kindsB L.k1 (defBody L.kst) && (loB (defScope L.kst) kN && (glB (defScope L.kst) ((["isinstance", "repr", "_law_more_kinds"] : List Str) ++ L.k1.map (·.1)) &&
  (scB kN ["e"] (defScope L.mst) && (moreB L.k2 (defBody L.mst) && (loB (defScope L.mst) kN && (glB (defScope L.mst) ((["isinstance", "repr"] : List Str) ++ L.k2.map (·.1)) && (["isinstance", "repr", "len", "ValueError"] : List Str).all fun x => decide (x ∈ L.tb.bn)))))))))))
def fltChk (L : LawT) : Bool := !L.tb.flt || (L.tb.knd && (scB fN ["call"] (defScope L.fst) && (fltB (defBody L.fst) && (loB (defScope L.fst) fN && glB (defScope L.fst) ["isinstance", "len", "RoomsError", "ValueError", "_law_kinds"]))))
def xChk (x : Xt) : Bool := scB (x.s0 :: x.ns) (x.s0 :: x.ns) (defScope x.st) && (iniOk x.s0 x.ns (defBody x.st) && (!(x.s0 == ("__debug__" : Str)) && !(x.s0 == ("__classdict__" : Str))))
def sigChk (L : LawT) : Bool := L.tb.sig.all fun q => match (L.TS.map (·.1)).find? (fun d => d.nm == q.1) with
  | some d => decide (d.nm = q.1) && (decide (d.n = q.2.1) && (decide (d.rk = q.2.2) && (decide (d.g = decide (q.1 ∈ L.tb.gd)) && (L.tb.lsg.lookup q.1).isNone)))
  | none => false
def lsgChk (L : LawT) : Bool := L.tb.lsg.all fun q => match (L.TS.map (·.1)).find? (fun d => d.nm == q.1) with
  | some d => decide (d.nm = q.1) && (decide (d.n = q.2.1) && decide (d.rk = q.2.2))
  | none => false
def cChk (L : LawT) (c : Ct) : Bool := scB c.d.N (c.d.N.take (c.d.n + 1)) (defScope c.st) && (decide (c.d.n + 1 ≤ c.d.N.length) && ((List.range (c.d.n + 1)).all (fun i => decide (kf c.d.k i = .sh)) && (decide (c.d.ns.length ≤ 900) && (!(c.d.c == ("__debug__" : Str)) && ((match preB (c.d.cg (defScope c.st) L.tb) c.d.k c.d.b (defBody c.st) with
  | some (k1, rest) => fldB (c.d.cg (defScope c.st) L.tb) k1 c.x0 c.d.ns c.d.es rest
  | none => false) && (c.d.cg (defScope c.st) L.tb).at_ 0 c.x0)))))
def mksChk (L : LawT) : Bool := L.tb.mks.all fun q => ((L.TS.map (·.1)).find? (fun d => d.nm == q.1)).isNone && match (L.cs.map (·.d)).find? (fun d => d.c == q.1) with
  | some d => decide (d.c = q.1) && decide (d.n = q.2)
  | none => false
def LawT.chk (L : LawT) : Bool := lawChk L && (penChk L && ((kndChk L && (fltChk L && lsgChk L)) && (L.xs.all xChk && (decide (L.tb.exc = (L.xs.map fun x => (x.c, x.ns)) ++ L.ex0.map fun c => (c, [])) && (sigChk L && (decide (L.tb.cls = L.cs.map (·.d.c)) && (L.cs.all (cChk L) && (mksChk L && L.tb.nums.all fun q => !(q.1 == ("__debug__" : Str))))))))))
end Mc

/-! Mc30: the law's row, by its text. -/
namespace Mc
open PySem PySem.Spec PyProof.Rows L2
/-- the parameters of a def that is walked by hand are bound one by one -/
def BdN (nm qual : Str) (st : Stmt) (ps : List Str) : Prop := ∀ (kV doc pm : Value) (an : Option Addr) (cdv ct : Value) (us : List Value), us.length = ps.length → bindArgs (PySem.W.fnOf nm qual (defArgs st) (defBody st) (defScope st) .none kV doc pm an cdv ct) ⟨us, []⟩ = pure (ps.zip us)
structure LawT.Bd (L : LawT) : Prop where
  ts : ∀ p ∈ L.TS, BdOk p.1 p.2
  law : BdN "law" "law" L.lst ["script"]
  pen : BdN "_law_pen" "_law_pen" L.pst ["script"]
  kinds : L.tb.knd = true → BdN "_law_kinds" "_law_kinds" L.kst ["e"]
  more : L.tb.knd = true → BdN "_law_more_kinds" "_law_more_kinds" L.mst ["e"]
  fault : L.tb.flt = true → BdN "_law_fault" "_law_fault" L.fst ["call"]
  xs : ∀ x ∈ L.xs, BdN "__init__" (x.c ++ (".__init__" : Str)) x.st (x.s0 :: x.ns)
  cs : ∀ c ∈ L.cs, BdN "__init__" (c.d.c ++ (".__init__" : Str)) c.st (c.d.N.take (c.d.n + 1))
/-- the law's machine -/
def LawT.run (L : LawT) (wh m : Nat) (ns : List Int) : R (Fl × Sl) := evSs (runT (L.TS.map (·.1)) (L.cs.map (·.d)) (fltR L.tb.kt) wh m) (fltR L.tb.kt) wh L.lw.b (none :: some .pen :: List.replicate (L.lw.N.length - 2) none) (pen0 ns)
theorem fact_in {fa : List He.Fa} {fn : List He.DefD} {K : PySem.W.Frag} (c : He.SaysD fa fn K) {f : He.Fa} (h : f ∈ fa) : f.ok K = true := He.SaysD.facts c h
theorem bool_or {a b : Bool} (h : (!a || b) = true) (ha : a = true) : b = true := by
  rw [ha] at h
  simpa using h
theorem law_in {L : LawT} {l : PySem.W.OpenLaw} {w : World} {K : PySem.W.Frag} {mg : Str → Option Value} {h : Heap} {a : Addr} {wh m : Nat} (X : K.In h) (G : h.Ns mainGlobals mg) (hmg : mg ("law" : Str) = some (.ref a)) (c : He.SaysX L.fa L.fn [] L.tf L.ex w h K) (hts : L.TS.all (fun p => defX L.tb p.1 p.2) = true) (hchk : L.chk = true) (bd : L.Bd) (hsm : ∃ o es n, h.get? sysModules = some o ∧ o.data = .dict es n)
    (hT : ∀ ns : List Int, ns.length ≤ 63 → (∀ z ∈ ns, Builtin.Int.intBits z ≤ 1048576) → ∃ s' p', L.run wh m ns = .ok (.rt (.bl true), s') p') : LawIn l w K (2 + 4 * m + 4) 63 "script" mg a h := by
  have cd := c.t.d
  obtain ⟨e1, e2, e3, e4, e5, e6, e7, e8⟩ := (by
    have z := c.more
    unfold LawT.ex exH at z
    simp only [Bool.and_eq_true, decide_eq_true_eq, List.all_map] at z
    exact z : L.TS.all (fun p => p.1.lamB K p.1.nm) = true ∧ L.lw.lamB K "law" = true ∧ uniqT (tabsOf K) = true ∧ tabCs K = L.tf.map (He.cT K) ∧ L.tb.exc.all (fun q => exB K q) = true ∧ (!L.tb.knd || ktB K L.tb.kt) = true ∧ (!L.tb.gcd || He.eqO (PySem.W.nsIn K mainGlobals "gcd") (some (some (.builtin "math.gcd")))) = true ∧ L.cs.all (fun c => clsB K c.d.c && c.d.ns.all (fun f => naB K c.d.c f)) = true)
  obtain ⟨k1, k2, ⟨k3, k3f, k3l⟩, k4, k5, k6, k7, k8, k8b, k9⟩ := (by
    unfold LawT.chk at hchk
    simp only [Bool.and_eq_true, decide_eq_true_eq] at hchk
    exact hchk : lawChk L = true ∧ penChk L = true ∧ (kndChk L = true ∧ fltChk L = true ∧ lsgChk L = true) ∧ L.xs.all xChk = true ∧ L.tb.exc = L.xs.map (fun x => (x.c, x.ns)) ++ L.ex0.map (fun c => (c, [])) ∧ sigChk L = true ∧ L.tb.cls = L.cs.map (·.d.c) ∧ L.cs.all (cChk L) = true ∧ mksChk L = true ∧ (L.tb.nums.all fun q => !(q.1 == ("__debug__" : Str))) = true)
  -- names
  have glo : ∀ x : Str, He.Fa.glo x ∈ L.fa → mg x = some (.ref (He.ga K x)) := fun x hx => He.glo_ok X G (fact_in cd hx)
  have fre : ∀ x ∈ L.tb.bn, mg x = none := fun x hx => He.free_ok X G (fact_in cd (by
    unfold LawT.fa
    refine List.mem_cons_of_mem _ (List.mem_cons_of_mem _ (List.mem_append_right _ (List.mem_append_right _ (List.mem_append_right _ (List.mem_append_left _ ?_)))))
    exact List.mem_map.mpr ⟨x, hx, rfl⟩))
  have hlaw : mg ("law" : Str) = some (.ref (He.ga K "law")) := glo _ (by unfold LawT.fa; exact List.mem_cons_self)
  have ha : a = He.ga K "law" := by
    rw [hlaw] at hmg
    cases hmg
    rfl
  subst ha
  have hpen : mg ("_law_pen" : Str) = some (.ref (He.ga K "_law_pen")) := glo _ (by unfold LawT.fa; exact List.mem_cons_of_mem _ List.mem_cons_self)
  have defs : ∀ d ∈ L.fn, ∃ fd, FunD K d.name d.qual d.params d.body d.scope (d.dvs K) (d.kws K) (He.fAd K d.at_) fd := fun d hd => He.SaysD.defs cd hd
  have hex0 : ∀ cc, L.tb.exc.lookup cc = some [] → mg cc = some (.ref (He.ga K cc)) ∧ (He.Fa.exc cc).ok K = true ∧ (cc == ("__debug__" : Str)) = false := fun cc he => by
    have hm : (cc, []) ∈ L.tb.exc := PySem.mem_of_lookup he
    have hx := List.all_eq_true.mp e5 _ hm
    unfold exB at hx
    rw [if_pos rfl] at hx
    simp only [Bool.and_eq_true, Bool.not_eq_true'] at hx
    rw [k5] at hm
    refine ⟨glo _ ?_, hx.1, hx.2⟩
    unfold LawT.fa
    rcases List.mem_append.mp hm with hm | hm
    · obtain ⟨x, hx2, e⟩ := List.mem_map.mp hm
      obtain ⟨e1, _⟩ := Prod.mk.inj e
      subst e1
      exact List.mem_cons_of_mem _ (List.mem_cons_of_mem _ (List.mem_append_right _ (List.mem_append_right _ (List.mem_append_left _ (List.mem_append_left _ (List.mem_map.mpr ⟨x, hx2, rfl⟩))))))
    · obtain ⟨x, hx2, e⟩ := List.mem_map.mp hm
      cases e
      exact List.mem_cons_of_mem _ (List.mem_cons_of_mem _ (List.mem_append_right _ (List.mem_append_right _ (List.mem_append_left _ (List.mem_append_right _ (List.mem_map.mpr ⟨_, hx2, rfl⟩))))))
  have hexc : ∀ base : Heap, ∀ cc ns, L.tb.exc.lookup cc = some ns → ns ≠ [] → ExOk l.prog w K mg base cc ns := fun base cc ns he hne => by
    have hm : (cc, ns) ∈ L.tb.exc := PySem.mem_of_lookup he
    have hx := List.all_eq_true.mp e5 _ hm
    rw [k5] at hm
    have hm : (cc, ns) ∈ L.xs.map (fun x => (x.c, x.ns)) := (List.mem_append.mp hm).resolve_right fun z => by
      obtain ⟨x, _, e⟩ := List.mem_map.mp z
      cases e
      exact hne rfl
    obtain ⟨x, hx2, e⟩ := List.mem_map.mp hm
    cases e
    unfold exB at hx
    rw [if_neg hne] at hx
    simp only [Bool.and_eq_true, decide_eq_true_eq, Bool.not_eq_true'] at hx
    obtain ⟨x1, x2, x3, x4, x5, x6, x7⟩ := hx
    obtain ⟨fd, FD⟩ := defs (di x) (by
      unfold LawT.fn
      exact List.mem_cons_of_mem _ (List.mem_cons_of_mem _ (List.mem_append_right _ (List.mem_append_right _ (List.mem_append_left _ (List.mem_map.mpr ⟨x, hx2, rfl⟩))))))
    have FD : FunD K "__init__" (x.c ++ (".__init__" : Str)) (defArgs x.st) (defBody x.st) (defScope x.st) [] [] (He.ma K (He.ga K x.c) "__init__") fd := FD
    have y := List.all_eq_true.mp k4 x hx2
    unfold xChk at y
    simp only [Bool.and_eq_true, Bool.not_eq_true'] at y
    obtain ⟨y1, y2, y3, y4⟩ := y
    refine ⟨x5, x6, oexB_ok x1, glo _ ?_, x7, fun f hf => by simpa using List.all_eq_true.mp x2 f hf, _, fd, _, ini_ok FD (scB_ok y1) y2 x5 x6 y3 y4, x3, x4, FD.bindsN (bd.xs x hx2)⟩
    unfold LawT.fa
    exact List.mem_cons_of_mem _ (List.mem_cons_of_mem _ (List.mem_append_right _ (List.mem_append_right _ (List.mem_append_left _ (List.mem_append_left _ (List.mem_map.mpr ⟨x, hx2, rfl⟩))))))
  have hnum : ∀ x i, L.tb.nums.lookup x = some i → (∃ u, mg x = some (.int i u)) ∧ (x == ("__debug__" : Str)) = false := fun x i he => by
    have hm : (x, i) ∈ L.tb.nums := PySem.mem_of_lookup he
    refine ⟨He.int_ok X G (fact_in cd (f := .int x i) ?_), ?_⟩
    · unfold LawT.fa
      exact List.mem_cons_of_mem _ (List.mem_cons_of_mem _ (List.mem_append_right _ (List.mem_append_right _ (List.mem_append_right _ (List.mem_append_right _ (List.mem_append_left _ (List.mem_map.mpr ⟨(x, i), hm, rfl⟩)))))))
    · have := List.all_eq_true.mp k9 _ hm
      simpa using this
  have hknd : L.tb.knd = true → ∀ base : Heap, (∃ o, base.get? sysModules = some o) → KndOk l.prog w K mg base L.tb.kt ∧ (L.tb.flt = true → FltOk l.prog w K mg base L.tb.kt) := fun hf base hsm => by
    have hkt := bool_or e6 hf
    have q := bool_or k3 hf
    simp only [Bool.and_eq_true, decide_eq_true_eq] at q
    obtain ⟨q1, q2, q3, q4, q5, q6, q7, q8, q9, q10, q15⟩ := q
    have inF : ∀ f : He.Fa, f ∈ ([.glo "_law_kinds", .glo "_law_more_kinds", .glo "RoomsError"] ++ L.tb.kt.map (fun q => He.Fa.glo q.1)) → f ∈ L.fa := fun f hf2 => by
      unfold LawT.fa
      rw [if_pos hf]
      exact List.mem_cons_of_mem _ (List.mem_cons_of_mem _ (List.mem_append_left _ (List.mem_append_left _ hf2)))
    have inD : ∀ d : He.DefD, d ∈ [dd "_law_kinds" L.kst, dd "_law_more_kinds" L.mst] → d ∈ L.fn := fun d hd => by
      unfold LawT.fn
      rw [if_pos hf]
      exact List.mem_cons_of_mem _ (List.mem_cons_of_mem _ (List.mem_append_left _ (List.mem_append_left _ hd)))
    have T : KtOk K mg L.tb.kt := ktB_ok hkt fun c hc => by
      obtain ⟨q, hq, rfl⟩ := List.mem_map.mp hc
      exact glo _ (inF _ (List.mem_append_right _ (List.mem_map.mpr ⟨q, hq, rfl⟩)))
    have bn : ∀ x ∈ (["isinstance", "repr", "len", "ValueError"] : List Str), mg x = none := fun x hx => fre x (by simpa using List.all_eq_true.mp q15 x hx)
    have g1 : ∀ x ∈ (["isinstance", "repr", "_law_more_kinds"] : List Str) ++ L.k1.map (·.1), (defScope L.kst).names.lookup x = some .globalImplicit := fun x hx => by simpa using List.all_eq_true.mp q6 x hx
    have g2 : ∀ x ∈ (["isinstance", "repr"] : List Str) ++ L.k2.map (·.1), (defScope L.mst).names.lookup x = some .globalImplicit := fun x hx => by simpa using List.all_eq_true.mp q10 x hx
    obtain ⟨fdk, FK⟩ := defs _ (inD (dd "_law_kinds" L.kst) (by simp))
    obtain ⟨fdm, FM⟩ := defs _ (inD (dd "_law_more_kinds" L.mst) (by simp))
    have FK : FunD K "_law_kinds" "_law_kinds" (defArgs L.kst) (defBody L.kst) (defScope L.kst) [] [] (He.ga K "_law_kinds") fdk := FK
    have FM : FunD K "_law_more_kinds" "_law_more_kinds" (defArgs L.mst) (defBody L.mst) (defScope L.mst) [] [] (He.ga K "_law_more_kinds") fdm := FM
    have more := more_ok (P := l.prog) (w := w) (mg := mg) (base := base) FM (scB_ok q7) q8 q9 (g2 _ (by simp)) (g2 _ (by simp)) (bn _ (by simp)) (bn _ (by simp)) hsm T (tb := L.k2) (fun q hq => ⟨by rw [q1]; exact List.mem_append_right _ hq, g2 _ (List.mem_append_right _ (List.mem_map.mpr ⟨q, hq, rfl⟩))⟩) (by rw [q1, List.length_append] at q2; omega)
    have kinds := kinds_ok (P := l.prog) (w := w) (mg := mg) (base := base) FK (scB_ok q3) q4 q5 (g1 _ (by simp)) (g1 _ (by simp)) (g1 _ (by simp)) (bn _ (by simp)) (bn _ (by simp)) hsm T (tb := L.k1) (fun q hq => ⟨by rw [q1]; exact List.mem_append_left _ hq, g1 _ (List.mem_append_right _ (List.mem_map.mpr ⟨q, hq, rfl⟩))⟩) (by rw [q1, List.length_append] at q2; omega)
      more (glo _ (inF _ (by simp))) FM.kp (FM.bindsN (bd.more hf))
    rw [← q1] at kinds
    refine ⟨knd_ok T kinds (glo _ (inF _ (by simp))) FK.kp (FK.bindsN (bd.kinds hf)) (fun x hx => bn x (by
      simp only [List.mem_cons, List.not_mem_nil, or_false] at hx ⊢
      rcases hx with rfl | rfl
      · exact .inl rfl
      · exact .inr (.inr (.inr rfl)))) (glo _ (inF _ (by simp))), fun hf2 => ?_⟩
    have q := bool_or k3f hf2
    simp only [Bool.and_eq_true] at q
    obtain ⟨_, q11, q12, q13, q14⟩ := q
    have gF : mg ("_law_fault" : Str) = some (.ref (He.ga K "_law_fault")) := glo _ (by
      unfold LawT.fa
      rw [if_pos hf2]
      exact List.mem_cons_of_mem _ (List.mem_cons_of_mem _ (List.mem_append_left _ (List.mem_append_right _ List.mem_cons_self))))
    obtain ⟨fdf, FF⟩ := defs (dd "_law_fault" L.fst) (by
      unfold LawT.fn
      rw [if_pos hf2]
      exact List.mem_cons_of_mem _ (List.mem_cons_of_mem _ (List.mem_append_left _ (List.mem_append_right _ List.mem_cons_self))))
    have FF : FunD K "_law_fault" "_law_fault" (defArgs L.fst) (defBody L.fst) (defScope L.fst) [] [] (He.ga K "_law_fault") fdf := FF
    exact fault_ok FF (scB_ok q11) q12 gF (FF.bindsN (bd.fault hf2)) q13 q14 (fun x hx => bn x (by
      simp only [List.mem_cons, List.not_mem_nil, or_false] at hx ⊢
      rcases hx with rfl | rfl | rfl
      · exact .inl rfl
      · exact .inr (.inr (.inl rfl))
      · exact .inr (.inr (.inr rfl)))) (glo _ (inF _ (by simp))) T q2 kinds (glo _ (inF _ (by simp))) FK.kp (FK.bindsN (bd.kinds hf))
  -- the tables
  have tcs : ∀ p ∈ tabCs K, ∃ q ∈ L.tf, He.cT K q = p := fun p hp => by
    rw [e4] at hp
    exact List.mem_map.mp hp
  -- the classes
  have inFa : ∀ f : He.Fa, f ∈ (L.cs.map (fun c => He.Fa.glo c.d.c) ++ L.cs.map (fun c => He.Fa.mkr c.d.c)) → f ∈ L.fa := fun f hf => by
    unfold LawT.fa
    exact List.mem_cons_of_mem _ (List.mem_cons_of_mem _ (List.mem_append_right _ (List.mem_append_right _ (List.mem_append_right _ (List.mem_append_right _ (List.mem_append_right _ hf))))))
  have cglo : ∀ c ∈ L.cs, mg c.d.c = some (.ref (He.ga K c.d.c)) := fun c hc => glo _ (inFa _ (List.mem_append_left _ (List.mem_map.mpr ⟨c, hc, rfl⟩)))
  have hcs : ∀ c ∈ L.cs, clsB K c.d.c = true ∧ (c.d.ns.all fun f => naB K c.d.c f) = true ∧ (c.d.c == ("__debug__" : Str)) = false := fun c hc => by
    have z := List.all_eq_true.mp e8 c hc
    rw [Bool.and_eq_true] at z
    have y := List.all_eq_true.mp k8 c hc
    unfold cChk at y
    simp only [Bool.and_eq_true, decide_eq_true_eq, Bool.not_eq_true'] at y
    exact ⟨z.1, z.2, y.2.2.2.2.1⟩
  have hmk : ∀ base : Heap, ∀ c n, L.tb.mks.lookup c = some n → (L.TS.map (·.1)).find? (fun d => d.nm == c) = none ∧ ∃ d, (L.cs.map (·.d)).find? (fun d => d.c == c) = some d ∧ d.c = c ∧ d.n = n ∧ CdOk K mg L.tb d := fun base c n hl => by
    have z := List.all_eq_true.mp k8b _ (PySem.mem_of_lookup hl)
    rw [Bool.and_eq_true] at z
    refine ⟨by simpa using z.1, ?_⟩
    have z2 := z.2
    split at z2
    · rename_i d hd
      simp only [Bool.and_eq_true, decide_eq_true_eq] at z2
      obtain ⟨ct, hct, e⟩ := List.mem_map.mp (List.mem_of_find?_eq_some hd)
      subst e
      obtain ⟨fd, FD⟩ := defs (dc ct) (by
        unfold LawT.fn
        exact List.mem_cons_of_mem _ (List.mem_cons_of_mem _ (List.mem_append_right _ (List.mem_append_right _ (List.mem_append_right _ (List.mem_map.mpr ⟨ct, hct, rfl⟩))))))
      have FD : FunD K "__init__" (ct.d.c ++ (".__init__" : Str)) (defArgs ct.st) (defBody ct.st) (defScope ct.st) [] [] (He.ma K (He.ga K ct.d.c) "__init__") fd := FD
      have y := List.all_eq_true.mp k8 ct hct
      unfold cChk at y
      simp only [Bool.and_eq_true, decide_eq_true_eq, Bool.not_eq_true'] at y
      obtain ⟨y1, y2, y3, y4, y5, y6, y7⟩ := y
      split at y6
      · rename_i k1 rest hpre
        exact ⟨ct.d, hd, z2.1, z2.2, ⟨⟨_, _, _, _, rest, _, fd, k1, ct.x0, FD, scB_ok y1, hpre, y6, y7, FD.bindsN (bd.cs ct hct), He.mkr_ok (fact_in cd (inFa _ (List.mem_append_right _ (List.mem_map.mpr ⟨ct, hct, rfl⟩))))⟩, y2, y3, y4, (hcs ct hct).1, (hcs ct hct).2.1, cglo ct hct, y5⟩⟩
      · cases y6
    · cases z2
  -- the text's defs
  have htab : ∀ base : Heap, (∀ p ∈ tabCs K, LamX.TabB base mg p.1 p.2) → (∃ o, base.get? sysModules = some o) → TabOk l.prog w K mg base L.tb := fun base hb hsm =>
    { bn := fre, cls := fun x hx => (by
        rw [k7] at hx
        obtain ⟨c, hc, rfl⟩ := List.mem_map.mp hx
        exact ⟨cglo c hc, (hcs c hc).1, (hcs c hc).2.2⟩), exc := hexc base, ex0 := hex0, nums := hnum, gcd := fun z => PySem.W.mg_of X G (He.eqO_ok (bool_or e7 z)), flt := fun hf => (hknd (by
        have q := bool_or k3f hf
        simp only [Bool.and_eq_true] at q
        exact q.1) base hsm).2 hf
      sm := hsm, knd := fun hf => (hknd hf base hsm).1
      tbl := fun x hx cc P ht => hb (cc, P) (List.mem_filterMap.mpr ⟨x, hx, ht⟩) }
  have hsig : ∀ base : Heap, ∀ f n rk, L.tb.sig.lookup f = some (n, rk) → ∃ d, (L.TS.map (·.1)).find? (fun d => d.nm == f) = some d ∧ d.nm = f ∧ d.n = n ∧ d.rk = rk ∧ d.g = decide (f ∈ L.tb.gd) ∧ DfOk K mg L.tb d := fun base f n rk hl => by
    have z := List.all_eq_true.mp k6 _ (PySem.mem_of_lookup hl)
    split at z
    · rename_i d hd
      simp only [Bool.and_eq_true, decide_eq_true_eq] at z
      obtain ⟨z1, z2, z3, z4, z5⟩ := z
      obtain ⟨p, hp, e⟩ := List.mem_map.mp (List.mem_of_find?_eq_some hd)
      obtain ⟨fd, FD⟩ := defs (dd p.1.nm p.2) (by
        unfold LawT.fn
        exact List.mem_cons_of_mem _ (List.mem_cons_of_mem _ (List.mem_append_right _ (List.mem_append_left _ (List.mem_map.mpr ⟨p, hp, rfl⟩)))))
      have FD : FunD K p.1.nm p.1.nm (defArgs p.2) (defBody p.2) (defScope p.2) [] [] (He.ga K p.1.nm) fd := FD
      refine ⟨d, hd, z1, z2, z3, z4, ?_⟩
      subst e
      have hx := List.all_eq_true.mp hts p hp
      unfold defX at hx
      rw [z1, if_neg (by rw [Option.isNone_iff_eq_none.mp z5]; exact Bool.false_ne_true)] at hx
      refine dfOk_of FD hx (List.all_eq_true.mp e1 p hp) (glo _ ?_) (bd.ts p hp)
      unfold LawT.fa
      exact List.mem_cons_of_mem _ (List.mem_cons_of_mem _ (List.mem_append_right _ (List.mem_append_left _ (List.mem_map.mpr ⟨p, hp, rfl⟩))))
    · cases z
  have hlsg : ∀ f n rk, L.tb.lsg.lookup f = some (n, rk) → ∃ d, (L.TS.map (·.1)).find? (fun d => d.nm == f) = some d ∧ d.nm = f ∧ d.n = n ∧ d.rk = rk ∧ LdOk K mg L.tb d := fun f n rk hl => by
    unfold lsgChk at k3l
    have z := List.all_eq_true.mp k3l _ (PySem.mem_of_lookup hl)
    split at z
    · rename_i d hd
      simp only [Bool.and_eq_true, decide_eq_true_eq] at z
      obtain ⟨z1, z2, z3⟩ := z
      obtain ⟨p, hp, e⟩ := List.mem_map.mp (List.mem_of_find?_eq_some hd)
      obtain ⟨fd, FD⟩ := defs (dd p.1.nm p.2) (by
        unfold LawT.fn
        exact List.mem_cons_of_mem _ (List.mem_cons_of_mem _ (List.mem_append_right _ (List.mem_append_left _ (List.mem_map.mpr ⟨p, hp, rfl⟩)))))
      have FD : FunD K p.1.nm p.1.nm (defArgs p.2) (defBody p.2) (defScope p.2) [] [] (He.ga K p.1.nm) fd := FD
      refine ⟨d, hd, z1, z2, z3, ?_⟩
      subst e
      have hx := List.all_eq_true.mp hts p hp
      unfold defX at hx
      rw [z1, if_pos (by rw [hl]; rfl)] at hx
      refine ldOk_of FD hx (List.all_eq_true.mp e1 p hp) (glo _ ?_) (bd.ts p hp)
      unfold LawT.fa
      exact List.mem_cons_of_mem _ (List.mem_cons_of_mem _ (List.mem_append_right _ (List.mem_append_left _ (List.mem_map.mpr ⟨p, hp, rfl⟩))))
    · cases z
  obtain ⟨fdl, FL⟩ := defs (dd "law" L.lst) (by unfold LawT.fn; exact List.mem_cons_self)
  obtain ⟨fdp, FP⟩ := defs (dd "_law_pen" L.pst) (by unfold LawT.fn; exact List.mem_cons_of_mem _ List.mem_cons_self)
  have FP : FunD K "_law_pen" "_law_pen" (defArgs L.pst) (defBody L.pst) (defScope L.pst) [] [] (He.ga K "_law_pen") fdp := FP
  have FL : FunD K "law" "law" (defArgs L.lst) (defBody L.lst) (defScope L.lst) [] [] (He.ga K "law") fdl := FL
  obtain ⟨p1, p2, p3, p4, p5, p6⟩ := (by
    unfold penChk at k2
    simp only [Bool.and_eq_true, decide_eq_true_eq] at k2
    exact k2 : scB penN ["script"] (defScope L.pst) = true ∧ penB (defBody L.pst) = true ∧ loB (defScope L.pst) penN = true ∧ glB (defScope L.pst) ["int", "list"] = true ∧ ("int" : Str) ∈ L.tb.bn ∧ ("list" : Str) ∈ L.tb.bn)
  unfold lawChk at k1
  simp only [Bool.and_eq_true, decide_eq_true_eq] at k1
  obtain ⟨q0, q1, q2, q3, q4, q5, q6, q7, q8⟩ := k1
  split at q0
  · rename_i rest hrest
    obtain ⟨r, hr⟩ := Option.isSome_iff_exists.mp q0
    have gp : ∀ x ∈ (["int", "list"] : List Str), (defScope L.pst).names.lookup x = some .globalImplicit := fun x hx => by simpa using List.all_eq_true.mp p4 x hx
    have gl : (defScope L.lst).names.lookup ("_law_pen" : Str) = some .globalImplicit := by simpa [glB] using q8
    refine ⟨fdl, tabCs K, spLaw K L.lw.N.length (evSs (runT (L.TS.map (·.1)) (L.cs.map (·.d)) (fltR L.tb.kt) wh m) (fltR L.tb.kt) wh L.lw.b), L.lw.g, fun p hp => ?_, fun p hp => ?_, fun p hp => ?_, fun s u => FL.bindsA (ps := ["script"]) bd.law s [u] rfl, fun H b ns hn hbits htt hS => ?_, hsm, fun base inB nsB hTB hsb => ?_⟩
    · obtain ⟨q, hq, rfl⟩ := tcs p hp
      exact c.empty q hq
    · obtain ⟨q, hq, rfl⟩ := tcs p hp
      exact c.out q hq
    · obtain ⟨q, hq, rfl⟩ := tcs p hp
      exact PySem.W.codeHd_of_K X (c.hd q hq)
    · exact ⟨b, ns, rfl, hS, htt, hT ns hn hbits, fun _ => rfl⟩
    · have TO := htab base hTB hsb
      have CO := text_ok (wh := wh) TO (fun _ => rfl) (Nat.le_refl 2) (hsig base) (hmk base) hlsg m
      have PO : FnOk l.prog w K mg base (L2.CX l.prog w) 1 (He.ga K "_law_pen") fdp [("script" : Str)] (spPen K) := pen_ok FP (scB_ok p1) p2 p3 (gp _ (by simp)) (gp _ (by simp)) (fre _ p5) (fre _ p6)
      have FL2 : FunD K L.lw.nm "law" (defArgs L.lst) (defBody L.lst) (defScope L.lst) [] [] (He.ga K L.lw.nm) fdl := by rw [q2]; exact FL
      have z := law_ok (wh := wh) (k := 2 + 4 * m) FL2 (scB_ok q1) q3 q4 e2 hrest hr q5 TO (fun _ => rfl) e3 q6 q7 gl hpen FP.kp PO (FP.bindsN bd.pen) (by omega) CO
      rw [q2] at z
      exact z
  · cases q0
end Mc

/-! printed by gen_pl.py: the code of a law as plain functions. -/
namespace Pl
open PySem PySem.Spec PyProof.Rows L2 Mc
def s__law_ungrown_due (kt : List (Str × List Ke)) (wh : Nat) (k__law_less k__law_minus k__law_plus k__law_sign k__law_size_of : K1) : Sl → Mc.P → R (Fl × Sl) := fun s p => (((getS s 2 p).bd fun x p => (R.ok ((.str "nought") : D) p).bd fun y p => R.of ((cmpD .Eq x y).map D.bl) p).bd fun x p => (R.of (truD x) p).bd fun k p => if k = true then ((((getS s 3 p).bd fun x p => (getS s 4 p).bd fun y p => R.of ((cmpD .Eq x y).map D.bl) p).bd fun x p => andR x p (((((getS s 1 p).bd fun x p => (getS s 3 p).bd fun y p => R.of (idxD x y) p).bd fun d p => (R.ok ([] : List D) p).bd fun ds p => R.ok (d :: ds) p).bd fun ds p => k__law_sign ds p).bd fun x p => (R.ok ((.int 0) : D) p).bd fun y p => R.of ((cmpD .LtE x y).map D.bl) p)).bd fun d p => R.ok (Fl.rt d, s) p).bd fun x p => seqR x p fun s p => R.ok (Fl.nx, s) p else R.ok (Fl.nx, s) p).bd fun x p => seqR x p fun s p => (((getS s 3 p).bd fun x p => (getS s 4 p).bd fun y p => R.of ((cmpD .Gt x y).map D.bl) p).bd fun x p => (R.of (truD x) p).bd fun k p => if k = true then ((R.ok ((.bl false) : D) p).bd fun d p => R.ok (Fl.rt d, s) p).bd fun x p => seqR x p fun s p => R.ok (Fl.nx, s) p else R.ok (Fl.nx, s) p).bd fun x p => seqR x p fun s p => (((getS s 2 p).bd fun x p => (R.ok ((.str "far") : D) p).bd fun y p => R.of ((cmpD .Eq x y).map D.bl) p).bd fun x p => (R.of (truD x) p).bd fun k p => if k = true then ((((((getS s 0 p).bd fun x p => (getS s 3 p).bd fun y p => R.of (idxD x y) p).bd fun x p => (getS s 4 p).bd fun y p => R.of (idxD x y) p).bd fun d p => (((((((getS s 1 p).bd fun x p => (getS s 3 p).bd fun y p => R.of (idxD x y) p).bd fun d p => (((getS s 1 p).bd fun x p => (getS s 4 p).bd fun y p => R.of (idxD x y) p).bd fun d p => (R.ok ([] : List D) p).bd fun ds p => R.ok (d :: ds) p).bd fun ds p => R.ok (d :: ds) p).bd fun ds p => k__law_minus ds p).bd fun d p => (R.ok ([] : List D) p).bd fun ds p => R.ok (d :: ds) p).bd fun ds p => k__law_size_of ds p).bd fun d p => (R.ok ([] : List D) p).bd fun ds p => R.ok (d :: ds) p).bd fun ds p => R.ok (d :: ds) p).bd fun ds p => k__law_less ds p).bd fun d p => R.ok (Fl.rt d, s) p).bd fun x p => seqR x p fun s p => R.ok (Fl.nx, s) p else R.ok (Fl.nx, s) p).bd fun x p => seqR x p fun s p => ((((getS s 2 p).bd fun x p => (R.ok ((.str "near") : D) p).bd fun y p => R.of ((cmpD .Eq x y).map D.bl) p).bd fun x p => andR x p ((((((getS s 1 p).bd fun x p => (getS s 3 p).bd fun y p => R.of (idxD x y) p).bd fun d p => (((getS s 1 p).bd fun x p => (getS s 4 p).bd fun y p => R.of (idxD x y) p).bd fun d p => (R.ok ([] : List D) p).bd fun ds p => R.ok (d :: ds) p).bd fun ds p => R.ok (d :: ds) p).bd fun ds p => k__law_plus ds p).bd fun d p => ((((getS s 0 p).bd fun x p => (getS s 3 p).bd fun y p => R.of (idxD x y) p).bd fun x p => (getS s 4 p).bd fun y p => R.of (idxD x y) p).bd fun d p => (R.ok ([] : List D) p).bd fun ds p => R.ok (d :: ds) p).bd fun ds p => R.ok (d :: ds) p).bd fun ds p => k__law_less ds p)).bd fun d p => R.ok (Fl.rt d, s) p).bd fun x p => seqR x p fun s p => R.ok (Fl.nx, s) p
def b__law_grows_0 (kt : List (Str × List Ke)) (wh : Nat) (k__law_ungrown_due : K1) : D → Sl → Mc.P → R (Fl × Sl) := fun d s p => withP (.nm 4) s d fun s => (((((getS s 4 p).bd fun d p => ((getS s 2 p).bd fun d p => (R.ok ([] : List D) p).bd fun ds p => R.ok (d :: ds) p).bd fun ds p => R.ok (d :: ds) p).bd fun ds p => (R.of (items .rng ds) p).bd fun xs p => lstR (filR (fun d p => withP (.nm 5) (wipeS s [5]) d fun s => (((getS s 0 p).bd fun d p => ((getS s 1 p).bd fun d p => ((getS s 3 p).bd fun d p => ((getS s 4 p).bd fun d p => ((getS s 5 p).bd fun d p => (R.ok ([] : List D) p).bd fun ds p => R.ok (d :: ds) p).bd fun ds p => R.ok (d :: ds) p).bd fun ds p => R.ok (d :: ds) p).bd fun ds p => R.ok (d :: ds) p).bd fun ds p => R.ok (d :: ds) p).bd fun ds p => k__law_ungrown_due ds p).bd fun x p => R.of (truD x) p) (fun d p => withP (.nm 5) (wipeS s [5]) d fun s => getS s 5 p) xs p)).bd fun x p => ((R.ok ([] : List D) p).bd fun ds p => R.ok (D.lst ds) p).bd fun y p => R.of ((cmpD .NotEq x y).map D.bl) p).bd fun x p => (R.of (truD x) p).bd fun k p => if k = true then ((R.ok ((.bl false) : D) p).bd fun d p => R.ok (Fl.rt d, s) p).bd fun x p => seqR x p fun s p => R.ok (Fl.nx, s) p else R.ok (Fl.nx, s) p).bd fun x p => seqR x p fun s p => R.ok (Fl.nx, s) p
def b__law_grows_1 (kt : List (Str × List Ke)) (wh : Nat) (k__law_ungrown_due : K1) : D → Sl → Mc.P → R (Fl × Sl) := fun d s p => withP (.nm 3) s d fun s => (((getS s 2 p).bd fun d p => (R.ok ([] : List D) p).bd fun ds p => R.ok (d :: ds) p).bd fun ds p => (R.of (items .rng ds) p).bd fun xs p => loopR (b__law_grows_0 kt wh k__law_ungrown_due) xs s p).bd fun x p => seqR x p fun s p => R.ok (Fl.nx, s) p
def s__law_grows (kt : List (Str × List Ke)) (wh : Nat) (k__law_ungrown_due : K1) : Sl → Mc.P → R (Fl × Sl) := fun s p => ((((getS s 0 p).bd fun d p => (R.ok ([] : List D) p).bd fun ds p => R.ok (d :: ds) p).bd fun ds p => R.of (biD .len ds) p).bd fun d p => setR (.nm 2) d s p).bd fun x p => seqR x p fun s p => (((((R.ok ((.str "nought") : D) p).bd fun d p => ((R.ok ((.str "far") : D) p).bd fun d p => ((R.ok ((.str "near") : D) p).bd fun d p => (R.ok ([] : List D) p).bd fun ds p => R.ok (d :: ds) p).bd fun ds p => R.ok (d :: ds) p).bd fun ds p => R.ok (d :: ds) p).bd fun ds p => R.ok (D.tup ds) p).bd fun d p => (R.ok ([] : List D) p).bd fun ds p => R.ok (d :: ds) p).bd fun ds p => (R.of (items .val ds) p).bd fun xs p => loopR (b__law_grows_1 kt wh k__law_ungrown_due) xs s p).bd fun x p => seqR x p fun s p => ((R.ok ((.bl true) : D) p).bd fun d p => R.ok (Fl.rt d, s) p).bd fun x p => seqR x p fun s p => R.ok (Fl.nx, s) p
def b__law_row_right_0 (kt : List (Str × List Ke)) (wh : Nat) (k_Ungrown k__law_draw k__law_grows k__law_is_whole k__law_pick k__law_says k__law_ungrown_due k_grows k_ungrown k_ungrown_holds : K1) : D → Sl → Mc.P → R (Fl × Sl) := fun d s p => withP (.nm 8) s d fun s => ((((getS s 0 p).bd fun d p => ((getS s 4 p).bd fun d p => (R.ok ([] : List D) p).bd fun ds p => R.ok (d :: ds) p).bd fun ds p => R.ok (d :: ds) p).bd fun ds p => k__law_draw ds p).bd fun d p => setR (.nm 9) d s p).bd fun x p => seqR x p fun s p => (((((((getS s 2 p).bd fun d p => ((getS s 3 p).bd fun d p => ((((getS s 7 p).bd fun d p => ((getS s 8 p).bd fun d p => ((getS s 9 p).bd fun d p => (R.ok ([] : List D) p).bd fun ds p => R.ok (d :: ds) p).bd fun ds p => R.ok (d :: ds) p).bd fun ds p => R.ok (d :: ds) p).bd fun ds p => k_Ungrown ds p).bd fun d p => (R.ok ([] : List D) p).bd fun ds p => R.ok (d :: ds) p).bd fun ds p => R.ok (d :: ds) p).bd fun ds p => R.ok (d :: ds) p).bd fun ds p => k_ungrown_holds ds p).bd fun d p => ((((getS s 1 p).bd fun d p => ((getS s 3 p).bd fun d p => ((getS s 7 p).bd fun d p => ((getS s 8 p).bd fun d p => ((getS s 9 p).bd fun d p => (R.ok ([] : List D) p).bd fun ds p => R.ok (d :: ds) p).bd fun ds p => R.ok (d :: ds) p).bd fun ds p => R.ok (d :: ds) p).bd fun ds p => R.ok (d :: ds) p).bd fun ds p => R.ok (d :: ds) p).bd fun ds p => k__law_ungrown_due ds p).bd fun d p => (R.ok ([] : List D) p).bd fun ds p => R.ok (d :: ds) p).bd fun ds p => R.ok (d :: ds) p).bd fun ds p => k__law_says ds p).bd fun x p => notR x p).bd fun x p => (R.of (truD x) p).bd fun k p => if k = true then ((R.ok ((.bl false) : D) p).bd fun d p => R.ok (Fl.rt d, s) p).bd fun x p => seqR x p fun s p => R.ok (Fl.nx, s) p else R.ok (Fl.nx, s) p).bd fun x p => seqR x p fun s p => (((((((getS s 2 p).bd fun d p => ((getS s 3 p).bd fun d p => ((((getS s 7 p).bd fun d p => ((getS s 8 p).bd fun d p => ((getS s 8 p).bd fun d p => (R.ok ([] : List D) p).bd fun ds p => R.ok (d :: ds) p).bd fun ds p => R.ok (d :: ds) p).bd fun ds p => R.ok (d :: ds) p).bd fun ds p => k_Ungrown ds p).bd fun d p => (R.ok ([] : List D) p).bd fun ds p => R.ok (d :: ds) p).bd fun ds p => R.ok (d :: ds) p).bd fun ds p => R.ok (d :: ds) p).bd fun ds p => k_ungrown_holds ds p).bd fun d p => ((((getS s 1 p).bd fun d p => ((getS s 3 p).bd fun d p => ((getS s 7 p).bd fun d p => ((getS s 8 p).bd fun d p => ((getS s 8 p).bd fun d p => (R.ok ([] : List D) p).bd fun ds p => R.ok (d :: ds) p).bd fun ds p => R.ok (d :: ds) p).bd fun ds p => R.ok (d :: ds) p).bd fun ds p => R.ok (d :: ds) p).bd fun ds p => R.ok (d :: ds) p).bd fun ds p => k__law_ungrown_due ds p).bd fun d p => (R.ok ([] : List D) p).bd fun ds p => R.ok (d :: ds) p).bd fun ds p => R.ok (d :: ds) p).bd fun ds p => k__law_says ds p).bd fun x p => notR x p).bd fun x p => (R.of (truD x) p).bd fun k p => if k = true then ((R.ok ((.bl false) : D) p).bd fun d p => R.ok (Fl.rt d, s) p).bd fun x p => seqR x p fun s p => R.ok (Fl.nx, s) p else R.ok (Fl.nx, s) p).bd fun x p => seqR x p fun s p => R.ok (Fl.nx, s) p
def b__law_row_right_1 (kt : List (Str × List Ke)) (wh : Nat) (k_Ungrown k__law_draw k__law_grows k__law_is_whole k__law_pick k__law_says k__law_ungrown_due k_grows k_ungrown k_ungrown_holds : K1) : D → Sl → Mc.P → R (Fl × Sl) := fun d s p => withP (.nm 7) s d fun s => (((getS s 4 p).bd fun d p => (R.ok ([] : List D) p).bd fun ds p => R.ok (d :: ds) p).bd fun ds p => (R.of (items .rng ds) p).bd fun xs p => loopR (b__law_row_right_0 kt wh k_Ungrown k__law_draw k__law_grows k__law_is_whole k__law_pick k__law_says k__law_ungrown_due k_grows k_ungrown k_ungrown_holds) xs s p).bd fun x p => seqR x p fun s p => R.ok (Fl.nx, s) p
def s__law_row_right (kt : List (Str × List Ke)) (wh : Nat) (k_Ungrown k__law_draw k__law_grows k__law_is_whole k__law_pick k__law_says k__law_ungrown_due k_grows k_ungrown k_ungrown_holds : K1) : Sl → Mc.P → R (Fl × Sl) := fun s p => (((((getS s 1 p).bd fun d p => (R.ok ([] : List D) p).bd fun ds p => R.ok (d :: ds) p).bd fun ds p => R.of (biD .len ds) p).bd fun d p => ((((getS s 1 p).bd fun d p => ((getS s 3 p).bd fun d p => (R.ok ([] : List D) p).bd fun ds p => R.ok (d :: ds) p).bd fun ds p => R.ok (d :: ds) p).bd fun ds p => k__law_grows ds p).bd fun d p => (R.ok ([] : List D) p).bd fun ds p => R.ok (d :: ds) p).bd fun ds p => R.ok (d :: ds) p).bd fun ds p => parR [4, 5] ds s p).bd fun x p => seqR x p fun s p => ((((getS s 2 p).bd fun d p => ((getS s 3 p).bd fun d p => (R.ok ([] : List D) p).bd fun ds p => R.ok (d :: ds) p).bd fun ds p => R.ok (d :: ds) p).bd fun ds p => k_ungrown ds p).bd fun d p => setR (.nm 6) d s p).bd fun x p => seqR x p fun s p => ((((((((getS s 2 p).bd fun d p => ((((getS s 3 p).bd fun d p => (R.ok ([] : List D) p).bd fun ds p => R.ok (d :: ds) p).bd fun ds p => R.of (biD .list ds) p).bd fun d p => (R.ok ([] : List D) p).bd fun ds p => R.ok (d :: ds) p).bd fun ds p => R.ok (d :: ds) p).bd fun ds p => k_grows ds p).bd fun d p => ((getS s 5 p).bd fun d p => (R.ok ([] : List D) p).bd fun ds p => R.ok (d :: ds) p).bd fun ds p => R.ok (d :: ds) p).bd fun ds p => k__law_says ds p).bd fun x p => notR x p).bd fun x p => orR x p (((getS s 6 p).bd fun x p => (R.ok (.non : D) p).bd fun y p => R.of ((cmpD .Is x y).map D.bl) p).bd fun x p => (getS s 5 p).bd fun y p => R.of ((cmpD .NotEq x y).map D.bl) p)).bd fun x p => (R.of (truD x) p).bd fun k p => if k = true then ((R.ok ((.bl false) : D) p).bd fun d p => R.ok (Fl.rt d, s) p).bd fun x p => seqR x p fun s p => R.ok (Fl.nx, s) p else R.ok (Fl.nx, s) p).bd fun x p => seqR x p fun s p => (((getS s 6 p).bd fun x p => (R.ok (.non : D) p).bd fun y p => R.of ((cmpD .IsNot x y).map D.bl) p).bd fun x p => (R.of (truD x) p).bd fun k p => if k = true then ((((((getS s 6 p).bd fun d p => ((R.ok ((.cls "Ungrown") : D) p).bd fun d p => (R.ok ([] : List D) p).bd fun ds p => R.ok (d :: ds) p).bd fun ds p => R.ok (d :: ds) p).bd fun ds p => R.of (biD .isi ds) p).bd fun x p => notR x p).bd fun x p => orR x p ((((((getS s 6 p).bd fun x p => R.of (attD x "one") p).bd fun d p => (R.ok ([] : List D) p).bd fun ds p => R.ok (d :: ds) p).bd fun ds p => k__law_is_whole ds p).bd fun x p => notR x p).bd fun x p => orR x p (((((getS s 6 p).bd fun x p => R.of (attD x "other") p).bd fun d p => (R.ok ([] : List D) p).bd fun ds p => R.ok (d :: ds) p).bd fun ds p => k__law_is_whole ds p).bd fun x p => notR x p))).bd fun x p => (R.of (truD x) p).bd fun k p => if k = true then ((R.ok ((.bl false) : D) p).bd fun d p => R.ok (Fl.rt d, s) p).bd fun x p => seqR x p fun s p => R.ok (Fl.nx, s) p else R.ok (Fl.nx, s) p).bd fun x p => seqR x p fun s p => (((((R.ok ((.int 0) : D) p).bd fun x p => ((getS s 6 p).bd fun x p => R.of (attD x "one") p).bd fun y p => (R.of (cmpD .LtE x y) p).bd fun k p => if k = true then ((getS s 6 p).bd fun x p => R.of (attD x "other") p).bd fun z p => (R.of (cmpD .LtE y z) p).bd fun k p => if k = true then (getS s 4 p).bd fun w p => R.of ((cmpD .Lt z w).map D.bl) p else R.ok (D.bl false) p else R.ok (D.bl false) p).bd fun x p => notR x p).bd fun x p => orR x p ((((getS s 1 p).bd fun d p => ((getS s 3 p).bd fun d p => (((getS s 6 p).bd fun x p => R.of (attD x "kind") p).bd fun d p => (((getS s 6 p).bd fun x p => R.of (attD x "one") p).bd fun d p => (((getS s 6 p).bd fun x p => R.of (attD x "other") p).bd fun d p => (R.ok ([] : List D) p).bd fun ds p => R.ok (d :: ds) p).bd fun ds p => R.ok (d :: ds) p).bd fun ds p => R.ok (d :: ds) p).bd fun ds p => R.ok (d :: ds) p).bd fun ds p => R.ok (d :: ds) p).bd fun ds p => k__law_ungrown_due ds p).bd fun x p => notR x p)).bd fun x p => (R.of (truD x) p).bd fun k p => if k = true then ((R.ok ((.bl false) : D) p).bd fun d p => R.ok (Fl.rt d, s) p).bd fun x p => seqR x p fun s p => R.ok (Fl.nx, s) p else R.ok (Fl.nx, s) p).bd fun x p => seqR x p fun s p => R.ok (Fl.nx, s) p else R.ok (Fl.nx, s) p).bd fun x p => seqR x p fun s p => (((((R.ok ((.str "nought") : D) p).bd fun d p => ((R.ok ((.str "far") : D) p).bd fun d p => ((R.ok ((.str "near") : D) p).bd fun d p => ((R.ok ((.str "Far") : D) p).bd fun d p => (R.ok ([] : List D) p).bd fun ds p => R.ok (d :: ds) p).bd fun ds p => R.ok (d :: ds) p).bd fun ds p => R.ok (d :: ds) p).bd fun ds p => R.ok (d :: ds) p).bd fun ds p => R.ok (D.tup ds) p).bd fun d p => (R.ok ([] : List D) p).bd fun ds p => R.ok (d :: ds) p).bd fun ds p => (R.of (items .val ds) p).bd fun xs p => loopR (b__law_row_right_1 kt wh k_Ungrown k__law_draw k__law_grows k__law_is_whole k__law_pick k__law_says k__law_ungrown_due k_grows k_ungrown k_ungrown_holds) xs s p).bd fun x p => seqR x p fun s p => ((((getS s 0 p).bd fun d p => (((((R.ok ((.int 1) : D) p).bd fun x p => negR x p).bd fun d p => ((getS s 4 p).bd fun d p => ((R.ok (.non : D) p).bd fun d p => ((R.ok ((.bl true) : D) p).bd fun d p => ((R.ok ((.str "0") : D) p).bd fun d p => (R.ok ([] : List D) p).bd fun ds p => R.ok (d :: ds) p).bd fun ds p => R.ok (d :: ds) p).bd fun ds p => R.ok (d :: ds) p).bd fun ds p => R.ok (d :: ds) p).bd fun ds p => R.ok (d :: ds) p).bd fun ds p => R.ok (D.lst ds) p).bd fun d p => (R.ok ([] : List D) p).bd fun ds p => R.ok (d :: ds) p).bd fun ds p => R.ok (d :: ds) p).bd fun ds p => k__law_pick ds p).bd fun d p => setR (.nm 10) d s p).bd fun x p => seqR x p fun s p => ((((R.ok (.non : D) p).bd fun d p => ((((R.ok ((.str "far") : D) p).bd fun d p => ((R.ok ((.int 0) : D) p).bd fun d p => ((R.ok ((.int 0) : D) p).bd fun d p => (R.ok ([] : List D) p).bd fun ds p => R.ok (d :: ds) p).bd fun ds p => R.ok (d :: ds) p).bd fun ds p => R.ok (d :: ds) p).bd fun ds p => R.ok (D.tup ds) p).bd fun d p => ((((R.ok ((.str "nought") : D) p).bd fun d p => ((getS s 10 p).bd fun d p => ((getS s 10 p).bd fun d p => (R.ok ([] : List D) p).bd fun ds p => R.ok (d :: ds) p).bd fun ds p => R.ok (d :: ds) p).bd fun ds p => R.ok (d :: ds) p).bd fun ds p => k_Ungrown ds p).bd fun d p => ((((R.ok ((.str "near") : D) p).bd fun d p => ((R.ok ((.int 0) : D) p).bd fun d p => ((getS s 10 p).bd fun d p => (R.ok ([] : List D) p).bd fun ds p => R.ok (d :: ds) p).bd fun ds p => R.ok (d :: ds) p).bd fun ds p => R.ok (d :: ds) p).bd fun ds p => k_Ungrown ds p).bd fun d p => ((((R.ok (.non : D) p).bd fun d p => ((R.ok ((.int 0) : D) p).bd fun d p => ((R.ok ((.int 0) : D) p).bd fun d p => (R.ok ([] : List D) p).bd fun ds p => R.ok (d :: ds) p).bd fun ds p => R.ok (d :: ds) p).bd fun ds p => R.ok (d :: ds) p).bd fun ds p => k_Ungrown ds p).bd fun d p => ((R.ok ((.bl true) : D) p).bd fun d p => (R.ok ([] : List D) p).bd fun ds p => R.ok (d :: ds) p).bd fun ds p => R.ok (d :: ds) p).bd fun ds p => R.ok (d :: ds) p).bd fun ds p => R.ok (d :: ds) p).bd fun ds p => R.ok (d :: ds) p).bd fun ds p => R.ok (d :: ds) p).bd fun ds p => R.ok (D.tup ds) p).bd fun d p => setR (.nm 11) d s p).bd fun x p => seqR x p fun s p => (((((getS s 11 p).bd fun d p => (R.ok ([] : List D) p).bd fun ds p => R.ok (d :: ds) p).bd fun ds p => (R.of (items .val ds) p).bd fun xs p => lstR (filR (fun d p => withP (.nm 12) (wipeS s [12]) d fun s => ((((getS s 2 p).bd fun d p => ((getS s 3 p).bd fun d p => ((getS s 12 p).bd fun d p => (R.ok ([] : List D) p).bd fun ds p => R.ok (d :: ds) p).bd fun ds p => R.ok (d :: ds) p).bd fun ds p => R.ok (d :: ds) p).bd fun ds p => k_ungrown_holds ds p).bd fun x p => (R.ok ((.bl false) : D) p).bd fun y p => R.of ((cmpD .IsNot x y).map D.bl) p).bd fun x p => R.of (truD x) p) (fun d p => withP (.nm 12) (wipeS s [12]) d fun s => getS s 12 p) xs p)).bd fun x p => ((R.ok ([] : List D) p).bd fun ds p => R.ok (D.lst ds) p).bd fun y p => R.of ((cmpD .Eq x y).map D.bl) p).bd fun d p => R.ok (Fl.rt d, s) p).bd fun x p => seqR x p fun s p => R.ok (Fl.nx, s) p
def s__law_grown_right (kt : List (Str × List Ke)) (wh : Nat) (k__law_grows k__law_is k_grown : K1) : Sl → Mc.P → R (Fl × Sl) := fun s p => (((((getS s 0 p).bd fun d p => ((getS s 2 p).bd fun d p => (R.ok ([] : List D) p).bd fun ds p => R.ok (d :: ds) p).bd fun ds p => R.ok (d :: ds) p).bd fun ds p => k__law_grows ds p).bd fun x p => notR x p).bd fun x p => (R.of (truD x) p).bd fun k p => if k = true then (((fltR kt (((getS s 1 p).bd fun d p => ((getS s 2 p).bd fun d p => (R.ok ([] : List D) p).bd fun ds p => R.ok (d :: ds) p).bd fun ds p => R.ok (d :: ds) p).bd fun ds p => k_grown ds p)).bd fun x p => (((R.ok ((.str "unlike") : D) p).bd fun d p => ((R.ok ((.str "row") : D) p).bd fun d p => (R.ok ([] : List D) p).bd fun ds p => R.ok (d :: ds) p).bd fun ds p => R.ok (d :: ds) p).bd fun ds p => R.ok (D.tup ds) p).bd fun y p => R.of ((cmpD .Eq x y).map D.bl) p).bd fun d p => R.ok (Fl.rt d, s) p).bd fun x p => seqR x p fun s p => R.ok (Fl.nx, s) p else R.ok (Fl.nx, s) p).bd fun x p => seqR x p fun s p => (((((getS s 0 p).bd fun d p => (R.ok ([] : List D) p).bd fun ds p => R.ok (d :: ds) p).bd fun ds p => R.of (biD .len ds) p).bd fun x p => (R.ok ((.int 8) : D) p).bd fun y p => R.of ((cmpD .Eq x y).map D.bl) p).bd fun x p => (R.of (truD x) p).bd fun k p => if k = true then (((fltR kt (((getS s 1 p).bd fun d p => ((getS s 2 p).bd fun d p => (R.ok ([] : List D) p).bd fun ds p => R.ok (d :: ds) p).bd fun ds p => R.ok (d :: ds) p).bd fun ds p => k_grown ds p)).bd fun x p => (((R.ok ((.str "many") : D) p).bd fun d p => ((R.ok ((.str "points") : D) p).bd fun d p => ((R.ok ((.int 9) : D) p).bd fun d p => ((R.ok ((.int 8) : D) p).bd fun d p => (R.ok ([] : List D) p).bd fun ds p => R.ok (d :: ds) p).bd fun ds p => R.ok (d :: ds) p).bd fun ds p => R.ok (d :: ds) p).bd fun ds p => R.ok (d :: ds) p).bd fun ds p => R.ok (D.tup ds) p).bd fun y p => R.of ((cmpD .Eq x y).map D.bl) p).bd fun d p => R.ok (Fl.rt d, s) p).bd fun x p => seqR x p fun s p => R.ok (Fl.nx, s) p else R.ok (Fl.nx, s) p).bd fun x p => seqR x p fun s p => ((((getS s 1 p).bd fun d p => ((((getS s 2 p).bd fun d p => (R.ok ([] : List D) p).bd fun ds p => R.ok (d :: ds) p).bd fun ds p => R.of (biD .list ds) p).bd fun d p => (R.ok ([] : List D) p).bd fun ds p => R.ok (d :: ds) p).bd fun ds p => R.ok (d :: ds) p).bd fun ds p => k_grown ds p).bd fun d p => setR (.nm 3) d s p).bd fun x p => seqR x p fun s p => (((((((getS s 0 p).bd fun d p => ((getS s 2 p).bd fun d p => (R.ok ([] : List D) p).bd fun ds p => R.ok (d :: ds) p).bd fun ds p => R.ok (d :: ds) p).bd fun ds p => (R.of (items .zip ds) p).bd fun xs p => lstR (filR (fun d p => withP (.tp [(.nm 5), (.nm 6)]) (wipeS s [5, 6]) d fun s => R.ok true p) (fun d p => withP (.tp [(.nm 5), (.nm 6)]) (wipeS s [5, 6]) d fun s => (getS s 5 p).bd fun x p => (((getS s 6 p).bd fun d p => (R.ok ([] : List D) p).bd fun ds p => R.ok (d :: ds) p).bd fun ds p => R.ok (D.tup ds) p).bd fun y p => R.of (binD .Add x y) p) xs p)).bd fun d p => (R.ok ([] : List D) p).bd fun ds p => R.ok (d :: ds) p).bd fun ds p => R.of (biD .tuple ds) p).bd fun x p => ((((((getS s 2 p).bd fun d p => (R.ok ([] : List D) p).bd fun ds p => R.ok (d :: ds) p).bd fun ds p => R.of (biD .tuple ds) p).bd fun x p => (((R.ok ((.int 0) : D) p).bd fun d p => (R.ok ([] : List D) p).bd fun ds p => R.ok (d :: ds) p).bd fun ds p => R.ok (D.tup ds) p).bd fun y p => R.of (binD .Add x y) p).bd fun d p => (R.ok ([] : List D) p).bd fun ds p => R.ok (d :: ds) p).bd fun ds p => R.ok (D.tup ds) p).bd fun y p => R.of (binD .Add x y) p).bd fun d p => setR (.nm 4) d s p).bd fun x p => seqR x p fun s p => (((((getS s 3 p).bd fun d p => ((R.ok ((.cls "Distances") : D) p).bd fun d p => (R.ok ([] : List D) p).bd fun ds p => R.ok (d :: ds) p).bd fun ds p => R.ok (d :: ds) p).bd fun ds p => R.of (biD .isi ds) p).bd fun x p => andR x p ((((getS s 3 p).bd fun x p => R.of (attD x "rows") p).bd fun d p => ((getS s 4 p).bd fun d p => (R.ok ([] : List D) p).bd fun ds p => R.ok (d :: ds) p).bd fun ds p => R.ok (d :: ds) p).bd fun ds p => k__law_is ds p)).bd fun d p => R.ok (Fl.rt d, s) p).bd fun x p => seqR x p fun s p => R.ok (Fl.nx, s) p
def s__law_refused (kt : List (Str × List Ke)) (wh : Nat) (k__law_bent_row k_grown k_grows k_ungrown k_ungrown_holds : K1) : Sl → Mc.P → R (Fl × Sl) := fun s p => ((((getS s 0 p).bd fun d p => ((getS s 2 p).bd fun d p => (R.ok ([] : List D) p).bd fun ds p => R.ok (d :: ds) p).bd fun ds p => R.ok (d :: ds) p).bd fun ds p => k__law_bent_row ds p).bd fun d p => setR (.nm 3) d s p).bd fun x p => seqR x p fun s p => ((((fltR kt (((getS s 1 p).bd fun d p => ((getS s 3 p).bd fun d p => (R.ok ([] : List D) p).bd fun ds p => R.ok (d :: ds) p).bd fun ds p => R.ok (d :: ds) p).bd fun ds p => k_grows ds p)).bd fun d p => (R.ok ([] : List D) p).bd fun ds p => R.ok (d :: ds) p).bd fun ds p => R.ok (D.lst ds) p).bd fun d p => setR (.nm 4) d s p).bd fun x p => seqR x p fun s p => ((R.of (getL s 4) p).bd fun l p => (fltR kt (((getS s 1 p).bd fun d p => ((getS s 3 p).bd fun d p => (R.ok ([] : List D) p).bd fun ds p => R.ok (d :: ds) p).bd fun ds p => R.ok (d :: ds) p).bd fun ds p => k_ungrown ds p)).bd fun d p => if l.length < sizeLine then R.ok (Fl.nx, (wipeS s []).set 4 (some (D.lst (l ++ [d])))) p else R.bad).bd fun x p => seqR x p fun s p => ((R.of (getL s 4) p).bd fun l p => (fltR kt (((getS s 1 p).bd fun d p => ((getS s 3 p).bd fun d p => (R.ok ([] : List D) p).bd fun ds p => R.ok (d :: ds) p).bd fun ds p => R.ok (d :: ds) p).bd fun ds p => k_grown ds p)).bd fun d p => if l.length < sizeLine then R.ok (Fl.nx, (wipeS s []).set 4 (some (D.lst (l ++ [d])))) p else R.bad).bd fun x p => seqR x p fun s p => ((R.of (getL s 4) p).bd fun l p => (fltR kt (((getS s 1 p).bd fun d p => ((getS s 3 p).bd fun d p => ((R.ok (.non : D) p).bd fun d p => (R.ok ([] : List D) p).bd fun ds p => R.ok (d :: ds) p).bd fun ds p => R.ok (d :: ds) p).bd fun ds p => R.ok (d :: ds) p).bd fun ds p => k_ungrown_holds ds p)).bd fun d p => if l.length < sizeLine then R.ok (Fl.nx, (wipeS s []).set 4 (some (D.lst (l ++ [d])))) p else R.bad).bd fun x p => seqR x p fun s p => (R.ok (Fl.nx, s) p).bd fun x p => seqR x p fun s p => (((getS s 4 p).bd fun x p => ((((R.ok ((.str "row") : D) p).bd fun d p => ((R.ok ((.str "row") : D) p).bd fun d p => ((((getS s 3 p).bd fun d p => (R.ok ([] : List D) p).bd fun ds p => R.ok (d :: ds) p).bd fun ds p => R.of (biD .repr ds) p).bd fun d p => (R.ok ([] : List D) p).bd fun ds p => R.ok (d :: ds) p).bd fun ds p => R.ok (d :: ds) p).bd fun ds p => R.ok (d :: ds) p).bd fun ds p => R.ok (D.tup ds) p).bd fun x p => (R.ok ((.int 4) : D) p).bd fun y p => repR x p y).bd fun y p => R.of ((cmpD .Eq x y).map D.bl) p).bd fun d p => R.ok (Fl.rt d, s) p).bd fun x p => seqR x p fun s p => R.ok (Fl.nx, s) p
def b_law_0 (kt : List (Str × List Ke)) (wh : Nat) (k_Distances k__law_draw k__law_grown_right k__law_most k__law_pick k__law_plus k__law_refused k__law_row k__law_row_right k__law_some_table k__law_tight_row : K1) : D → Sl → Mc.P → R (Fl × Sl) := fun d s p => withP (.nm 14) s d fun s => ((((((getS s 1 p).bd fun d p => ((getS s 3 p).bd fun d p => ((getS s 4 p).bd fun d p => ((getS s 14 p).bd fun d p => (R.ok ([] : List D) p).bd fun ds p => R.ok (d :: ds) p).bd fun ds p => R.ok (d :: ds) p).bd fun ds p => R.ok (d :: ds) p).bd fun ds p => R.ok (d :: ds) p).bd fun ds p => k__law_row_right ds p).bd fun x p => notR x p).bd fun x p => orR x p ((((getS s 3 p).bd fun d p => ((getS s 4 p).bd fun d p => ((getS s 14 p).bd fun d p => (R.ok ([] : List D) p).bd fun ds p => R.ok (d :: ds) p).bd fun ds p => R.ok (d :: ds) p).bd fun ds p => R.ok (d :: ds) p).bd fun ds p => k__law_grown_right ds p).bd fun x p => notR x p)).bd fun x p => (R.of (truD x) p).bd fun k p => if k = true then ((R.ok ((.bl false) : D) p).bd fun d p => R.ok (Fl.rt d, s) p).bd fun x p => seqR x p fun s p => R.ok (Fl.nx, s) p else R.ok (Fl.nx, s) p).bd fun x p => seqR x p fun s p => R.ok (Fl.nx, s) p
def b_law_1 (kt : List (Str × List Ke)) (wh : Nat) (k_Distances k__law_draw k__law_grown_right k__law_most k__law_pick k__law_plus k__law_refused k__law_row k__law_row_right k__law_some_table k__law_tight_row : K1) : D → Sl → Mc.P → R (Fl × Sl) := fun d s p => withP (.nm 2) s d fun s => ((((getS s 1 p).bd fun d p => ((R.ok ((.int 8) : D) p).bd fun d p => (R.ok ([] : List D) p).bd fun ds p => R.ok (d :: ds) p).bd fun ds p => R.ok (d :: ds) p).bd fun ds p => k__law_some_table ds p).bd fun d p => setR (.nm 3) d s p).bd fun x p => seqR x p fun s p => (((((getS s 3 p).bd fun d p => (R.ok ([] : List D) p).bd fun ds p => R.ok (d :: ds) p).bd fun ds p => k_Distances ds p).bd fun d p => ((((getS s 3 p).bd fun d p => (R.ok ([] : List D) p).bd fun ds p => R.ok (d :: ds) p).bd fun ds p => R.of (biD .len ds) p).bd fun d p => (R.ok ([] : List D) p).bd fun ds p => R.ok (d :: ds) p).bd fun ds p => R.ok (d :: ds) p).bd fun ds p => parR [4, 5] ds s p).bd fun x p => seqR x p fun s p => (((((getS s 1 p).bd fun d p => ((getS s 5 p).bd fun d p => (R.ok ([] : List D) p).bd fun ds p => R.ok (d :: ds) p).bd fun ds p => R.ok (d :: ds) p).bd fun ds p => k__law_draw ds p).bd fun d p => ((((getS s 1 p).bd fun d p => ((((R.ok ((.int 1) : D) p).bd fun d p => (((R.ok ((.int 1) : D) p).bd fun x p => negR x p).bd fun d p => ((((R.ok ((.int 1) : D) p).bd fun d p => (((R.ok ((.int 10) : D) p).bd fun x p => (R.ok ((.int 9) : D) p).bd fun y p => R.of (binD .Pow x y) p).bd fun d p => (R.ok ([] : List D) p).bd fun ds p => R.ok (d :: ds) p).bd fun ds p => R.ok (d :: ds) p).bd fun ds p => R.ok (D.tup ds) p).bd fun d p => (((((R.ok ((.int 1) : D) p).bd fun x p => negR x p).bd fun d p => (((R.ok ((.int 10) : D) p).bd fun x p => (R.ok ((.int 9) : D) p).bd fun y p => R.of (binD .Pow x y) p).bd fun d p => (R.ok ([] : List D) p).bd fun ds p => R.ok (d :: ds) p).bd fun ds p => R.ok (d :: ds) p).bd fun ds p => R.ok (D.tup ds) p).bd fun d p => (R.ok ([] : List D) p).bd fun ds p => R.ok (d :: ds) p).bd fun ds p => R.ok (d :: ds) p).bd fun ds p => R.ok (d :: ds) p).bd fun ds p => R.ok (d :: ds) p).bd fun ds p => R.ok (D.lst ds) p).bd fun d p => (R.ok ([] : List D) p).bd fun ds p => R.ok (d :: ds) p).bd fun ds p => R.ok (d :: ds) p).bd fun ds p => k__law_pick ds p).bd fun d p => (R.ok ([] : List D) p).bd fun ds p => R.ok (d :: ds) p).bd fun ds p => R.ok (d :: ds) p).bd fun ds p => parR [6, 7] ds s p).bd fun x p => seqR x p fun s p => (((((((getS s 3 p).bd fun x p => (getS s 6 p).bd fun y p => R.of (idxD x y) p).bd fun d p => (R.ok ([] : List D) p).bd fun ds p => R.ok (d :: ds) p).bd fun ds p => (R.of (items .val ds) p).bd fun xs p => lstR (filR (fun d p => withP (.nm 9) (wipeS s [9]) d fun s => R.ok true p) (fun d p => withP (.nm 9) (wipeS s [9]) d fun s => ((getS s 9 p).bd fun d p => ((((getS s 1 p).bd fun d p => ((((R.ok ((.int 1) : D) p).bd fun d p => ((((R.ok ((.int 1) : D) p).bd fun d p => ((R.ok ((.int 2) : D) p).bd fun d p => (R.ok ([] : List D) p).bd fun ds p => R.ok (d :: ds) p).bd fun ds p => R.ok (d :: ds) p).bd fun ds p => R.ok (D.tup ds) p).bd fun d p => (R.ok ([] : List D) p).bd fun ds p => R.ok (d :: ds) p).bd fun ds p => R.ok (d :: ds) p).bd fun ds p => R.ok (D.lst ds) p).bd fun d p => (R.ok ([] : List D) p).bd fun ds p => R.ok (d :: ds) p).bd fun ds p => R.ok (d :: ds) p).bd fun ds p => k__law_pick ds p).bd fun d p => (R.ok ([] : List D) p).bd fun ds p => R.ok (d :: ds) p).bd fun ds p => R.ok (d :: ds) p).bd fun ds p => k__law_plus ds p) xs p)).bd fun d p => (R.ok ([] : List D) p).bd fun ds p => R.ok (d :: ds) p).bd fun ds p => R.of (biD .tuple ds) p).bd fun d p => setR (.nm 8) d s p).bd fun x p => seqR x p fun s p => (((((getS s 1 p).bd fun d p => ((getS s 3 p).bd fun d p => (R.ok ([] : List D) p).bd fun ds p => R.ok (d :: ds) p).bd fun ds p => R.ok (d :: ds) p).bd fun ds p => k__law_tight_row ds p).bd fun d p => ((((((getS s 3 p).bd fun d p => (R.ok ([] : List D) p).bd fun ds p => R.ok (d :: ds) p).bd fun ds p => (R.of (items .val ds) p).bd fun xs p => lstR (filR (fun d p => withP (.nm 12) (wipeS s [12]) d fun s => R.ok true p) (fun d p => withP (.nm 12) (wipeS s [12]) d fun s => ((((getS s 12 p).bd fun d p => (R.ok ([] : List D) p).bd fun ds p => R.ok (d :: ds) p).bd fun ds p => k__law_most ds p).bd fun d p => ((R.ok ((.int 1) : D) p).bd fun d p => (R.ok ([] : List D) p).bd fun ds p => R.ok (d :: ds) p).bd fun ds p => R.ok (d :: ds) p).bd fun ds p => k__law_plus ds p) xs p)).bd fun d p => (R.ok ([] : List D) p).bd fun ds p => R.ok (d :: ds) p).bd fun ds p => R.of (biD .tuple ds) p).bd fun d p => (R.ok ([] : List D) p).bd fun ds p => R.ok (d :: ds) p).bd fun ds p => R.ok (d :: ds) p).bd fun ds p => parR [10, 11] ds s p).bd fun x p => seqR x p fun s p => (((((getS s 10 p).bd fun x p => ((R.ok ([] : List D) p).bd fun y p => R.of (endD y) p).bd fun l p => (((getS s 6 p).bd fun d p => (R.ok ([] : List D) p).bd fun ds p => R.ok (d :: ds) p).bd fun z p => R.of (endD z) p).bd fun h p => R.of (slcD l h x) p).bd fun x p => ((((((getS s 10 p).bd fun x p => (getS s 6 p).bd fun y p => R.of (idxD x y) p).bd fun d p => ((getS s 7 p).bd fun d p => (R.ok ([] : List D) p).bd fun ds p => R.ok (d :: ds) p).bd fun ds p => R.ok (d :: ds) p).bd fun ds p => k__law_plus ds p).bd fun d p => (R.ok ([] : List D) p).bd fun ds p => R.ok (d :: ds) p).bd fun ds p => R.ok (D.tup ds) p).bd fun y p => R.of (binD .Add x y) p).bd fun x p => ((getS s 10 p).bd fun x p => ((((getS s 6 p).bd fun x p => (R.ok ((.int 1) : D) p).bd fun y p => R.of (binD .Add x y) p).bd fun d p => (R.ok ([] : List D) p).bd fun ds p => R.ok (d :: ds) p).bd fun y p => R.of (endD y) p).bd fun l p => ((R.ok ([] : List D) p).bd fun z p => R.of (endD z) p).bd fun h p => R.of (slcD l h x) p).bd fun y p => R.of (binD .Add x y) p).bd fun d p => setR (.nm 13) d s p).bd fun x p => seqR x p fun s p => (((((getS s 8 p).bd fun d p => ((getS s 10 p).bd fun d p => ((getS s 11 p).bd fun d p => ((getS s 13 p).bd fun d p => ((((getS s 1 p).bd fun d p => ((getS s 5 p).bd fun d p => ((R.ok ((.int 1) : D) p).bd fun d p => (R.ok ([] : List D) p).bd fun ds p => R.ok (d :: ds) p).bd fun ds p => R.ok (d :: ds) p).bd fun ds p => R.ok (d :: ds) p).bd fun ds p => k__law_row ds p).bd fun d p => (((getS s 3 p).bd fun x p => (getS s 6 p).bd fun y p => R.of (idxD x y) p).bd fun d p => (R.ok ([] : List D) p).bd fun ds p => R.ok (d :: ds) p).bd fun ds p => R.ok (d :: ds) p).bd fun ds p => R.ok (d :: ds) p).bd fun ds p => R.ok (d :: ds) p).bd fun ds p => R.ok (d :: ds) p).bd fun ds p => R.ok (d :: ds) p).bd fun ds p => R.ok (D.tup ds) p).bd fun d p => (R.ok ([] : List D) p).bd fun ds p => R.ok (d :: ds) p).bd fun ds p => (R.of (items .val ds) p).bd fun xs p => loopR (b_law_0 kt wh k_Distances k__law_draw k__law_grown_right k__law_most k__law_pick k__law_plus k__law_refused k__law_row k__law_row_right k__law_some_table k__law_tight_row) xs s p).bd fun x p => seqR x p fun s p => (((((getS s 1 p).bd fun d p => ((getS s 4 p).bd fun d p => ((getS s 10 p).bd fun d p => (R.ok ([] : List D) p).bd fun ds p => R.ok (d :: ds) p).bd fun ds p => R.ok (d :: ds) p).bd fun ds p => R.ok (d :: ds) p).bd fun ds p => k__law_refused ds p).bd fun x p => notR x p).bd fun x p => (R.of (truD x) p).bd fun k p => if k = true then ((R.ok ((.bl false) : D) p).bd fun d p => R.ok (Fl.rt d, s) p).bd fun x p => seqR x p fun s p => R.ok (Fl.nx, s) p else R.ok (Fl.nx, s) p).bd fun x p => seqR x p fun s p => R.ok (Fl.nx, s) p
def s_law (kt : List (Str × List Ke)) (wh : Nat) (k_Distances k__law_draw k__law_grown_right k__law_most k__law_pick k__law_plus k__law_refused k__law_row k__law_row_right k__law_some_table k__law_tight_row : K1) : Sl → Mc.P → R (Fl × Sl) := fun s p => (((R.ok ((.int 3) : D) p).bd fun d p => (R.ok ([] : List D) p).bd fun ds p => R.ok (d :: ds) p).bd fun ds p => (R.of (items .rng ds) p).bd fun xs p => loopR (b_law_1 kt wh k_Distances k__law_draw k__law_grown_right k__law_most k__law_pick k__law_plus k__law_refused k__law_row k__law_row_right k__law_some_table k__law_tight_row) xs s p).bd fun x p => seqR x p fun s p => ((R.ok ((.bl true) : D) p).bd fun d p => R.ok (Fl.rt d, s) p).bd fun x p => seqR x p fun s p => R.ok (Fl.nx, s) p
end Pl


/-! R13: rows that grow. -/
namespace Pl
open PySem PySem.Spec PyProof.Rows L2 Mc
section
variable {kt : List (Str × List Ke)} {wh : Nat}
def Sdue (k : K1) : Prop := ∀ n f g r (s : Str) (x y : Nat), SmallD n f g → RowX n g r → s ∈ kinds → x < n → y < n → Says k [.tup (tabT n f), r, .str s, .int x, .int y] (DueP n f g s x y)
theorem p__law_ungrown_due {k1 k2 k3 k4 k5 : K1} (h1 : Slt k1) (h2 : Ssub k2) (h3 : Sadd k3) (h4 : Ssgn k4) (h5 : Sab k5) : Sdue (fk 0 5 (s__law_ungrown_due kt wh k1 k2 k3 k4 k5)) := fun n f g r s x y S hr hs hx hy b hb p => by
  have e4 := h4 (g x) p
  have z : (g x).num ≤ 0 ↔ g x ≤ 0 := by rw [num_le0]; constructor <;> intro h <;> grind
  have e2 := h2 (g x) (g y) (S.sg x hx) (S.sg y hy) p
  have e5 := h5 (g x - g y) p
  have e1 := h1 (f x y) (ab (g x - g y)) (S.sf x y hx hy) (S.sd x y hx hy).ab p
  have e3 := h3 (g x) (g y) (S.sg x hx) (S.sg y hy) p
  have e6 := h1 (g x + g y) (f x y) (S.ss x y hx hy) (S.sf x y hx hy) p
  have i1 := hr.ix hx
  have i2 := hr.ix hy
  have i3 : idxD (.tup (tabT n f)) (.int (x : Int)) = some (.tup (rowD n (f x))) := ix_tab hx
  have i4 : idxD (.tup (rowD n (f x))) (.int (y : Int)) = some (enc (f x y)) := ix_row hy
  have ks : ∀ a : String, eqD (.str s) (.str (Str.ofString a)) = some (decide (s = Str.ofString a)) := fun a => by
    simp only [kinds, List.mem_cons, List.not_mem_nil, or_false] at hs
    rcases hs with rfl | rfl | rfl | rfl <;> exact eqD_str (ok_of _) (ok_of _)
  unfold fk s__law_ungrown_due
  simp only [kinds, List.mem_cons, List.not_mem_nil, or_false] at hs
  rcases hs with rfl | rfl | rfl | rfl
  · have : b = (decide (x = y) && decide (g x ≤ 0)) := by
      rw [Bool.eq_iff_iff, hb]
      simp [DueP, k_nf, k_nn]
    by_cases hxy : x = y
    · subst hxy
      by_cases h : g x ≤ 0
      · have h' := z.mpr h
        simp [startS, bdo, bde, ofs, ofn, gs0, gsS, set_nm, set_tp, bp_nm, bp_tp, bps0, bpsS, sq_nx, sq_rt, sq_bk, sq_ct, fi_rt, fi_nx, fi_err, tr_bl, tr_int, tr_tup, tr_lst, tr_non, cm_lt, cm_le, cm_gt, cm_ge, cm_eq, cm_ne, cm_isn, cm_ntn, cm_isb, cm_ntb, cm_int, cm_inl, cm_nit, cm_nil, bi_add, bi_sub, bi_mul, bi_fdiv, bi_mod, bi_cat, bi_catl, b_isi, b_lent, b_lenl, b_inti, b_intb, b_tupl, b_tupt, b_lisl, b_list, b_rep, b_all, b_any, b_abs, b_gcd, n_neg, n_not, n_andt, n_andf, n_ort, n_orf, n_ixt, n_ixl, pa_nil, pa_cons, wp_nm, it_t, it_l, it_z, it_zl, it_ztl, it_zlt, wi0, wiS, lp0, i_ty, i_cl, t_int, t_str, t_tup, t_lst, t_non, t_bl, t_dic, t_obj, c_int, c_tup, c_lst, c_non, c_str, c_bl, c_obj, te_int, te_tup, te_bool, te_list, te_str, isn_enc, isb_enc, isn_non, isn_bl, isn_int, isn_str, isn_tup, isn_lst, isn_obj, isb_bl, isb_int, isb_non, isb_str, isb_tup, isb_lst, isb_obj, eqD_isf, eqD_esf, ks, eqD_int, i1, e4, this, h, h']
      · have h' : ¬ (g x).num ≤ 0 := fun y => h (z.mp y)
        simp [startS, bdo, bde, ofs, ofn, gs0, gsS, set_nm, set_tp, bp_nm, bp_tp, bps0, bpsS, sq_nx, sq_rt, sq_bk, sq_ct, fi_rt, fi_nx, fi_err, tr_bl, tr_int, tr_tup, tr_lst, tr_non, cm_lt, cm_le, cm_gt, cm_ge, cm_eq, cm_ne, cm_isn, cm_ntn, cm_isb, cm_ntb, cm_int, cm_inl, cm_nit, cm_nil, bi_add, bi_sub, bi_mul, bi_fdiv, bi_mod, bi_cat, bi_catl, b_isi, b_lent, b_lenl, b_inti, b_intb, b_tupl, b_tupt, b_lisl, b_list, b_rep, b_all, b_any, b_abs, b_gcd, n_neg, n_not, n_andt, n_andf, n_ort, n_orf, n_ixt, n_ixl, pa_nil, pa_cons, wp_nm, it_t, it_l, it_z, it_zl, it_ztl, it_zlt, wi0, wiS, lp0, i_ty, i_cl, t_int, t_str, t_tup, t_lst, t_non, t_bl, t_dic, t_obj, c_int, c_tup, c_lst, c_non, c_str, c_bl, c_obj, te_int, te_tup, te_bool, te_list, te_str, isn_enc, isb_enc, isn_non, isn_bl, isn_int, isn_str, isn_tup, isn_lst, isn_obj, isb_bl, isb_int, isb_non, isb_str, isb_tup, isb_lst, isb_obj, eqD_isf, eqD_esf, ks, eqD_int, i1, e4, this, h, h']
    · have hxz : ¬ ((x : Int) = (y : Int)) := fun h => hxy (Int.ofNat.inj h)
      simp [startS, bdo, bde, ofs, ofn, gs0, gsS, set_nm, set_tp, bp_nm, bp_tp, bps0, bpsS, sq_nx, sq_rt, sq_bk, sq_ct, fi_rt, fi_nx, fi_err, tr_bl, tr_int, tr_tup, tr_lst, tr_non, cm_lt, cm_le, cm_gt, cm_ge, cm_eq, cm_ne, cm_isn, cm_ntn, cm_isb, cm_ntb, cm_int, cm_inl, cm_nit, cm_nil, bi_add, bi_sub, bi_mul, bi_fdiv, bi_mod, bi_cat, bi_catl, b_isi, b_lent, b_lenl, b_inti, b_intb, b_tupl, b_tupt, b_lisl, b_list, b_rep, b_all, b_any, b_abs, b_gcd, n_neg, n_not, n_andt, n_andf, n_ort, n_orf, n_ixt, n_ixl, pa_nil, pa_cons, wp_nm, it_t, it_l, it_z, it_zl, it_ztl, it_zlt, wi0, wiS, lp0, i_ty, i_cl, t_int, t_str, t_tup, t_lst, t_non, t_bl, t_dic, t_obj, c_int, c_tup, c_lst, c_non, c_str, c_bl, c_obj, te_int, te_tup, te_bool, te_list, te_str, isn_enc, isb_enc, isn_non, isn_bl, isn_int, isn_str, isn_tup, isn_lst, isn_obj, isb_bl, isb_int, isb_non, isb_str, isb_tup, isb_lst, isb_obj, eqD_isf, eqD_esf, this, ks, eqD_int, hxy, hxz]
  · by_cases hlt : y < x
    · have : b = false := by
        cases b with
        | false => rfl
        | true =>
          have hd := hb.mp rfl
          simp only [DueP] at hd
          omega
      simp [startS, bdo, bde, ofs, ofn, gs0, gsS, set_nm, set_tp, bp_nm, bp_tp, bps0, bpsS, sq_nx, sq_rt, sq_bk, sq_ct, fi_rt, fi_nx, fi_err, tr_bl, tr_int, tr_tup, tr_lst, tr_non, cm_lt, cm_le, cm_gt, cm_ge, cm_eq, cm_ne, cm_isn, cm_ntn, cm_isb, cm_ntb, cm_int, cm_inl, cm_nit, cm_nil, bi_add, bi_sub, bi_mul, bi_fdiv, bi_mod, bi_cat, bi_catl, b_isi, b_lent, b_lenl, b_inti, b_intb, b_tupl, b_tupt, b_lisl, b_list, b_rep, b_all, b_any, b_abs, b_gcd, n_neg, n_not, n_andt, n_andf, n_ort, n_orf, n_ixt, n_ixl, pa_nil, pa_cons, wp_nm, it_t, it_l, it_z, it_zl, it_ztl, it_zlt, wi0, wiS, lp0, i_ty, i_cl, t_int, t_str, t_tup, t_lst, t_non, t_bl, t_dic, t_obj, c_int, c_tup, c_lst, c_non, c_str, c_bl, c_obj, te_int, te_tup, te_bool, te_list, te_str, isn_enc, isb_enc, isn_non, isn_bl, isn_int, isn_str, isn_tup, isn_lst, isn_obj, isb_bl, isb_int, isb_non, isb_str, isb_tup, isb_lst, isb_obj, eqD_isf, eqD_esf, ks, k_fn', hlt, this]
    · have hle : x ≤ y := Nat.le_of_not_lt hlt
      have : b = decide (f x y < ab (g x - g y)) := by
        rw [Bool.eq_iff_iff, hb]
        simp [DueP, k_fn', k_fr, hle]
      simp [startS, bdo, bde, ofs, ofn, gs0, gsS, set_nm, set_tp, bp_nm, bp_tp, bps0, bpsS, sq_nx, sq_rt, sq_bk, sq_ct, fi_rt, fi_nx, fi_err, tr_bl, tr_int, tr_tup, tr_lst, tr_non, cm_lt, cm_le, cm_gt, cm_ge, cm_eq, cm_ne, cm_isn, cm_ntn, cm_isb, cm_ntb, cm_int, cm_inl, cm_nit, cm_nil, bi_add, bi_sub, bi_mul, bi_fdiv, bi_mod, bi_cat, bi_catl, b_isi, b_lent, b_lenl, b_inti, b_intb, b_tupl, b_tupt, b_lisl, b_list, b_rep, b_all, b_any, b_abs, b_gcd, n_neg, n_not, n_andt, n_andf, n_ort, n_orf, n_ixt, n_ixl, pa_nil, pa_cons, wp_nm, it_t, it_l, it_z, it_zl, it_ztl, it_zlt, wi0, wiS, lp0, i_ty, i_cl, t_int, t_str, t_tup, t_lst, t_non, t_bl, t_dic, t_obj, c_int, c_tup, c_lst, c_non, c_str, c_bl, c_obj, te_int, te_tup, te_bool, te_list, te_str, isn_enc, isb_enc, isn_non, isn_bl, isn_int, isn_str, isn_tup, isn_lst, isn_obj, isb_bl, isb_int, isb_non, isb_str, isb_tup, isb_lst, isb_obj, eqD_isf, eqD_esf, hlt, this, ks, k_fn', i1, i2, i3, i4, e1, e2, e5]
  · by_cases hlt : y < x
    · have : b = false := by
        cases b with
        | false => rfl
        | true =>
          have hd := hb.mp rfl
          simp only [DueP] at hd
          omega
      simp [startS, bdo, bde, ofs, ofn, gs0, gsS, set_nm, set_tp, bp_nm, bp_tp, bps0, bpsS, sq_nx, sq_rt, sq_bk, sq_ct, fi_rt, fi_nx, fi_err, tr_bl, tr_int, tr_tup, tr_lst, tr_non, cm_lt, cm_le, cm_gt, cm_ge, cm_eq, cm_ne, cm_isn, cm_ntn, cm_isb, cm_ntb, cm_int, cm_inl, cm_nit, cm_nil, bi_add, bi_sub, bi_mul, bi_fdiv, bi_mod, bi_cat, bi_catl, b_isi, b_lent, b_lenl, b_inti, b_intb, b_tupl, b_tupt, b_lisl, b_list, b_rep, b_all, b_any, b_abs, b_gcd, n_neg, n_not, n_andt, n_andf, n_ort, n_orf, n_ixt, n_ixl, pa_nil, pa_cons, wp_nm, it_t, it_l, it_z, it_zl, it_ztl, it_zlt, wi0, wiS, lp0, i_ty, i_cl, t_int, t_str, t_tup, t_lst, t_non, t_bl, t_dic, t_obj, c_int, c_tup, c_lst, c_non, c_str, c_bl, c_obj, te_int, te_tup, te_bool, te_list, te_str, isn_enc, isb_enc, isn_non, isn_bl, isn_int, isn_str, isn_tup, isn_lst, isn_obj, isb_bl, isb_int, isb_non, isb_str, isb_tup, isb_lst, isb_obj, eqD_isf, eqD_esf, ks, k_rn, hlt, this]
    · have hle : x ≤ y := Nat.le_of_not_lt hlt
      have : b = decide (g x + g y < f x y) := by
        rw [Bool.eq_iff_iff, hb]
        simp [DueP, k_rn, k_rf, hle]
      simp [startS, bdo, bde, ofs, ofn, gs0, gsS, set_nm, set_tp, bp_nm, bp_tp, bps0, bpsS, sq_nx, sq_rt, sq_bk, sq_ct, fi_rt, fi_nx, fi_err, tr_bl, tr_int, tr_tup, tr_lst, tr_non, cm_lt, cm_le, cm_gt, cm_ge, cm_eq, cm_ne, cm_isn, cm_ntn, cm_isb, cm_ntb, cm_int, cm_inl, cm_nit, cm_nil, bi_add, bi_sub, bi_mul, bi_fdiv, bi_mod, bi_cat, bi_catl, b_isi, b_lent, b_lenl, b_inti, b_intb, b_tupl, b_tupt, b_lisl, b_list, b_rep, b_all, b_any, b_abs, b_gcd, n_neg, n_not, n_andt, n_andf, n_ort, n_orf, n_ixt, n_ixl, pa_nil, pa_cons, wp_nm, it_t, it_l, it_z, it_zl, it_ztl, it_zlt, wi0, wiS, lp0, i_ty, i_cl, t_int, t_str, t_tup, t_lst, t_non, t_bl, t_dic, t_obj, c_int, c_tup, c_lst, c_non, c_str, c_bl, c_obj, te_int, te_tup, te_bool, te_list, te_str, isn_enc, isb_enc, isn_non, isn_bl, isn_int, isn_str, isn_tup, isn_lst, isn_obj, isb_bl, isb_int, isb_non, isb_str, isb_tup, isb_lst, isb_obj, eqD_isf, eqD_esf, hlt, this, ks, k_rn, k_rf, i1, i2, i3, i4, e3, e6]
  · have : b = false := by
      cases b with
      | false => rfl
      | true =>
        have hd := hb.mp rfl
        simp [DueP, k_Fn, k_Ff, k_Fr] at hd
    by_cases hlt : y < x
    · simp [startS, bdo, bde, ofs, ofn, gs0, gsS, set_nm, set_tp, bp_nm, bp_tp, bps0, bpsS, sq_nx, sq_rt, sq_bk, sq_ct, fi_rt, fi_nx, fi_err, tr_bl, tr_int, tr_tup, tr_lst, tr_non, cm_lt, cm_le, cm_gt, cm_ge, cm_eq, cm_ne, cm_isn, cm_ntn, cm_isb, cm_ntb, cm_int, cm_inl, cm_nit, cm_nil, bi_add, bi_sub, bi_mul, bi_fdiv, bi_mod, bi_cat, bi_catl, b_isi, b_lent, b_lenl, b_inti, b_intb, b_tupl, b_tupt, b_lisl, b_list, b_rep, b_all, b_any, b_abs, b_gcd, n_neg, n_not, n_andt, n_andf, n_ort, n_orf, n_ixt, n_ixl, pa_nil, pa_cons, wp_nm, it_t, it_l, it_z, it_zl, it_ztl, it_zlt, wi0, wiS, lp0, i_ty, i_cl, t_int, t_str, t_tup, t_lst, t_non, t_bl, t_dic, t_obj, c_int, c_tup, c_lst, c_non, c_str, c_bl, c_obj, te_int, te_tup, te_bool, te_list, te_str, isn_enc, isb_enc, isn_non, isn_bl, isn_int, isn_str, isn_tup, isn_lst, isn_obj, isb_bl, isb_int, isb_non, isb_str, isb_tup, isb_lst, isb_obj, eqD_isf, eqD_esf, hlt, this, ks, k_Fn, k_Ff, k_Fr]
    · simp [startS, bdo, bde, ofs, ofn, gs0, gsS, set_nm, set_tp, bp_nm, bp_tp, bps0, bpsS, sq_nx, sq_rt, sq_bk, sq_ct, fi_rt, fi_nx, fi_err, tr_bl, tr_int, tr_tup, tr_lst, tr_non, cm_lt, cm_le, cm_gt, cm_ge, cm_eq, cm_ne, cm_isn, cm_ntn, cm_isb, cm_ntb, cm_int, cm_inl, cm_nit, cm_nil, bi_add, bi_sub, bi_mul, bi_fdiv, bi_mod, bi_cat, bi_catl, b_isi, b_lent, b_lenl, b_inti, b_intb, b_tupl, b_tupt, b_lisl, b_list, b_rep, b_all, b_any, b_abs, b_gcd, n_neg, n_not, n_andt, n_andf, n_ort, n_orf, n_ixt, n_ixl, pa_nil, pa_cons, wp_nm, it_t, it_l, it_z, it_zl, it_ztl, it_zlt, wi0, wiS, lp0, i_ty, i_cl, t_int, t_str, t_tup, t_lst, t_non, t_bl, t_dic, t_obj, c_int, c_tup, c_lst, c_non, c_str, c_bl, c_obj, te_int, te_tup, te_bool, te_list, te_str, isn_enc, isb_enc, isn_non, isn_bl, isn_int, isn_str, isn_tup, isn_lst, isn_obj, isb_bl, isb_int, isb_non, isb_str, isb_tup, isb_lst, isb_obj, eqD_isf, eqD_esf, hlt, this, ks, k_Fn, k_Ff, k_Fr]
theorem due_iff {n : Nat} {f : Nat → Nat → Rat} {g : Nat → Rat} (S : SmallD n f g) (hd : ∀ a, a < n → f a a = 0) : (∀ s, s = Str.ofString "nought" ∨ s = Str.ofString "far" ∨ s = Str.ofString "near" → ∀ a b, a ≤ b → b < n → ¬ DueP n f g s a b) ↔ Grows n f g := by
  constructor
  · intro h
    have o : ∀ a, a < n → 0 < g a := fun a ha => by
      have := h _ (.inl rfl) a a (Nat.le_refl _) ha
      simp [DueP] at this
      exact Rat.not_le.mp this.1
    have far : ∀ a b, a ≤ b → b < n → ab (g a - g b) ≤ f a b := fun a b hab hb => by
      have := h _ (.inr (.inl rfl)) a b hab hb
      simp [DueP, hab] at this
      grind
    have near : ∀ a b, a ≤ b → b < n → f a b ≤ g a + g b := fun a b hab hb => by
      have := h _ (.inr (.inr rfl)) a b hab hb
      simp [DueP, hab] at this
      grind
    refine ⟨o, fun a b ha hb ne => ?_, fun a b ha hb ne => ?_⟩
    · by_cases hab : a ≤ b
      · exact (ab_le.mp (far a b hab hb)).1
      · have l := ab_le.mp (far b a (by omega) ha)
        rw [S.sy a b ha hb]
        grind
    · by_cases hab : a ≤ b
      · exact near a b hab hb
      · have l := near b a (by omega) ha
        rw [S.sy a b ha hb]
        grind
  · intro G s _ a b hab hb hD
    have ha : a < n := by omega
    by_cases e : a = b
    · subst e
      have z := hd a ha
      have o := G.o a ha
      rcases hD with ⟨_, _, h⟩ | ⟨_, _, h⟩ | ⟨_, _, h⟩
      · grind
      · have : ab (g a - g a) ≤ 0 := by rw [ab_le]; constructor <;> grind
        grind
      · grind
    · rcases hD with ⟨_, h, _⟩ | ⟨_, _, h⟩ | ⟨_, _, h⟩
      · exact e h
      · have l1 := G.d a b ha hb e
        have l2 := G.d b a hb ha (Ne.symm e)
        rw [S.sy b a hb ha] at l2
        have : ab (g a - g b) ≤ f a b := by rw [ab_le]; constructor <;> grind
        grind
      · have := G.s a b ha hb e
        grind
open Classical in
noncomputable def dues (n : Nat) (f : Nat → Nat → Rat) (g : Nat → Rat) (s : Str) (x : Nat) : List Nat := (List.range' x (n - x)).filter fun y => decide (DueP n f g s x y)
open Classical in
theorem dues_nil {n : Nat} {f : Nat → Nat → Rat} {g : Nat → Rat} {s : Str} {x : Nat} : dues n f g s x = [] ↔ ∀ y, x ≤ y → y < n → ¬ DueP n f g s x y := by
  unfold dues
  rw [List.filter_eq_nil_iff]
  constructor
  · intro h y h1 h2 h3
    exact h y (List.mem_range'_1.mpr (by omega)) (decide_eq_true h3)
  · intro h y hy
    have := List.mem_range'_1.mp hy
    have := h y (by omega) (by omega)
    simp [this]
open Classical in
theorem grows_row {k1 : K1} (h1 : Sdue k1) {n : Nat} {f : Nat → Nat → Rat} {g : Nat → Rat} {r : D} {s : Str} (hn : n ≤ 1000) (S : SmallD n f g) (hr : RowX n g r) (hs : s ∈ kinds) {x : Nat} (hx : x < n) (y4 y5 : Option D) (q : Mc.P) :
    b__law_grows_0 kt wh k1 (.int (x : Int)) [some (.tup (tabT n f)), some r, some (.int n), some (.str s), y4, y5] q = if dues n f g s x = [] then .ok (.nx, [some (.tup (tabT n f)), some r, some (.int n), some (.str s), some (.int x), y5]) q else .ok (.rt (.bl false), [some (.tup (tabT n f)), some r, some (.int n), some (.str s), some (.int x), y5]) q := by
  have ed : ∀ y, y < n → k1 [.tup (tabT n f), r, .str s, .int x, .int y] q = .ok (.bl (decide (DueP n f g s x y))) q := fun y hy => h1 n f g r s x y S hr hs hx hy _ decide_eq_true_iff q
  have i2 := it_rng2 (a := x) (n := n) (by omega) (by omega)
  have mem : ∀ y ∈ List.range' x (n - x), y < n := fun y hy => by
    have := List.mem_range'_1.mp hy
    omega
  unfold b__law_grows_0
  simp [startS, bdo, bde, ofs, ofn, gs0, gsS, set_nm, set_tp, bp_nm, bp_tp, bps0, bpsS, sq_nx, sq_rt, sq_bk, sq_ct, fi_rt, fi_nx, fi_err, tr_bl, tr_int, tr_tup, tr_lst, tr_non, cm_lt, cm_le, cm_gt, cm_ge, cm_eq, cm_ne, cm_isn, cm_ntn, cm_isb, cm_ntb, cm_int, cm_inl, cm_nit, cm_nil, bi_add, bi_sub, bi_mul, bi_fdiv, bi_mod, bi_cat, bi_catl, b_isi, b_lent, b_lenl, b_inti, b_intb, b_tupl, b_tupt, b_lisl, b_list, b_rep, b_all, b_any, b_abs, b_gcd, n_neg, n_not, n_andt, n_andf, n_ort, n_orf, n_ixt, n_ixl, pa_nil, pa_cons, wp_nm, it_t, it_l, it_z, it_zl, it_ztl, it_zlt, wi0, wiS, lp0, i_ty, i_cl, t_int, t_str, t_tup, t_lst, t_non, t_bl, t_dic, t_obj, c_int, c_tup, c_lst, c_non, c_str, c_bl, c_obj, te_int, te_tup, te_bool, te_list, te_str, isn_enc, isb_enc, isn_non, isn_bl, isn_int, isn_str, isn_tup, isn_lst, isn_obj, isb_bl, isb_int, isb_non, isb_str, isb_tup, isb_lst, isb_obj, eqD_isf, eqD_esf, i2, wipeS]
  rw [fil_nat (b := fun y => decide (DueP n f g s x y)) (g := fun y => .int (y : Int)) (fun y hy => by simp [startS, bdo, bde, ofs, ofn, gs0, gsS, set_nm, set_tp, bp_nm, bp_tp, bps0, bpsS, sq_nx, sq_rt, sq_bk, sq_ct, fi_rt, fi_nx, fi_err, tr_bl, tr_int, tr_tup, tr_lst, tr_non, cm_lt, cm_le, cm_gt, cm_ge, cm_eq, cm_ne, cm_isn, cm_ntn, cm_isb, cm_ntb, cm_int, cm_inl, cm_nit, cm_nil, bi_add, bi_sub, bi_mul, bi_fdiv, bi_mod, bi_cat, bi_catl, b_isi, b_lent, b_lenl, b_inti, b_intb, b_tupl, b_tupt, b_lisl, b_list, b_rep, b_all, b_any, b_abs, b_gcd, n_neg, n_not, n_andt, n_andf, n_ort, n_orf, n_ixt, n_ixl, pa_nil, pa_cons, wp_nm, it_t, it_l, it_z, it_zl, it_ztl, it_zlt, wi0, wiS, lp0, i_ty, i_cl, t_int, t_str, t_tup, t_lst, t_non, t_bl, t_dic, t_obj, c_int, c_tup, c_lst, c_non, c_str, c_bl, c_obj, te_int, te_tup, te_bool, te_list, te_str, isn_enc, isb_enc, isn_non, isn_bl, isn_int, isn_str, isn_tup, isn_lst, isn_obj, isb_bl, isb_int, isb_non, isb_str, isb_tup, isb_lst, isb_obj, eqD_isf, eqD_esf, ed y (mem y hy)]) (fun y hy _ => by simp [startS, bdo, bde, ofs, ofn, gs0, gsS, set_nm, set_tp, bp_nm, bp_tp, bps0, bpsS, sq_nx, sq_rt, sq_bk, sq_ct, fi_rt, fi_nx, fi_err, tr_bl, tr_int, tr_tup, tr_lst, tr_non, cm_lt, cm_le, cm_gt, cm_ge, cm_eq, cm_ne, cm_isn, cm_ntn, cm_isb, cm_ntb, cm_int, cm_inl, cm_nit, cm_nil, bi_add, bi_sub, bi_mul, bi_fdiv, bi_mod, bi_cat, bi_catl, b_isi, b_lent, b_lenl, b_inti, b_intb, b_tupl, b_tupt, b_lisl, b_list, b_rep, b_all, b_any, b_abs, b_gcd, n_neg, n_not, n_andt, n_andf, n_ort, n_orf, n_ixt, n_ixl, pa_nil, pa_cons, wp_nm, it_t, it_l, it_z, it_zl, it_ztl, it_zlt, wi0, wiS, lp0, i_ty, i_cl, t_int, t_str, t_tup, t_lst, t_non, t_bl, t_dic, t_obj, c_int, c_tup, c_lst, c_non, c_str, c_bl, c_obj, te_int, te_tup, te_bool, te_list, te_str, isn_enc, isb_enc, isn_non, isn_bl, isn_int, isn_str, isn_tup, isn_lst, isn_obj, isb_bl, isb_int, isb_non, isb_str, isb_tup, isb_lst, isb_obj, eqD_isf, eqD_esf])]
  rw [lst_ok (by rw [List.length_map]; exact sl_le (Nat.le_trans (List.length_filter_le _ _) (by rw [List.length_range']; omega)))]
  have hL : ((List.range' x (n - x)).filter fun y => decide (DueP n f g s x y)) = dues n f g s x := rfl
  rw [hL]
  by_cases h : dues n f g s x = []
  · simp [startS, bdo, bde, ofs, ofn, gs0, gsS, set_nm, set_tp, bp_nm, bp_tp, bps0, bpsS, sq_nx, sq_rt, sq_bk, sq_ct, fi_rt, fi_nx, fi_err, tr_bl, tr_int, tr_tup, tr_lst, tr_non, cm_lt, cm_le, cm_gt, cm_ge, cm_eq, cm_ne, cm_isn, cm_ntn, cm_isb, cm_ntb, cm_int, cm_inl, cm_nit, cm_nil, bi_add, bi_sub, bi_mul, bi_fdiv, bi_mod, bi_cat, bi_catl, b_isi, b_lent, b_lenl, b_inti, b_intb, b_tupl, b_tupt, b_lisl, b_list, b_rep, b_all, b_any, b_abs, b_gcd, n_neg, n_not, n_andt, n_andf, n_ort, n_orf, n_ixt, n_ixl, pa_nil, pa_cons, wp_nm, it_t, it_l, it_z, it_zl, it_ztl, it_zlt, wi0, wiS, lp0, i_ty, i_cl, t_int, t_str, t_tup, t_lst, t_non, t_bl, t_dic, t_obj, c_int, c_tup, c_lst, c_non, c_str, c_bl, c_obj, te_int, te_tup, te_bool, te_list, te_str, isn_enc, isb_enc, isn_non, isn_bl, isn_int, isn_str, isn_tup, isn_lst, isn_obj, isb_bl, isb_int, isb_non, isb_str, isb_tup, isb_lst, isb_obj, eqD_isf, eqD_esf, h, eqD_lnil]
  · simp [startS, bdo, bde, ofs, ofn, gs0, gsS, set_nm, set_tp, bp_nm, bp_tp, bps0, bpsS, sq_nx, sq_rt, sq_bk, sq_ct, fi_rt, fi_nx, fi_err, tr_bl, tr_int, tr_tup, tr_lst, tr_non, cm_lt, cm_le, cm_gt, cm_ge, cm_eq, cm_ne, cm_isn, cm_ntn, cm_isb, cm_ntb, cm_int, cm_inl, cm_nit, cm_nil, bi_add, bi_sub, bi_mul, bi_fdiv, bi_mod, bi_cat, bi_catl, b_isi, b_lent, b_lenl, b_inti, b_intb, b_tupl, b_tupt, b_lisl, b_list, b_rep, b_all, b_any, b_abs, b_gcd, n_neg, n_not, n_andt, n_andf, n_ort, n_orf, n_ixt, n_ixl, pa_nil, pa_cons, wp_nm, it_t, it_l, it_z, it_zl, it_ztl, it_zlt, wi0, wiS, lp0, i_ty, i_cl, t_int, t_str, t_tup, t_lst, t_non, t_bl, t_dic, t_obj, c_int, c_tup, c_lst, c_non, c_str, c_bl, c_obj, te_int, te_tup, te_bool, te_list, te_str, isn_enc, isb_enc, isn_non, isn_bl, isn_int, isn_str, isn_tup, isn_lst, isn_obj, isb_bl, isb_int, isb_non, isb_str, isb_tup, isb_lst, isb_obj, eqD_isf, eqD_esf, h, eqD_lnil]
theorem lp_nx {f : D → Sl → Mc.P → R (Fl × Sl)} {d : D} {r : List D} {s s' : Sl} {p p' : Mc.P} (h : f d s p = .ok (.nx, s') p') : loopR f (d :: r) s p = loopR f r s' p' := by
  show (f d s p).bd _ = _
  rw [h]; rfl
theorem lp_rt {f : D → Sl → Mc.P → R (Fl × Sl)} {d v : D} {r : List D} {s s' : Sl} {p p' : Mc.P} (h : f d s p = .ok (.rt v, s') p') : loopR f (d :: r) s p = .ok (.rt v, s') p' := by
  show (f d s p).bd _ = _
  rw [h]; rfl
theorem grows_kind {k1 : K1} (h1 : Sdue k1) {n : Nat} {f : Nat → Nat → Rat} {g : Nat → Rat} {r : D} {s : Str} (hn : n ≤ 1000) (S : SmallD n f g) (hr : RowX n g r) (hs : s ∈ kinds) (y3 y4 y5 : Option D) (q : Mc.P) :
    (∃ y4' y5', b__law_grows_1 kt wh k1 (.str s) [some (.tup (tabT n f)), some r, some (.int n), y3, y4, y5] q = .ok (.nx, [some (.tup (tabT n f)), some r, some (.int n), some (.str s), y4', y5']) q ∧ ∀ x, x < n → dues n f g s x = []) ∨ ∃ s', b__law_grows_1 kt wh k1 (.str s) [some (.tup (tabT n f)), some r, some (.int n), y3, y4, y5] q = .ok (.rt (.bl false), s') q ∧ ∃ x, x < n ∧ dues n f g s x ≠ [] := by
  have it := it_rng (n := n) (by omega)
  rcases loop_ret (f := b__law_grows_0 kt wh k1) (n := n) (p := q) (s := [some (.tup (tabT n f)), some r, some (.int n), some (.str s), y4, y5])
    (fun x z q' => ∃ y4 y5, z = [some (.tup (tabT n f)), some r, some (.int n), some (.str s), y4, y5] ∧ q' = q ∧ ∀ a, a < x → dues n f g s a = [])
    (fun v q' => q' = q ∧ v = .bl false ∧ ∃ x, x < n ∧ dues n f g s x ≠ [])
    (fun x z q' hx ⟨y4, y5, ez, eq, hc⟩ => by
      subst ez eq
      have e := grows_row (kt := kt) (wh := wh) h1 hn S hr hs hx y4 y5 q'
      by_cases h : dues n f g s x = []
      · rw [if_pos h] at e
        refine .inl ⟨_, q', e, _, _, rfl, rfl, fun a ha => ?_⟩
        by_cases hax : a = x
        · subst hax; exact h
        · exact hc a (by omega)
      · rw [if_neg h] at e
        exact .inr ⟨_, _, q', e, rfl, rfl, x, hx, h⟩)
    ⟨y4, y5, rfl, rfl, fun a h => by omega⟩ with ⟨s', q', e, y4', y5', rfl, rfl, hc⟩ | ⟨v, s', q', e, rfl, rfl, hx⟩
  · refine .inl ⟨y4', y5', ?_, hc⟩
    unfold b__law_grows_1
    simp [startS, bdo, bde, ofs, ofn, gs0, gsS, set_nm, set_tp, bp_nm, bp_tp, bps0, bpsS, sq_nx, sq_rt, sq_bk, sq_ct, fi_rt, fi_nx, fi_err, tr_bl, tr_int, tr_tup, tr_lst, tr_non, cm_lt, cm_le, cm_gt, cm_ge, cm_eq, cm_ne, cm_isn, cm_ntn, cm_isb, cm_ntb, cm_int, cm_inl, cm_nit, cm_nil, bi_add, bi_sub, bi_mul, bi_fdiv, bi_mod, bi_cat, bi_catl, b_isi, b_lent, b_lenl, b_inti, b_intb, b_tupl, b_tupt, b_lisl, b_list, b_rep, b_all, b_any, b_abs, b_gcd, n_neg, n_not, n_andt, n_andf, n_ort, n_orf, n_ixt, n_ixl, pa_nil, pa_cons, wp_nm, it_t, it_l, it_z, it_zl, it_ztl, it_zlt, wi0, wiS, lp0, i_ty, i_cl, t_int, t_str, t_tup, t_lst, t_non, t_bl, t_dic, t_obj, c_int, c_tup, c_lst, c_non, c_str, c_bl, c_obj, te_int, te_tup, te_bool, te_list, te_str, isn_enc, isb_enc, isn_non, isn_bl, isn_int, isn_str, isn_tup, isn_lst, isn_obj, isb_bl, isb_int, isb_non, isb_str, isb_tup, isb_lst, isb_obj, eqD_isf, eqD_esf, it, e]
  · refine .inr ⟨s', ?_, hx⟩
    unfold b__law_grows_1
    simp [startS, bdo, bde, ofs, ofn, gs0, gsS, set_nm, set_tp, bp_nm, bp_tp, bps0, bpsS, sq_nx, sq_rt, sq_bk, sq_ct, fi_rt, fi_nx, fi_err, tr_bl, tr_int, tr_tup, tr_lst, tr_non, cm_lt, cm_le, cm_gt, cm_ge, cm_eq, cm_ne, cm_isn, cm_ntn, cm_isb, cm_ntb, cm_int, cm_inl, cm_nit, cm_nil, bi_add, bi_sub, bi_mul, bi_fdiv, bi_mod, bi_cat, bi_catl, b_isi, b_lent, b_lenl, b_inti, b_intb, b_tupl, b_tupt, b_lisl, b_list, b_rep, b_all, b_any, b_abs, b_gcd, n_neg, n_not, n_andt, n_andf, n_ort, n_orf, n_ixt, n_ixl, pa_nil, pa_cons, wp_nm, it_t, it_l, it_z, it_zl, it_ztl, it_zlt, wi0, wiS, lp0, i_ty, i_cl, t_int, t_str, t_tup, t_lst, t_non, t_bl, t_dic, t_obj, c_int, c_tup, c_lst, c_non, c_str, c_bl, c_obj, te_int, te_tup, te_bool, te_list, te_str, isn_enc, isb_enc, isn_non, isn_bl, isn_int, isn_str, isn_tup, isn_lst, isn_obj, isb_bl, isb_int, isb_non, isb_str, isb_tup, isb_lst, isb_obj, eqD_isf, eqD_esf, it, e]
def Slgr (k : K1) : Prop := ∀ n f g r, n ≤ 1000 → SmallD n f g → (∀ a, a < n → f a a = 0) → RowX n g r → Says k [.tup (tabT n f), r] (Grows n f g)
theorem p__law_grows13 {k1 : K1} (h1 : Sdue k1) : Slgr (fk 0 6 (s__law_grows kt wh k1)) := fun n f g r hn S hd hr b hb p => by
  have k1m : Str.ofString "nought" ∈ kinds := List.mem_cons_self
  have k2m : Str.ofString "far" ∈ kinds := List.mem_cons_of_mem _ List.mem_cons_self
  have k3m : Str.ofString "near" ∈ kinds := List.mem_cons_of_mem _ (List.mem_cons_of_mem _ List.mem_cons_self)
  have no : ∀ s, s = Str.ofString "nought" ∨ s = Str.ofString "far" ∨ s = Str.ofString "near" → (∃ x, x < n ∧ dues n f g s x ≠ []) → b = false := fun s hs ⟨x, hx, h⟩ => by
    cases b with
    | false => rfl
    | true =>
      have G := hb.mp rfl
      exact absurd (dues_nil.mpr fun y hxy hy => (due_iff S hd).mpr G s hs x y hxy hy) h
  unfold fk s__law_grows
  simp [startS, bdo, bde, ofs, ofn, gs0, gsS, set_nm, set_tp, bp_nm, bp_tp, bps0, bpsS, sq_nx, sq_rt, sq_bk, sq_ct, fi_rt, fi_nx, fi_err, tr_bl, tr_int, tr_tup, tr_lst, tr_non, cm_lt, cm_le, cm_gt, cm_ge, cm_eq, cm_ne, cm_isn, cm_ntn, cm_isb, cm_ntb, cm_int, cm_inl, cm_nit, cm_nil, bi_add, bi_sub, bi_mul, bi_fdiv, bi_mod, bi_cat, bi_catl, b_isi, b_lent, b_lenl, b_inti, b_intb, b_tupl, b_tupt, b_lisl, b_list, b_rep, b_all, b_any, b_abs, b_gcd, n_neg, n_not, n_andt, n_andf, n_ort, n_orf, n_ixt, n_ixl, pa_nil, pa_cons, wp_nm, it_t, it_l, it_z, it_zl, it_ztl, it_zlt, wi0, wiS, lp0, i_ty, i_cl, t_int, t_str, t_tup, t_lst, t_non, t_bl, t_dic, t_obj, c_int, c_tup, c_lst, c_non, c_str, c_bl, c_obj, te_int, te_tup, te_bool, te_list, te_str, isn_enc, isb_enc, isn_non, isn_bl, isn_int, isn_str, isn_tup, isn_lst, isn_obj, isb_bl, isb_int, isb_non, isb_str, isb_tup, isb_lst, isb_obj, eqD_isf, eqD_esf, tabT_len]
  rcases grows_kind (kt := kt) (wh := wh) h1 hn S hr k1m none none none p with ⟨a4, a5, e1, c1⟩ | ⟨s', e1, hx⟩
  · rw [lp_nx e1]
    rcases grows_kind (kt := kt) (wh := wh) h1 hn S hr k2m (some (.str (Str.ofString "nought"))) a4 a5 p with ⟨b4, b5, e2, c2⟩ | ⟨s', e2, hx⟩
    · rw [lp_nx e2]
      rcases grows_kind (kt := kt) (wh := wh) h1 hn S hr k3m (some (.str (Str.ofString "far"))) b4 b5 p with ⟨d4, d5, e3, c3⟩ | ⟨s', e3, hx⟩
      · rw [lp_nx e3]
        have : b = true := hb.mpr ((due_iff S hd).mp fun s hs x y hxy hy => by
          rcases hs with rfl | rfl | rfl
          · exact dues_nil.mp (c1 x (by omega)) y hxy hy
          · exact dues_nil.mp (c2 x (by omega)) y hxy hy
          · exact dues_nil.mp (c3 x (by omega)) y hxy hy)
        simp [startS, bdo, bde, ofs, ofn, gs0, gsS, set_nm, set_tp, bp_nm, bp_tp, bps0, bpsS, sq_nx, sq_rt, sq_bk, sq_ct, fi_rt, fi_nx, fi_err, tr_bl, tr_int, tr_tup, tr_lst, tr_non, cm_lt, cm_le, cm_gt, cm_ge, cm_eq, cm_ne, cm_isn, cm_ntn, cm_isb, cm_ntb, cm_int, cm_inl, cm_nit, cm_nil, bi_add, bi_sub, bi_mul, bi_fdiv, bi_mod, bi_cat, bi_catl, b_isi, b_lent, b_lenl, b_inti, b_intb, b_tupl, b_tupt, b_lisl, b_list, b_rep, b_all, b_any, b_abs, b_gcd, n_neg, n_not, n_andt, n_andf, n_ort, n_orf, n_ixt, n_ixl, pa_nil, pa_cons, wp_nm, it_t, it_l, it_z, it_zl, it_ztl, it_zlt, wi0, wiS, lp0, i_ty, i_cl, t_int, t_str, t_tup, t_lst, t_non, t_bl, t_dic, t_obj, c_int, c_tup, c_lst, c_non, c_str, c_bl, c_obj, te_int, te_tup, te_bool, te_list, te_str, isn_enc, isb_enc, isn_non, isn_bl, isn_int, isn_str, isn_tup, isn_lst, isn_obj, isb_bl, isb_int, isb_non, isb_str, isb_tup, isb_lst, isb_obj, eqD_isf, eqD_esf, this]
      · rw [lp_rt e3, no _ (.inr (.inr rfl)) hx]
        simp [startS, bdo, bde, ofs, ofn, gs0, gsS, set_nm, set_tp, bp_nm, bp_tp, bps0, bpsS, sq_nx, sq_rt, sq_bk, sq_ct, fi_rt, fi_nx, fi_err, tr_bl, tr_int, tr_tup, tr_lst, tr_non, cm_lt, cm_le, cm_gt, cm_ge, cm_eq, cm_ne, cm_isn, cm_ntn, cm_isb, cm_ntb, cm_int, cm_inl, cm_nit, cm_nil, bi_add, bi_sub, bi_mul, bi_fdiv, bi_mod, bi_cat, bi_catl, b_isi, b_lent, b_lenl, b_inti, b_intb, b_tupl, b_tupt, b_lisl, b_list, b_rep, b_all, b_any, b_abs, b_gcd, n_neg, n_not, n_andt, n_andf, n_ort, n_orf, n_ixt, n_ixl, pa_nil, pa_cons, wp_nm, it_t, it_l, it_z, it_zl, it_ztl, it_zlt, wi0, wiS, lp0, i_ty, i_cl, t_int, t_str, t_tup, t_lst, t_non, t_bl, t_dic, t_obj, c_int, c_tup, c_lst, c_non, c_str, c_bl, c_obj, te_int, te_tup, te_bool, te_list, te_str, isn_enc, isb_enc, isn_non, isn_bl, isn_int, isn_str, isn_tup, isn_lst, isn_obj, isb_bl, isb_int, isb_non, isb_str, isb_tup, isb_lst, isb_obj, eqD_isf, eqD_esf]
    · rw [lp_rt e2, no _ (.inr (.inl rfl)) hx]
      simp [startS, bdo, bde, ofs, ofn, gs0, gsS, set_nm, set_tp, bp_nm, bp_tp, bps0, bpsS, sq_nx, sq_rt, sq_bk, sq_ct, fi_rt, fi_nx, fi_err, tr_bl, tr_int, tr_tup, tr_lst, tr_non, cm_lt, cm_le, cm_gt, cm_ge, cm_eq, cm_ne, cm_isn, cm_ntn, cm_isb, cm_ntb, cm_int, cm_inl, cm_nit, cm_nil, bi_add, bi_sub, bi_mul, bi_fdiv, bi_mod, bi_cat, bi_catl, b_isi, b_lent, b_lenl, b_inti, b_intb, b_tupl, b_tupt, b_lisl, b_list, b_rep, b_all, b_any, b_abs, b_gcd, n_neg, n_not, n_andt, n_andf, n_ort, n_orf, n_ixt, n_ixl, pa_nil, pa_cons, wp_nm, it_t, it_l, it_z, it_zl, it_ztl, it_zlt, wi0, wiS, lp0, i_ty, i_cl, t_int, t_str, t_tup, t_lst, t_non, t_bl, t_dic, t_obj, c_int, c_tup, c_lst, c_non, c_str, c_bl, c_obj, te_int, te_tup, te_bool, te_list, te_str, isn_enc, isb_enc, isn_non, isn_bl, isn_int, isn_str, isn_tup, isn_lst, isn_obj, isb_bl, isb_int, isb_non, isb_str, isb_tup, isb_lst, isb_obj, eqD_isf, eqD_esf]
  · rw [lp_rt e1, no _ (.inl rfl) hx]
    simp [startS, bdo, bde, ofs, ofn, gs0, gsS, set_nm, set_tp, bp_nm, bp_tp, bps0, bpsS, sq_nx, sq_rt, sq_bk, sq_ct, fi_rt, fi_nx, fi_err, tr_bl, tr_int, tr_tup, tr_lst, tr_non, cm_lt, cm_le, cm_gt, cm_ge, cm_eq, cm_ne, cm_isn, cm_ntn, cm_isb, cm_ntb, cm_int, cm_inl, cm_nit, cm_nil, bi_add, bi_sub, bi_mul, bi_fdiv, bi_mod, bi_cat, bi_catl, b_isi, b_lent, b_lenl, b_inti, b_intb, b_tupl, b_tupt, b_lisl, b_list, b_rep, b_all, b_any, b_abs, b_gcd, n_neg, n_not, n_andt, n_andf, n_ort, n_orf, n_ixt, n_ixl, pa_nil, pa_cons, wp_nm, it_t, it_l, it_z, it_zl, it_ztl, it_zlt, wi0, wiS, lp0, i_ty, i_cl, t_int, t_str, t_tup, t_lst, t_non, t_bl, t_dic, t_obj, c_int, c_tup, c_lst, c_non, c_str, c_bl, c_obj, te_int, te_tup, te_bool, te_list, te_str, isn_enc, isb_enc, isn_non, isn_bl, isn_int, isn_str, isn_tup, isn_lst, isn_obj, isb_bl, isb_int, isb_non, isb_str, isb_tup, isb_lst, isb_obj, eqD_isf, eqD_esf]
theorem eq_four {a b c : Str} (ha : Ok16 a) (hb : Ok16 b) (hc : Ok16 c) : eqD (.lst [.tup [.str a, .str b, .str c], .tup [.str a, .str b, .str c], .tup [.str a, .str b, .str c], .tup [.str a, .str b, .str c]]) (.lst [.tup [.str a, .str b, .str c], .tup [.str a, .str b, .str c], .tup [.str a, .str b, .str c], .tup [.str a, .str b, .str c]]) = some true := by
  have ok : ∀ x ∈ [a, b, c], Ok16 x := by simp [ha, hb, hc]
  have h1 := pys_strs [a, b, c]
  simp only [List.map_cons, List.map_nil] at h1
  obtain ⟨l1, l2⟩ := lay_strs ok
  have l3 := eqvAll_strs [a, b, c] [a, b, c]
  rw [decide_eq_true rfl] at l3
  simp only [List.map_cons, List.map_nil] at l1 l2 l3
  unfold eqD
  simp only [lnD, py, pys, h1]
  generalize [PyData.str a, PyData.str b, PyData.str c] = L at *
  have sh : SeqAt.shaped (.list [.tuple L, .tuple L, .tuple L, .tuple L]) = true := by
    unfold SeqAt.shaped
    rw [Bool.and_eq_true]
    refine ⟨?_, ?_⟩
    · simp only [PyData.canLay0, PyData.canLayAll0, l1, Bool.and_true]
    · simp only [PyData.depth, PyData.depthAll, l2]; rfl
  rw [if_pos ⟨sh, sh⟩]
  simp only [PyData.eqv, PyData.eqvAll, l3, Bool.and_true]
  rfl
def Sref13 (k : K1) : Prop := ∀ n f (g : Nat → Rat), 0 < n → n ≤ 8 → (∀ a, a < n → Sz 1500 (g a)) → Dr k [.pen, dist n f, .tup (rowD n g)] 3 (· = .bl true)
theorem p__law_refused13 {k1 k2 k3 k4 k5 : K1} (h1 : Sbent2 k1) (h2 : Sgrown k2) (h3 : Sgrows k3) (h4 : Sungr k4) (h5 : Suh k5) : Sref13 (fk 0 5 (s__law_refused ktabP wh k1 k2 k3 k4 k5)) := fun n f g n0 hn sg c p gd hc => by
  obtain ⟨z, p1, e1, hz, g1⟩ := h1 (rowD n g) (fun e he => by
    obtain ⟨i, hi, rfl⟩ := List.mem_map.mp he
    exact ⟨g i, rfl, sg i (List.mem_range.mp hi)⟩) (by rw [row_len]; omega) c p gd (by omega)
  rw [row_len] at hz
  obtain ⟨r1, ok1, _⟩ := hz.rp.rep (by decide) (by decide)
  have e2 := h2.no n f z hz.dat hz.shr hz.bad p1
  have e3 := h3.no n f z hz.dat hz.shr hz.bad p1
  have e4 := h4.no n f z hz.dat hz.shr hz.bad p1
  have e5 := h5.no n f z .non hz.dat hz.shr hz.bad p1
  have x5 := flt_err (p := p1) (flt_R (w := "row") r1)
  have q4 := eq_four (ok_of "row") (ok_of "row") ok1
  refine ⟨.bl true, p1, ?_, rfl, g1⟩
  unfold fk s__law_refused
  have z1 : 1 < sizeLine := sl_le (n := 2) (by omega)
  have z2 : 2 < sizeLine := sl_le (n := 3) (by omega)
  have z3 : 3 < sizeLine := sl_le (n := 4) (by omega)
  have rr : ∀ t : D, repR t p1 (.int 4) = .ok (.lst [t, t, t, t]) p1 := fun t => by
    unfold repR
    simp
    exact sl_le (by omega)
  simp [startS, bdo, bde, ofs, ofn, gs0, gsS, set_nm, set_tp, bp_nm, bp_tp, bps0, bpsS, sq_nx, sq_rt, sq_bk, sq_ct, fi_rt, fi_nx, fi_err, tr_bl, tr_int, tr_tup, tr_lst, tr_non, cm_lt, cm_le, cm_gt, cm_ge, cm_eq, cm_ne, cm_isn, cm_ntn, cm_isb, cm_ntb, cm_int, cm_inl, cm_nit, cm_nil, bi_add, bi_sub, bi_mul, bi_fdiv, bi_mod, bi_cat, bi_catl, b_isi, b_lent, b_lenl, b_inti, b_intb, b_tupl, b_tupt, b_lisl, b_list, b_rep, b_all, b_any, b_abs, b_gcd, n_neg, n_not, n_andt, n_andf, n_ort, n_orf, n_ixt, n_ixl, pa_nil, pa_cons, wp_nm, it_t, it_l, it_z, it_zl, it_ztl, it_zlt, wi0, wiS, lp0, i_ty, i_cl, t_int, t_str, t_tup, t_lst, t_non, t_bl, t_dic, t_obj, c_int, c_tup, c_lst, c_non, c_str, c_bl, c_obj, te_int, te_tup, te_bool, te_list, te_str, isn_enc, isb_enc, isn_non, isn_bl, isn_int, isn_str, isn_tup, isn_lst, isn_obj, isb_bl, isb_int, isb_non, isb_str, isb_tup, isb_lst, isb_obj, eqD_isf, eqD_esf, e1, e2, e3, e4, e5, x5, r1, gl0, glS, z1, z2, z3, rr, q4, wipeS]
theorem zip_tab (n : Nat) (f : Nat → Nat → Rat) (g : Nat → Rat) : zipD (tabT n f) (rowD n g) = (List.range n).map fun x => .tup [.tup (rowD n (f x)), enc (g x)] :=
  (zipD_map (fun x => .tup (rowD n (f x))) (fun x => enc (g x)) (List.range n))
theorem isi_dist13 (n : Nat) (f : Nat → Nat → Rat) : isCl "Distances" (dist n f) = some true := by kernel_rfl
theorem flt_M : faultD ktabP exMp = some (.tup [.str "many", .str "points", .int 9, .int 8]) := by kernel_rfl
theorem eq_M : eqD (.tup [.str "many", .str "points", .int 9, .int 8]) (.tup [.str "many", .str "points", .int 9, .int 8]) = some true := by kernel_rfl
def Slgright (k : K1) : Prop := ∀ n f g, n ≤ 8 → SmallD n f g → GrowV n f g → (∀ a, a < n → f a a = 0) → Pu k [.tup (tabT n f), dist n f, .tup (rowD n g)] (.bl true)
open Classical in
theorem p__law_grown_right {k1 k2 k3 : K1} (h1 : Slgr k1) (h2 : Sis 3 k2) (h3 : Sgrown k3) : Slgright (fk 0 7 (s__law_grown_right ktabP wh k1 k2 k3)) := fun n f g hn S V hd p => by
  have hr : RowX n g (.tup (rowD n g)) := .inl rfl
  have hl : RowX n g (.lst (rowD n g)) := .inr rfl
  have e1 := h1 n f g _ (by omega) S hd hr (decide (Grows n f g)) decide_eq_true_iff p
  by_cases G : Grows n f g
  · rw [decide_eq_true G] at e1
    by_cases n8 : n = 8
    · subst n8
      have e3 := h3.mn f g _ S G hr p
      have x3 := flt_err (p := p) flt_M
      unfold fk s__law_grown_right
      simp [startS, bdo, bde, ofs, ofn, gs0, gsS, set_nm, set_tp, bp_nm, bp_tp, bps0, bpsS, sq_nx, sq_rt, sq_bk, sq_ct, fi_rt, fi_nx, fi_err, tr_bl, tr_int, tr_tup, tr_lst, tr_non, cm_lt, cm_le, cm_gt, cm_ge, cm_eq, cm_ne, cm_isn, cm_ntn, cm_isb, cm_ntb, cm_int, cm_inl, cm_nit, cm_nil, bi_add, bi_sub, bi_mul, bi_fdiv, bi_mod, bi_cat, bi_catl, b_isi, b_lent, b_lenl, b_inti, b_intb, b_tupl, b_tupt, b_lisl, b_list, b_rep, b_all, b_any, b_abs, b_gcd, n_neg, n_not, n_andt, n_andf, n_ort, n_orf, n_ixt, n_ixl, pa_nil, pa_cons, wp_nm, it_t, it_l, it_z, it_zl, it_ztl, it_zlt, wi0, wiS, lp0, i_ty, i_cl, t_int, t_str, t_tup, t_lst, t_non, t_bl, t_dic, t_obj, c_int, c_tup, c_lst, c_non, c_str, c_bl, c_obj, te_int, te_tup, te_bool, te_list, te_str, isn_enc, isb_enc, isn_non, isn_bl, isn_int, isn_str, isn_tup, isn_lst, isn_obj, isb_bl, isb_int, isb_non, isb_str, isb_tup, isb_lst, isb_obj, eqD_isf, eqD_esf, e1, tabT_len, eqD_int, e3, x3, eq_M]
    · have e3 := h3.ok n f g _ (by omega) S V G hl p
      have n8' : ¬ (n : Int) = 8 := by omega
      have L : n + 1 ≤ sizeLine := sl_le (by omega)
      have e2 := h2 (.tup (tabT (n + 1) (gr n f g))) (pln_tab (by omega)) p
      have ea : attD (dist (n + 1) (gr n f g)) "rows" = some (.tup (tabT (n + 1) (gr n f g))) := att_dist _ _
      rw [gr_tab, enc_0] at e2 ea
      unfold fk s__law_grown_right
      simp [startS, bdo, bde, ofs, ofn, gs0, gsS, set_nm, set_tp, bp_nm, bp_tp, bps0, bpsS, sq_nx, sq_rt, sq_bk, sq_ct, fi_rt, fi_nx, fi_err, tr_bl, tr_int, tr_tup, tr_lst, tr_non, cm_lt, cm_le, cm_gt, cm_ge, cm_eq, cm_ne, cm_isn, cm_ntn, cm_isb, cm_ntb, cm_int, cm_inl, cm_nit, cm_nil, bi_add, bi_sub, bi_mul, bi_fdiv, bi_mod, bi_cat, bi_catl, b_isi, b_lent, b_lenl, b_inti, b_intb, b_tupl, b_tupt, b_lisl, b_list, b_rep, b_all, b_any, b_abs, b_gcd, n_neg, n_not, n_andt, n_andf, n_ort, n_orf, n_ixt, n_ixl, pa_nil, pa_cons, wp_nm, it_t, it_l, it_z, it_zl, it_ztl, it_zlt, wi0, wiS, lp0, i_ty, i_cl, t_int, t_str, t_tup, t_lst, t_non, t_bl, t_dic, t_obj, c_int, c_tup, c_lst, c_non, c_str, c_bl, c_obj, te_int, te_tup, te_bool, te_list, te_str, isn_enc, isb_enc, isn_non, isn_bl, isn_int, isn_str, isn_tup, isn_lst, isn_obj, isb_bl, isb_int, isb_non, isb_str, isb_tup, isb_lst, isb_obj, eqD_isf, eqD_esf, e1, tabT_len, eqD_int, n8, n8', hr.toL, e3, zip_tab, wipeS]
      rw [pr_true (e1 := fun x => .tup (rowD n (f x))) (e2 := fun x => enc (g x)) (v := fun x => .tup (rowD n (f x) ++ [enc (g x)])) (by rw [List.length_range]; omega) fun x hx => by
        simp [startS, bdo, bde, ofs, ofn, gs0, gsS, set_nm, set_tp, bp_nm, bp_tp, bps0, bpsS, sq_nx, sq_rt, sq_bk, sq_ct, fi_rt, fi_nx, fi_err, tr_bl, tr_int, tr_tup, tr_lst, tr_non, cm_lt, cm_le, cm_gt, cm_ge, cm_eq, cm_ne, cm_isn, cm_ntn, cm_isb, cm_ntb, cm_int, cm_inl, cm_nit, cm_nil, bi_add, bi_sub, bi_mul, bi_fdiv, bi_mod, bi_cat, bi_catl, b_isi, b_lent, b_lenl, b_inti, b_intb, b_tupl, b_tupt, b_lisl, b_list, b_rep, b_all, b_any, b_abs, b_gcd, n_neg, n_not, n_andt, n_andf, n_ort, n_orf, n_ixt, n_ixl, pa_nil, pa_cons, wp_nm, it_t, it_l, it_z, it_zl, it_ztl, it_zlt, wi0, wiS, lp0, i_ty, i_cl, t_int, t_str, t_tup, t_lst, t_non, t_bl, t_dic, t_obj, c_int, c_tup, c_lst, c_non, c_str, c_bl, c_obj, te_int, te_tup, te_bool, te_list, te_str, isn_enc, isb_enc, isn_non, isn_bl, isn_int, isn_str, isn_tup, isn_lst, isn_obj, isb_bl, isb_int, isb_non, isb_str, isb_tup, isb_lst, isb_obj, eqD_isf, eqD_esf, withP, wipeS, row_len, L]]
      simp [startS, bdo, bde, ofs, ofn, gs0, gsS, set_nm, set_tp, bp_nm, bp_tp, bps0, bpsS, sq_nx, sq_rt, sq_bk, sq_ct, fi_rt, fi_nx, fi_err, tr_bl, tr_int, tr_tup, tr_lst, tr_non, cm_lt, cm_le, cm_gt, cm_ge, cm_eq, cm_ne, cm_isn, cm_ntn, cm_isb, cm_ntb, cm_int, cm_inl, cm_nit, cm_nil, bi_add, bi_sub, bi_mul, bi_fdiv, bi_mod, bi_cat, bi_catl, b_isi, b_lent, b_lenl, b_inti, b_intb, b_tupl, b_tupt, b_lisl, b_list, b_rep, b_all, b_any, b_abs, b_gcd, n_neg, n_not, n_andt, n_andf, n_ort, n_orf, n_ixt, n_ixl, pa_nil, pa_cons, wp_nm, it_t, it_l, it_z, it_zl, it_ztl, it_zlt, wi0, wiS, lp0, i_ty, i_cl, t_int, t_str, t_tup, t_lst, t_non, t_bl, t_dic, t_obj, c_int, c_tup, c_lst, c_non, c_str, c_bl, c_obj, te_int, te_tup, te_bool, te_list, te_str, isn_enc, isb_enc, isn_non, isn_bl, isn_int, isn_str, isn_tup, isn_lst, isn_obj, isb_bl, isb_int, isb_non, isb_str, isb_tup, isb_lst, isb_obj, eqD_isf, eqD_esf, hr.toT, row_len, L, isi_dist13, ea, e2]
  · rw [decide_eq_false G] at e1
    have e3 := h3.un n f g _ (by omega) S G hr p
    have x3 := flt_err (p := p) (flt_U (w := "row"))
    have q3 := eq2s (ok_of "unlike") (ok_of "row")
    unfold fk s__law_grown_right
    simp [startS, bdo, bde, ofs, ofn, gs0, gsS, set_nm, set_tp, bp_nm, bp_tp, bps0, bpsS, sq_nx, sq_rt, sq_bk, sq_ct, fi_rt, fi_nx, fi_err, tr_bl, tr_int, tr_tup, tr_lst, tr_non, cm_lt, cm_le, cm_gt, cm_ge, cm_eq, cm_ne, cm_isn, cm_ntn, cm_isb, cm_ntb, cm_int, cm_inl, cm_nit, cm_nil, bi_add, bi_sub, bi_mul, bi_fdiv, bi_mod, bi_cat, bi_catl, b_isi, b_lent, b_lenl, b_inti, b_intb, b_tupl, b_tupt, b_lisl, b_list, b_rep, b_all, b_any, b_abs, b_gcd, n_neg, n_not, n_andt, n_andf, n_ort, n_orf, n_ixt, n_ixl, pa_nil, pa_cons, wp_nm, it_t, it_l, it_z, it_zl, it_ztl, it_zlt, wi0, wiS, lp0, i_ty, i_cl, t_int, t_str, t_tup, t_lst, t_non, t_bl, t_dic, t_obj, c_int, c_tup, c_lst, c_non, c_str, c_bl, c_obj, te_int, te_tup, te_bool, te_list, te_str, isn_enc, isb_enc, isn_non, isn_bl, isn_int, isn_str, isn_tup, isn_lst, isn_obj, isb_bl, isb_int, isb_non, isb_str, isb_tup, isb_lst, isb_obj, eqD_isf, eqD_esf, e1, e3, x3, q3]
theorem rr_step {k1 k2 k3 k4 k5 k6 k7 k8 k9 k10 : K1} (h1 : Sung k1) (h2 : Sdraw k2) (h6 : Ssays k6) (h7 : Sdue k7) (h10 : Suh k10) {n : Nat} {f : Nat → Nat → Rat} {g : Nat → Rat} {s : String} (hn : n ≤ 8) (S : SmallD n f g) (hs : Str.ofString s ∈ kinds) {x : Nat} (hx : x < n) {due told y8 y9 y10 y11 y12 : Option D} {c : Int} {p : Mc.P} (gd : Good c p) (hc : c + 1 < 1000000) :
    ∃ y9' p', b__law_row_right_0 kt wh k1 k2 k3 k4 k5 k6 k7 k8 k9 k10 (.int (x : Int)) [some .pen, some (.tup (tabT n f)), some (dist n f), some (.tup (rowD n g)), some (.int n), due, told, some (.str (Str.ofString s)), y8, y9, y10, y11, y12] p = .ok (.nx, [some .pen, some (.tup (tabT n f)), some (dist n f), some (.tup (rowD n g)), some (.int n), due, told, some (.str (Str.ofString s)), some (.int x), y9', y10, y11, y12]) p' ∧ Good (c + 1) p' := by
  classical
  have hr : RowX n g (.tup (rowD n g)) := .inl rfl
  obtain ⟨_, p', e2, ⟨i, rfl, i0, i1⟩, g2⟩ := h2 n (by omega) (by omega) c p gd hc
  obtain ⟨y, rfl⟩ : ∃ y : Nat, i = y := ⟨i.toNat, by omega⟩
  have hy : y < n := by omega
  have a1 := h10.ok n f g _ (Str.ofString s) x y (by omega) S hr hs hx hy (decide (DueP n f g (Str.ofString s) x y)) decide_eq_true_iff p'
  have a2 := h10.ok n f g _ (Str.ofString s) x x (by omega) S hr hs hx hx (decide (DueP n f g (Str.ofString s) x x)) decide_eq_true_iff p'
  have b1 := h7 n f g _ (Str.ofString s) x y S hr hs hx hy (decide (DueP n f g (Str.ofString s) x y)) decide_eq_true_iff p'
  have b2 := h7 n f g _ (Str.ofString s) x x S hr hs hx hx (decide (DueP n f g (Str.ofString s) x x)) decide_eq_true_iff p'
  have u1 := h1 s x y (by omega) (by omega) p'
  have u2 := h1 s x x (by omega) (by omega) p'
  refine ⟨some (.int y), p', ?_, g2⟩
  unfold b__law_row_right_0
  simp [startS, bdo, bde, ofs, ofn, gs0, gsS, set_nm, set_tp, bp_nm, bp_tp, bps0, bpsS, sq_nx, sq_rt, sq_bk, sq_ct, fi_rt, fi_nx, fi_err, tr_bl, tr_int, tr_tup, tr_lst, tr_non, cm_lt, cm_le, cm_gt, cm_ge, cm_eq, cm_ne, cm_isn, cm_ntn, cm_isb, cm_ntb, cm_int, cm_inl, cm_nit, cm_nil, bi_add, bi_sub, bi_mul, bi_fdiv, bi_mod, bi_cat, bi_catl, b_isi, b_lent, b_lenl, b_inti, b_intb, b_tupl, b_tupt, b_lisl, b_list, b_rep, b_all, b_any, b_abs, b_gcd, n_neg, n_not, n_andt, n_andf, n_ort, n_orf, n_ixt, n_ixl, pa_nil, pa_cons, wp_nm, it_t, it_l, it_z, it_zl, it_ztl, it_zlt, wi0, wiS, lp0, i_ty, i_cl, t_int, t_str, t_tup, t_lst, t_non, t_bl, t_dic, t_obj, c_int, c_tup, c_lst, c_non, c_str, c_bl, c_obj, te_int, te_tup, te_bool, te_list, te_str, isn_enc, isb_enc, isn_non, isn_bl, isn_int, isn_str, isn_tup, isn_lst, isn_obj, isb_bl, isb_int, isb_non, isb_str, isb_tup, isb_lst, isb_obj, eqD_isf, eqD_esf, e2, a1, a2, b1, b2, u1, u2, h6 _ p']
theorem rr_kind {k1 k2 k3 k4 k5 k6 k7 k8 k9 k10 : K1} (h1 : Sung k1) (h2 : Sdraw k2) (h6 : Ssays k6) (h7 : Sdue k7) (h10 : Suh k10) {n : Nat} {f : Nat → Nat → Rat} {g : Nat → Rat} {s : String} (hn : n ≤ 8) (S : SmallD n f g) (hs : Str.ofString s ∈ kinds) {due told y7 y8 y9 y10 y11 y12 : Option D} {c : Int} {p : Mc.P} (gd : Good c p) (hc : c + 8 < 1000000) :
    ∃ y8' y9' p', b__law_row_right_1 kt wh k1 k2 k3 k4 k5 k6 k7 k8 k9 k10 (.str (Str.ofString s)) [some .pen, some (.tup (tabT n f)), some (dist n f), some (.tup (rowD n g)), some (.int n), due, told, y7, y8, y9, y10, y11, y12] p = .ok (.nx, [some .pen, some (.tup (tabT n f)), some (dist n f), some (.tup (rowD n g)), some (.int n), due, told, some (.str (Str.ofString s)), y8', y9', y10, y11, y12]) p' ∧ Good (c + n) p' := by
  have it := it_rng (n := n) (by omega)
  obtain ⟨s', p', e, y8', y9', rfl, g'⟩ := loop_rng (f := b__law_row_right_0 kt wh k1 k2 k3 k4 k5 k6 k7 k8 k9 k10) (n := n) (p := p) (s := [some .pen, some (.tup (tabT n f)), some (dist n f), some (.tup (rowD n g)), some (.int n), due, told, some (.str (Str.ofString s)), y8, y9, y10, y11, y12])
    (fun x z q => ∃ y8 y9, z = [some .pen, some (.tup (tabT n f)), some (dist n f), some (.tup (rowD n g)), some (.int n), due, told, some (.str (Str.ofString s)), y8, y9, y10, y11, y12] ∧ Good (c + x) q)
    (fun x z q hx ⟨y8, y9, ez, gq⟩ => by
      subst ez
      obtain ⟨y9', q', e, g'⟩ := rr_step (kt := kt) (wh := wh) (k3 := k3) (k4 := k4) (k5 := k5) (k8 := k8) (k9 := k9) h1 h2 h6 h7 h10 hn S hs hx (due := due) (told := told) (y8 := y8) (y9 := y9) (y10 := y10) (y11 := y11) (y12 := y12) gq (by omega)
      exact ⟨_, q', e, _, _, rfl, g'.mono (by omega)⟩)
    ⟨y8, y9, rfl, gd.mono (by omega)⟩
  refine ⟨y8', y9', p', ?_, g'⟩
  unfold b__law_row_right_1
  simp [startS, bdo, bde, ofs, ofn, gs0, gsS, set_nm, set_tp, bp_nm, bp_tp, bps0, bpsS, sq_nx, sq_rt, sq_bk, sq_ct, fi_rt, fi_nx, fi_err, tr_bl, tr_int, tr_tup, tr_lst, tr_non, cm_lt, cm_le, cm_gt, cm_ge, cm_eq, cm_ne, cm_isn, cm_ntn, cm_isb, cm_ntb, cm_int, cm_inl, cm_nit, cm_nil, bi_add, bi_sub, bi_mul, bi_fdiv, bi_mod, bi_cat, bi_catl, b_isi, b_lent, b_lenl, b_inti, b_intb, b_tupl, b_tupt, b_lisl, b_list, b_rep, b_all, b_any, b_abs, b_gcd, n_neg, n_not, n_andt, n_andf, n_ort, n_orf, n_ixt, n_ixl, pa_nil, pa_cons, wp_nm, it_t, it_l, it_z, it_zl, it_ztl, it_zlt, wi0, wiS, lp0, i_ty, i_cl, t_int, t_str, t_tup, t_lst, t_non, t_bl, t_dic, t_obj, c_int, c_tup, c_lst, c_non, c_str, c_bl, c_obj, te_int, te_tup, te_bool, te_list, te_str, isn_enc, isb_enc, isn_non, isn_bl, isn_int, isn_str, isn_tup, isn_lst, isn_obj, isb_bl, isb_int, isb_non, isb_str, isb_tup, isb_lst, isb_obj, eqD_isf, eqD_esf, it, e]
theorem rr_kinds {k1 k2 k3 k4 k5 k6 k7 k8 k9 k10 : K1} (h1 : Sung k1) (h2 : Sdraw k2) (h6 : Ssays k6) (h7 : Sdue k7) (h10 : Suh k10) {n : Nat} {f : Nat → Nat → Rat} {g : Nat → Rat} (hn : n ≤ 8) (S : SmallD n f g) {due told y7 y8 y9 y10 y11 y12 : Option D} {c : Int} {p : Mc.P} (gd : Good c p) (hc : c + 32 < 1000000) :
    ∃ y7' y8' y9' p', loopR (b__law_row_right_1 kt wh k1 k2 k3 k4 k5 k6 k7 k8 k9 k10) [.str (Str.ofString "nought"), .str (Str.ofString "far"), .str (Str.ofString "near"), .str (Str.ofString "Far")] [some .pen, some (.tup (tabT n f)), some (dist n f), some (.tup (rowD n g)), some (.int n), due, told, y7, y8, y9, y10, y11, y12] p = .ok (.nx, [some .pen, some (.tup (tabT n f)), some (dist n f), some (.tup (rowD n g)), some (.int n), due, told, y7', y8', y9', y10, y11, y12]) p' ∧ Good (c + 32) p' := by
  have m1 : Str.ofString "nought" ∈ kinds := List.mem_cons_self
  have m2 : Str.ofString "far" ∈ kinds := List.mem_cons_of_mem _ List.mem_cons_self
  have m3 : Str.ofString "near" ∈ kinds := List.mem_cons_of_mem _ (List.mem_cons_of_mem _ List.mem_cons_self)
  have m4 : Str.ofString "Far" ∈ kinds := List.mem_cons_of_mem _ (List.mem_cons_of_mem _ (List.mem_cons_of_mem _ List.mem_cons_self))
  obtain ⟨a8, a9, p1, e1, g1⟩ := rr_kind (kt := kt) (wh := wh) (k3 := k3) (k4 := k4) (k5 := k5) (k8 := k8) (k9 := k9) h1 h2 h6 h7 h10 hn S m1 (due := due) (told := told) (y7 := y7) (y8 := y8) (y9 := y9) (y10 := y10) (y11 := y11) (y12 := y12) gd (by omega)
  obtain ⟨b8, b9, p2, e2, g2⟩ := rr_kind (kt := kt) (wh := wh) (k3 := k3) (k4 := k4) (k5 := k5) (k8 := k8) (k9 := k9) h1 h2 h6 h7 h10 hn S m2 (due := due) (told := told) (y7 := some (.str (Str.ofString "nought"))) (y8 := a8) (y9 := a9) (y10 := y10) (y11 := y11) (y12 := y12) g1 (by omega)
  obtain ⟨c8, c9, p3, e3, g3⟩ := rr_kind (kt := kt) (wh := wh) (k3 := k3) (k4 := k4) (k5 := k5) (k8 := k8) (k9 := k9) h1 h2 h6 h7 h10 hn S m3 (due := due) (told := told) (y7 := some (.str (Str.ofString "far"))) (y8 := b8) (y9 := b9) (y10 := y10) (y11 := y11) (y12 := y12) g2 (by omega)
  obtain ⟨d8, d9, p4, e4, g4⟩ := rr_kind (kt := kt) (wh := wh) (k3 := k3) (k4 := k4) (k5 := k5) (k8 := k8) (k9 := k9) h1 h2 h6 h7 h10 hn S m4 (due := due) (told := told) (y7 := some (.str (Str.ofString "near"))) (y8 := c8) (y9 := c9) (y10 := y10) (y11 := y11) (y12 := y12) g3 (by omega)
  refine ⟨some (.str (Str.ofString "Far")), d8, d9, p4, ?_, g4.mono (by omega)⟩
  rw [lp_nx e1, lp_nx e2, lp_nx e3, lp_nx e4]
  rfl
def odd5 (n : Nat) : List D := [.int (-1), .int n, .non, .bl true, .str "0"]
theorem odd5_d {n : Nat} (hn : n ≤ 8) {d : D} (h : d ∈ odd5 n) : Dat d ∧ isL d = false ∧ isIx n d = false := by
  simp only [odd5, List.mem_cons, List.not_mem_nil, or_false] at h
  rcases h with rfl | rfl | rfl | rfl | rfl
  · exact ⟨dat_int (by decide), rfl, rfl⟩
  · exact ⟨dat_nat (by omega), rfl, by unfold isIx; simp⟩
  · exact ⟨by simp only [Dat], rfl, rfl⟩
  · exact ⟨by simp only [Dat], rfl, rfl⟩
  · exact ⟨by simp only [Dat], rfl, rfl⟩
theorem Sung_of {k : K1} (h : Sungd k) : Sung k := fun s x y hx hy => h (.str s) (.int x) (.int y) (by simp only [Dat]) rfl (dat_nat hx) rfl (dat_nat hy) rfl
theorem due_d {n : Nat} {f : Nat → Nat → Rat} {g : Nat → Rat} {v : D} (h : Due n f g v) : ∃ (s : String) (x y : Nat), v = ungO (.str (Str.ofString s)) (.int x) (.int y) ∧ Str.ofString s ∈ kinds ∧ x ≤ y ∧ y < n ∧ DueP n f g (Str.ofString s) x y := by
  cases h with
  | @nought x hx h => exact ⟨"nought", x, x, rfl, List.mem_cons_self, Nat.le_refl _, hx, .inl ⟨rfl, rfl, h⟩⟩
  | @far x y hxy hy h => exact ⟨"far", x, y, rfl, List.mem_cons_of_mem _ List.mem_cons_self, hxy, hy, .inr (.inl ⟨rfl, hxy, h⟩)⟩
  | @near x y hxy hy h => exact ⟨"near", x, y, rfl, List.mem_cons_of_mem _ (List.mem_cons_of_mem _ List.mem_cons_self), hxy, hy, .inr (.inr ⟨rfl, hxy, h⟩)⟩
theorem isU_n : isCl "Ungrown" (.non : D) = some false := by kernel_rfl
theorem isU_b : isCl "Ungrown" (.bl true : D) = some false := by kernel_rfl
theorem isU_tp (l : List D) : isCl "Ungrown" (.tup l) = some false := by kernel_rfl
def Slrr (k : K1) : Prop := ∀ n f g, 0 < n → n ≤ 8 → SmallD n f g → (∀ a, a < n → f a a = 0) → Dr k [.pen, .tup (tabT n f), dist n f, .tup (rowD n g)] 40 (· = .bl true)
open Classical in
theorem p__law_row_right13 {k1 k2 k3 k4 k5 k6 k7 k8 k9 k10 : K1} (h1 : Sungd k1) (h2 : Sdraw k2) (h3 : Slgr k3) (h4 : SisI k4) (h5 : Spick k5) (h6 : Ssays k6) (h7 : Sdue k7) (h8 : Sgrows k8) (h9 : Sungr k9) (h10 : Suh k10) : Slrr (fk 0 13 (s__law_row_right kt wh k1 k2 k3 k4 k5 k6 k7 k8 k9 k10)) := fun n f g n0 hn S hd c p gd hc => by
  have hr : RowX n g (.tup (rowD n g)) := .inl rfl
  have hl : RowX n g (.lst (rowD n g)) := .inr rfl
  have e3 := h3 n f g _ (by omega) S hd hr (decide (Grows n f g)) decide_eq_true_iff p
  have e8 := h8.ok n f g _ (by omega) S hl (decide (Grows n f g)) decide_eq_true_iff p
  have out : ∀ told : D, ∃ y7 y8 y9 odd p1 p2, loopR (b__law_row_right_1 kt wh k1 k2 k3 k4 k5 k6 k7 k8 k9 k10) [.str (Str.ofString "nought"), .str (Str.ofString "far"), .str (Str.ofString "near"), .str (Str.ofString "Far")] [some .pen, some (.tup (tabT n f)), some (dist n f), some (.tup (rowD n g)), some (.int n), some (.bl (decide (Grows n f g))), some told, none, none, none, none, none, none] p = .ok (.nx, [some .pen, some (.tup (tabT n f)), some (dist n f), some (.tup (rowD n g)), some (.int n), some (.bl (decide (Grows n f g))), some told, y7, y8, y9, none, none, none]) p1 ∧
      k5 [.pen, .lst [.int (-1), .int n, .non, .bl true, .str "0"]] p1 = .ok odd p2 ∧ odd ∈ odd5 n ∧ Good (c + 40) p2 := fun told => by
    obtain ⟨y7, y8, y9, p1, e, g1⟩ := rr_kinds (kt := kt) (wh := wh) (k3 := k3) (k4 := k4) (k5 := k5) (k8 := k8) (k9 := k9) (Sung_of h1) h2 h6 h7 h10 hn S (due := some (.bl (decide (Grows n f g)))) (told := some told) (y7 := none) (y8 := none) (y9 := none) (y10 := none) (y11 := none) (y12 := none) gd (by omega)
    obtain ⟨odd, p2, e2, ho, g2⟩ := (h5 (odd5 n) (by simp [odd5]) (by simp [odd5])).1 _ p1 g1 (by omega)
    exact ⟨y7, y8, y9, odd, p1, p2, e, e2, ho, g2.mono (by omega)⟩
  have z0 : Dat (.int 0) := dat_nat (x := 0) (by omega)
  have zx : isIx n (.int 0) = true := isIx_nat (x := 0) n0
  have m1 : Dat (.str (Str.ofString "x")) := by simp only [Dat]
  have ho : ∀ odd ∈ odd5 n, ∀ q, (k1 [.str (Str.ofString "nought"), odd, odd] q = .ok (ungO (.str (Str.ofString "nought")) odd odd) q ∧ k1 [.str (Str.ofString "near"), .int 0, odd] q = .ok (ungO (.str (Str.ofString "near")) (.int 0) odd) q ∧ k1 [.non, .int 0, .int 0] q = .ok (ungO .non (.int 0) (.int 0)) q) ∧
      (k10 [dist n f, .tup (rowD n g), .non] q = .ok (.bl false) q ∧ k10 [dist n f, .tup (rowD n g), .tup [.str (Str.ofString "far"), .int 0, .int 0]] q = .ok (.bl false) q ∧ k10 [dist n f, .tup (rowD n g), ungO (.str (Str.ofString "nought")) odd odd] q = .ok (.bl false) q ∧ k10 [dist n f, .tup (rowD n g), ungO (.str (Str.ofString "near")) (.int 0) odd] q = .ok (.bl false) q ∧
        k10 [dist n f, .tup (rowD n g), ungO .non (.int 0) (.int 0)] q = .ok (.bl false) q ∧ k10 [dist n f, .tup (rowD n g), .bl true] q = .ok (.bl false) q) := fun odd hodd q => by
    obtain ⟨o1, o2, o3⟩ := odd5_d hn hodd
    refine ⟨⟨?_, ?_, ?_⟩, ?_, ?_, ?_, ?_, ?_, ?_⟩
    · exact h1 _ _ _ (by simp only [Dat]) rfl o1 o2 o1 o2 q
    · exact h1 _ _ _ (by simp only [Dat]) rfl z0 rfl o1 o2 q
    · exact h1 _ _ _ (by simp only [Dat]) rfl z0 rfl z0 rfl q
    · exact h10.nc n f g _ _ (by omega) S hr isU_n q
    · exact h10.nc n f g _ _ (by omega) S hr (isU_tp _) q
    · exact h10.i1 n f g _ _ _ _ (by omega) S hr o1 o3 q
    · exact h10.i2 n f g _ _ _ _ (by omega) S hr z0 zx o1 o3 q
    · exact h10.nk n f g _ _ _ (by omega) S hr q
    · exact h10.nc n f g _ _ (by omega) S hr isU_b q
  by_cases G : Grows n f g
  · rw [decide_eq_true G] at e3 e8 out
    rcases h9.ok n f g _ (by omega) S hr p with ⟨_, e9⟩ | ⟨ng, _⟩
    · obtain ⟨y7, y8, y9, odd, p1, p2, e, e5, hodd, g2⟩ := out .non
      obtain ⟨⟨u1, u2, u3⟩, v1, v2, v3, v4, v5, v6⟩ := ho odd hodd p2
      refine ⟨.bl true, p2, ?_, rfl, g2⟩
      unfold fk s__law_row_right
      simp [startS, bdo, bde, ofs, ofn, gs0, gsS, set_nm, set_tp, bp_nm, bp_tp, bps0, bpsS, sq_nx, sq_rt, sq_bk, sq_ct, fi_rt, fi_nx, fi_err, tr_bl, tr_int, tr_tup, tr_lst, tr_non, cm_lt, cm_le, cm_gt, cm_ge, cm_eq, cm_ne, cm_isn, cm_ntn, cm_isb, cm_ntb, cm_int, cm_inl, cm_nit, cm_nil, bi_add, bi_sub, bi_mul, bi_fdiv, bi_mod, bi_cat, bi_catl, b_isi, b_lent, b_lenl, b_inti, b_intb, b_tupl, b_tupt, b_lisl, b_list, b_rep, b_all, b_any, b_abs, b_gcd, n_neg, n_not, n_andt, n_andf, n_ort, n_orf, n_ixt, n_ixl, pa_nil, pa_cons, wp_nm, it_t, it_l, it_z, it_zl, it_ztl, it_zlt, wi0, wiS, lp0, i_ty, i_cl, t_int, t_str, t_tup, t_lst, t_non, t_bl, t_dic, t_obj, c_int, c_tup, c_lst, c_non, c_str, c_bl, c_obj, te_int, te_tup, te_bool, te_list, te_str, isn_enc, isb_enc, isn_non, isn_bl, isn_int, isn_str, isn_tup, isn_lst, isn_obj, isb_bl, isb_int, isb_non, isb_str, isb_tup, isb_lst, isb_obj, eqD_isf, eqD_esf, e3, tabT_len, e9, hr.toL, e8, h6 true p, eqD_bl, parR, setAll, e, e5, u1, u2, u3, isn_non]
      rw [fil_no (fun d hd => by
        simp only [List.mem_cons, List.not_mem_nil, or_false] at hd
        rcases hd with rfl | rfl | rfl | rfl | rfl | rfl
        · simp [startS, bdo, bde, ofs, ofn, gs0, gsS, set_nm, set_tp, bp_nm, bp_tp, bps0, bpsS, sq_nx, sq_rt, sq_bk, sq_ct, fi_rt, fi_nx, fi_err, tr_bl, tr_int, tr_tup, tr_lst, tr_non, cm_lt, cm_le, cm_gt, cm_ge, cm_eq, cm_ne, cm_isn, cm_ntn, cm_isb, cm_ntb, cm_int, cm_inl, cm_nit, cm_nil, bi_add, bi_sub, bi_mul, bi_fdiv, bi_mod, bi_cat, bi_catl, b_isi, b_lent, b_lenl, b_inti, b_intb, b_tupl, b_tupt, b_lisl, b_list, b_rep, b_all, b_any, b_abs, b_gcd, n_neg, n_not, n_andt, n_andf, n_ort, n_orf, n_ixt, n_ixl, pa_nil, pa_cons, wp_nm, it_t, it_l, it_z, it_zl, it_ztl, it_zlt, wi0, wiS, lp0, i_ty, i_cl, t_int, t_str, t_tup, t_lst, t_non, t_bl, t_dic, t_obj, c_int, c_tup, c_lst, c_non, c_str, c_bl, c_obj, te_int, te_tup, te_bool, te_list, te_str, isn_enc, isb_enc, isn_non, isn_bl, isn_int, isn_str, isn_tup, isn_lst, isn_obj, isb_bl, isb_int, isb_non, isb_str, isb_tup, isb_lst, isb_obj, eqD_isf, eqD_esf, withP, wipeS, v1]
        · simp [startS, bdo, bde, ofs, ofn, gs0, gsS, set_nm, set_tp, bp_nm, bp_tp, bps0, bpsS, sq_nx, sq_rt, sq_bk, sq_ct, fi_rt, fi_nx, fi_err, tr_bl, tr_int, tr_tup, tr_lst, tr_non, cm_lt, cm_le, cm_gt, cm_ge, cm_eq, cm_ne, cm_isn, cm_ntn, cm_isb, cm_ntb, cm_int, cm_inl, cm_nit, cm_nil, bi_add, bi_sub, bi_mul, bi_fdiv, bi_mod, bi_cat, bi_catl, b_isi, b_lent, b_lenl, b_inti, b_intb, b_tupl, b_tupt, b_lisl, b_list, b_rep, b_all, b_any, b_abs, b_gcd, n_neg, n_not, n_andt, n_andf, n_ort, n_orf, n_ixt, n_ixl, pa_nil, pa_cons, wp_nm, it_t, it_l, it_z, it_zl, it_ztl, it_zlt, wi0, wiS, lp0, i_ty, i_cl, t_int, t_str, t_tup, t_lst, t_non, t_bl, t_dic, t_obj, c_int, c_tup, c_lst, c_non, c_str, c_bl, c_obj, te_int, te_tup, te_bool, te_list, te_str, isn_enc, isb_enc, isn_non, isn_bl, isn_int, isn_str, isn_tup, isn_lst, isn_obj, isb_bl, isb_int, isb_non, isb_str, isb_tup, isb_lst, isb_obj, eqD_isf, eqD_esf, withP, wipeS, v2]
        · simp [startS, bdo, bde, ofs, ofn, gs0, gsS, set_nm, set_tp, bp_nm, bp_tp, bps0, bpsS, sq_nx, sq_rt, sq_bk, sq_ct, fi_rt, fi_nx, fi_err, tr_bl, tr_int, tr_tup, tr_lst, tr_non, cm_lt, cm_le, cm_gt, cm_ge, cm_eq, cm_ne, cm_isn, cm_ntn, cm_isb, cm_ntb, cm_int, cm_inl, cm_nit, cm_nil, bi_add, bi_sub, bi_mul, bi_fdiv, bi_mod, bi_cat, bi_catl, b_isi, b_lent, b_lenl, b_inti, b_intb, b_tupl, b_tupt, b_lisl, b_list, b_rep, b_all, b_any, b_abs, b_gcd, n_neg, n_not, n_andt, n_andf, n_ort, n_orf, n_ixt, n_ixl, pa_nil, pa_cons, wp_nm, it_t, it_l, it_z, it_zl, it_ztl, it_zlt, wi0, wiS, lp0, i_ty, i_cl, t_int, t_str, t_tup, t_lst, t_non, t_bl, t_dic, t_obj, c_int, c_tup, c_lst, c_non, c_str, c_bl, c_obj, te_int, te_tup, te_bool, te_list, te_str, isn_enc, isb_enc, isn_non, isn_bl, isn_int, isn_str, isn_tup, isn_lst, isn_obj, isb_bl, isb_int, isb_non, isb_str, isb_tup, isb_lst, isb_obj, eqD_isf, eqD_esf, withP, wipeS, v3]
        · simp [startS, bdo, bde, ofs, ofn, gs0, gsS, set_nm, set_tp, bp_nm, bp_tp, bps0, bpsS, sq_nx, sq_rt, sq_bk, sq_ct, fi_rt, fi_nx, fi_err, tr_bl, tr_int, tr_tup, tr_lst, tr_non, cm_lt, cm_le, cm_gt, cm_ge, cm_eq, cm_ne, cm_isn, cm_ntn, cm_isb, cm_ntb, cm_int, cm_inl, cm_nit, cm_nil, bi_add, bi_sub, bi_mul, bi_fdiv, bi_mod, bi_cat, bi_catl, b_isi, b_lent, b_lenl, b_inti, b_intb, b_tupl, b_tupt, b_lisl, b_list, b_rep, b_all, b_any, b_abs, b_gcd, n_neg, n_not, n_andt, n_andf, n_ort, n_orf, n_ixt, n_ixl, pa_nil, pa_cons, wp_nm, it_t, it_l, it_z, it_zl, it_ztl, it_zlt, wi0, wiS, lp0, i_ty, i_cl, t_int, t_str, t_tup, t_lst, t_non, t_bl, t_dic, t_obj, c_int, c_tup, c_lst, c_non, c_str, c_bl, c_obj, te_int, te_tup, te_bool, te_list, te_str, isn_enc, isb_enc, isn_non, isn_bl, isn_int, isn_str, isn_tup, isn_lst, isn_obj, isb_bl, isb_int, isb_non, isb_str, isb_tup, isb_lst, isb_obj, eqD_isf, eqD_esf, withP, wipeS, v4]
        · simp [startS, bdo, bde, ofs, ofn, gs0, gsS, set_nm, set_tp, bp_nm, bp_tp, bps0, bpsS, sq_nx, sq_rt, sq_bk, sq_ct, fi_rt, fi_nx, fi_err, tr_bl, tr_int, tr_tup, tr_lst, tr_non, cm_lt, cm_le, cm_gt, cm_ge, cm_eq, cm_ne, cm_isn, cm_ntn, cm_isb, cm_ntb, cm_int, cm_inl, cm_nit, cm_nil, bi_add, bi_sub, bi_mul, bi_fdiv, bi_mod, bi_cat, bi_catl, b_isi, b_lent, b_lenl, b_inti, b_intb, b_tupl, b_tupt, b_lisl, b_list, b_rep, b_all, b_any, b_abs, b_gcd, n_neg, n_not, n_andt, n_andf, n_ort, n_orf, n_ixt, n_ixl, pa_nil, pa_cons, wp_nm, it_t, it_l, it_z, it_zl, it_ztl, it_zlt, wi0, wiS, lp0, i_ty, i_cl, t_int, t_str, t_tup, t_lst, t_non, t_bl, t_dic, t_obj, c_int, c_tup, c_lst, c_non, c_str, c_bl, c_obj, te_int, te_tup, te_bool, te_list, te_str, isn_enc, isb_enc, isn_non, isn_bl, isn_int, isn_str, isn_tup, isn_lst, isn_obj, isb_bl, isb_int, isb_non, isb_str, isb_tup, isb_lst, isb_obj, eqD_isf, eqD_esf, withP, wipeS, v5]
        · simp [startS, bdo, bde, ofs, ofn, gs0, gsS, set_nm, set_tp, bp_nm, bp_tp, bps0, bpsS, sq_nx, sq_rt, sq_bk, sq_ct, fi_rt, fi_nx, fi_err, tr_bl, tr_int, tr_tup, tr_lst, tr_non, cm_lt, cm_le, cm_gt, cm_ge, cm_eq, cm_ne, cm_isn, cm_ntn, cm_isb, cm_ntb, cm_int, cm_inl, cm_nit, cm_nil, bi_add, bi_sub, bi_mul, bi_fdiv, bi_mod, bi_cat, bi_catl, b_isi, b_lent, b_lenl, b_inti, b_intb, b_tupl, b_tupt, b_lisl, b_list, b_rep, b_all, b_any, b_abs, b_gcd, n_neg, n_not, n_andt, n_andf, n_ort, n_orf, n_ixt, n_ixl, pa_nil, pa_cons, wp_nm, it_t, it_l, it_z, it_zl, it_ztl, it_zlt, wi0, wiS, lp0, i_ty, i_cl, t_int, t_str, t_tup, t_lst, t_non, t_bl, t_dic, t_obj, c_int, c_tup, c_lst, c_non, c_str, c_bl, c_obj, te_int, te_tup, te_bool, te_list, te_str, isn_enc, isb_enc, isn_non, isn_bl, isn_int, isn_str, isn_tup, isn_lst, isn_obj, isb_bl, isb_int, isb_non, isb_str, isb_tup, isb_lst, isb_obj, eqD_isf, eqD_esf, withP, wipeS, v6])]
      simp [startS, bdo, bde, ofs, ofn, gs0, gsS, set_nm, set_tp, bp_nm, bp_tp, bps0, bpsS, sq_nx, sq_rt, sq_bk, sq_ct, fi_rt, fi_nx, fi_err, tr_bl, tr_int, tr_tup, tr_lst, tr_non, cm_lt, cm_le, cm_gt, cm_ge, cm_eq, cm_ne, cm_isn, cm_ntn, cm_isb, cm_ntb, cm_int, cm_inl, cm_nit, cm_nil, bi_add, bi_sub, bi_mul, bi_fdiv, bi_mod, bi_cat, bi_catl, b_isi, b_lent, b_lenl, b_inti, b_intb, b_tupl, b_tupt, b_lisl, b_list, b_rep, b_all, b_any, b_abs, b_gcd, n_neg, n_not, n_andt, n_andf, n_ort, n_orf, n_ixt, n_ixl, pa_nil, pa_cons, wp_nm, it_t, it_l, it_z, it_zl, it_ztl, it_zlt, wi0, wiS, lp0, i_ty, i_cl, t_int, t_str, t_tup, t_lst, t_non, t_bl, t_dic, t_obj, c_int, c_tup, c_lst, c_non, c_str, c_bl, c_obj, te_int, te_tup, te_bool, te_list, te_str, isn_enc, isb_enc, isn_non, isn_bl, isn_int, isn_str, isn_tup, isn_lst, isn_obj, isb_bl, isb_int, isb_non, isb_str, isb_tup, isb_lst, isb_obj, eqD_isf, eqD_esf, lst_0, eqD_lnil]
    · exact absurd G ng
  · rw [decide_eq_false G] at e3 e8 out
    rcases h9.ok n f g _ (by omega) S hr p with ⟨G2, _⟩ | ⟨_, v, dv, e9⟩
    · exact absurd G2 G
    · obtain ⟨s, x, y, rfl, hs, hxy, hy, hD⟩ := due_d dv
      obtain ⟨y7, y8, y9, odd, p1, p2, e, e5, hodd, g2⟩ := out (ungO (.str (Str.ofString s)) (.int x) (.int y))
      obtain ⟨⟨u1, u2, u3⟩, v1, v2, v3, v4, v5, v6⟩ := ho odd hodd p2
      have w1 := h4 (.int x) (dat_nat (by omega)) p
      have w2 := h4 (.int y) (dat_nat (by omega)) p
      have e7 := h7 n f g _ (Str.ofString s) x y S hr hs (by omega) hy true ⟨fun _ => hD, fun _ => rfl⟩ p
      refine ⟨.bl true, p2, ?_, rfl, g2⟩
      unfold fk s__law_row_right
      simp [startS, bdo, bde, ofs, ofn, gs0, gsS, set_nm, set_tp, bp_nm, bp_tp, bps0, bpsS, sq_nx, sq_rt, sq_bk, sq_ct, fi_rt, fi_nx, fi_err, tr_bl, tr_int, tr_tup, tr_lst, tr_non, cm_lt, cm_le, cm_gt, cm_ge, cm_eq, cm_ne, cm_isn, cm_ntn, cm_isb, cm_ntb, cm_int, cm_inl, cm_nit, cm_nil, bi_add, bi_sub, bi_mul, bi_fdiv, bi_mod, bi_cat, bi_catl, b_isi, b_lent, b_lenl, b_inti, b_intb, b_tupl, b_tupt, b_lisl, b_list, b_rep, b_all, b_any, b_abs, b_gcd, n_neg, n_not, n_andt, n_andf, n_ort, n_orf, n_ixt, n_ixl, pa_nil, pa_cons, wp_nm, it_t, it_l, it_z, it_zl, it_ztl, it_zlt, wi0, wiS, lp0, i_ty, i_cl, t_int, t_str, t_tup, t_lst, t_non, t_bl, t_dic, t_obj, c_int, c_tup, c_lst, c_non, c_str, c_bl, c_obj, te_int, te_tup, te_bool, te_list, te_str, isn_enc, isb_enc, isn_non, isn_bl, isn_int, isn_str, isn_tup, isn_lst, isn_obj, isb_bl, isb_int, isb_non, isb_str, isb_tup, isb_lst, isb_obj, eqD_isf, eqD_esf, e3, tabT_len, e9, hr.toL, e8, h6 false p, eqD_bl, parR, setAll, e, e5, u1, u2, u3, isn_ung, isU_u, att_u1, att_u2, att_u3, w1, w2, isI, hxy, hy, e7]
      rw [fil_no (fun d hd => by
        simp only [List.mem_cons, List.not_mem_nil, or_false] at hd
        rcases hd with rfl | rfl | rfl | rfl | rfl | rfl
        · simp [startS, bdo, bde, ofs, ofn, gs0, gsS, set_nm, set_tp, bp_nm, bp_tp, bps0, bpsS, sq_nx, sq_rt, sq_bk, sq_ct, fi_rt, fi_nx, fi_err, tr_bl, tr_int, tr_tup, tr_lst, tr_non, cm_lt, cm_le, cm_gt, cm_ge, cm_eq, cm_ne, cm_isn, cm_ntn, cm_isb, cm_ntb, cm_int, cm_inl, cm_nit, cm_nil, bi_add, bi_sub, bi_mul, bi_fdiv, bi_mod, bi_cat, bi_catl, b_isi, b_lent, b_lenl, b_inti, b_intb, b_tupl, b_tupt, b_lisl, b_list, b_rep, b_all, b_any, b_abs, b_gcd, n_neg, n_not, n_andt, n_andf, n_ort, n_orf, n_ixt, n_ixl, pa_nil, pa_cons, wp_nm, it_t, it_l, it_z, it_zl, it_ztl, it_zlt, wi0, wiS, lp0, i_ty, i_cl, t_int, t_str, t_tup, t_lst, t_non, t_bl, t_dic, t_obj, c_int, c_tup, c_lst, c_non, c_str, c_bl, c_obj, te_int, te_tup, te_bool, te_list, te_str, isn_enc, isb_enc, isn_non, isn_bl, isn_int, isn_str, isn_tup, isn_lst, isn_obj, isb_bl, isb_int, isb_non, isb_str, isb_tup, isb_lst, isb_obj, eqD_isf, eqD_esf, withP, wipeS, v1]
        · simp [startS, bdo, bde, ofs, ofn, gs0, gsS, set_nm, set_tp, bp_nm, bp_tp, bps0, bpsS, sq_nx, sq_rt, sq_bk, sq_ct, fi_rt, fi_nx, fi_err, tr_bl, tr_int, tr_tup, tr_lst, tr_non, cm_lt, cm_le, cm_gt, cm_ge, cm_eq, cm_ne, cm_isn, cm_ntn, cm_isb, cm_ntb, cm_int, cm_inl, cm_nit, cm_nil, bi_add, bi_sub, bi_mul, bi_fdiv, bi_mod, bi_cat, bi_catl, b_isi, b_lent, b_lenl, b_inti, b_intb, b_tupl, b_tupt, b_lisl, b_list, b_rep, b_all, b_any, b_abs, b_gcd, n_neg, n_not, n_andt, n_andf, n_ort, n_orf, n_ixt, n_ixl, pa_nil, pa_cons, wp_nm, it_t, it_l, it_z, it_zl, it_ztl, it_zlt, wi0, wiS, lp0, i_ty, i_cl, t_int, t_str, t_tup, t_lst, t_non, t_bl, t_dic, t_obj, c_int, c_tup, c_lst, c_non, c_str, c_bl, c_obj, te_int, te_tup, te_bool, te_list, te_str, isn_enc, isb_enc, isn_non, isn_bl, isn_int, isn_str, isn_tup, isn_lst, isn_obj, isb_bl, isb_int, isb_non, isb_str, isb_tup, isb_lst, isb_obj, eqD_isf, eqD_esf, withP, wipeS, v2]
        · simp [startS, bdo, bde, ofs, ofn, gs0, gsS, set_nm, set_tp, bp_nm, bp_tp, bps0, bpsS, sq_nx, sq_rt, sq_bk, sq_ct, fi_rt, fi_nx, fi_err, tr_bl, tr_int, tr_tup, tr_lst, tr_non, cm_lt, cm_le, cm_gt, cm_ge, cm_eq, cm_ne, cm_isn, cm_ntn, cm_isb, cm_ntb, cm_int, cm_inl, cm_nit, cm_nil, bi_add, bi_sub, bi_mul, bi_fdiv, bi_mod, bi_cat, bi_catl, b_isi, b_lent, b_lenl, b_inti, b_intb, b_tupl, b_tupt, b_lisl, b_list, b_rep, b_all, b_any, b_abs, b_gcd, n_neg, n_not, n_andt, n_andf, n_ort, n_orf, n_ixt, n_ixl, pa_nil, pa_cons, wp_nm, it_t, it_l, it_z, it_zl, it_ztl, it_zlt, wi0, wiS, lp0, i_ty, i_cl, t_int, t_str, t_tup, t_lst, t_non, t_bl, t_dic, t_obj, c_int, c_tup, c_lst, c_non, c_str, c_bl, c_obj, te_int, te_tup, te_bool, te_list, te_str, isn_enc, isb_enc, isn_non, isn_bl, isn_int, isn_str, isn_tup, isn_lst, isn_obj, isb_bl, isb_int, isb_non, isb_str, isb_tup, isb_lst, isb_obj, eqD_isf, eqD_esf, withP, wipeS, v3]
        · simp [startS, bdo, bde, ofs, ofn, gs0, gsS, set_nm, set_tp, bp_nm, bp_tp, bps0, bpsS, sq_nx, sq_rt, sq_bk, sq_ct, fi_rt, fi_nx, fi_err, tr_bl, tr_int, tr_tup, tr_lst, tr_non, cm_lt, cm_le, cm_gt, cm_ge, cm_eq, cm_ne, cm_isn, cm_ntn, cm_isb, cm_ntb, cm_int, cm_inl, cm_nit, cm_nil, bi_add, bi_sub, bi_mul, bi_fdiv, bi_mod, bi_cat, bi_catl, b_isi, b_lent, b_lenl, b_inti, b_intb, b_tupl, b_tupt, b_lisl, b_list, b_rep, b_all, b_any, b_abs, b_gcd, n_neg, n_not, n_andt, n_andf, n_ort, n_orf, n_ixt, n_ixl, pa_nil, pa_cons, wp_nm, it_t, it_l, it_z, it_zl, it_ztl, it_zlt, wi0, wiS, lp0, i_ty, i_cl, t_int, t_str, t_tup, t_lst, t_non, t_bl, t_dic, t_obj, c_int, c_tup, c_lst, c_non, c_str, c_bl, c_obj, te_int, te_tup, te_bool, te_list, te_str, isn_enc, isb_enc, isn_non, isn_bl, isn_int, isn_str, isn_tup, isn_lst, isn_obj, isb_bl, isb_int, isb_non, isb_str, isb_tup, isb_lst, isb_obj, eqD_isf, eqD_esf, withP, wipeS, v4]
        · simp [startS, bdo, bde, ofs, ofn, gs0, gsS, set_nm, set_tp, bp_nm, bp_tp, bps0, bpsS, sq_nx, sq_rt, sq_bk, sq_ct, fi_rt, fi_nx, fi_err, tr_bl, tr_int, tr_tup, tr_lst, tr_non, cm_lt, cm_le, cm_gt, cm_ge, cm_eq, cm_ne, cm_isn, cm_ntn, cm_isb, cm_ntb, cm_int, cm_inl, cm_nit, cm_nil, bi_add, bi_sub, bi_mul, bi_fdiv, bi_mod, bi_cat, bi_catl, b_isi, b_lent, b_lenl, b_inti, b_intb, b_tupl, b_tupt, b_lisl, b_list, b_rep, b_all, b_any, b_abs, b_gcd, n_neg, n_not, n_andt, n_andf, n_ort, n_orf, n_ixt, n_ixl, pa_nil, pa_cons, wp_nm, it_t, it_l, it_z, it_zl, it_ztl, it_zlt, wi0, wiS, lp0, i_ty, i_cl, t_int, t_str, t_tup, t_lst, t_non, t_bl, t_dic, t_obj, c_int, c_tup, c_lst, c_non, c_str, c_bl, c_obj, te_int, te_tup, te_bool, te_list, te_str, isn_enc, isb_enc, isn_non, isn_bl, isn_int, isn_str, isn_tup, isn_lst, isn_obj, isb_bl, isb_int, isb_non, isb_str, isb_tup, isb_lst, isb_obj, eqD_isf, eqD_esf, withP, wipeS, v5]
        · simp [startS, bdo, bde, ofs, ofn, gs0, gsS, set_nm, set_tp, bp_nm, bp_tp, bps0, bpsS, sq_nx, sq_rt, sq_bk, sq_ct, fi_rt, fi_nx, fi_err, tr_bl, tr_int, tr_tup, tr_lst, tr_non, cm_lt, cm_le, cm_gt, cm_ge, cm_eq, cm_ne, cm_isn, cm_ntn, cm_isb, cm_ntb, cm_int, cm_inl, cm_nit, cm_nil, bi_add, bi_sub, bi_mul, bi_fdiv, bi_mod, bi_cat, bi_catl, b_isi, b_lent, b_lenl, b_inti, b_intb, b_tupl, b_tupt, b_lisl, b_list, b_rep, b_all, b_any, b_abs, b_gcd, n_neg, n_not, n_andt, n_andf, n_ort, n_orf, n_ixt, n_ixl, pa_nil, pa_cons, wp_nm, it_t, it_l, it_z, it_zl, it_ztl, it_zlt, wi0, wiS, lp0, i_ty, i_cl, t_int, t_str, t_tup, t_lst, t_non, t_bl, t_dic, t_obj, c_int, c_tup, c_lst, c_non, c_str, c_bl, c_obj, te_int, te_tup, te_bool, te_list, te_str, isn_enc, isb_enc, isn_non, isn_bl, isn_int, isn_str, isn_tup, isn_lst, isn_obj, isb_bl, isb_int, isb_non, isb_str, isb_tup, isb_lst, isb_obj, eqD_isf, eqD_esf, withP, wipeS, v6])]
      simp [startS, bdo, bde, ofs, ofn, gs0, gsS, set_nm, set_tp, bp_nm, bp_tp, bps0, bpsS, sq_nx, sq_rt, sq_bk, sq_ct, fi_rt, fi_nx, fi_err, tr_bl, tr_int, tr_tup, tr_lst, tr_non, cm_lt, cm_le, cm_gt, cm_ge, cm_eq, cm_ne, cm_isn, cm_ntn, cm_isb, cm_ntb, cm_int, cm_inl, cm_nit, cm_nil, bi_add, bi_sub, bi_mul, bi_fdiv, bi_mod, bi_cat, bi_catl, b_isi, b_lent, b_lenl, b_inti, b_intb, b_tupl, b_tupt, b_lisl, b_list, b_rep, b_all, b_any, b_abs, b_gcd, n_neg, n_not, n_andt, n_andf, n_ort, n_orf, n_ixt, n_ixl, pa_nil, pa_cons, wp_nm, it_t, it_l, it_z, it_zl, it_ztl, it_zlt, wi0, wiS, lp0, i_ty, i_cl, t_int, t_str, t_tup, t_lst, t_non, t_bl, t_dic, t_obj, c_int, c_tup, c_lst, c_non, c_str, c_bl, c_obj, te_int, te_tup, te_bool, te_list, te_str, isn_enc, isb_enc, isn_non, isn_bl, isn_int, isn_str, isn_tup, isn_lst, isn_obj, isb_bl, isb_int, isb_non, isb_str, isb_tup, isb_lst, isb_obj, eqD_isf, eqD_esf, lst_0, eqD_lnil]
theorem grow_ready {n N B N2 C2 : Nat} {f : Nat → Nat → Rat} {g : Nat → Rat} (n0 : 0 < n) (hN : 0 < N) (hN2 : N < 2 ^ 110) (hB : B < 2 ^ 110) (M : Met n (Grd N B) f) (k0 : 0 < N2) (k1 : N2 < 2 ^ 1300) (k2 : C2 < 2 ^ 1400) (hg : ∀ a, a < n → Gz N2 C2 (g a)) : SmallD n f g ∧ GrowV n f g := by
  have nn : 0 < N * N2 := Nat.mul_pos hN k0
  have b1 : N * N2 < 2 ^ 1600 := Nat.lt_of_lt_of_le (mul_lt_pow hN2 k1) (pow_le (by decide))
  have b2 : B * N2 + C2 * N < 2 ^ 1600 := Nat.lt_of_lt_of_le (add_lt_pow (Nat.lt_of_lt_of_le (mul_lt_pow hB k1) (pow_le (show 110 + 1300 ≤ 1510 by decide))) (mul_lt_pow k2 hN2)) (pow_le (by decide))
  generalize hW : N * N2 = W at *
  generalize hE : B * N2 + C2 * N = E at *
  have wf : ∀ a b, a < n → b < n → Gz W E (f a b) := fun a b ha hb => by
    rw [← hW, ← hE]
    exact ((M.v a b ha hb).gz.wide k0).up (by omega)
  have wg : ∀ a, a < n → Gz W E (g a) := fun a ha => by
    rw [← hW, ← hE]
    exact ((hg a ha).wide' hN).up (by omega)
  have s1 : ∀ q, Gz W E q → Sm q := fun q h => (h.sz (m := 1600) nn b1 b2).mono (by decide)
  have e2 : E + E < 2 ^ 1601 := add_lt_pow b2 b2
  have s2 : ∀ q, Gz W (E + E) q → Sm q := fun q h => (h.sz (m := 1601) nn (Nat.lt_of_lt_of_le b1 (pow_le (by decide))) e2).mono (by decide)
  refine ⟨{ sf := fun a b ha hb => s1 _ (wf a b ha hb), sg := fun a ha => s1 _ (wg a ha), ss := fun a b ha hb => s2 _ ((wg a ha).add (wg b hb)), sy := M.y, sd := fun a b ha hb => s2 _ ((wg a ha).sub (wg b hb)) }, ⟨Gz W E, ⟨s1, fun r t hr ht => s2 _ (hr.add ht)⟩, { d := M.d, v := wf, y := M.y, o := M.o, t := M.t }, (Gz.zero W).up (Nat.zero_le _), wg⟩⟩
def GR (n : Nat) (f : Nat → Nat → Rat) (d : D) : Prop := ∃ g, d = .tup (rowD n g) ∧ SmallD n f g ∧ GrowV n f g
theorem row_lap {k1 k2 k3 k4 k5 k6 k7 k8 k9 k10 k11 : K1} (h3 : Slgright k3) (h9 : Slrr k9) {n : Nat} {f : Nat → Nat → Rat} (n0 : 0 < n) (hn : n ≤ 8) (hd : ∀ a, a < n → f a a = 0) {x0 x2 x5 x6 x7 x8 x9 x10 x11 x12 x13 : Option D} : ∀ (l : List D), (∀ d ∈ l, GR n f d) → ∀ (x14 : Option D) (c : Int) (p : Mc.P), Good c p → c + 40 * l.length < 1000000 →
    ∃ y14 p', loopR (b_law_0 kt wh k1 k2 k3 k4 k5 k6 k7 k8 k9 k10 k11) l [x0, some .pen, x2, some (.tup (tabT n f)), some (dist n f), x5, x6, x7, x8, x9, x10, x11, x12, x13, x14] p = .ok (.nx, [x0, some .pen, x2, some (.tup (tabT n f)), some (dist n f), x5, x6, x7, x8, x9, x10, x11, x12, x13, y14]) p' ∧ Good (c + 40 * l.length) p'
  | [], _, x14, c, p, g, _ => ⟨x14, p, rfl, by simpa using g⟩
  | d :: l, hl, x14, c, p, g, hc => by
    obtain ⟨gg, rfl, S, V⟩ := hl _ List.mem_cons_self
    rw [List.length_cons] at hc
    obtain ⟨_, p1, e1, rfl, g1⟩ := h9 n f gg n0 hn S hd c p g (by push_cast at hc; omega)
    have e2 := h3 n f gg hn S V hd p1
    obtain ⟨y, p2, e3, g2⟩ := row_lap (k1 := k1) (k2 := k2) (k4 := k4) (k5 := k5) (k6 := k6) (k7 := k7) (k8 := k8) (k10 := k10) (k11 := k11) (x0 := x0) (x2 := x2) (x5 := x5) (x6 := x6) (x7 := x7) (x8 := x8) (x9 := x9) (x10 := x10) (x11 := x11) (x12 := x12) (x13 := x13) h3 h9 n0 hn hd l (fun d h => hl d (List.mem_cons_of_mem _ h)) (some (.tup (rowD n gg))) _ p1 g1 (by push_cast at hc; omega)
    refine ⟨y, p2, ?_, g2.mono (by rw [List.length_cons]; push_cast; omega)⟩
    rw [← e3]
    refine lp_nx ?_
    unfold b_law_0
    simp [startS, bdo, bde, ofs, ofn, gs0, gsS, set_nm, set_tp, bp_nm, bp_tp, bps0, bpsS, sq_nx, sq_rt, sq_bk, sq_ct, fi_rt, fi_nx, fi_err, tr_bl, tr_int, tr_tup, tr_lst, tr_non, cm_lt, cm_le, cm_gt, cm_ge, cm_eq, cm_ne, cm_isn, cm_ntn, cm_isb, cm_ntb, cm_int, cm_inl, cm_nit, cm_nil, bi_add, bi_sub, bi_mul, bi_fdiv, bi_mod, bi_cat, bi_catl, b_isi, b_lent, b_lenl, b_inti, b_intb, b_tupl, b_tupt, b_lisl, b_list, b_rep, b_all, b_any, b_abs, b_gcd, n_neg, n_not, n_andt, n_andf, n_ort, n_orf, n_ixt, n_ixl, pa_nil, pa_cons, wp_nm, it_t, it_l, it_z, it_zl, it_ztl, it_zlt, wi0, wiS, lp0, i_ty, i_cl, t_int, t_str, t_tup, t_lst, t_non, t_bl, t_dic, t_obj, c_int, c_tup, c_lst, c_non, c_str, c_bl, c_obj, te_int, te_tup, te_bool, te_list, te_str, isn_enc, isb_enc, isn_non, isn_bl, isn_int, isn_str, isn_tup, isn_lst, isn_obj, isb_bl, isb_int, isb_non, isb_str, isb_tup, isb_lst, isb_obj, eqD_isf, eqD_esf, e1, e2]
def bys : List Rat := [1, -1, 1 / 1000000000, -1 / 1000000000]
theorem bys_g : ∀ q ∈ bys, Gz 1000000000 1000000000 q := fun q hq => by
  simp only [bys, List.mem_cons, List.not_mem_nil, or_false] at hq
  rcases hq with rfl | rfl | rfl | rfl
  · exact ⟨1000000000, by decide +kernel, by decide⟩
  · exact ⟨-1000000000, by decide +kernel, by decide⟩
  · exact ⟨1, by decide +kernel, by decide⟩
  · exact ⟨-1, by decide +kernel, by decide⟩
theorem bys_d : bys.map enc = [.int 1, .int (-1), .tup [.int 1, .int (10 ^ 9)], .tup [.int (-1), .int (10 ^ 9)]] := by kernel_rfl
def fars : List Rat := [1, 1 / 2]
theorem fars_g : ∀ q ∈ fars, Gz 2 2 q := fun q hq => by
  simp only [fars, List.mem_cons, List.not_mem_nil, or_false] at hq
  rcases hq with rfl | rfl
  · exact ⟨2, by decide +kernel, by decide⟩
  · exact ⟨1, by decide +kernel, by decide⟩
theorem fars_d : fars.map enc = [.int 1, .tup [.int 1, .int 2]] := by kernel_rfl
def LS13 (s : Sl) : Prop := ∃ x0 x2 x3 x4 x5 x6 x7 x8 x9 x10 x11 x12 x13 x14, s = [x0, some .pen, x2, x3, x4, x5, x6, x7, x8, x9, x10, x11, x12, x13, x14]
theorem law_lap13 {k1 k2 k3 k4 k5 k6 k7 k8 k9 k10 k11 : K1} (h1 : Sdist k1) (h2 : Sdraw k2) (h3 : Slgright k3) (h4 : Smost k4) (h5 : Spick k5) (h6 : Sadd k6) (h7 : Sref13 k7) (h8 : Sdrow k8) (h9 : Slrr k9) (h10 : Ssome k10) (h11 : Sti2 k11) (dd : D) (s : Sl) (c : Int) (p : Pen) (hs : LS13 s) (g : Good c p) (hc : c + 3000 < 1000000) :
    ∃ s' p', b_law_1 ktabP wh k1 k2 k3 k4 k5 k6 k7 k8 k9 k10 k11 dd s p = .ok (.nx, s') p' ∧ LS13 s' ∧ Good (c + 3000) p' := by
  obtain ⟨x0, x2, x3, x4, x5, x6, x7, x8, x9, x10, x11, x12, x13, x14, rfl⟩ := hs
  obtain ⟨_, p1, e1, ⟨n, n0, n8, N, B, f, rfl, hN, hN2, hB, M⟩, g1⟩ := h10 8 (by omega) (by omega) c p g (by omega)
  have e1 : k10 [.pen, .int 8] p = _ := e1
  have bt : Btm N B := Btm.up hN hN2 hB (by decide)
  have e2 := h1 n f (Grd N B) n0 (by omega) ⟨fun r h => bt.sm h, fun r t h k => bt.ss h k⟩ M p1
  obtain ⟨_, p2, e3, ⟨i, rfl, i0, i1⟩, g2⟩ := h2 n (by omega) (by omega) _ p1 g1 (by omega)
  obtain ⟨x, rfl⟩ : ∃ x : Nat, i = x := ⟨i.toNat, by omega⟩
  have hx : x < n := by omega
  obtain ⟨_, p3, e4, hb, g3⟩ := (h5 (bys.map enc) (by simp [bys]) (by simp [bys])).1 _ p2 g2 (by omega)
  obtain ⟨by_, hby, rfl⟩ := List.mem_map.mp hb
  rw [bys_d] at e4
  have gby := bys_g by_ hby
  have sby : Sm by_ := (gby.sz (m := 31) (by decide) (by decide) (by decide)).mono (by decide)
  have sf : ∀ a b, a < n → b < n → Sm (f a b) := fun a b ha hb => bt.sm (M.v a b ha hb)
  -- far
  obtain ⟨ys, p4, e5, yl, hy, g4⟩ := fil_dr (f := fun d p => (((k5 [.pen, .lst [.int 1, .tup [.int 1, .int 2]]] p).bd fun d p => R.ok [d] p).bd fun ds p => R.ok (d :: ds) p).bd fun ds p => k6 ds p) (V := fun d => ∃ q, d = enc q ∧ Gz (N * 2) (B * 2 + 2 * N) q) (n := 1) (by omega) (xs := rowD n (f x)) _ p3 (fun d hd c p g hc => by
    obtain ⟨b, hb, rfl⟩ := List.mem_map.mp hd
    have hb := List.mem_range.mp hb
    obtain ⟨_, q, e, hq, g'⟩ := (h5 (fars.map enc) (by simp [fars]) (by simp [fars])).1 _ p g (by omega)
    obtain ⟨u, hu, rfl⟩ := List.mem_map.mp hq
    rw [fars_d] at e
    have gu := fars_g u hu
    have e' := h6 (f x b) u (sf x b hx hb) ((gu.sz (m := 3) (by decide) (by decide) (by decide)).mono (by decide)) q
    refine ⟨enc (f x b + u), q, by simp only [e, bdo, e'], ⟨_, rfl, (((M.v x b hx hb).gz.wide (M := 2) (by decide)).add (gu.wide' hN)).up (by omega)⟩, g'⟩) g3 (by rw [row_len]; omega)
  rw [row_len] at yl g4
  obtain ⟨lf, rfl, hlf⟩ := encs_of hy
  have ll : lf.length = n := by simpa using yl
  -- tight
  obtain ⟨_, p5, e6, ⟨t, rfl, tt, gt⟩, g5⟩ := h11 n f N B n0 n8 hN hN2 hB M _ p4 g4 (by omega)
  obtain ⟨k1', k2'⟩ := btm2 hN2 hB
  -- alike
  have e7 := map_any (F := fun d p => ((k4 [d] p).bd fun d p => R.ok [d, D.int 1] p).bd fun ds p => k6 ds p) (p := p5) (e := fun a => .tup (rowD n (f a))) (v := fun a => enc (mostL ((List.range n).map (f a)) + 1)) (List.range n) (fun a ha => by
    have ha := List.mem_range.mp ha
    have hne : (List.range n).map (f a) ≠ [] := by simp; omega
    have m1 := (h4 ((List.range n).map (f a)) hne (fun q hq => by
      obtain ⟨b, hb, rfl⟩ := List.mem_map.mp hq
      exact sf a b ha (List.mem_range.mp hb))).2 p5
    rw [← rowD_map] at m1
    obtain ⟨b, hb, eb⟩ := List.mem_map.mp (most_mem hne)
    have m2 := h6 (mostL ((List.range n).map (f a))) 1 (by rw [← eb]; exact sf a b ha (List.mem_range.mp hb)) (show Sm 1 from ⟨Nat.lt_of_lt_of_le (show (1 : Rat).num.natAbs < 2 ^ 1 by decide) (pow_le (by decide)), Nat.lt_of_lt_of_le (show (1 : Rat).den < 2 ^ 1 by decide) (pow_le (by decide))⟩) p5
    rw [enc_1] at m2
    simp only [m1, bdo, m2])
  have ga : ∀ a, a < n → Gz N (B + N) (mostL ((List.range n).map (f a)) + 1) := fun a ha => by
    have hne : (List.range n).map (f a) ≠ [] := by simp; omega
    obtain ⟨b, hb, eb⟩ := List.mem_map.mp (most_mem hne)
    rw [← eb]
    exact (M.v a b ha (List.mem_range.mp hb)).gz.add ⟨(N : Int), by
      have : (N : Rat) ≠ 0 := by exact_mod_cast Nat.pos_iff_ne_zero.mp hN
      have e : ((N : Int) : Rat) = (N : Rat) := rfl
      rw [e]; grind, by simp⟩
  -- moved
  have stx : Sm (t x) := ((gt x hx).gz.sz (m := 1400) (Nat.mul_pos hN (by decide)) (Nat.lt_of_lt_of_le k1' (pow_le (by decide))) k2').mono (by decide)
  have e8 := h6 (t x) by_ stx sby p5
  have cr := cut_row (g := t) (v := t x + by_) hx
  have lc1 : (cut (rowD n t) none (some (x : Int))).length ≤ n := by have := cut_len (xs := rowD n t) (lo := none) (hi := some (x : Int)); rw [row_len] at this; exact this
  have lc2 : (cut (rowD n t) (some ((x : Int) + 1)) none).length ≤ n := by have := cut_len (xs := rowD n t) (lo := some ((x : Int) + 1)) (hi := none); rw [row_len] at this; exact this
  have rdy : ∀ {N2 C2 : Nat} {gg : Nat → Rat}, 0 < N2 → N2 < 2 ^ 1300 → C2 < 2 ^ 1400 → (∀ a, a < n → Gz N2 C2 (gg a)) → GR n f (.tup (rowD n gg)) := fun q1 q2 q3 q4 => ⟨_, rfl, grow_ready n0 hN hN2 hB M q1 q2 q3 q4⟩
  -- the drawn row
  obtain ⟨_, p6, e9, ⟨ld, rfl, lld, hld⟩, g6⟩ := h8 n 1 (by omega) _ p5 g5 (by omega)
  have e9 : k8 [.pen, .int n, .int 1] p5 = _ := e9
  obtain ⟨N4, n40, n41, hN4⟩ := gz_list hld
  rw [lld] at n41 hN4
  have gld : ∀ a, a < n → ld.getD a 0 ∈ ld := fun a ha => by
    rw [List.getD_eq_getElem?_getD, List.getElem?_eq_getElem (by omega)]
    exact List.getElem_mem _
  have glf : ∀ a, a < n → lf.getD a 0 ∈ lf := fun a ha => by
    rw [List.getD_eq_getElem?_getD, List.getElem?_eq_getElem (by omega)]
    exact List.getElem_mem _
  have lp1 : ∀ {a b : Nat}, a < 2 ^ b → ∀ {d : Nat}, b ≤ d → a < 2 ^ d := fun h d hd => Nat.lt_of_lt_of_le h (pow_le hd)
  have R1 : GR n f (.tup (lf.map enc)) := by
    rw [list_row, ll]
    refine rdy (N2 := N * 2) (C2 := B * 2 + 2 * N) (Nat.mul_pos hN (by decide)) (lp1 (mul_lt_pow hN2 (show 2 < 2 ^ 2 by decide)) (by decide)) (lp1 (add_lt_pow (mul_lt_pow hB (show 2 < 2 ^ 2 by decide)) (lp1 (mul_lt_pow (show 2 < 2 ^ 2 by decide) hN2) (show 2 + 110 ≤ 112 by decide))) (by decide)) fun a ha => hlf _ (glf a ha)
  have R2 : GR n f (.tup (rowD n t)) := rdy (Nat.mul_pos hN (by decide)) k1' k2' fun a ha => (gt a ha).gz
  have R3 : GR n f (.tup (rowD n fun a => mostL ((List.range n).map (f a)) + 1)) := rdy hN (lp1 hN2 (by decide)) (lp1 (add_lt_pow hB hN2) (by decide)) ga
  have R4 : GR n f (.tup (rowD n (updF t x (t x + by_)))) := by
    have q1 : N * 720 * 1000000000 < 2 ^ 1300 := by
      have := mul_lt_pow (mul_lt_pow hN2 (show 720 < 2 ^ 10 by decide)) (show 1000000000 < 2 ^ 30 by decide)
      exact lp1 this (by decide)
    have q2 : B * 720 + 6480 * N < 2 ^ 200 := lp1 (add_lt_pow (lp1 (mul_lt_pow hB (show 720 < 2 ^ 10 by decide)) (show 120 ≤ 130 by decide)) (lp1 (mul_lt_pow (show 6480 < 2 ^ 13 by decide) hN2) (show 13 + 110 ≤ 130 by decide))) (by decide)
    have q3 : (B * 720 + 6480 * N) * 1000000000 + 1000000000 * (N * 720) < 2 ^ 1400 := lp1 (add_lt_pow (lp1 (mul_lt_pow q2 (show 1000000000 < 2 ^ 30 by decide)) (show 230 ≤ 300 by decide)) (lp1 (mul_lt_pow (show 1000000000 < 2 ^ 30 by decide) (mul_lt_pow hN2 (show 720 < 2 ^ 10 by decide))) (show 30 + (110 + 10) ≤ 300 by decide))) (by decide)
    refine rdy (Nat.mul_pos (Nat.mul_pos hN (by decide)) (by decide)) q1 q3 fun a ha => ?_
    unfold updF
    split
    · exact (((gt x hx).gz.wide (M := 1000000000) (by decide)).add (gby.wide' (Nat.mul_pos hN (by decide)))).up (by omega)
    · exact ((gt a ha).gz.wide (M := 1000000000) (by decide)).up (by omega)
  have R5 : GR n f (.tup (ld.map enc)) := by
    rw [list_row, lld]
    refine rdy n40 (Nat.lt_of_le_of_lt n41 (Nat.pow_lt_pow_right (by decide) (by omega))) (Nat.pow_lt_pow_right (by decide) (by omega)) fun a ha => hN4 _ (gld a ha)
  have R6 : GR n f (.tup (rowD n (f x))) := rdy hN (lp1 hN2 (by decide)) (lp1 hB (by decide)) fun a ha => (M.v x a hx ha).gz
  obtain ⟨y14, p7, e10, g7⟩ := row_lap (kt := ktabP) (wh := wh) (k1 := k1) (k2 := k2) (k4 := k4) (k5 := k5) (k6 := k6) (k7 := k7) (k8 := k8) (k10 := k10) (k11 := k11) h3 h9 n0 n8 M.d (x0 := x0) (x2 := some dd) (x5 := some (.int n)) (x6 := some (.int x)) (x7 := some (enc by_)) (x8 := some (.tup (lf.map enc))) (x9 := x9) (x10 := some (.tup (rowD n t))) (x11 := some (.tup (rowD n fun a => mostL ((List.range n).map (f a)) + 1))) (x12 := x12) (x13 := some (.tup (rowD n (updF t x (t x + by_)))))
    [.tup (lf.map enc), .tup (rowD n t), .tup (rowD n fun a => mostL ((List.range n).map (f a)) + 1), .tup (rowD n (updF t x (t x + by_))), .tup (ld.map enc), .tup (rowD n (f x))] (fun d hd => by
      simp only [List.mem_cons, List.not_mem_nil, or_false] at hd
      rcases hd with rfl | rfl | rfl | rfl | rfl | rfl <;> assumption) x14 _ p6 g6 (by simp; omega)
  obtain ⟨_, p8, e11, rfl, g8⟩ := h7 n f t n0 n8 (fun a ha => ((gt a ha).gz.sz (m := 1400) (Nat.mul_pos hN (by decide)) (lp1 k1' (by decide)) k2').mono (by decide)) _ p7 g7 (by simp; omega)
  have slf : lf.length ≤ sizeLine := by rw [ll]; exact sl_le (by omega)
  refine ⟨[x0, some .pen, some dd, some (.tup (tabT n f)), some (dist n f), some (.int n), some (.int x), some (enc by_), some (.tup (lf.map enc)), x9, some (.tup (rowD n t)), some (.tup (rowD n fun a => mostL ((List.range n).map (f a)) + 1)), x12, some (.tup (rowD n (updF t x (t x + by_)))), y14], p8, ?_, ⟨_, _, _, _, _, _, _, _, _, _, _, _, _, _, rfl⟩, g8.mono (by simp; omega)⟩
  unfold b_law_1
  have p9 : (10 : Int) ^ 9 = 1000000000 := by decide
  rw [p9] at e4
  have pow9' : binD .Pow (.int 10) (.int 9) = some (.int 1000000000) := by kernel_rfl
  have ix : idxD (.tup (tabT n f)) (.int (x : Int)) = some (.tup (rowD n (f x))) := ix_tab hx
  simp [startS, bdo, bde, ofs, ofn, gs0, gsS, set_nm, set_tp, bp_nm, bp_tp, bps0, bpsS, sq_nx, sq_rt, sq_bk, sq_ct, fi_rt, fi_nx, fi_err, tr_bl, tr_int, tr_tup, tr_lst, tr_non, cm_lt, cm_le, cm_gt, cm_ge, cm_eq, cm_ne, cm_isn, cm_ntn, cm_isb, cm_ntb, cm_int, cm_inl, cm_nit, cm_nil, bi_add, bi_sub, bi_mul, bi_fdiv, bi_mod, bi_cat, bi_catl, b_isi, b_lent, b_lenl, b_inti, b_intb, b_tupl, b_tupt, b_lisl, b_list, b_rep, b_all, b_any, b_abs, b_gcd, n_neg, n_not, n_andt, n_andf, n_ort, n_orf, n_ixt, n_ixl, pa_nil, pa_cons, wp_nm, it_t, it_l, it_z, it_zl, it_ztl, it_zlt, wi0, wiS, lp0, i_ty, i_cl, t_int, t_str, t_tup, t_lst, t_non, t_bl, t_dic, t_obj, c_int, c_tup, c_lst, c_non, c_str, c_bl, c_obj, te_int, te_tup, te_bool, te_list, te_str, isn_enc, isb_enc, isn_non, isn_bl, isn_int, isn_str, isn_tup, isn_lst, isn_obj, isb_bl, isb_int, isb_non, isb_str, isb_tup, isb_lst, isb_obj, eqD_isf, eqD_esf, e1, e2, e3, tabT_len, parR, setAll, pow9', e4, ix, wipeS, withP]
  rw [e5]
  simp [startS, bdo, bde, ofs, ofn, gs0, gsS, set_nm, set_tp, bp_nm, bp_tp, bps0, bpsS, sq_nx, sq_rt, sq_bk, sq_ct, fi_rt, fi_nx, fi_err, tr_bl, tr_int, tr_tup, tr_lst, tr_non, cm_lt, cm_le, cm_gt, cm_ge, cm_eq, cm_ne, cm_isn, cm_ntn, cm_isb, cm_ntb, cm_int, cm_inl, cm_nit, cm_nil, bi_add, bi_sub, bi_mul, bi_fdiv, bi_mod, bi_cat, bi_catl, b_isi, b_lent, b_lenl, b_inti, b_intb, b_tupl, b_tupt, b_lisl, b_list, b_rep, b_all, b_any, b_abs, b_gcd, n_neg, n_not, n_andt, n_andf, n_ort, n_orf, n_ixt, n_ixl, pa_nil, pa_cons, wp_nm, it_t, it_l, it_z, it_zl, it_ztl, it_zlt, wi0, wiS, lp0, i_ty, i_cl, t_int, t_str, t_tup, t_lst, t_non, t_bl, t_dic, t_obj, c_int, c_tup, c_lst, c_non, c_str, c_bl, c_obj, te_int, te_tup, te_bool, te_list, te_str, isn_enc, isb_enc, isn_non, isn_bl, isn_int, isn_str, isn_tup, isn_lst, isn_obj, isb_bl, isb_int, isb_non, isb_str, isb_tup, isb_lst, isb_obj, eqD_isf, eqD_esf, lst_ok (show (lf.map enc).length ≤ sizeLine by simpa using slf), e6]
  have tl : tabT n f = (List.range n).map fun a => D.tup (rowD n (f a)) := rfl
  rw [← tl] at e7
  rw [e7]
  have ll2 : ((List.range n).map fun a => enc (mostL ((List.range n).map (f a)) + 1)) = rowD n fun a => mostL ((List.range n).map (f a)) + 1 := rfl
  rw [ll2, lst_ok (by rw [row_len]; exact sl_le (by omega))]
  have c0 : cut (rowD n t) none (some (x : Int)) ++ enc (t x + by_) :: cut (rowD n t) (some ((x : Int) + 1)) none = rowD n (updF t x (t x + by_)) := cr
  have hs1 : (cut (rowD n t) none (some (x : Int))).length + 1 ≤ sizeLine := sl_le (by omega)
  have hs2 : (cut (rowD n t) none (some (x : Int))).length + 1 + (cut (rowD n t) (some ((x : Int) + 1)) none).length ≤ sizeLine := sl_le (by omega)
  have it6 : ∀ l : List D, items .val [.tup l] = some l := fun _ => rfl
  have ixt : idxD (.tup (rowD n t)) (.int (x : Int)) = some (enc (t x)) := ix_row hx
  simp [startS, bdo, bde, ofs, ofn, gs0, gsS, set_nm, set_tp, bp_nm, bp_tp, bps0, bpsS, sq_nx, sq_rt, sq_bk, sq_ct, fi_rt, fi_nx, fi_err, tr_bl, tr_int, tr_tup, tr_lst, tr_non, cm_lt, cm_le, cm_gt, cm_ge, cm_eq, cm_ne, cm_isn, cm_ntn, cm_isb, cm_ntb, cm_int, cm_inl, cm_nit, cm_nil, bi_add, bi_sub, bi_mul, bi_fdiv, bi_mod, bi_cat, bi_catl, b_isi, b_lent, b_lenl, b_inti, b_intb, b_tupl, b_tupt, b_lisl, b_list, b_rep, b_all, b_any, b_abs, b_gcd, n_neg, n_not, n_andt, n_andf, n_ort, n_orf, n_ixt, n_ixl, pa_nil, pa_cons, wp_nm, it_t, it_l, it_z, it_zl, it_ztl, it_zlt, wi0, wiS, lp0, i_ty, i_cl, t_int, t_str, t_tup, t_lst, t_non, t_bl, t_dic, t_obj, c_int, c_tup, c_lst, c_non, c_str, c_bl, c_obj, te_int, te_tup, te_bool, te_list, te_str, isn_enc, isb_enc, isn_non, isn_bl, isn_int, isn_str, isn_tup, isn_lst, isn_obj, isb_bl, isb_int, isb_non, isb_str, isb_tup, isb_lst, isb_obj, eqD_isf, eqD_esf, parR, setAll, sl_tup, en_0, en_1, hs1, hs2, c0, ixt, e8, e9, ix, it6, e10, e11]
theorem p_law13 {k1 k2 k3 k4 k5 k6 k7 k8 k9 k10 k11 : K1} (h1 : Sdist k1) (h2 : Sdraw k2) (h3 : Slgright k3) (h4 : Smost k4) (h5 : Spick k5) (h6 : Sadd k6) (h7 : Sref13 k7) (h8 : Sdrow k8) (h9 : Slrr k9) (h10 : Ssome k10) (h11 : Sti2 k11) (p : Pen) (g : Good 0 p) :
    ∃ s' p', s_law ktabP wh k1 k2 k3 k4 k5 k6 k7 k8 k9 k10 k11 [none, some .pen, none, none, none, none, none, none, none, none, none, none, none, none, none] p = .ok (.rt (.bl true), s') p' := by
  have L : ∀ (l : List D) (c : Int) (s : Sl) (p : Pen), LS13 s → Good c p → c + 3000 * l.length < 900000 → ∃ s' p', loopR (b_law_1 ktabP wh k1 k2 k3 k4 k5 k6 k7 k8 k9 k10 k11) l s p = .ok (.nx, s') p' := fun l => by
    induction l with
    | nil => exact fun c s p hs g hc => ⟨s, p, rfl⟩
    | cons d l ih =>
      intro c s p hs g hc
      rw [List.length_cons] at hc
      obtain ⟨s1, p1, e, hs1, g1⟩ := law_lap13 (wh := wh) h1 h2 h3 h4 h5 h6 h7 h8 h9 h10 h11 d s c p hs g (by push_cast at hc; omega)
      obtain ⟨s2, p2, e2⟩ := ih (c + 3000) s1 p1 hs1 g1 (by push_cast at hc; omega)
      exact ⟨s2, p2, by rw [lp_nx e, e2]⟩
  obtain ⟨s', p', e⟩ := L ((List.range 3).map fun (k : Nat) => D.int (k : Int)) 0 [none, some .pen, none, none, none, none, none, none, none, none, none, none, none, none, none] p ⟨_, _, _, _, _, _, _, _, _, _, _, _, _, _, rfl⟩ g (by simp)
  refine ⟨s', p', ?_⟩
  have i : items .rng [.int 3] = some ((List.range 3).map fun (k : Nat) => D.int (k : Int)) := it_rng (n := 3) (by decide)
  unfold s_law
  simp only [startS, bdo, bde, ofs, ofn, gs0, gsS, set_nm, set_tp, bp_nm, bp_tp, bps0, bpsS, sq_nx, sq_rt, sq_bk, sq_ct, fi_rt, fi_nx, fi_err, tr_bl, tr_int, tr_tup, tr_lst, tr_non, cm_lt, cm_le, cm_gt, cm_ge, cm_eq, cm_ne, cm_isn, cm_ntn, cm_isb, cm_ntb, cm_int, cm_inl, cm_nit, cm_nil, bi_add, bi_sub, bi_mul, bi_fdiv, bi_mod, bi_cat, bi_catl, b_isi, b_lent, b_lenl, b_inti, b_intb, b_tupl, b_tupt, b_lisl, b_list, b_rep, b_all, b_any, b_abs, b_gcd, n_neg, n_not, n_andt, n_andf, n_ort, n_orf, n_ixt, n_ixl, pa_nil, pa_cons, wp_nm, it_t, it_l, it_z, it_zl, it_ztl, it_zlt, wi0, wiS, lp0, i_ty, i_cl, t_int, t_str, t_tup, t_lst, t_non, t_bl, t_dic, t_obj, c_int, c_tup, c_lst, c_non, c_str, c_bl, c_obj, te_int, te_tup, te_bool, te_list, te_str, isn_enc, isb_enc, isn_non, isn_bl, isn_int, isn_str, isn_tup, isn_lst, isn_obj, isb_bl, isb_int, isb_non, isb_str, isb_tup, isb_lst, isb_obj, eqD_isf, eqD_esf, i, e]
end
end Pl


namespace Wl
open PySem PySem.Spec PyProof.Rows L2 Mc
def c_is_integer : Df := ⟨"is_integer", 1, ["value"], [.sh], 0, [.ret (.and (.bi .isi [.var 0, .cst (.ty .int)]) (.not (.bi .isi [.var 0, .cst (.ty .bool)])))], false, false⟩
def c_is_ratio : Df := ⟨"is_ratio", 1, ["value"], [.sh], 0, [.ife (.not (.bi .isi [.var 0, .cst (.ty .tuple)])) [.ret (.call "is_integer" [.var 0])] [], .ife (.or (.cmp .NotEq (.bi .len [.var 0]) (.cst (.int 2))) (.or (.not (.call "is_integer" [.idx (.var 0) (.cst (.int 0))])) (.not (.call "is_integer" [.idx (.var 0) (.cst (.int 1))])))) [.ret (.cst (.bl false))] [], .ret (.and (.cmp .Gt (.idx (.var 0) (.cst (.int 1))) (.cst (.int 1))) (.cmp .Eq (.bi .gcd [.idx (.var 0) (.cst (.int 0)), .idx (.var 0) (.cst (.int 1))]) (.cst (.int 1))))], false, false⟩
def c_pair : Df := ⟨"pair", 1, ["number"], [.sh], 0, [.ret (.ite (.bi .isi [.var 0, .cst (.ty .int)]) (.tup [.var 0, .cst (.int 1)]) (.var 0))], false, false⟩
def c_in_lowest : Df := ⟨"in_lowest", 2, ["top", "bottom", "by"], [.sh, .sh, .sh], 0, [.set (.nm 2) (.ite (.cmp .Gt (.var 1) (.cst (.int 0))) (.bi .gcd [.var 0, .var 1]) (.neg (.bi .gcd [.var 0, .var 1]))), .ret (.ite (.cmp .Eq (.var 1) (.var 2)) (.bin .FloorDiv (.var 0) (.var 2)) (.tup [.bin .FloorDiv (.var 0) (.var 2), .bin .FloorDiv (.var 1) (.var 2)]))], false, false⟩
def c_added : Df := ⟨"added", 2, ["one", "other", "top", "bottom", "high", "low"], [.sh, .sh, .sh, .sh, .sh, .sh], 0, [.ife (.and (.bi .isi [.var 0, .cst (.ty .int)]) (.bi .isi [.var 1, .cst (.ty .int)])) [.ret (.bin .Add (.var 0) (.var 1))] [], .set (.tp [.tp [.nm 2, .nm 3], .tp [.nm 4, .nm 5]]) (.tup [.call "pair" [.var 0], .call "pair" [.var 1]]), .ret (.call "in_lowest" [.bin .Add (.bin .Mult (.var 2) (.var 5)) (.bin .Mult (.var 4) (.var 3)), .bin .Mult (.var 3) (.var 5)])], false, false⟩
def c_opposite : Df := ⟨"opposite", 1, ["number"], [.sh], 0, [.ret (.ite (.bi .isi [.var 0, .cst (.ty .int)]) (.neg (.var 0)) (.tup [.neg (.idx (.var 0) (.cst (.int 0))), .idx (.var 0) (.cst (.int 1))]))], false, false⟩
def c_sign_of : Df := ⟨"sign_of", 1, ["number", "top"], [.sh, .sh], 0, [.set (.nm 1) (.ite (.bi .isi [.var 0, .cst (.ty .int)]) (.var 0) (.idx (.var 0) (.cst (.int 0)))), .ret (.ite (.cmp .Gt (.var 1) (.cst (.int 0))) (.cst (.int 1)) (.ite (.cmp .Lt (.var 1) (.cst (.int 0))) (.neg (.cst (.int 1))) (.cst (.int 0))))], false, false⟩
def c_is_below : Df := ⟨"is_below", 2, ["one", "other", "top", "bottom", "high", "low"], [.sh, .sh, .sh, .sh, .sh, .sh], 0, [.set (.tp [.tp [.nm 2, .nm 3], .tp [.nm 4, .nm 5]]) (.tup [.call "pair" [.var 0], .call "pair" [.var 1]]), .ret (.cmp .Lt (.bin .Mult (.var 2) (.var 5)) (.bin .Mult (.var 4) (.var 3)))], false, false⟩
def c_less_by : Df := ⟨"less_by", 2, ["one", "other"], [.sh, .sh], 0, [.ret (.call "added" [.var 0, .call "opposite" [.var 1]])], false, false⟩
def c_size_of : Df := ⟨"size_of", 1, ["number"], [.sh], 0, [.ret (.ite (.cmp .Lt (.call "sign_of" [.var 0]) (.cst (.int 0))) (.call "opposite" [.var 0]) (.var 0))], false, false⟩
def c_as_tuples : Df := ⟨"as_tuples", 1, ["value", "one"], [.sh, .sh], 0, [.ife (.bi .isi [.var 0, .tup [.cst (.ty .list), .cst (.ty .tuple)]]) [.ret (.bi .tuple [.comp [1] (.nm 1) .val [.var 0] (.call "as_tuples" [.var 1])])] [], .ret (.var 0)], false, false⟩
def c_is_list : Df := ⟨"is_list", 1, ["value"], [.sh], 0, [.ret (.bi .isi [.var 0, .tup [.cst (.ty .list), .cst (.ty .tuple)]])], false, false⟩
def c_is_row : Df := ⟨"is_row", 2, ["value", "many", "one"], [.sh, .sh, .sh], 0, [.ret (.and (.call "is_list" [.var 0]) (.and (.cmp .Eq (.bi .len [.var 0]) (.var 1)) (.bi .all [.comp [2] (.nm 2) .val [.var 0] (.call "is_ratio" [.var 2])])))], false, false⟩
def c_is_index : Df := ⟨"is_index", 2, ["value", "many"], [.sh, .sh], 0, [.ret (.and (.call "is_integer" [.var 0]) (.cmp2 .LtE .Lt (.cst (.int 0)) (.var 0) (.var 1)))], false, false⟩
def c_need_even : Df := ⟨"need_even", 1, ["rows", "row", "x", "y"], [.sh, .sh, .sh, .sh], 0, [.ife (.or (.not (.call "is_list" [.var 0])) (.or (.not (.cmp2 .LtE .LtE (.cst (.int 1)) (.bi .len [.var 0]) (.cst (.int 8)))) (.not (.bi .all [.comp [1] (.nm 1) .val [.var 0] (.call "is_row" [.var 1, .bi .len [.var 0]])])))) [.rai "BadTable" ["what"] [.cst (.str "rows")]] [], .loop (.nm 2) .rng [.bi .len [.var 0]] [.ife (.cmp .NotEq (.idx (.idx (.var 0) (.var 2)) (.var 2)) (.cst (.int 0))) [.rai "BadDistances" ["what", "one", "other"] [.cst (.str "own"), .var 2, .var 2]] []], .loop (.nm 2) .rng [.bi .len [.var 0]] [.loop (.nm 3) .rng [.bi .len [.var 0]] [.ife (.and (.cmp .NotEq (.var 2) (.var 3)) (.cmp .LtE (.call "sign_of" [.idx (.idx (.var 0) (.var 2)) (.var 3)]) (.cst (.int 0)))) [.rai "BadDistances" ["what", "one", "other"] [.cst (.str "zero"), .var 2, .var 3]] []]], .loop (.nm 2) .rng [.bi .len [.var 0]] [.loop (.nm 3) .rng [.bi .len [.var 0]] [.ife (.cmp .NotEq (.idx (.idx (.var 0) (.var 2)) (.var 3)) (.idx (.idx (.var 0) (.var 3)) (.var 2))) [.rai "BadDistances" ["what", "one", "other"] [.cst (.str "turned"), .var 2, .var 3]] []]]], false, false⟩
def c_is_detour : Df := ⟨"is_detour", 4, ["rows", "x", "z", "y"], [.sh, .sh, .sh, .sh], 0, [.ret (.call "is_below" [.call "added" [.idx (.idx (.var 0) (.var 1)) (.var 2), .idx (.idx (.var 0) (.var 2)) (.var 3)], .idx (.idx (.var 0) (.var 1)) (.var 3)])], false, false⟩
def c_first_detour : Df := ⟨"first_detour", 1, ["rows", "x", "y", "z"], [.sh, .sh, .sh, .sh], 0, [.loop (.nm 1) .rng [.bi .len [.var 0]] [.loop (.nm 2) .rng [.bi .len [.var 0]] [.loop (.nm 3) .rng [.bi .len [.var 0]] [.ife (.call "is_detour" [.var 0, .var 1, .var 3, .var 2]) [.ret (.tup [.var 1, .var 3, .var 2])] []]]], .ret (.cst .non)], false, false⟩
def c_need_row : Df := ⟨"need_row", 3, ["d", "row", "what"], [.sh, .sh, .sh], 0, [.ife (.not (.call "is_row" [.var 1, .bi .len [.att (.var 0) "rows"]])) [.rai "BadRow" ["what", "row"] [.var 2, .var 1]] []], false, false⟩
def c_is_nought : Df := ⟨"is_nought", 2, ["row", "point"], [.sh, .sh], 0, [.ret (.cmp .LtE (.call "sign_of" [.idx (.var 0) (.var 1)]) (.cst (.int 0)))], false, false⟩
def c_is_far : Df := ⟨"is_far", 4, ["d", "row", "one", "other"], [.sh, .sh, .sh, .sh], 0, [.ret (.call "is_below" [.idx (.idx (.att (.var 0) "rows") (.var 2)) (.var 3), .call "size_of" [.call "less_by" [.idx (.var 1) (.var 2), .idx (.var 1) (.var 3)]]])], false, false⟩
def c_is_near_by : Df := ⟨"is_near_by", 4, ["d", "row", "one", "other"], [.sh, .sh, .sh, .sh], 0, [.ret (.call "is_below" [.call "added" [.idx (.var 1) (.var 2), .idx (.var 1) (.var 3)], .idx (.idx (.att (.var 0) "rows") (.var 2)) (.var 3)])], false, false⟩
def c_first_ungrown : Df := ⟨"first_ungrown", 2, ["d", "row", "one", "other"], [.sh, .sh, .sh, .sh], 0, [.loop (.nm 2) .rng [.bi .len [.var 1]] [.ife (.call "is_nought" [.var 1, .var 2]) [.ret (.mk "Ungrown" [.cst (.str "nought"), .var 2, .var 2])] []], .loop (.nm 2) .rng [.bi .len [.var 1]] [.loop (.nm 3) .rng [.bin .Add (.var 2) (.cst (.int 1)), .bi .len [.var 1]] [.ife (.call "is_far" [.var 0, .var 1, .var 2, .var 3]) [.ret (.mk "Ungrown" [.cst (.str "far"), .var 2, .var 3])] [], .ife (.call "is_near_by" [.var 0, .var 1, .var 2, .var 3]) [.ret (.mk "Ungrown" [.cst (.str "near"), .var 2, .var 3])] []]], .ret (.cst .non)], false, false⟩
def c_grows : Df := ⟨"grows", 2, ["distances", "row"], [.sh, .sh], 0, [.exp (.call "need_row" [.var 0, .var 1, .cst (.str "row")]), .ret (.cmp .Is (.call "first_ungrown" [.var 0, .var 1]) (.cst .non))], false, false⟩
def c_ungrown : Df := ⟨"ungrown", 2, ["distances", "row"], [.sh, .sh], 0, [.exp (.call "need_row" [.var 0, .var 1, .cst (.str "row")]), .ret (.call "first_ungrown" [.var 0, .var 1])], false, false⟩
def c_ungrown_holds : Df := ⟨"ungrown_holds", 3, ["distances", "row", "value"], [.sh, .sh, .sh], 0, [.exp (.call "need_row" [.var 0, .var 1, .cst (.str "row")]), .ife (.or (.not (.bi .isi [.var 2, .cst (.cls "Ungrown")])) (.not (.bi .isi [.att (.var 2) "kind", .cst (.ty .str)]))) [.ret (.cst (.bl false))] [], .ife (.or (.not (.call "is_index" [.att (.var 2) "one", .bi .len [.var 1]])) (.or (.not (.call "is_index" [.att (.var 2) "other", .bi .len [.var 1]])) (.cmp .Gt (.att (.var 2) "one") (.att (.var 2) "other")))) [.ret (.cst (.bl false))] [], .ife (.cmp .Eq (.att (.var 2) "kind") (.cst (.str "nought"))) [.ret (.and (.cmp .Eq (.att (.var 2) "one") (.att (.var 2) "other")) (.call "is_nought" [.var 1, .att (.var 2) "one"]))] [], .ife (.cmp .Eq (.att (.var 2) "kind") (.cst (.str "far"))) [.ret (.call "is_far" [.var 0, .var 1, .att (.var 2) "one", .att (.var 2) "other"])] [], .ret (.and (.cmp .Eq (.att (.var 2) "kind") (.cst (.str "near"))) (.call "is_near_by" [.var 0, .var 1, .att (.var 2) "one", .att (.var 2) "other"]))], false, false⟩
def c_with_point : Df := ⟨"with_point", 2, ["d", "row", "x", "line"], [.sh, .sh, .sh, .sh], 0, [.ret (.mk "Distances" [.bin .Add (.bi .tuple [.comp [2, 3] (.tp [.nm 2, .nm 3]) .enm [.att (.var 0) "rows"] (.bin .Add (.var 3) (.tup [.idx (.var 1) (.var 2)]))]) (.tup [.bin .Add (.bi .tuple [.var 1]) (.tup [.cst (.int 0)])])])], false, false⟩
def c_grown : Df := ⟨"grown", 2, ["distances", "row"], [.sh, .sh], 0, [.exp (.call "need_row" [.var 0, .var 1, .cst (.str "row")]), .ife (.cmp .IsNot (.call "first_ungrown" [.var 0, .var 1]) (.cst .non)) [.rai "Unlike" ["what"] [.cst (.str "row")]] [], .ife (.cmp .Eq (.bi .len [.var 1]) (.cst (.int 8))) [.rai "TooMany" ["what", "many", "limit"] [.cst (.str "points"), .bin .Add (.bi .len [.var 1]) (.cst (.int 1)), .cst (.int 8)]] [], .ret (.call "with_point" [.var 0, .var 1])], false, false⟩
def c__law_draw : Df := ⟨"_law_draw", 2, ["pen", "many", "cell", "digit", "blend"], [.sh, .sh, .sh, .sh, .sh], 0, [.pset 0 .count (.bin .Add (.pf (.var 0) .count) (.cst (.int 1))), .ife (.and (.cmp .Eq (.pf (.var 0) .digits) (.cst (.int 0))) (.cmp .Lt (.pf (.var 0) .at_) (.pl (.var 0)))) [.set (.nm 2) (.pc (.var 0) (.pf (.var 0) .at_)), .pset 0 .at_ (.bin .Add (.pf (.var 0) .at_) (.cst (.int 1))), .ife (.cmp .GtE (.var 2) (.bin .Pow (.cst (.int 10)) (.cst (.int 18)))) [.pset 0 .digits (.bin .Sub (.var 2) (.bin .Pow (.cst (.int 10)) (.cst (.int 18))))] [.pset 0 .fold (.bin .Mod (.bi .int [.bin .Add (.bin .Mult (.pf (.var 0) .fold) (.cst (.int 69069))) (.var 2)]) (.cst (.int 2147483587)))]] [], .ife (.cmp .Gt (.pf (.var 0) .digits) (.cst (.int 0))) [.set (.nm 3) (.bin .Mod (.bi .int [.pf (.var 0) .digits]) (.var 1)), .pset 0 .digits (.bin .FloorDiv (.pf (.var 0) .digits) (.var 1)), .ret (.var 3)] [], .set (.nm 4) (.bin .Mod (.bi .int [.bin .Add (.bin .Add (.bin .Mult (.pf (.var 0) .fold) (.cst (.int 48271))) (.bin .Mult (.pf (.var 0) .count) (.cst (.int 7919)))) (.cst (.int 13))]) (.cst (.int 2147483647))), .set (.nm 4) (.bin .Mod (.bi .int [.bin .Add (.bin .Add (.bin .Mult (.var 4) (.var 4)) (.bin .Mult (.cst (.int 31)) (.var 4))) (.pf (.var 0) .count)]) (.cst (.int 2147483629))), .pset 0 .fold (.bin .Mod (.bi .int [.bin .Add (.bin .Mult (.var 4) (.cst (.int 16807))) (.cst (.int 7))]) (.cst (.int 2147483647))), .ret (.bin .Mod (.bi .int [.bin .FloorDiv (.var 4) (.cst (.int 64))]) (.var 1))], false, false⟩
def c__law_pick : Df := ⟨"_law_pick", 2, ["pen", "some"], [.sh, .sh], 0, [.ret (.idx (.var 1) (.call "_law_draw" [.var 0, .bi .len [.var 1]]))], false, false⟩
def c__law_shuffled : Df := ⟨"_law_shuffled", 2, ["pen", "some", "left", "found", "lap"], [.sh, .sh, .sh, .sh, .sh], 0, [.par [2, 3] [.bi .list [.var 1], .lst []], .loop (.nm 4) .rng [.bi .len [.var 1]] [.popa 3 2 (.call "_law_draw" [.var 0, .bi .len [.var 2]]) []], .frz 2, .frz 3, .ret (.var 3)], false, false⟩
def c__law_is : Df := ⟨"_law_is", 2, ["told", "due", "at"], [.sh, .sh, .sh], 0, [.ife (.bi .isi [.var 1, .cst (.ty .tuple)]) [.ife (.or (.not (.bi .isi [.var 0, .cst (.ty .tuple)])) (.cmp .NotEq (.bi .len [.var 0]) (.bi .len [.var 1]))) [.ret (.cst (.bl false))] [], .ret (.cmp .Eq (.compC [2] (.nm 2) .rng [.bi .len [.var 1]] (.not (.call "_law_is" [.idx (.var 0) (.var 2), .idx (.var 1) (.var 2)])) (.var 2)) (.lst []))] [], .ife (.cmp .Is (.var 1) (.cst .non)) [.ret (.cmp .Is (.var 0) (.cst .non))] [], .ife (.cmp .Is (.var 1) (.cst (.bl true))) [.ret (.cmp .Is (.var 0) (.cst (.bl true)))] [], .ife (.cmp .Is (.var 1) (.cst (.bl false))) [.ret (.cmp .Is (.var 0) (.cst (.bl false)))] [], .ife (.bi .isi [.var 1, .cst (.ty .str)]) [.ret (.and (.bi .isi [.var 0, .cst (.ty .str)]) (.cmp .Eq (.var 0) (.var 1)))] [], .ret (.and (.bi .isi [.var 0, .cst (.ty .int)]) (.and (.not (.bi .isi [.var 0, .cst (.ty .bool)])) (.cmp .Eq (.var 0) (.var 1))))], false, false⟩
def c__law_says : Df := ⟨"_law_says", 2, ["told", "due"], [.sh, .sh], 0, [.ret (.ite (.var 1) (.cmp .Is (.var 0) (.cst (.bl true))) (.cmp .Is (.var 0) (.cst (.bl false))))], false, false⟩
def c__law_divisor : Df := ⟨"_law_divisor", 2, ["one", "other"], [.sh, .sh], 0, [.par [0, 1] [.bi .abs [.var 0], .bi .abs [.var 1]], .whl (.cmp .NotEq (.var 1) (.cst (.int 0))) [.par [0, 1] [.var 1, .bin .Mod (.bi .int [.var 0]) (.var 1)]], .ret (.var 0)], false, false⟩
def c__law_low : Df := ⟨"_law_low", 2, ["top", "bottom", "by"], [.sh, .sh, .sh], 0, [.set (.nm 2) (.call "_law_divisor" [.var 0, .var 1]), .ife (.cmp .Lt (.var 1) (.cst (.int 0))) [.set (.nm 2) (.neg (.var 2))] [], .ret (.ite (.cmp .Eq (.var 1) (.var 2)) (.bin .FloorDiv (.var 0) (.var 2)) (.tup [.bin .FloorDiv (.var 0) (.var 2), .bin .FloorDiv (.var 1) (.var 2)]))], false, false⟩
def c__law_pair : Df := ⟨"_law_pair", 1, ["number"], [.sh], 0, [.ret (.ite (.bi .isi [.var 0, .cst (.ty .int)]) (.tup [.var 0, .cst (.int 1)]) (.var 0))], false, false⟩
def c__law_plus : Df := ⟨"_law_plus", 2, ["one", "other", "first", "second"], [.sh, .sh, .sh, .sh], 0, [.par [2, 3] [.call "_law_pair" [.var 0], .call "_law_pair" [.var 1]], .ret (.call "_law_low" [.bin .Add (.bin .Mult (.idx (.var 2) (.cst (.int 0))) (.idx (.var 3) (.cst (.int 1)))) (.bin .Mult (.idx (.var 3) (.cst (.int 0))) (.idx (.var 2) (.cst (.int 1)))), .bin .Mult (.idx (.var 2) (.cst (.int 1))) (.idx (.var 3) (.cst (.int 1)))])], false, false⟩
def c__law_opposite : Df := ⟨"_law_opposite", 1, ["number"], [.sh], 0, [.ret (.ite (.bi .isi [.var 0, .cst (.ty .int)]) (.neg (.var 0)) (.tup [.neg (.idx (.var 0) (.cst (.int 0))), .idx (.var 0) (.cst (.int 1))]))], false, false⟩
def c__law_minus : Df := ⟨"_law_minus", 2, ["one", "other"], [.sh, .sh], 0, [.ret (.call "_law_plus" [.var 0, .call "_law_opposite" [.var 1]])], false, false⟩
def c__law_times : Df := ⟨"_law_times", 2, ["one", "other", "first", "second"], [.sh, .sh, .sh, .sh], 0, [.par [2, 3] [.call "_law_pair" [.var 0], .call "_law_pair" [.var 1]], .ret (.call "_law_low" [.bin .Mult (.idx (.var 2) (.cst (.int 0))) (.idx (.var 3) (.cst (.int 0))), .bin .Mult (.idx (.var 2) (.cst (.int 1))) (.idx (.var 3) (.cst (.int 1)))])], false, false⟩
def c__law_sign : Df := ⟨"_law_sign", 1, ["number", "top"], [.sh, .sh], 0, [.set (.nm 1) (.idx (.call "_law_pair" [.var 0]) (.cst (.int 0))), .ret (.bin .Sub (.bi .int [.cmp .Gt (.var 1) (.cst (.int 0))]) (.bi .int [.cmp .Lt (.var 1) (.cst (.int 0))]))], false, false⟩
def c__law_less : Df := ⟨"_law_less", 2, ["one", "other", "first", "second"], [.sh, .sh, .sh, .sh], 0, [.par [2, 3] [.call "_law_pair" [.var 0], .call "_law_pair" [.var 1]], .ret (.cmp .Lt (.bin .Mult (.idx (.var 2) (.cst (.int 0))) (.idx (.var 3) (.cst (.int 1)))) (.bin .Mult (.idx (.var 3) (.cst (.int 0))) (.idx (.var 2) (.cst (.int 1)))))], false, false⟩
def c__law_is_whole : Df := ⟨"_law_is_whole", 1, ["value"], [.sh], 0, [.ret (.and (.bi .isi [.var 0, .cst (.ty .int)]) (.not (.bi .isi [.var 0, .cst (.ty .bool)])))], false, false⟩
def c__law_number : Df := ⟨"_law_number", 2, ["pen", "size"], [.sh, .sh], 0, [.ife (.cmp .Eq (.var 1) (.cst (.int 0))) [.ret (.bin .Sub (.call "_law_draw" [.var 0, .cst (.int 7)]) (.cst (.int 3)))] [], .ife (.cmp .Eq (.var 1) (.cst (.int 1))) [.ret (.call "_law_low" [.bin .Sub (.call "_law_draw" [.var 0, .cst (.int 19)]) (.cst (.int 9)), .bin .Add (.cst (.int 1)) (.call "_law_draw" [.var 0, .cst (.int 6)])])] [], .ife (.cmp .Eq (.var 1) (.cst (.int 2))) [.ret (.call "_law_low" [.bin .Sub (.call "_law_draw" [.var 0, .cst (.int 1999)]) (.cst (.int 999)), .bin .Add (.cst (.int 1)) (.call "_law_draw" [.var 0, .cst (.int 97)])])] [], .ret (.call "_law_low" [.bin .Mult (.bin .Sub (.cst (.int 1)) (.bin .Mult (.cst (.int 2)) (.call "_law_draw" [.var 0, .cst (.int 2)]))) (.call "_law_wide" [.var 0, .cst (.int 40)]), .bin .Add (.cst (.int 1)) (.call "_law_wide" [.var 0, .cst (.int 39)])])], false, false⟩
def c__law_wide : Df := ⟨"_law_wide", 2, ["pen", "figures", "found", "top", "lap"], [.sh, .sh, .sh, .sh, .sh], 0, [.set (.tp [.nm 2, .nm 3]) (.tup [.cst (.int 0), .cst (.int 1)]), .loop (.nm 4) .rng [.bin .FloorDiv (.bin .Add (.var 1) (.cst (.int 5))) (.cst (.int 6))] [.set (.nm 2) (.bin .Add (.bin .Mult (.var 2) (.bin .Pow (.cst (.int 10)) (.cst (.int 6)))) (.call "_law_draw" [.var 0, .bin .Pow (.cst (.int 10)) (.cst (.int 6))]))], .loop (.nm 4) .rng [.var 1] [.set (.nm 3) (.bin .Mult (.var 3) (.cst (.int 10)))], .ret (.bin .Mod (.bi .int [.var 2]) (.var 3))], false, false⟩
def c__law_row : Df := ⟨"_law_row", 3, ["pen", "many", "size", "at"], [.sh, .sh, .sh, .sh], 0, [.ret (.bi .tuple [.comp [3] (.nm 3) .rng [.var 1] (.ite (.cmp .Gt (.call "_law_draw" [.var 0, .cst (.int 4)]) (.cst (.int 0))) (.call "_law_number" [.var 0, .var 2]) (.cst (.int 0)))])], false, false⟩
def c__law_odd : Df := ⟨"_law_odd", 1, ["pen"], [.sh], 0, [.ret (.call "_law_pick" [.var 0, .lst [.cst .non, .cst (.bl true), .cst (.bl false), .cst (.str "1"), .cst (.str ""), .tup [.cst (.int 1), .cst (.int 1)], .tup [.cst (.int 2), .cst (.int 4)], .tup [.cst (.int 1), .cst (.int 0)], .tup [.cst (.int 1), .neg (.cst (.int 2))], .lst [.cst (.int 1), .cst (.int 2)], .tup [.cst (.int 1), .cst (.int 2), .cst (.int 3)], .tup [.cst (.bl true), .cst (.int 2)], .tup [], .tup [.cst (.int 0), .cst (.int 3)], .cst (.dic [] [])]])], false, false⟩
def c__law_bent_row : Df := ⟨"_law_bent_row", 2, ["pen", "row", "way", "at"], [.sh, .sh, .sh, .sh], 0, [.set (.nm 2) (.call "_law_draw" [.var 0, .cst (.int 4)]), .ife (.and (.cmp .Eq (.var 2) (.cst (.int 0))) (.cmp .Gt (.bi .len [.var 1]) (.cst (.int 0)))) [.ret (.slc (.var 1) [] [.neg (.cst (.int 1))])] [], .ife (.cmp .Eq (.var 2) (.cst (.int 1))) [.ret (.bin .Add (.var 1) (.tup [.call "_law_draw" [.var 0, .cst (.int 3)]]))] [], .ife (.and (.cmp .Eq (.var 2) (.cst (.int 2))) (.cmp .Gt (.bi .len [.var 1]) (.cst (.int 0)))) [.set (.nm 3) (.call "_law_draw" [.var 0, .bi .len [.var 1]]), .ret (.bin .Add (.bin .Add (.slc (.var 1) [] [.var 3]) (.tup [.call "_law_odd" [.var 0]])) (.slc (.var 1) [.bin .Add (.var 3) (.cst (.int 1))] []))] [], .ret (.call "_law_pick" [.var 0, .lst [.cst .non, .cst (.int 3), .cst (.str "row"), .cst (.bl true), .cst (.dic [] [])]])], false, false⟩
def c__law_more : Df := ⟨"_law_more", 2, ["one", "other"], [.sh, .sh], 0, [.ret (.ite (.call "_law_less" [.var 0, .var 1]) (.var 1) (.var 0))], false, false⟩
def c__law_most : Df := ⟨"_law_most", 1, ["numbers", "found", "number"], [.sh, .sh, .sh], 0, [.set (.nm 1) (.idx (.var 0) (.cst (.int 0))), .loop (.nm 2) .val [.var 0] [.set (.nm 1) (.call "_law_more" [.var 1, .var 2])], .ret (.var 1)], false, false⟩
def c__law_size_of : Df := ⟨"_law_size_of", 1, ["number"], [.sh], 0, [.ret (.ite (.cmp .Lt (.call "_law_sign" [.var 0]) (.cst (.int 0))) (.call "_law_opposite" [.var 0]) (.var 0))], false, false⟩
def c__law_shortest : Df := ⟨"_law_shortest", 1, ["table", "told", "many", "row", "z", "x", "y", "by"], [.sh, .sh, .sh, .sh, .sh, .sh, .sh, .sh], 0, [.par [1, 2] [.nest [3] (.nm 3) .val [.var 0] (.bi .list [.var 3]), .bi .len [.var 0]], .loop (.nm 4) .rng [.var 2] [.loop (.nm 5) .rng [.var 2] [.loop (.nm 6) .rng [.var 2] [.set (.nm 7) (.flat (.call "_law_plus" [.idx (.idx (.var 1) (.var 5)) (.var 4), .idx (.idx (.var 1) (.var 4)) (.var 6)])), .ife (.call "_law_less" [.var 7, .idx (.idx (.var 1) (.var 5)) (.var 6)]) [.setII 1 (.var 5) (.var 6) (.var 7) []] []]]], .ret (.bi .tuple [.comp [3] (.nm 3) .val [.var 1] (.bi .tuple [.var 3])])], false, false⟩
def c__law_evened : Df := ⟨"_law_evened", 3, ["pen", "many", "numbers", "found", "x", "y"], [.sh, .sh, .sh, .sh, .sh, .sh], 0, [.own 3 (.nest [4] (.nm 4) .rng [.var 1] (.rep (.cst (.int 0)) (.var 1))), .loop (.nm 4) .rng [.var 1] [.loop (.nm 5) .rng [.var 4] [.setII 3 (.var 4) (.var 5) (.call "_law_pick" [.var 0, .var 2]) [], .setII 3 (.var 5) (.var 4) (.flat (.idx (.idx (.var 3) (.var 4)) (.var 5))) []]], .ret (.var 3)], false, false⟩
def c__law_sides : Df := ⟨"_law_sides", 2, ["pen", "many", "found", "x", "lots", "lap", "at", "weight", "y", "row"], [.sh, .sh, .sh, .sh, .sh, .sh, .sh, .sh, .sh, .sh], 0, [.own 2 (.nest [3] (.nm 3) .rng [.var 1] (.rep (.cst (.int 0)) (.var 1))), .set (.nm 4) (.bin .Add (.comp [3] (.nm 3) .rng [.var 1] (.lst [.var 3])) (.comp [5] (.nm 5) .rng [.call "_law_draw" [.var 0, .cst (.int 5)]] (.compC [3] (.nm 3) .rng [.var 1] (.cmp .Eq (.call "_law_draw" [.var 0, .cst (.int 2)]) (.cst (.int 0))) (.var 3)))), .loop (.nm 6) .rng [.bi .len [.var 4]] [.set (.nm 7) (.ite (.cmp .GtE (.var 6) (.var 1)) (.call "_law_pick" [.var 0, .lst [.cst (.int 1), .cst (.int 2), .tup [.cst (.int 1), .cst (.int 2)], .cst (.int 3)]]) (.call "_law_pick" [.var 0, .lst [.tup [.cst (.int 1), .cst (.int 2)], .cst (.int 1), .cst (.int 2)]])), .loop (.nm 3) .rng [.var 1] [.loop (.nm 8) .rng [.var 1] [.ife (.cmp .NotEq (.cmp .In (.var 3) (.idx (.var 4) (.var 6))) (.cmp .In (.var 8) (.idx (.var 4) (.var 6)))) [.setII 2 (.var 3) (.var 8) (.flat (.call "_law_plus" [.idx (.idx (.var 2) (.var 3)) (.var 8), .var 7])) []] []]]], .ret (.bi .tuple [.comp [9] (.nm 9) .val [.var 2] (.bi .tuple [.var 9])])], false, false⟩
def c__law_tree_table : Df := ⟨"_law_tree_table", 2, ["pen", "many", "found", "x", "at", "by", "y", "row"], [.sh, .sh, .sh, .sh, .sh, .sh, .sh, .sh], 0, [.own 2 (.nest [3] (.nm 3) .rng [.var 1] (.rep (.cst (.int 0)) (.var 1))), .loop (.nm 3) .rng [.cst (.int 1), .var 1] [.par [4, 5] [.call "_law_draw" [.var 0, .var 3], .call "_law_pick" [.var 0, .lst [.cst (.int 1), .cst (.int 2), .tup [.cst (.int 3), .cst (.int 2)], .cst (.int 5)]]], .loop (.nm 6) .rng [.var 3] [.setII 2 (.var 3) (.var 6) (.flat (.call "_law_plus" [.idx (.idx (.var 2) (.var 4)) (.var 6), .var 5])) [], .setII 2 (.var 6) (.var 3) (.flat (.idx (.idx (.var 2) (.var 3)) (.var 6))) []]], .ret (.bi .tuple [.comp [7] (.nm 7) .val [.var 2] (.bi .tuple [.var 7])])], false, false⟩
def c__law_table : Df := ⟨"_law_table", 2, ["pen", "many", "way", "row", "by", "y", "x"], [.sh, .sh, .sh, .sh, .sh, .sh, .sh], 0, [.set (.nm 2) (.call "_law_draw" [.var 0, .cst (.int 7)]), .ife (.cmp .Eq (.var 2) (.cst (.int 0))) [.ret (.bi .tuple [.comp [3] (.nm 3) .val [.call "_law_evened" [.var 0, .var 1, .lst [.cst (.int 2), .cst (.int 3), .cst (.int 4), .tup [.cst (.int 5), .cst (.int 2)], .tup [.cst (.int 7), .cst (.int 2)]]]] (.bi .tuple [.var 3])])] [], .ife (.cmp .Eq (.var 2) (.cst (.int 1))) [.ret (.call "_law_shortest" [.call "_law_evened" [.var 0, .var 1, .lst [.cst (.int 1), .cst (.int 2), .cst (.int 3), .cst (.int 5), .cst (.int 8), .tup [.cst (.int 9), .cst (.int 2)], .tup [.cst (.int 1), .cst (.int 3)]]]])] [], .ife (.cmp .Eq (.var 2) (.cst (.int 2))) [.ret (.call "_law_sides" [.var 0, .var 1])] [], .ife (.cmp .Eq (.var 2) (.cst (.int 3))) [.ret (.call "_law_tree_table" [.var 0, .var 1])] [], .ife (.cmp .Eq (.var 2) (.cst (.int 4))) [.ret (.call "_law_shortest" [.call "_law_evened" [.var 0, .var 1, .lst [.cst (.int 1), .cst (.int 1), .cst (.int 2), .cst (.int 3)]]])] [], .ife (.cmp .Eq (.var 2) (.cst (.int 5))) [.set (.nm 4) (.bin .Add (.cst (.int 1)) (.call "_law_wide" [.var 0, .cst (.int 30)])), .ret (.bi .tuple [.comp [3] (.nm 3) .val [.call "_law_evened" [.var 0, .var 1, .lst [.var 4, .bin .Add (.var 4) (.cst (.int 1)), .call "_law_low" [.bin .Mult (.cst (.int 3)) (.var 4), .cst (.int 2)], .call "_law_low" [.bin .Mult (.cst (.int 2)) (.var 4), .cst (.int 1)]]]] (.bi .tuple [.var 3])])] [], .ret (.bi .tuple [.comp [6] (.nm 6) .rng [.var 1] (.bi .tuple [.comp [5] (.nm 5) .rng [.var 1] (.ite (.cmp .Eq (.var 6) (.var 5)) (.cst (.int 0)) (.cst (.int 2)))])])], false, false⟩
def c__law_some_table : Df := ⟨"_law_some_table", 2, ["pen", "most"], [.sh, .sh], 0, [.ret (.call "_law_table" [.var 0, .bin .Add (.cst (.int 1)) (.call "_law_draw" [.var 0, .var 1])])], false, false⟩
def c__law_over_by : Df := ⟨"_law_over_by", 4, ["rows", "row", "x", "y"], [.sh, .sh, .sh, .sh], 0, [.ret (.call "_law_minus" [.call "_law_plus" [.idx (.var 1) (.var 2), .idx (.var 1) (.var 3)], .idx (.idx (.var 0) (.var 2)) (.var 3)])], false, false⟩
def c__law_lowered : Df := ⟨"_law_lowered", 3, ["rows", "row", "order", "told", "x", "y"], [.sh, .sh, .sh, .sh, .sh, .sh], 0, [.own 3 (.bi .list [.var 1]), .loop (.nm 4) .val [.var 2] [.setI 3 (.var 4) (.call "_law_most" [.bin .Add (.lst [.cst (.int 0)]) (.compC [5] (.nm 5) .rng [.bi .len [.var 0]] (.cmp .NotEq (.var 5) (.var 4)) (.call "_law_minus" [.idx (.idx (.var 0) (.var 4)) (.var 5), .idx (.var 3) (.var 5)]))]) []], .frz 3, .ret (.bi .tuple [.var 3])], false, false⟩
def c__law_covering : Df := ⟨"_law_covering", 3, ["pen", "rows", "size", "many", "wide", "row", "found", "x", "y", "lack"], [.sh, .sh, .sh, .sh, .sh, .sh, .sh, .sh, .sh, .sh], 0, [.set (.nm 3) (.bi .len [.var 1]), .set (.nm 4) (.call "_law_most" [.comp [5] (.nm 5) .val [.var 1] (.call "_law_most" [.var 5])]), .own 6 (.lst []), .loop (.nm 7) .rng [.var 3] [.app 6 (.call "_law_plus" [.call "_law_times" [.var 4, .call "_law_pick" [.var 0, .lst [.cst (.int 0), .cst (.int 1), .tup [.cst (.int 1), .cst (.int 2)], .tup [.cst (.int 1), .cst (.int 3)], .tup [.cst (.int 3), .cst (.int 4)]]]], .call "_law_size_of" [.call "_law_number" [.var 0, .var 2]]]) []], .loop (.nm 7) .rng [.var 3] [.loop (.nm 8) .rng [.bin .Add (.var 7) (.cst (.int 1))] [.set (.nm 9) (.flat (.call "_law_over_by" [.var 1, .var 6, .var 7, .var 8])), .ife (.cmp .Lt (.call "_law_sign" [.var 9]) (.cst (.int 0))) [.setI 6 (.var 7) (.call "_law_minus" [.idx (.var 6) (.var 7), .var 9]) []] []]], .frz 6, .ret (.bi .tuple [.var 6])], false, false⟩
def c__law_tight_row : Df := ⟨"_law_tight_row", 2, ["pen", "rows", "order"], [.sh, .sh, .sh], 0, [.ife (.cmp .Eq (.call "_law_draw" [.var 0, .cst (.int 5)]) (.cst (.int 0))) [.ret (.call "_law_pick" [.var 0, .var 1])] [], .set (.nm 2) (.call "_law_shuffled" [.var 0, .lr1 (.bi .len [.var 1])]), .ret (.call "_law_lowered" [.var 1, .call "_law_covering" [.var 0, .var 1, .call "_law_draw" [.var 0, .cst (.int 2)]], .var 2])], false, false⟩
def c__law_ungrown_due : Df := ⟨"_law_ungrown_due", 5, ["rows", "row", "kind", "x", "y"], [.sh, .sh, .sh, .sh, .sh], 0, [.ife (.cmp .Eq (.var 2) (.cst (.str "nought"))) [.ret (.and (.cmp .Eq (.var 3) (.var 4)) (.cmp .LtE (.call "_law_sign" [.idx (.var 1) (.var 3)]) (.cst (.int 0))))] [], .ife (.cmp .Gt (.var 3) (.var 4)) [.ret (.cst (.bl false))] [], .ife (.cmp .Eq (.var 2) (.cst (.str "far"))) [.ret (.call "_law_less" [.idx (.idx (.var 0) (.var 3)) (.var 4), .call "_law_size_of" [.call "_law_minus" [.idx (.var 1) (.var 3), .idx (.var 1) (.var 4)]]])] [], .ret (.and (.cmp .Eq (.var 2) (.cst (.str "near"))) (.call "_law_less" [.call "_law_plus" [.idx (.var 1) (.var 3), .idx (.var 1) (.var 4)], .idx (.idx (.var 0) (.var 3)) (.var 4)]))], false, false⟩
def c__law_grows : Df := ⟨"_law_grows", 2, ["rows", "row", "many", "kind", "x", "y"], [.sh, .sh, .sh, .sh, .sh, .sh], 0, [.set (.nm 2) (.bi .len [.var 0]), .loop (.nm 3) .val [.tup [.cst (.str "nought"), .cst (.str "far"), .cst (.str "near")]] [.loop (.nm 4) .rng [.var 2] [.ife (.cmp .NotEq (.compC [5] (.nm 5) .rng [.var 4, .var 2] (.call "_law_ungrown_due" [.var 0, .var 1, .var 3, .var 4, .var 5]) (.var 5)) (.lst [])) [.ret (.cst (.bl false))] []]], .ret (.cst (.bl true))], false, false⟩
def c__law_row_right : Df := ⟨"_law_row_right", 4, ["pen", "rows", "d", "row", "many", "due", "told", "kind", "x", "y", "odd", "values", "value"], [.sh, .sh, .sh, .sh, .sh, .sh, .sh, .sh, .sh, .sh, .sh, .sh, .sh], 0, [.par [4, 5] [.bi .len [.var 1], .call "_law_grows" [.var 1, .var 3]], .set (.nm 6) (.call "ungrown" [.var 2, .var 3]), .ife (.or (.not (.call "_law_says" [.call "grows" [.var 2, .bi .list [.var 3]], .var 5])) (.cmp .NotEq (.cmp .Is (.var 6) (.cst .non)) (.var 5))) [.ret (.cst (.bl false))] [], .ife (.cmp .IsNot (.var 6) (.cst .non)) [.ife (.or (.not (.bi .isi [.var 6, .cst (.cls "Ungrown")])) (.or (.not (.call "_law_is_whole" [.att (.var 6) "one"])) (.not (.call "_law_is_whole" [.att (.var 6) "other"])))) [.ret (.cst (.bl false))] [], .ife (.or (.not (.cmp3 .LtE .LtE .Lt (.cst (.int 0)) (.att (.var 6) "one") (.att (.var 6) "other") (.var 4))) (.not (.call "_law_ungrown_due" [.var 1, .var 3, .att (.var 6) "kind", .att (.var 6) "one", .att (.var 6) "other"]))) [.ret (.cst (.bl false))] []] [], .loop (.nm 7) .val [.tup [.cst (.str "nought"), .cst (.str "far"), .cst (.str "near"), .cst (.str "Far")]] [.loop (.nm 8) .rng [.var 4] [.set (.nm 9) (.call "_law_draw" [.var 0, .var 4]), .ife (.not (.call "_law_says" [.call "ungrown_holds" [.var 2, .var 3, .mk "Ungrown" [.var 7, .var 8, .var 9]], .call "_law_ungrown_due" [.var 1, .var 3, .var 7, .var 8, .var 9]])) [.ret (.cst (.bl false))] [], .ife (.not (.call "_law_says" [.call "ungrown_holds" [.var 2, .var 3, .mk "Ungrown" [.var 7, .var 8, .var 8]], .call "_law_ungrown_due" [.var 1, .var 3, .var 7, .var 8, .var 8]])) [.ret (.cst (.bl false))] []]], .set (.nm 10) (.call "_law_pick" [.var 0, .lst [.neg (.cst (.int 1)), .var 4, .cst .non, .cst (.bl true), .cst (.str "0")]]), .set (.nm 11) (.tup [.cst .non, .tup [.cst (.str "far"), .cst (.int 0), .cst (.int 0)], .mk "Ungrown" [.cst (.str "nought"), .var 10, .var 10], .mk "Ungrown" [.cst (.str "near"), .cst (.int 0), .var 10], .mk "Ungrown" [.cst .non, .cst (.int 0), .cst (.int 0)], .cst (.bl true)]), .ret (.cmp .Eq (.compC [12] (.nm 12) .val [.var 11] (.cmp .IsNot (.call "ungrown_holds" [.var 2, .var 3, .var 12]) (.cst (.bl false))) (.var 12)) (.lst []))], false, false⟩
def c__law_grown_right : Df := ⟨"_law_grown_right", 3, ["rows", "d", "row", "told", "due", "line", "number"], [.sh, .sh, .sh, .sh, .sh, .sh, .sh], 0, [.ife (.not (.call "_law_grows" [.var 0, .var 2])) [.ret (.cmp .Eq (.fault (.call "grown" [.var 1, .var 2])) (.tup [.cst (.str "unlike"), .cst (.str "row")]))] [], .ife (.cmp .Eq (.bi .len [.var 0]) (.cst (.int 8))) [.ret (.cmp .Eq (.fault (.call "grown" [.var 1, .var 2])) (.tup [.cst (.str "many"), .cst (.str "points"), .cst (.int 9), .cst (.int 8)]))] [], .set (.nm 3) (.call "grown" [.var 1, .bi .list [.var 2]]), .set (.nm 4) (.bin .Add (.bi .tuple [.comp [5, 6] (.tp [.nm 5, .nm 6]) .zip [.var 0, .var 2] (.bin .Add (.var 5) (.tup [.var 6]))]) (.tup [.bin .Add (.bi .tuple [.var 2]) (.tup [.cst (.int 0)])])), .ret (.and (.bi .isi [.var 3, .cst (.cls "Distances")]) (.call "_law_is" [.att (.var 3) "rows", .var 4]))], true, true⟩
def c__law_refused : Df := ⟨"_law_refused", 3, ["pen", "d", "row", "bent", "told"], [.sh, .sh, .sh, .sh, .sh], 0, [.set (.nm 3) (.call "_law_bent_row" [.var 0, .var 2]), .own 4 (.lst [.fault (.call "grows" [.var 1, .var 3])]), .app 4 (.fault (.call "ungrown" [.var 1, .var 3])) [], .app 4 (.fault (.call "grown" [.var 1, .var 3])) [], .app 4 (.fault (.call "ungrown_holds" [.var 1, .var 3, .cst .non])) [], .frz 4, .ret (.cmp .Eq (.var 4) (.rep (.tup [.cst (.str "row"), .cst (.str "row"), .bi .repr [.var 3]]) (.cst (.int 4))))], true, true⟩
def lw : Df := ⟨"law", 1, ["script", "pen", "lap", "rows", "d", "many", "at", "by", "far", "number", "tight", "alike", "line", "moved", "row"], [.sh, .sh, .sh, .sh, .sh, .sh, .sh, .sh, .sh, .sh, .sh, .sh, .sh, .sh, .sh], 0, [.loop (.nm 2) .rng [.cst (.int 3)] [.set (.nm 3) (.call "_law_some_table" [.var 1, .cst (.int 8)]), .par [4, 5] [.mk "Distances" [.var 3], .bi .len [.var 3]], .par [6, 7] [.call "_law_draw" [.var 1, .var 5], .call "_law_pick" [.var 1, .lst [.cst (.int 1), .neg (.cst (.int 1)), .tup [.cst (.int 1), .bin .Pow (.cst (.int 10)) (.cst (.int 9))], .tup [.neg (.cst (.int 1)), .bin .Pow (.cst (.int 10)) (.cst (.int 9))]]]], .set (.nm 8) (.bi .tuple [.comp [9] (.nm 9) .val [.idx (.var 3) (.var 6)] (.call "_law_plus" [.var 9, .call "_law_pick" [.var 1, .lst [.cst (.int 1), .tup [.cst (.int 1), .cst (.int 2)]]]])]), .par [10, 11] [.call "_law_tight_row" [.var 1, .var 3], .bi .tuple [.comp [12] (.nm 12) .val [.var 3] (.call "_law_plus" [.call "_law_most" [.var 12], .cst (.int 1)])]], .set (.nm 13) (.bin .Add (.bin .Add (.slc (.var 10) [] [.var 6]) (.tup [.call "_law_plus" [.idx (.var 10) (.var 6), .var 7]])) (.slc (.var 10) [.bin .Add (.var 6) (.cst (.int 1))] [])), .loop (.nm 14) .val [.tup [.var 8, .var 10, .var 11, .var 13, .call "_law_row" [.var 1, .var 5, .cst (.int 1)], .idx (.var 3) (.var 6)]] [.ife (.or (.not (.call "_law_row_right" [.var 1, .var 3, .var 4, .var 14])) (.not (.call "_law_grown_right" [.var 3, .var 4, .var 14]))) [.ret (.cst (.bl false))] []], .ife (.not (.call "_law_refused" [.var 1, .var 4, .var 10])) [.ret (.cst (.bl false))] []], .ret (.cst (.bl true))], true, false⟩
def d_Distances : Cd := ⟨"Distances", 1, ["self", "rows", "found"], [.sh, .sh, .sh], [.exp (.call "need_even" [.var 1]), .set (.nm 2) (.call "first_detour" [.var 1]), .ife (.cmp .IsNot (.var 2) (.cst .non)) [.rai "BadDistances" ["what", "one", "other"] [.cst (.str "detour"), .idx (.var 2) (.cst (.int 0)), .idx (.var 2) (.cst (.int 2))]] []], ["rows"], [.call "as_tuples" [.var 1]]⟩
def d_Ungrown : Cd := ⟨"Ungrown", 3, ["self", "kind", "one", "other"], [.sh, .sh, .sh, .sh], [], ["kind", "one", "other"], [.call "as_tuples" [.var 1], .call "as_tuples" [.var 2], .call "as_tuples" [.var 3]]⟩
def sig_0 : List (Str × Nat × Nat) := [("is_integer", 1, 0), ("is_ratio", 1, 0), ("pair", 1, 0), ("in_lowest", 2, 0), ("added", 2, 0), ("opposite", 1, 0), ("sign_of", 1, 0), ("is_below", 2, 0), ("less_by", 2, 0), ("size_of", 1, 0), ("as_tuples", 1, 0), ("is_list", 1, 0), ("is_row", 2, 0), ("is_index", 2, 0), ("need_even", 1, 0), ("is_detour", 4, 0), ("first_detour", 1, 0), ("need_row", 3, 0), ("is_nought", 2, 0), ("is_far", 4, 0)]
def sig_1 : List (Str × Nat × Nat) := [("is_near_by", 4, 0), ("first_ungrown", 2, 0), ("grows", 2, 0), ("ungrown", 2, 0), ("ungrown_holds", 3, 0), ("with_point", 2, 0), ("grown", 2, 0), ("_law_draw", 2, 0), ("_law_pick", 2, 0), ("_law_shuffled", 2, 0), ("_law_is", 2, 0), ("_law_says", 2, 0), ("_law_divisor", 2, 0), ("_law_low", 2, 0), ("_law_pair", 1, 0), ("_law_plus", 2, 0), ("_law_opposite", 1, 0), ("_law_minus", 2, 0), ("_law_times", 2, 0), ("_law_sign", 1, 0)]
def sig_2 : List (Str × Nat × Nat) := [("_law_less", 2, 0), ("_law_is_whole", 1, 0), ("_law_number", 2, 0), ("_law_wide", 2, 0), ("_law_row", 3, 0), ("_law_odd", 1, 0), ("_law_bent_row", 2, 0), ("_law_more", 2, 0), ("_law_most", 1, 0), ("_law_size_of", 1, 0), ("_law_shortest", 1, 0), ("_law_evened", 3, 0), ("_law_sides", 2, 0), ("_law_tree_table", 2, 0), ("_law_table", 2, 0), ("_law_some_table", 2, 0), ("_law_over_by", 4, 0), ("_law_lowered", 3, 0), ("_law_covering", 3, 0), ("_law_tight_row", 2, 0)]
def sig_3 : List (Str × Nat × Nat) := [("_law_ungrown_due", 5, 0), ("_law_grows", 2, 0), ("_law_row_right", 4, 0), ("_law_grown_right", 3, 0), ("_law_refused", 3, 0)]
def sig : List (Str × Nat × Nat) := sig_0 ++ sig_1 ++ sig_2 ++ sig_3
def nums_0 : List (Str × Int) := [("MOST_POINTS", 8)]
def nums : List (Str × Int) := nums_0
def bn_0 : List Str := ["int", "list", "isinstance", "repr", "len", "ValueError", "tuple", "str", "bool", "dict", "all", "any", "abs", "max", "min", "sorted", "range", "zip", "enumerate"]
def bn : List Str := bn_0
def gd_0 : List Str := ["_law_grown_right", "_law_refused"]
def gd : List Str := gd_0
def ts_0 : List (Df × Stmt) := [(c_is_integer, top 20), (c_is_ratio, top 21), (c_pair, top 22), (c_in_lowest, top 23), (c_added, top 24), (c_opposite, top 25), (c_sign_of, top 26), (c_is_below, top 27), (c_less_by, top 28), (c_size_of, top 29), (c_as_tuples, top 31), (c_is_list, top 32), (c_is_row, top 33), (c_is_index, top 34), (c_need_even, top 38), (c_is_detour, top 39), (c_first_detour, top 40), (c_need_row, top 43), (c_is_nought, top 46), (c_is_far, top 47)]
def ts_1 : List (Df × Stmt) := [(c_is_near_by, top 48), (c_first_ungrown, top 49), (c_grows, top 50), (c_ungrown, top 51), (c_ungrown_holds, top 52), (c_with_point, top 53), (c_grown, top 54), (c__law_draw, top 57), (c__law_pick, top 58), (c__law_shuffled, top 59), (c__law_is, top 60), (c__law_says, top 61), (c__law_divisor, top 62), (c__law_low, top 63), (c__law_pair, top 64), (c__law_plus, top 65), (c__law_opposite, top 66), (c__law_minus, top 67), (c__law_times, top 68), (c__law_sign, top 69)]
def ts_2 : List (Df × Stmt) := [(c__law_less, top 70), (c__law_is_whole, top 71), (c__law_number, top 72), (c__law_wide, top 73), (c__law_row, top 74), (c__law_odd, top 75), (c__law_bent_row, top 76), (c__law_more, top 80), (c__law_most, top 81), (c__law_size_of, top 82), (c__law_shortest, top 83), (c__law_evened, top 84), (c__law_sides, top 85), (c__law_tree_table, top 86), (c__law_table, top 87), (c__law_some_table, top 88), (c__law_over_by, top 89), (c__law_lowered, top 90), (c__law_covering, top 91), (c__law_tight_row, top 92)]
def ts_3 : List (Df × Stmt) := [(c__law_ungrown_due, top 93), (c__law_grows, top 94), (c__law_row_right, top 95), (c__law_grown_right, top 96), (c__law_refused, top 97)]
def ts : List (Df × Stmt) := ts_0 ++ ts_1 ++ ts_2 ++ ts_3
def xs : List Xt := [⟨"BadTable", ["what"], "self", clSt (top 5) 0⟩, ⟨"BadDistances", ["what", "one", "other"], "self", clSt (top 6) 0⟩, ⟨"BadRow", ["what", "row"], "self", clSt (top 4) 0⟩, ⟨"Unlike", ["what"], "self", clSt (top 13) 0⟩, ⟨"TooMany", ["what", "many", "limit"], "self", clSt (top 15) 0⟩]
def cts : List Ct := [⟨d_Distances, "self", clSt (top 37) 0⟩, ⟨d_Ungrown, "self", clSt (top 45) 0⟩]
def tb : Tab := ⟨sig, ["Distances", "Ungrown"], [("BadTable", ["what"]), ("BadDistances", ["what", "one", "other"]), ("BadRow", ["what", "row"]), ("Unlike", ["what"]), ("TooMany", ["what", "many", "limit"])], nums, bn, true, gd, true, ktab, true, [("Distances", 1), ("Ungrown", 3)], []⟩
def LT : LawT := ⟨ts, lw, top 98, top 56, top 77, top 78, top 79, xs, tb, k1, k2, [("_law_grown_right", none), ("_law_refused", none), ("law", none)], [], cts⟩
theorem c_ts : LT.TS.all (fun p => defX LT.tb p.1 p.2) = true := by decide +kernel
theorem c_chk : LT.chk = true := by decide +kernel
theorem b_is_integer : BdOk c_is_integer (top 20) := fun _ _ _ _ _ _ us hl => match us, hl with | [_], _ => by kernel_rfl
theorem b_is_ratio : BdOk c_is_ratio (top 21) := fun _ _ _ _ _ _ us hl => match us, hl with | [_], _ => by kernel_rfl
theorem b_pair : BdOk c_pair (top 22) := fun _ _ _ _ _ _ us hl => match us, hl with | [_], _ => by kernel_rfl
theorem b_in_lowest : BdOk c_in_lowest (top 23) := fun _ _ _ _ _ _ us hl => match us, hl with | [_, _], _ => by kernel_rfl
theorem b_added : BdOk c_added (top 24) := fun _ _ _ _ _ _ us hl => match us, hl with | [_, _], _ => by kernel_rfl
theorem b_opposite : BdOk c_opposite (top 25) := fun _ _ _ _ _ _ us hl => match us, hl with | [_], _ => by kernel_rfl
theorem b_sign_of : BdOk c_sign_of (top 26) := fun _ _ _ _ _ _ us hl => match us, hl with | [_], _ => by kernel_rfl
theorem b_is_below : BdOk c_is_below (top 27) := fun _ _ _ _ _ _ us hl => match us, hl with | [_, _], _ => by kernel_rfl
theorem b_less_by : BdOk c_less_by (top 28) := fun _ _ _ _ _ _ us hl => match us, hl with | [_, _], _ => by kernel_rfl
theorem b_size_of : BdOk c_size_of (top 29) := fun _ _ _ _ _ _ us hl => match us, hl with | [_], _ => by kernel_rfl
theorem b_as_tuples : BdOk c_as_tuples (top 31) := fun _ _ _ _ _ _ us hl => match us, hl with | [_], _ => by kernel_rfl
theorem b_is_list : BdOk c_is_list (top 32) := fun _ _ _ _ _ _ us hl => match us, hl with | [_], _ => by kernel_rfl
theorem b_is_row : BdOk c_is_row (top 33) := fun _ _ _ _ _ _ us hl => match us, hl with | [_, _], _ => by kernel_rfl
theorem b_is_index : BdOk c_is_index (top 34) := fun _ _ _ _ _ _ us hl => match us, hl with | [_, _], _ => by kernel_rfl
theorem b_need_even : BdOk c_need_even (top 38) := fun _ _ _ _ _ _ us hl => match us, hl with | [_], _ => by kernel_rfl
theorem b_is_detour : BdOk c_is_detour (top 39) := fun _ _ _ _ _ _ us hl => match us, hl with | [_, _, _, _], _ => by kernel_rfl
theorem b_first_detour : BdOk c_first_detour (top 40) := fun _ _ _ _ _ _ us hl => match us, hl with | [_], _ => by kernel_rfl
theorem b_need_row : BdOk c_need_row (top 43) := fun _ _ _ _ _ _ us hl => match us, hl with | [_, _, _], _ => by kernel_rfl
theorem b_is_nought : BdOk c_is_nought (top 46) := fun _ _ _ _ _ _ us hl => match us, hl with | [_, _], _ => by kernel_rfl
theorem b_is_far : BdOk c_is_far (top 47) := fun _ _ _ _ _ _ us hl => match us, hl with | [_, _, _, _], _ => by kernel_rfl
theorem b_is_near_by : BdOk c_is_near_by (top 48) := fun _ _ _ _ _ _ us hl => match us, hl with | [_, _, _, _], _ => by kernel_rfl
theorem b_first_ungrown : BdOk c_first_ungrown (top 49) := fun _ _ _ _ _ _ us hl => match us, hl with | [_, _], _ => by kernel_rfl
theorem b_grows : BdOk c_grows (top 50) := fun _ _ _ _ _ _ us hl => match us, hl with | [_, _], _ => by kernel_rfl
theorem b_ungrown : BdOk c_ungrown (top 51) := fun _ _ _ _ _ _ us hl => match us, hl with | [_, _], _ => by kernel_rfl
theorem b_ungrown_holds : BdOk c_ungrown_holds (top 52) := fun _ _ _ _ _ _ us hl => match us, hl with | [_, _, _], _ => by kernel_rfl
theorem b_with_point : BdOk c_with_point (top 53) := fun _ _ _ _ _ _ us hl => match us, hl with | [_, _], _ => by kernel_rfl
theorem b_grown : BdOk c_grown (top 54) := fun _ _ _ _ _ _ us hl => match us, hl with | [_, _], _ => by kernel_rfl
theorem b__law_draw : BdOk c__law_draw (top 57) := fun _ _ _ _ _ _ us hl => match us, hl with | [_, _], _ => by kernel_rfl
theorem b__law_pick : BdOk c__law_pick (top 58) := fun _ _ _ _ _ _ us hl => match us, hl with | [_, _], _ => by kernel_rfl
theorem b__law_shuffled : BdOk c__law_shuffled (top 59) := fun _ _ _ _ _ _ us hl => match us, hl with | [_, _], _ => by kernel_rfl
theorem b__law_is : BdOk c__law_is (top 60) := fun _ _ _ _ _ _ us hl => match us, hl with | [_, _], _ => by kernel_rfl
theorem b__law_says : BdOk c__law_says (top 61) := fun _ _ _ _ _ _ us hl => match us, hl with | [_, _], _ => by kernel_rfl
theorem b__law_divisor : BdOk c__law_divisor (top 62) := fun _ _ _ _ _ _ us hl => match us, hl with | [_, _], _ => by kernel_rfl
theorem b__law_low : BdOk c__law_low (top 63) := fun _ _ _ _ _ _ us hl => match us, hl with | [_, _], _ => by kernel_rfl
theorem b__law_pair : BdOk c__law_pair (top 64) := fun _ _ _ _ _ _ us hl => match us, hl with | [_], _ => by kernel_rfl
theorem b__law_plus : BdOk c__law_plus (top 65) := fun _ _ _ _ _ _ us hl => match us, hl with | [_, _], _ => by kernel_rfl
theorem b__law_opposite : BdOk c__law_opposite (top 66) := fun _ _ _ _ _ _ us hl => match us, hl with | [_], _ => by kernel_rfl
theorem b__law_minus : BdOk c__law_minus (top 67) := fun _ _ _ _ _ _ us hl => match us, hl with | [_, _], _ => by kernel_rfl
theorem b__law_times : BdOk c__law_times (top 68) := fun _ _ _ _ _ _ us hl => match us, hl with | [_, _], _ => by kernel_rfl
theorem b__law_sign : BdOk c__law_sign (top 69) := fun _ _ _ _ _ _ us hl => match us, hl with | [_], _ => by kernel_rfl
theorem b__law_less : BdOk c__law_less (top 70) := fun _ _ _ _ _ _ us hl => match us, hl with | [_, _], _ => by kernel_rfl
theorem b__law_is_whole : BdOk c__law_is_whole (top 71) := fun _ _ _ _ _ _ us hl => match us, hl with | [_], _ => by kernel_rfl
theorem b__law_number : BdOk c__law_number (top 72) := fun _ _ _ _ _ _ us hl => match us, hl with | [_, _], _ => by kernel_rfl
theorem b__law_wide : BdOk c__law_wide (top 73) := fun _ _ _ _ _ _ us hl => match us, hl with | [_, _], _ => by kernel_rfl
theorem b__law_row : BdOk c__law_row (top 74) := fun _ _ _ _ _ _ us hl => match us, hl with | [_, _, _], _ => by kernel_rfl
theorem b__law_odd : BdOk c__law_odd (top 75) := fun _ _ _ _ _ _ us hl => match us, hl with | [_], _ => by kernel_rfl
theorem b__law_bent_row : BdOk c__law_bent_row (top 76) := fun _ _ _ _ _ _ us hl => match us, hl with | [_, _], _ => by kernel_rfl
theorem b__law_more : BdOk c__law_more (top 80) := fun _ _ _ _ _ _ us hl => match us, hl with | [_, _], _ => by kernel_rfl
theorem b__law_most : BdOk c__law_most (top 81) := fun _ _ _ _ _ _ us hl => match us, hl with | [_], _ => by kernel_rfl
theorem b__law_size_of : BdOk c__law_size_of (top 82) := fun _ _ _ _ _ _ us hl => match us, hl with | [_], _ => by kernel_rfl
theorem b__law_shortest : BdOk c__law_shortest (top 83) := fun _ _ _ _ _ _ us hl => match us, hl with | [_], _ => by kernel_rfl
theorem b__law_evened : BdOk c__law_evened (top 84) := fun _ _ _ _ _ _ us hl => match us, hl with | [_, _, _], _ => by kernel_rfl
theorem b__law_sides : BdOk c__law_sides (top 85) := fun _ _ _ _ _ _ us hl => match us, hl with | [_, _], _ => by kernel_rfl
theorem b__law_tree_table : BdOk c__law_tree_table (top 86) := fun _ _ _ _ _ _ us hl => match us, hl with | [_, _], _ => by kernel_rfl
theorem b__law_table : BdOk c__law_table (top 87) := fun _ _ _ _ _ _ us hl => match us, hl with | [_, _], _ => by kernel_rfl
theorem b__law_some_table : BdOk c__law_some_table (top 88) := fun _ _ _ _ _ _ us hl => match us, hl with | [_, _], _ => by kernel_rfl
theorem b__law_over_by : BdOk c__law_over_by (top 89) := fun _ _ _ _ _ _ us hl => match us, hl with | [_, _, _, _], _ => by kernel_rfl
theorem b__law_lowered : BdOk c__law_lowered (top 90) := fun _ _ _ _ _ _ us hl => match us, hl with | [_, _, _], _ => by kernel_rfl
theorem b__law_covering : BdOk c__law_covering (top 91) := fun _ _ _ _ _ _ us hl => match us, hl with | [_, _, _], _ => by kernel_rfl
theorem b__law_tight_row : BdOk c__law_tight_row (top 92) := fun _ _ _ _ _ _ us hl => match us, hl with | [_, _], _ => by kernel_rfl
theorem b__law_ungrown_due : BdOk c__law_ungrown_due (top 93) := fun _ _ _ _ _ _ us hl => match us, hl with | [_, _, _, _, _], _ => by kernel_rfl
theorem b__law_grows : BdOk c__law_grows (top 94) := fun _ _ _ _ _ _ us hl => match us, hl with | [_, _], _ => by kernel_rfl
theorem b__law_row_right : BdOk c__law_row_right (top 95) := fun _ _ _ _ _ _ us hl => match us, hl with | [_, _, _, _], _ => by kernel_rfl
theorem b__law_grown_right : BdOk c__law_grown_right (top 96) := fun _ _ _ _ _ _ us hl => match us, hl with | [_, _, _], _ => by kernel_rfl
theorem b__law_refused : BdOk c__law_refused (top 97) := fun _ _ _ _ _ _ us hl => match us, hl with | [_, _, _], _ => by kernel_rfl
theorem b_law : BdN "law" "law" (top 98) ["script"] := fun _ _ _ _ _ _ us hl => match us, hl with | [_], _ => by kernel_rfl
theorem b__law_pen : BdN "_law_pen" "_law_pen" (top 56) ["script"] := fun _ _ _ _ _ _ us hl => match us, hl with | [_], _ => by kernel_rfl
theorem b__law_kinds : BdN "_law_kinds" "_law_kinds" (top 77) ["e"] := fun _ _ _ _ _ _ us hl => match us, hl with | [_], _ => by kernel_rfl
theorem b__law_more_kinds : BdN "_law_more_kinds" "_law_more_kinds" (top 78) ["e"] := fun _ _ _ _ _ _ us hl => match us, hl with | [_], _ => by kernel_rfl
theorem b__law_fault : BdN "_law_fault" "_law_fault" (top 79) ["call"] := fun _ _ _ _ _ _ us hl => match us, hl with | [_], _ => by kernel_rfl
theorem b_x0 : BdN "__init__" (("BadTable" : Str) ++ (".__init__" : Str)) (clSt (top 5) 0) ["self", "what"] := fun _ _ _ _ _ _ us hl => match us, hl with | [_, _], _ => by kernel_rfl
theorem b_x1 : BdN "__init__" (("BadDistances" : Str) ++ (".__init__" : Str)) (clSt (top 6) 0) ["self", "what", "one", "other"] := fun _ _ _ _ _ _ us hl => match us, hl with | [_, _, _, _], _ => by kernel_rfl
theorem b_x2 : BdN "__init__" (("BadRow" : Str) ++ (".__init__" : Str)) (clSt (top 4) 0) ["self", "what", "row"] := fun _ _ _ _ _ _ us hl => match us, hl with | [_, _, _], _ => by kernel_rfl
theorem b_x3 : BdN "__init__" (("Unlike" : Str) ++ (".__init__" : Str)) (clSt (top 13) 0) ["self", "what"] := fun _ _ _ _ _ _ us hl => match us, hl with | [_, _], _ => by kernel_rfl
theorem b_x4 : BdN "__init__" (("TooMany" : Str) ++ (".__init__" : Str)) (clSt (top 15) 0) ["self", "what", "many", "limit"] := fun _ _ _ _ _ _ us hl => match us, hl with | [_, _, _, _], _ => by kernel_rfl
theorem b_c0 : BdN "__init__" (("Distances" : Str) ++ (".__init__" : Str)) (clSt (top 37) 0) ["self", "rows"] := fun _ _ _ _ _ _ us hl => match us, hl with | [_, _], _ => by kernel_rfl
theorem b_c1 : BdN "__init__" (("Ungrown" : Str) ++ (".__init__" : Str)) (clSt (top 45) 0) ["self", "kind", "one", "other"] := fun _ _ _ _ _ _ us hl => match us, hl with | [_, _, _, _], _ => by kernel_rfl
theorem bts_0 : ∀ p ∈ ts_0, BdOk p.1 p.2 := List.forall_mem_cons.mpr ⟨b_is_integer, List.forall_mem_cons.mpr ⟨b_is_ratio, List.forall_mem_cons.mpr ⟨b_pair, List.forall_mem_cons.mpr ⟨b_in_lowest, List.forall_mem_cons.mpr ⟨b_added, List.forall_mem_cons.mpr ⟨b_opposite, List.forall_mem_cons.mpr ⟨b_sign_of, List.forall_mem_cons.mpr ⟨b_is_below, List.forall_mem_cons.mpr ⟨b_less_by, List.forall_mem_cons.mpr ⟨b_size_of, List.forall_mem_cons.mpr ⟨b_as_tuples, List.forall_mem_cons.mpr ⟨b_is_list, List.forall_mem_cons.mpr ⟨b_is_row, List.forall_mem_cons.mpr ⟨b_is_index, List.forall_mem_cons.mpr ⟨b_need_even, List.forall_mem_cons.mpr ⟨b_is_detour, List.forall_mem_cons.mpr ⟨b_first_detour, List.forall_mem_cons.mpr ⟨b_need_row, List.forall_mem_cons.mpr ⟨b_is_nought, List.forall_mem_cons.mpr ⟨b_is_far, List.forall_mem_nil _⟩⟩⟩⟩⟩⟩⟩⟩⟩⟩⟩⟩⟩⟩⟩⟩⟩⟩⟩⟩
theorem bts_1 : ∀ p ∈ ts_1, BdOk p.1 p.2 := List.forall_mem_cons.mpr ⟨b_is_near_by, List.forall_mem_cons.mpr ⟨b_first_ungrown, List.forall_mem_cons.mpr ⟨b_grows, List.forall_mem_cons.mpr ⟨b_ungrown, List.forall_mem_cons.mpr ⟨b_ungrown_holds, List.forall_mem_cons.mpr ⟨b_with_point, List.forall_mem_cons.mpr ⟨b_grown, List.forall_mem_cons.mpr ⟨b__law_draw, List.forall_mem_cons.mpr ⟨b__law_pick, List.forall_mem_cons.mpr ⟨b__law_shuffled, List.forall_mem_cons.mpr ⟨b__law_is, List.forall_mem_cons.mpr ⟨b__law_says, List.forall_mem_cons.mpr ⟨b__law_divisor, List.forall_mem_cons.mpr ⟨b__law_low, List.forall_mem_cons.mpr ⟨b__law_pair, List.forall_mem_cons.mpr ⟨b__law_plus, List.forall_mem_cons.mpr ⟨b__law_opposite, List.forall_mem_cons.mpr ⟨b__law_minus, List.forall_mem_cons.mpr ⟨b__law_times, List.forall_mem_cons.mpr ⟨b__law_sign, List.forall_mem_nil _⟩⟩⟩⟩⟩⟩⟩⟩⟩⟩⟩⟩⟩⟩⟩⟩⟩⟩⟩⟩
theorem bts_2 : ∀ p ∈ ts_2, BdOk p.1 p.2 := List.forall_mem_cons.mpr ⟨b__law_less, List.forall_mem_cons.mpr ⟨b__law_is_whole, List.forall_mem_cons.mpr ⟨b__law_number, List.forall_mem_cons.mpr ⟨b__law_wide, List.forall_mem_cons.mpr ⟨b__law_row, List.forall_mem_cons.mpr ⟨b__law_odd, List.forall_mem_cons.mpr ⟨b__law_bent_row, List.forall_mem_cons.mpr ⟨b__law_more, List.forall_mem_cons.mpr ⟨b__law_most, List.forall_mem_cons.mpr ⟨b__law_size_of, List.forall_mem_cons.mpr ⟨b__law_shortest, List.forall_mem_cons.mpr ⟨b__law_evened, List.forall_mem_cons.mpr ⟨b__law_sides, List.forall_mem_cons.mpr ⟨b__law_tree_table, List.forall_mem_cons.mpr ⟨b__law_table, List.forall_mem_cons.mpr ⟨b__law_some_table, List.forall_mem_cons.mpr ⟨b__law_over_by, List.forall_mem_cons.mpr ⟨b__law_lowered, List.forall_mem_cons.mpr ⟨b__law_covering, List.forall_mem_cons.mpr ⟨b__law_tight_row, List.forall_mem_nil _⟩⟩⟩⟩⟩⟩⟩⟩⟩⟩⟩⟩⟩⟩⟩⟩⟩⟩⟩⟩
theorem bts_3 : ∀ p ∈ ts_3, BdOk p.1 p.2 := List.forall_mem_cons.mpr ⟨b__law_ungrown_due, List.forall_mem_cons.mpr ⟨b__law_grows, List.forall_mem_cons.mpr ⟨b__law_row_right, List.forall_mem_cons.mpr ⟨b__law_grown_right, List.forall_mem_cons.mpr ⟨b__law_refused, List.forall_mem_nil _⟩⟩⟩⟩⟩
theorem bd : LT.Bd := ⟨(fun p hp => (List.mem_append.mp hp).elim ((fun p hp => (List.mem_append.mp hp).elim ((fun p hp => (List.mem_append.mp hp).elim (bts_0 p) (bts_1 p)) p) (bts_2 p)) p) (bts_3 p)), b_law, b__law_pen, fun _ => b__law_kinds, fun _ => b__law_more_kinds, fun _ => b__law_fault, List.forall_mem_cons.mpr ⟨b_x0, List.forall_mem_cons.mpr ⟨b_x1, List.forall_mem_cons.mpr ⟨b_x2, List.forall_mem_cons.mpr ⟨b_x3, List.forall_mem_cons.mpr ⟨b_x4, List.forall_mem_nil _⟩⟩⟩⟩⟩, List.forall_mem_cons.mpr ⟨b_c0, List.forall_mem_cons.mpr ⟨b_c1, List.forall_mem_nil _⟩⟩⟩
theorem fa_eq : LT.fa = hfa := by kernel_rfl
theorem fn_eq : LT.fn = hfn := by kernel_rfl
theorem tf_eq : LT.tf = htf := by kernel_rfl
theorem ex_eq : LT.ex = hex := by kernel_rfl
open Pl
def wh : Nat := 2 ^ 9000
theorem wh85 : 2 ^ 8500 ≤ wh := Nat.pow_le_pow_right (by decide) (by decide)
abbrev Cw (n : Nat) : Str → List D → Mc.P → R D := runT (LT.TS.map (·.1)) (LT.cs.map (·.d)) (fltR LT.tb.kt) wh n
theorem r_Distances (n : Nat) : Cw (n + 1) "Distances" = Pl.ck "Distances" ["rows"] 3 (Pl.s_Distances Pl.ktabP wh (Cw n "as_tuples") (Cw n "first_detour") (Cw n "need_even")) (Pl.f_Distances Pl.ktabP wh (Cw n "as_tuples") (Cw n "first_detour") (Cw n "need_even")) := by kernel_rfl
theorem r_as_tuples (n : Nat) : Cw (n + 1) "as_tuples" = Pl.fk 0 2 (Pl.s_as_tuples Pl.ktabP wh (Cw n "as_tuples")) := by kernel_rfl
theorem h_as_tuples0 (n : Nat) : Sast 0 (Cw (n + 1) "as_tuples") := by rw [r_as_tuples n]; exact Pl.p_as_tuples0
theorem h_as_tuples1 (n : Nat) : Sast 1 (Cw (n + 2) "as_tuples") := by rw [r_as_tuples (n + 1)]; exact Pl.p_as_tuples (h_as_tuples0 n)
theorem h_as_tuples2 (n : Nat) : Sast 2 (Cw (n + 3) "as_tuples") := by rw [r_as_tuples (n + 2)]; exact Pl.p_as_tuples (h_as_tuples1 n)
theorem h_as_tuples (n : Nat) : Sast 3 (Cw (n + 4) "as_tuples") := by rw [r_as_tuples (n + 3)]; exact Pl.p_as_tuples (h_as_tuples2 n)
theorem h_as_tuplesF0 (n : Nat) : Sas 0 (Cw (n + 1) "as_tuples") := by rw [r_as_tuples n]; exact Pl.p_as_tuplesF0
theorem h_as_tuplesF (n : Nat) : Sas 1 (Cw (n + 2) "as_tuples") := by rw [r_as_tuples (n + 1)]; exact Pl.p_as_tuplesF (h_as_tuplesF0 n)
theorem r_first_detour (n : Nat) : Cw (n + 1) "first_detour" = Pl.fk 0 4 (Pl.s_first_detour Pl.ktabP wh (Cw n "is_detour")) := by kernel_rfl
theorem r_is_detour (n : Nat) : Cw (n + 1) "is_detour" = Pl.fk 0 4 (Pl.s_is_detour Pl.ktabP wh (Cw n "added") (Cw n "is_below")) := by kernel_rfl
theorem r_added (n : Nat) : Cw (n + 1) "added" = Pl.fk 0 6 (Pl.s_added Pl.ktabP wh (Cw n "in_lowest") (Cw n "pair")) := by kernel_rfl
theorem r_in_lowest (n : Nat) : Cw (n + 1) "in_lowest" = Pl.fk 0 3 (Pl.s_in_lowest Pl.ktabP wh ) := by kernel_rfl
theorem h_in_lowest (n : Nat) : Slow (Cw (n + 1) "in_lowest") := by rw [r_in_lowest (n + 0)]; exact Pl.p_in_lowest 
theorem r_pair (n : Nat) : Cw (n + 1) "pair" = Pl.fk 0 1 (Pl.s_pair Pl.ktabP wh ) := by kernel_rfl
theorem h_pair (n : Nat) : Spair (Cw (n + 1) "pair") := by rw [r_pair (n + 0)]; exact Pl.p_pair 
theorem h_added (n : Nat) : Sadd (Cw (n + 2) "added") := by rw [r_added (n + 1)]; exact Pl.p_added (h_in_lowest (n + 0)) (h_pair (n + 0))
theorem r_is_below (n : Nat) : Cw (n + 1) "is_below" = Pl.fk 0 6 (Pl.s_is_below Pl.ktabP wh (Cw n "pair")) := by kernel_rfl
theorem h_is_below (n : Nat) : Slt (Cw (n + 2) "is_below") := by rw [r_is_below (n + 1)]; exact Pl.p_is_below (h_pair (n + 0))
theorem h_is_detour (n : Nat) : Sisdet (Cw (n + 3) "is_detour") := by rw [r_is_detour (n + 2)]; exact Pl.p_is_detour (h_added (n + 0)) (h_is_below (n + 0))
theorem h_first_detour (n : Nat) : Sfd (Cw (n + 4) "first_detour") := by rw [r_first_detour (n + 3)]; exact Pl.p_first_detour (h_is_detour (n + 0))
theorem r_need_even (n : Nat) : Cw (n + 1) "need_even" = Pl.fk 0 4 (Pl.s_need_even Pl.ktabP wh (Cw n "is_list") (Cw n "is_row") (Cw n "sign_of")) := by kernel_rfl
theorem r_is_list (n : Nat) : Cw (n + 1) "is_list" = Pl.fk 0 1 (Pl.s_is_list Pl.ktabP wh ) := by kernel_rfl
theorem h_is_list (n : Nat) : SisL (Cw (n + 1) "is_list") := by rw [r_is_list (n + 0)]; exact Pl.p_is_list 
theorem r_is_row (n : Nat) : Cw (n + 1) "is_row" = Pl.fk 0 3 (Pl.s_is_row Pl.ktabP wh (Cw n "is_list") (Cw n "is_ratio")) := by kernel_rfl
theorem r_is_ratio (n : Nat) : Cw (n + 1) "is_ratio" = Pl.fk 0 1 (Pl.s_is_ratio Pl.ktabP wh (Cw n "is_integer")) := by kernel_rfl
theorem r_is_integer (n : Nat) : Cw (n + 1) "is_integer" = Pl.fk 0 1 (Pl.s_is_integer Pl.ktabP wh ) := by kernel_rfl
theorem h_is_integer (n : Nat) : SisI (Cw (n + 1) "is_integer") := by rw [r_is_integer (n + 0)]; exact Pl.p_is_integer 
theorem h_is_ratio (n : Nat) : SisR (Cw (n + 2) "is_ratio") := by rw [r_is_ratio (n + 1)]; exact Pl.p_is_ratio (h_is_integer (n + 0))
theorem h_is_row (n : Nat) : Sisrow (Cw (n + 3) "is_row") := by rw [r_is_row (n + 2)]; exact Pl.p_is_row (h_is_list (n + 1)) (h_is_ratio (n + 0))
theorem r_sign_of (n : Nat) : Cw (n + 1) "sign_of" = Pl.fk 0 2 (Pl.s_sign_of Pl.ktabP wh ) := by kernel_rfl
theorem h_sign_of (n : Nat) : Ssgn (Cw (n + 1) "sign_of") := by rw [r_sign_of (n + 0)]; exact Pl.p_sign_of 
theorem h_need_even (n : Nat) : Seven (Cw (n + 4) "need_even") := by rw [r_need_even (n + 3)]; exact Pl.p_need_even (h_is_list (n + 2)) (h_is_row (n + 0)) (h_sign_of (n + 2))
theorem h_Distances (n : Nat) : Sdist (Cw (n + 5) "Distances") := by rw [r_Distances (n + 4)]; exact Pl.p_Distances (h_as_tuples (n + 0)) (h_first_detour (n + 0)) (h_need_even (n + 0))
theorem r__law_draw (n : Nat) : Cw (n + 1) "_law_draw" = Pl.fk 0 5 (Pl.s__law_draw Pl.ktabP wh ) := by kernel_rfl
theorem h__law_draw (n : Nat) : Sdraw (Cw (n + 1) "_law_draw") := by rw [r__law_draw (n + 0)]; exact Pl.p__law_draw 
theorem r__law_grown_right (n : Nat) : Cw (n + 1) "_law_grown_right" = Pl.fk 0 7 (Pl.s__law_grown_right Pl.ktabP wh (Cw n "_law_grows") (Cw n "_law_is") (Cw n "grown")) := by kernel_rfl
theorem r__law_grows (n : Nat) : Cw (n + 1) "_law_grows" = Pl.fk 0 6 (Pl.s__law_grows Pl.ktabP wh (Cw n "_law_ungrown_due")) := by kernel_rfl
theorem r__law_ungrown_due (n : Nat) : Cw (n + 1) "_law_ungrown_due" = Pl.fk 0 5 (Pl.s__law_ungrown_due Pl.ktabP wh (Cw n "_law_less") (Cw n "_law_minus") (Cw n "_law_plus") (Cw n "_law_sign") (Cw n "_law_size_of")) := by kernel_rfl
theorem r__law_less (n : Nat) : Cw (n + 1) "_law_less" = Pl.fk 0 4 (Pl.s__law_less Pl.ktabP wh (Cw n "_law_pair")) := by kernel_rfl
theorem r__law_pair (n : Nat) : Cw (n + 1) "_law_pair" = Pl.fk 0 1 (Pl.s__law_pair Pl.ktabP wh ) := by kernel_rfl
theorem h__law_pair (n : Nat) : Spair (Cw (n + 1) "_law_pair") := by rw [r__law_pair (n + 0)]; exact Pl.p__law_pair 
theorem h__law_less (n : Nat) : Slt (Cw (n + 2) "_law_less") := by rw [r__law_less (n + 1)]; exact Pl.p__law_less (h__law_pair (n + 0))
theorem r__law_minus (n : Nat) : Cw (n + 1) "_law_minus" = Pl.fk 0 2 (Pl.s__law_minus Pl.ktabP wh (Cw n "_law_opposite") (Cw n "_law_plus")) := by kernel_rfl
theorem r__law_opposite (n : Nat) : Cw (n + 1) "_law_opposite" = Pl.fk 0 1 (Pl.s__law_opposite Pl.ktabP wh ) := by kernel_rfl
theorem h__law_opposite (n : Nat) : Sopp (Cw (n + 1) "_law_opposite") := by rw [r__law_opposite (n + 0)]; exact Pl.p__law_opposite 
theorem r__law_plus (n : Nat) : Cw (n + 1) "_law_plus" = Pl.fk 0 4 (Pl.s__law_plus Pl.ktabP wh (Cw n "_law_low") (Cw n "_law_pair")) := by kernel_rfl
theorem r__law_low (n : Nat) : Cw (n + 1) "_law_low" = Pl.fk 0 3 (Pl.s__law_low Pl.ktabP wh (Cw n "_law_divisor")) := by kernel_rfl
theorem r__law_divisor (n : Nat) : Cw (n + 1) "_law_divisor" = Pl.fk 0 2 (Pl.s__law_divisor Pl.ktabP wh ) := by kernel_rfl
theorem h__law_divisor (n : Nat) : Sgcd (Cw (n + 1) "_law_divisor") := by rw [r__law_divisor (n + 0)]; exact Pl.p__law_divisor wh85
theorem h__law_low (n : Nat) : Slow (Cw (n + 2) "_law_low") := by rw [r__law_low (n + 1)]; exact Pl.p__law_low (h__law_divisor (n + 0))
theorem h__law_plus (n : Nat) : Sadd (Cw (n + 3) "_law_plus") := by rw [r__law_plus (n + 2)]; exact Pl.p__law_plus (h__law_low (n + 0)) (h__law_pair (n + 1))
theorem h__law_minus (n : Nat) : Ssub (Cw (n + 4) "_law_minus") := by rw [r__law_minus (n + 3)]; exact Pl.p__law_minus (h__law_opposite (n + 2)) (h__law_plus (n + 0))
theorem r__law_sign (n : Nat) : Cw (n + 1) "_law_sign" = Pl.fk 0 2 (Pl.s__law_sign Pl.ktabP wh (Cw n "_law_pair")) := by kernel_rfl
theorem h__law_sign (n : Nat) : Ssgn (Cw (n + 2) "_law_sign") := by rw [r__law_sign (n + 1)]; exact Pl.p__law_sign (h__law_pair (n + 0))
theorem r__law_size_of (n : Nat) : Cw (n + 1) "_law_size_of" = Pl.fk 0 1 (Pl.s__law_size_of Pl.ktabP wh (Cw n "_law_opposite") (Cw n "_law_sign")) := by kernel_rfl
theorem h__law_size_of (n : Nat) : Sab (Cw (n + 3) "_law_size_of") := by rw [r__law_size_of (n + 2)]; exact Pl.p__law_size_of (h__law_opposite (n + 1)) (h__law_sign (n + 0))
theorem h__law_ungrown_due (n : Nat) : Sdue (Cw (n + 5) "_law_ungrown_due") := by rw [r__law_ungrown_due (n + 4)]; exact Pl.p__law_ungrown_due (h__law_less (n + 2)) (h__law_minus (n + 0)) (h__law_plus (n + 1)) (h__law_sign (n + 2)) (h__law_size_of (n + 1))
theorem h__law_grows (n : Nat) : Slgr (Cw (n + 6) "_law_grows") := by rw [r__law_grows (n + 5)]; exact Pl.p__law_grows13 (h__law_ungrown_due (n + 0))
theorem r__law_is (n : Nat) : Cw (n + 1) "_law_is" = Pl.fk 0 3 (Pl.s__law_is Pl.ktabP wh (Cw n "_law_is")) := by kernel_rfl
theorem h__law_is0 (n : Nat) : Sis 0 (Cw (n + 1) "_law_is") := by rw [r__law_is n]; exact Pl.p__law_is0
theorem h__law_is1 (n : Nat) : Sis 1 (Cw (n + 2) "_law_is") := by rw [r__law_is (n + 1)]; exact Pl.p__law_is (h__law_is0 n)
theorem h__law_is2 (n : Nat) : Sis 2 (Cw (n + 3) "_law_is") := by rw [r__law_is (n + 2)]; exact Pl.p__law_is (h__law_is1 n)
theorem h__law_is3 (n : Nat) : Sis 3 (Cw (n + 4) "_law_is") := by rw [r__law_is (n + 3)]; exact Pl.p__law_is (h__law_is2 n)
theorem r_grown (n : Nat) : Cw (n + 1) "grown" = Pl.fk 0 2 (Pl.s_grown Pl.ktabP wh (Cw n "first_ungrown") (Cw n "need_row") (Cw n "with_point")) := by kernel_rfl
theorem r_first_ungrown (n : Nat) : Cw (n + 1) "first_ungrown" = Pl.fk 0 4 (Pl.s_first_ungrown Pl.ktabP wh (Cw n "Ungrown") (Cw n "is_far") (Cw n "is_near_by") (Cw n "is_nought")) := by kernel_rfl
theorem r_Ungrown (n : Nat) : Cw (n + 1) "Ungrown" = Pl.ck "Ungrown" ["kind", "one", "other"] 4 (Pl.s_Ungrown Pl.ktabP wh (Cw n "as_tuples")) (Pl.f_Ungrown Pl.ktabP wh (Cw n "as_tuples")) := by kernel_rfl
theorem h_Ungrown (n : Nat) : Sung (Cw (n + 3) "Ungrown") := by rw [r_Ungrown (n + 2)]; exact Pl.p_Ungrown (h_as_tuplesF (n + 0))
theorem r_is_far (n : Nat) : Cw (n + 1) "is_far" = Pl.fk 0 4 (Pl.s_is_far Pl.ktabP wh (Cw n "is_below") (Cw n "less_by") (Cw n "size_of")) := by kernel_rfl
theorem r_less_by (n : Nat) : Cw (n + 1) "less_by" = Pl.fk 0 2 (Pl.s_less_by Pl.ktabP wh (Cw n "added") (Cw n "opposite")) := by kernel_rfl
theorem r_opposite (n : Nat) : Cw (n + 1) "opposite" = Pl.fk 0 1 (Pl.s_opposite Pl.ktabP wh ) := by kernel_rfl
theorem h_opposite (n : Nat) : Sopp (Cw (n + 1) "opposite") := by rw [r_opposite (n + 0)]; exact Pl.p_opposite 
theorem h_less_by (n : Nat) : Ssub (Cw (n + 3) "less_by") := by rw [r_less_by (n + 2)]; exact Pl.p_less_by (h_added (n + 0)) (h_opposite (n + 1))
theorem r_size_of (n : Nat) : Cw (n + 1) "size_of" = Pl.fk 0 1 (Pl.s_size_of Pl.ktabP wh (Cw n "opposite") (Cw n "sign_of")) := by kernel_rfl
theorem h_size_of (n : Nat) : Sab (Cw (n + 2) "size_of") := by rw [r_size_of (n + 1)]; exact Pl.p_size_of (h_opposite (n + 0)) (h_sign_of (n + 0))
theorem h_is_far (n : Nat) : Sfar (Cw (n + 4) "is_far") := by rw [r_is_far (n + 3)]; exact Pl.p_is_far (h_is_below (n + 1)) (h_less_by (n + 0)) (h_size_of (n + 1))
theorem r_is_near_by (n : Nat) : Cw (n + 1) "is_near_by" = Pl.fk 0 4 (Pl.s_is_near_by Pl.ktabP wh (Cw n "added") (Cw n "is_below")) := by kernel_rfl
theorem h_is_near_by (n : Nat) : Snear (Cw (n + 3) "is_near_by") := by rw [r_is_near_by (n + 2)]; exact Pl.p_is_near_by (h_added (n + 0)) (h_is_below (n + 0))
theorem r_is_nought (n : Nat) : Cw (n + 1) "is_nought" = Pl.fk 0 2 (Pl.s_is_nought Pl.ktabP wh (Cw n "sign_of")) := by kernel_rfl
theorem h_is_nought (n : Nat) : Snought (Cw (n + 2) "is_nought") := by rw [r_is_nought (n + 1)]; exact Pl.p_is_nought (h_sign_of (n + 0))
theorem h_first_ungrown (n : Nat) : Sfun (Cw (n + 5) "first_ungrown") := by rw [r_first_ungrown (n + 4)]; exact Pl.p_first_ungrown (h_Ungrown (n + 1)) (h_is_far (n + 0)) (h_is_near_by (n + 1)) (h_is_nought (n + 2))
theorem r_need_row (n : Nat) : Cw (n + 1) "need_row" = Pl.fk 0 3 (Pl.s_need_row Pl.ktabP wh (Cw n "is_row")) := by kernel_rfl
theorem h_need_row (n : Nat) : Sneedrow (Cw (n + 4) "need_row") := by rw [r_need_row (n + 3)]; exact Pl.p_need_row (h_is_row (n + 0))
theorem r_with_point (n : Nat) : Cw (n + 1) "with_point" = Pl.fk 0 4 (Pl.s_with_point Pl.ktabP wh (Cw n "Distances")) := by kernel_rfl
theorem h_with_point (n : Nat) : Swp (Cw (n + 6) "with_point") := by rw [r_with_point (n + 5)]; exact Pl.p_with_point (h_Distances (n + 0))
theorem h_grown (n : Nat) : Sgrown (Cw (n + 7) "grown") := by rw [r_grown (n + 6)]; exact Pl.p_grown (h_first_ungrown (n + 1)) (h_need_row (n + 2)) (h_with_point (n + 0))
theorem h__law_grown_right (n : Nat) : Slgright (Cw (n + 8) "_law_grown_right") := by rw [r__law_grown_right (n + 7)]; exact Pl.p__law_grown_right (h__law_grows (n + 1)) (h__law_is3 (n + 3)) (h_grown (n + 0))
theorem r__law_most (n : Nat) : Cw (n + 1) "_law_most" = Pl.fk 0 3 (Pl.s__law_most Pl.ktabP wh (Cw n "_law_more")) := by kernel_rfl
theorem r__law_more (n : Nat) : Cw (n + 1) "_law_more" = Pl.fk 0 2 (Pl.s__law_more Pl.ktabP wh (Cw n "_law_less")) := by kernel_rfl
theorem h__law_more (n : Nat) : Smx (Cw (n + 3) "_law_more") := by rw [r__law_more (n + 2)]; exact Pl.p__law_more (h__law_less (n + 0))
theorem h__law_most (n : Nat) : Smost (Cw (n + 4) "_law_most") := by rw [r__law_most (n + 3)]; exact Pl.p__law_most (h__law_more (n + 0))
theorem r__law_pick (n : Nat) : Cw (n + 1) "_law_pick" = Pl.fk 0 2 (Pl.s__law_pick Pl.ktabP wh (Cw n "_law_draw")) := by kernel_rfl
theorem h__law_pick (n : Nat) : Spick (Cw (n + 2) "_law_pick") := by rw [r__law_pick (n + 1)]; exact Pl.p__law_pick (h__law_draw (n + 0))
theorem r__law_refused (n : Nat) : Cw (n + 1) "_law_refused" = Pl.fk 0 5 (Pl.s__law_refused Pl.ktabP wh (Cw n "_law_bent_row") (Cw n "grown") (Cw n "grows") (Cw n "ungrown") (Cw n "ungrown_holds")) := by kernel_rfl
theorem r__law_bent_row (n : Nat) : Cw (n + 1) "_law_bent_row" = Pl.fk 0 4 (Pl.s__law_bent_row Pl.ktabP wh (Cw n "_law_draw") (Cw n "_law_odd") (Cw n "_law_pick")) := by kernel_rfl
theorem r__law_odd (n : Nat) : Cw (n + 1) "_law_odd" = Pl.fk 0 1 (Pl.s__law_odd Pl.ktabP wh (Cw n "_law_pick")) := by kernel_rfl
theorem h__law_odd (n : Nat) : Sodd (Cw (n + 3) "_law_odd") := by rw [r__law_odd (n + 2)]; exact Pl.p__law_odd (h__law_pick (n + 0))
theorem h__law_bent_row (n : Nat) : Sbent2 (Cw (n + 4) "_law_bent_row") := by rw [r__law_bent_row (n + 3)]; exact Pl.p__law_bent_row2 (h__law_draw (n + 2)) (h__law_odd (n + 0)) (h__law_pick (n + 1))
theorem r_grows (n : Nat) : Cw (n + 1) "grows" = Pl.fk 0 2 (Pl.s_grows Pl.ktabP wh (Cw n "first_ungrown") (Cw n "need_row")) := by kernel_rfl
theorem h_grows (n : Nat) : Sgrows (Cw (n + 6) "grows") := by rw [r_grows (n + 5)]; exact Pl.p_grows (h_first_ungrown (n + 0)) (h_need_row (n + 1))
theorem r_ungrown (n : Nat) : Cw (n + 1) "ungrown" = Pl.fk 0 2 (Pl.s_ungrown Pl.ktabP wh (Cw n "first_ungrown") (Cw n "need_row")) := by kernel_rfl
theorem h_ungrown (n : Nat) : Sungr (Cw (n + 6) "ungrown") := by rw [r_ungrown (n + 5)]; exact Pl.p_ungrown (h_first_ungrown (n + 0)) (h_need_row (n + 1))
theorem r_ungrown_holds (n : Nat) : Cw (n + 1) "ungrown_holds" = Pl.fk 0 3 (Pl.s_ungrown_holds Pl.ktabP wh (Cw n "is_far") (Cw n "is_index") (Cw n "is_near_by") (Cw n "is_nought") (Cw n "need_row")) := by kernel_rfl
theorem r_is_index (n : Nat) : Cw (n + 1) "is_index" = Pl.fk 0 2 (Pl.s_is_index Pl.ktabP wh (Cw n "is_integer")) := by kernel_rfl
theorem h_is_index (n : Nat) : Sidx (Cw (n + 2) "is_index") := by rw [r_is_index (n + 1)]; exact Pl.p_is_index (h_is_integer (n + 0))
theorem h_ungrown_holds (n : Nat) : Suh (Cw (n + 5) "ungrown_holds") := by rw [r_ungrown_holds (n + 4)]; exact Pl.p_ungrown_holds (h_is_far (n + 0)) (h_is_index (n + 2)) (h_is_near_by (n + 1)) (h_is_nought (n + 2)) (h_need_row (n + 0))
theorem h__law_refused (n : Nat) : Sref13 (Cw (n + 8) "_law_refused") := by rw [r__law_refused (n + 7)]; exact Pl.p__law_refused13 (h__law_bent_row (n + 3)) (h_grown (n + 0)) (h_grows (n + 1)) (h_ungrown (n + 1)) (h_ungrown_holds (n + 2))
theorem r__law_row (n : Nat) : Cw (n + 1) "_law_row" = Pl.fk 0 4 (Pl.s__law_row Pl.ktabP wh (Cw n "_law_draw") (Cw n "_law_number")) := by kernel_rfl
theorem r__law_number (n : Nat) : Cw (n + 1) "_law_number" = Pl.fk 0 2 (Pl.s__law_number Pl.ktabP wh (Cw n "_law_draw") (Cw n "_law_low") (Cw n "_law_wide")) := by kernel_rfl
theorem r__law_wide (n : Nat) : Cw (n + 1) "_law_wide" = Pl.fk 0 5 (Pl.s__law_wide Pl.ktabP wh (Cw n "_law_draw")) := by kernel_rfl
theorem h__law_wide (n : Nat) : Swide (Cw (n + 2) "_law_wide") := by rw [r__law_wide (n + 1)]; exact Pl.p__law_wide (h__law_draw (n + 0))
theorem h__law_number (n : Nat) : Snum (Cw (n + 3) "_law_number") := by rw [r__law_number (n + 2)]; exact Pl.p__law_number (h__law_draw (n + 1)) (h__law_low (n + 0)) (h__law_wide (n + 0))
theorem h__law_row (n : Nat) : Sdrow (Cw (n + 4) "_law_row") := by rw [r__law_row (n + 3)]; exact Pl.p__law_row (h__law_draw (n + 2)) (h__law_number (n + 0))
theorem r__law_row_right (n : Nat) : Cw (n + 1) "_law_row_right" = Pl.fk 0 13 (Pl.s__law_row_right Pl.ktabP wh (Cw n "Ungrown") (Cw n "_law_draw") (Cw n "_law_grows") (Cw n "_law_is_whole") (Cw n "_law_pick") (Cw n "_law_says") (Cw n "_law_ungrown_due") (Cw n "grows") (Cw n "ungrown") (Cw n "ungrown_holds")) := by kernel_rfl
theorem h_Ungrown' (n : Nat) : Sungd (Cw (n + 3) "Ungrown") := by rw [r_Ungrown (n + 2)]; exact Pl.p_Ungrown_d (h_as_tuplesF (n + 0))
theorem r__law_is_whole (n : Nat) : Cw (n + 1) "_law_is_whole" = Pl.fk 0 1 (Pl.s__law_is_whole Pl.ktabP wh ) := by kernel_rfl
theorem h__law_is_whole (n : Nat) : SisI (Cw (n + 1) "_law_is_whole") := by rw [r__law_is_whole (n + 0)]; exact Pl.p__law_is_whole 
theorem r__law_says (n : Nat) : Cw (n + 1) "_law_says" = Pl.fk 0 2 (Pl.s__law_says Pl.ktabP wh ) := by kernel_rfl
theorem h__law_says (n : Nat) : Ssays (Cw (n + 1) "_law_says") := by rw [r__law_says (n + 0)]; exact Pl.p__law_says 
theorem h__law_row_right (n : Nat) : Slrr (Cw (n + 7) "_law_row_right") := by rw [r__law_row_right (n + 6)]; exact Pl.p__law_row_right13 (h_Ungrown' (n + 3)) (h__law_draw (n + 5)) (h__law_grows (n + 0)) (h__law_is_whole (n + 5)) (h__law_pick (n + 4)) (h__law_says (n + 5)) (h__law_ungrown_due (n + 1)) (h_grows (n + 0)) (h_ungrown (n + 0)) (h_ungrown_holds (n + 1))
theorem r__law_some_table (n : Nat) : Cw (n + 1) "_law_some_table" = Pl.fk 0 2 (Pl.s__law_some_table Pl.ktabP wh (Cw n "_law_draw") (Cw n "_law_table")) := by kernel_rfl
theorem r__law_table (n : Nat) : Cw (n + 1) "_law_table" = Pl.fk 0 7 (Pl.s__law_table Pl.ktabP wh (Cw n "_law_draw") (Cw n "_law_evened") (Cw n "_law_low") (Cw n "_law_shortest") (Cw n "_law_sides") (Cw n "_law_tree_table") (Cw n "_law_wide")) := by kernel_rfl
theorem r__law_evened (n : Nat) : Cw (n + 1) "_law_evened" = Pl.fk 0 6 (Pl.s__law_evened Pl.ktabP wh (Cw n "_law_pick")) := by kernel_rfl
theorem h__law_evened (n : Nat) : Sev (Cw (n + 3) "_law_evened") := by rw [r__law_evened (n + 2)]; exact Pl.p__law_evened (h__law_pick (n + 0))
theorem r__law_shortest (n : Nat) : Cw (n + 1) "_law_shortest" = Pl.fk 0 8 (Pl.s__law_shortest Pl.ktabP wh (Cw n "_law_less") (Cw n "_law_plus")) := by kernel_rfl
theorem h__law_shortest (n : Nat) : Sshort (Cw (n + 4) "_law_shortest") := by rw [r__law_shortest (n + 3)]; exact Pl.p__law_shortest (h__law_less (n + 1)) (h__law_plus (n + 0))
theorem r__law_sides (n : Nat) : Cw (n + 1) "_law_sides" = Pl.fk 0 10 (Pl.s__law_sides Pl.ktabP wh (Cw n "_law_draw") (Cw n "_law_pick") (Cw n "_law_plus")) := by kernel_rfl
theorem h__law_sides (n : Nat) : Ssides (Cw (n + 4) "_law_sides") := by rw [r__law_sides (n + 3)]; exact Pl.p__law_sides (h__law_draw (n + 2)) (h__law_pick (n + 1)) (h__law_plus (n + 0))
theorem r__law_tree_table (n : Nat) : Cw (n + 1) "_law_tree_table" = Pl.fk 0 8 (Pl.s__law_tree_table Pl.ktabP wh (Cw n "_law_draw") (Cw n "_law_pick") (Cw n "_law_plus")) := by kernel_rfl
theorem h__law_tree_table (n : Nat) : Stree (Cw (n + 4) "_law_tree_table") := by rw [r__law_tree_table (n + 3)]; exact Pl.p__law_tree_table (h__law_draw (n + 2)) (h__law_pick (n + 1)) (h__law_plus (n + 0))
theorem h__law_table (n : Nat) : Stable (Cw (n + 5) "_law_table") := by rw [r__law_table (n + 4)]; exact Pl.p__law_table (h__law_draw (n + 3)) (h__law_evened (n + 1)) (h__law_low (n + 2)) (h__law_shortest (n + 0)) (h__law_sides (n + 0)) (h__law_tree_table (n + 0)) (h__law_wide (n + 2))
theorem h__law_some_table (n : Nat) : Ssome (Cw (n + 6) "_law_some_table") := by rw [r__law_some_table (n + 5)]; exact Pl.p__law_some_table (h__law_draw (n + 4)) (h__law_table (n + 0))
theorem r__law_tight_row (n : Nat) : Cw (n + 1) "_law_tight_row" = Pl.fk 0 3 (Pl.s__law_tight_row Pl.ktabP wh (Cw n "_law_covering") (Cw n "_law_draw") (Cw n "_law_lowered") (Cw n "_law_pick") (Cw n "_law_shuffled")) := by kernel_rfl
theorem r__law_covering (n : Nat) : Cw (n + 1) "_law_covering" = Pl.fk 0 10 (Pl.s__law_covering Pl.ktabP wh (Cw n "_law_minus") (Cw n "_law_most") (Cw n "_law_number") (Cw n "_law_over_by") (Cw n "_law_pick") (Cw n "_law_plus") (Cw n "_law_sign") (Cw n "_law_size_of") (Cw n "_law_times")) := by kernel_rfl
theorem h__law_number' (n : Nat) : Snum2 (Cw (n + 3) "_law_number") := by rw [r__law_number (n + 2)]; exact Pl.p__law_number2 (h__law_draw (n + 1)) (h__law_low (n + 0))
theorem r__law_over_by (n : Nat) : Cw (n + 1) "_law_over_by" = Pl.fk 0 4 (Pl.s__law_over_by Pl.ktabP wh (Cw n "_law_minus") (Cw n "_law_plus")) := by kernel_rfl
theorem h__law_over_by (n : Nat) : Sovr (Cw (n + 5) "_law_over_by") := by rw [r__law_over_by (n + 4)]; exact Pl.p__law_over_by (h__law_minus (n + 0)) (h__law_plus (n + 1))
theorem r__law_times (n : Nat) : Cw (n + 1) "_law_times" = Pl.fk 0 4 (Pl.s__law_times Pl.ktabP wh (Cw n "_law_low") (Cw n "_law_pair")) := by kernel_rfl
theorem h__law_times (n : Nat) : Smul (Cw (n + 3) "_law_times") := by rw [r__law_times (n + 2)]; exact Pl.p__law_times (h__law_low (n + 0)) (h__law_pair (n + 1))
theorem h__law_covering (n : Nat) : Scov2 (Cw (n + 6) "_law_covering") := by rw [r__law_covering (n + 5)]; exact Pl.p__law_covering2 (h__law_minus (n + 1)) (h__law_most (n + 1)) (h__law_number' (n + 2)) (h__law_over_by (n + 0)) (h__law_pick (n + 3)) (h__law_plus (n + 2)) (h__law_sign (n + 3)) (h__law_size_of (n + 2)) (h__law_times (n + 2))
theorem r__law_lowered (n : Nat) : Cw (n + 1) "_law_lowered" = Pl.fk 0 6 (Pl.s__law_lowered Pl.ktabP wh (Cw n "_law_minus") (Cw n "_law_most")) := by kernel_rfl
theorem h__law_lowered (n : Nat) : Slowd (Cw (n + 5) "_law_lowered") := by rw [r__law_lowered (n + 4)]; exact Pl.p__law_lowered (h__law_minus (n + 0)) (h__law_most (n + 0))
theorem r__law_shuffled (n : Nat) : Cw (n + 1) "_law_shuffled" = Pl.fk 0 5 (Pl.s__law_shuffled Pl.ktabP wh (Cw n "_law_draw")) := by kernel_rfl
theorem h__law_shuffled (n : Nat) : Sshuf (Cw (n + 2) "_law_shuffled") := by rw [r__law_shuffled (n + 1)]; exact Pl.p__law_shuffled (h__law_draw (n + 0))
theorem h__law_tight_row (n : Nat) : Sti2 (Cw (n + 7) "_law_tight_row") := by rw [r__law_tight_row (n + 6)]; exact Pl.p__law_tight_row2 (h__law_covering (n + 0)) (h__law_draw (n + 5)) (h__law_lowered (n + 1)) (h__law_pick (n + 4)) (h__law_shuffled (n + 4))
def dep : Nat := 20
theorem hT : ∀ ns : List Int, ns.length ≤ 63 → (∀ z ∈ ns, Builtin.Int.intBits z ≤ 1048576) → ∃ s' p', LT.run wh dep ns = .ok (.rt (.bl true), s') p' := fun ns _ _ => by
  have e : LT.run wh dep ns = Pl.s_law Pl.ktabP wh (Cw 20 "Distances") (Cw 20 "_law_draw") (Cw 20 "_law_grown_right") (Cw 20 "_law_most") (Cw 20 "_law_pick") (Cw 20 "_law_plus") (Cw 20 "_law_refused") (Cw 20 "_law_row") (Cw 20 "_law_row_right") (Cw 20 "_law_some_table") (Cw 20 "_law_tight_row") [none, some .pen, none, none, none, none, none, none, none, none, none, none, none, none, none] (pen0 ns) := by kernel_rfl
  rw [e]
  exact p_law13 (h_Distances _) (h__law_draw _) (h__law_grown_right _) (h__law_most _) (h__law_pick _) (h__law_plus _) (h__law_refused _) (h__law_row _) (h__law_row_right _) (h__law_some_table _) (h__law_tight_row _) (pen0 ns) (pen_good ns)

end Wl
open PySem PySem.W PySem.Calls PyProof.Rows
set_option maxHeartbeats 0 in
theorem PySem.Challenge.cw_ballsmeet_k13_whole_rows_that_grow_holds : PySem.Challenge.rw_ballsmeet_k13_whole_rows_that_grow.Holds := by
  w_on; o_law
  refine HandSHeadRun.head_imp (r := OpenLaw.row PySem.Challenge.rw_ballsmeet_k13_whole_rows_that_grow) (q := Wl.Vw) (H := Wl.hkO) (ob := Wl.ob) (M := 30000) (loose := Wl.names) (d := HandSHeadRun.topDef (OpenLaw.row PySem.Challenge.rw_ballsmeet_k13_whole_rows_that_grow).prog 98) (kwd := []) Wl.ob_eq
    Wl.run (by kernel_rfl) (by kernel_rfl) (by kernel_rfl) (by rfl) (by first | assumption | decide +kernel) (by decide +kernel) ⟨rfl, rfl, rfl, rfl, rfl, by decide +kernel⟩ ?hw ?hc
  case hw => w_witness2
  case hc =>
    refine Mc.walk_law (l := PySem.Challenge.rw_ballsmeet_k13_whole_rows_that_grow) (n := 63) (k := 2 + 4 * Wl.dep + 4) (x := "script") rfl (by decide) (by kernel_rfl) ⟨rfl, by decide, by decide⟩ ?F
    intro w mg fa h Y G hmg0
    obtain ⟨K, KX, c, sm⟩ := Y
    rw [← Wl.fa_eq, ← Wl.fn_eq, ← Wl.tf_eq, ← Wl.ex_eq] at c
    have hmg : mg ("law" : PySem.Str) = some (.ref fa) := by
      have e : (HandSHeadRun.topDef (OpenLaw.row PySem.Challenge.rw_ballsmeet_k13_whole_rows_that_grow).prog 98).name = ("law" : PySem.Str) := by kernel_rfl
      rw [← e]
      exact hmg0
    exact ⟨K, KX, Mc.law_in (wh := Wl.wh) (m := Wl.dep) KX G hmg c Wl.c_ts Wl.c_chk Wl.bd sm Wl.hT⟩

