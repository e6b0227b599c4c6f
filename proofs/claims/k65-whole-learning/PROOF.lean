import PyProof.Rows.All
import Wide.All
import OpenK.AllK
import Wide.FinOn
import HandS.Words
import KE.KStateDown
import HandS.Base
import HandS.Call
import HandS.Ends
import HandS.More
import HandS.WordsExc
import HandS.Defaults
import HandS.Property
import HandS.Head0
import HandS.Head1
import HandS.Head2
import HandS.HeadEnd
import HandS.HeadHook1
import HandS.HeadHook2
import HandS.HeadHook3
import HandS.HeadHook4
import HandS.HeadWalk
import HandS.List
import HandS.Comp
import HandS.Dict
import HandS.Iter
import HandS.Walk
import HandS.Zip
import HandS.IsInst
import HandS.TupAny
import HandS.AnyAll
import HandS.Evl
import HandS.Conv
import HandS.Codes
import HandS.TryOnly
import HandS.TupLen
import HandS.Exc
import KE.KDictWalk
import HandS.DictTup
import KE.KSortTup
import KE.KDictSum
import HandS.Sort
import HandS.SortOrd
import HandS.SortRule
import HandS.NamedTupSort
import KE.GoesEnum
import KE.GoesMore
import PyProof.Draws
import PyProof.EnumMake
import PyProof.EnumFor
import HandS.DictEq
import HandS.CallRecv
import HandS.TupLe
import PyProof.EqAt
import PyProof.EqKinds
import PyProof.TupleCall
import PyProof.GenCompD
import PyProof.WalksMore
import KE.KNest
import PyProof.ZipIter
import KE.DataIsa
import HandS.SetFor
import HandS.Strs
import HandS.ReCall
import PySem.Challenge.RW_restlesshelf_k65_whole_learning
set_option Elab.async false
set_option linter.all false
set_option maxRecDepth 100000
/-! The text by places. -/
namespace Lk
open PySem PySem.Spec PyProof.Rows L2
def top (i : Nat) : Stmt := PySem.Challenge.pw_restlesshelf_k65_whole_learning.main.body.getD i (.Pass ⟨0, 0, 0, 0⟩)
abbrev s_is_number : Stmt := top 12
abbrev s_is_permutation : Stmt := top 13
abbrev s_need_habit : Stmt := top 14
abbrev s_need_layout : Stmt := top 15
abbrev s_need_shelf : Stmt := top 16
abbrev s_need_place : Stmt := top 17
abbrev s_behind_touch : Stmt := top 18
abbrev s_need_habits : Stmt := top 21
abbrev s_need_two : Stmt := top 23
abbrev s_need_lot : Stmt := top 24
abbrev s_tells : Stmt := top 25
abbrev s_marks_from : Stmt := top 26
abbrev s_shortest_test : Stmt := top 27
abbrev s_alike_paper : Stmt := top 28
abbrev s_Shelf_init : Stmt := inClass (top 30) 0
abbrev s_Shelf_name_at : Stmt := inClass (top 30) 1
abbrev s_Shelf_move : Stmt := inClass (top 30) 2
abbrev s_Shelf_read : Stmt := inClass (top 30) 4
abbrev s_Shelf_write : Stmt := inClass (top 30) 5
abbrev s_Shelf_touch : Stmt := inClass (top 30) 6
abbrev s_need_many : Stmt := top 35
abbrev s_marks_of : Stmt := top 36
abbrev s_partings : Stmt := top 37
abbrev s_touches_of : Stmt := top 38
abbrev s_Best_init : Stmt := inClass (top 39) 0
abbrev s_Best_tree : Stmt := inClass (top 39) 1
abbrev s_best_tree : Stmt := top 40
abbrev s_least_worst : Stmt := top 41
abbrev s_least_tree : Stmt := top 42
abbrev s_is_test_of : Stmt := top 43
abbrev s_reads_mark : Stmt := top 44
abbrev s_worst_of : Stmt := top 45
abbrev s_worst : Stmt := top 46
abbrev s_learned : Stmt := top 47
abbrev s_learn : Stmt := top 48
abbrev s_law_taken : Stmt := top 50
abbrev s_law_habit : Stmt := top 51
abbrev s_law_layout : Stmt := top 52
abbrev s_law_alike : Stmt := top 53
abbrev s_law : Stmt := top 54
end Lk
set_option Elab.async false
set_option linter.all false
set_option maxRecDepth 100000
set_option maxHeartbeats 0
/-! The head: the facts, the run. -/
namespace Lk
open PySem PySem.Spec PyProof.Rows L2
def d_is_number : He.DefD := ⟨("is_number", none), "is_number", "is_number", defArgs s_is_number, defBody s_is_number, defScope s_is_number, [], []⟩
def d_is_permutation : He.DefD := ⟨("is_permutation", none), "is_permutation", "is_permutation", defArgs s_is_permutation, defBody s_is_permutation, defScope s_is_permutation, [], []⟩
def d_need_habit : He.DefD := ⟨("need_habit", none), "need_habit", "need_habit", defArgs s_need_habit, defBody s_need_habit, defScope s_need_habit, [], []⟩
def d_need_layout : He.DefD := ⟨("need_layout", none), "need_layout", "need_layout", defArgs s_need_layout, defBody s_need_layout, defScope s_need_layout, [], []⟩
def d_need_shelf : He.DefD := ⟨("need_shelf", none), "need_shelf", "need_shelf", defArgs s_need_shelf, defBody s_need_shelf, defScope s_need_shelf, [], []⟩
def d_need_place : He.DefD := ⟨("need_place", none), "need_place", "need_place", defArgs s_need_place, defBody s_need_place, defScope s_need_place, [], []⟩
def d_behind_touch : He.DefD := ⟨("behind_touch", none), "behind_touch", "behind_touch", defArgs s_behind_touch, defBody s_behind_touch, defScope s_behind_touch, [], []⟩
def d_need_habits : He.DefD := ⟨("need_habits", none), "need_habits", "need_habits", defArgs s_need_habits, defBody s_need_habits, defScope s_need_habits, [], []⟩
def d_need_two : He.DefD := ⟨("need_two", none), "need_two", "need_two", defArgs s_need_two, defBody s_need_two, defScope s_need_two, [], []⟩
def d_need_lot : He.DefD := ⟨("need_lot", none), "need_lot", "need_lot", defArgs s_need_lot, defBody s_need_lot, defScope s_need_lot, [], []⟩
def d_tells : He.DefD := ⟨("tells", none), "tells", "tells", defArgs s_tells, defBody s_tells, defScope s_tells, [], []⟩
def d_marks_from : He.DefD := ⟨("marks_from", none), "marks_from", "marks_from", defArgs s_marks_from, defBody s_marks_from, defScope s_marks_from, [], []⟩
def d_shortest_test : He.DefD := ⟨("shortest_test", none), "shortest_test", "shortest_test", defArgs s_shortest_test, defBody s_shortest_test, defScope s_shortest_test, [], []⟩
def d_alike_paper : He.DefD := ⟨("alike_paper", none), "alike_paper", "alike_paper", defArgs s_alike_paper, defBody s_alike_paper, defScope s_alike_paper, [], []⟩
def d_Shelf_init : He.DefD := ⟨("Shelf", some "__init__"), "__init__", "Shelf.__init__", defArgs s_Shelf_init, defBody s_Shelf_init, defScope s_Shelf_init, [], []⟩
def d_Shelf_name_at : He.DefD := ⟨("Shelf", some "_name_at"), "_name_at", "Shelf._name_at", defArgs s_Shelf_name_at, defBody s_Shelf_name_at, defScope s_Shelf_name_at, [], []⟩
def d_Shelf_move : He.DefD := ⟨("Shelf", some "_move"), "_move", "Shelf._move", defArgs s_Shelf_move, defBody s_Shelf_move, defScope s_Shelf_move, [], []⟩
def d_Shelf_read : He.DefD := ⟨("Shelf", some "read"), "read", "Shelf.read", defArgs s_Shelf_read, defBody s_Shelf_read, defScope s_Shelf_read, [], []⟩
def d_Shelf_write : He.DefD := ⟨("Shelf", some "write"), "write", "Shelf.write", defArgs s_Shelf_write, defBody s_Shelf_write, defScope s_Shelf_write, [], []⟩
def d_Shelf_touch : He.DefD := ⟨("Shelf", some "touch"), "touch", "Shelf.touch", defArgs s_Shelf_touch, defBody s_Shelf_touch, defScope s_Shelf_touch, [], []⟩
def d_need_many : He.DefD := ⟨("need_many", none), "need_many", "need_many", defArgs s_need_many, defBody s_need_many, defScope s_need_many, [], []⟩
def d_marks_of : He.DefD := ⟨("marks_of", none), "marks_of", "marks_of", defArgs s_marks_of, defBody s_marks_of, defScope s_marks_of, [], []⟩
def d_partings : He.DefD := ⟨("partings", none), "partings", "partings", defArgs s_partings, defBody s_partings, defScope s_partings, [], []⟩
def d_touches_of : He.DefD := ⟨("touches_of", none), "touches_of", "touches_of", defArgs s_touches_of, defBody s_touches_of, defScope s_touches_of, [], []⟩
def d_Best_init : He.DefD := ⟨("Best", some "__init__"), "__init__", "Best.__init__", defArgs s_Best_init, defBody s_Best_init, defScope s_Best_init, [], []⟩
def d_Best_tree : He.DefD := ⟨("Best", some "tree"), "tree", "Best.tree", defArgs s_Best_tree, defBody s_Best_tree, defScope s_Best_tree, [], []⟩
def d_best_tree : He.DefD := ⟨("best_tree", none), "best_tree", "best_tree", defArgs s_best_tree, defBody s_best_tree, defScope s_best_tree, [], []⟩
def d_least_worst : He.DefD := ⟨("least_worst", none), "least_worst", "least_worst", defArgs s_least_worst, defBody s_least_worst, defScope s_least_worst, [], []⟩
def d_least_tree : He.DefD := ⟨("least_tree", none), "least_tree", "least_tree", defArgs s_least_tree, defBody s_least_tree, defScope s_least_tree, [], []⟩
def d_is_test_of : He.DefD := ⟨("is_test_of", none), "is_test_of", "is_test_of", defArgs s_is_test_of, defBody s_is_test_of, defScope s_is_test_of, [], []⟩
def d_reads_mark : He.DefD := ⟨("reads_mark", none), "reads_mark", "reads_mark", defArgs s_reads_mark, defBody s_reads_mark, defScope s_reads_mark, [], []⟩
def d_worst_of : He.DefD := ⟨("worst_of", none), "worst_of", "worst_of", defArgs s_worst_of, defBody s_worst_of, defScope s_worst_of, [], []⟩
def d_worst : He.DefD := ⟨("worst", none), "worst", "worst", defArgs s_worst, defBody s_worst, defScope s_worst, [], []⟩
def d_learned : He.DefD := ⟨("learned", none), "learned", "learned", defArgs s_learned, defBody s_learned, defScope s_learned, [], []⟩
def d_learn : He.DefD := ⟨("learn", none), "learn", "learn", defArgs s_learn, defBody s_learn, defScope s_learn, [], []⟩
def d_law_taken : He.DefD := ⟨("_law_taken", none), "_law_taken", "_law_taken", defArgs s_law_taken, defBody s_law_taken, defScope s_law_taken, [], []⟩
def d_law_habit : He.DefD := ⟨("_law_habit", none), "_law_habit", "_law_habit", defArgs s_law_habit, defBody s_law_habit, defScope s_law_habit, [], []⟩
def d_law_layout : He.DefD := ⟨("_law_layout", none), "_law_layout", "_law_layout", defArgs s_law_layout, defBody s_law_layout, defScope s_law_layout, [], []⟩
def d_law_alike : He.DefD := ⟨("_law_alike", none), "_law_alike", "_law_alike", defArgs s_law_alike, defBody s_law_alike, defScope s_law_alike, [], []⟩
def d_law : He.DefD := ⟨("law", none), "law", "law", defArgs s_law, defBody s_law, defScope s_law, [], []⟩
def fn0 : List He.DefD := [d_is_number, d_is_permutation, d_need_habit, d_need_layout, d_need_shelf, d_need_place, d_behind_touch, d_need_habits, d_need_two, d_need_lot, d_tells, d_marks_from, d_shortest_test, d_alike_paper, d_Shelf_init, d_Shelf_name_at, d_Shelf_move, d_Shelf_read, d_Shelf_write, d_Shelf_touch, d_need_many, d_marks_of, d_partings, d_touches_of, d_Best_init, d_Best_tree, d_best_tree, d_least_worst, d_least_tree, d_is_test_of]
def fn1 : List He.DefD := [d_reads_mark, d_worst_of, d_worst, d_learned, d_learn, d_law_taken, d_law_habit, d_law_layout, d_law_alike, d_law]
def fn : List He.DefD := fn0 ++ fn1
def fa0 : List He.Fa := [.glo "is_number", .glo "is_permutation", .glo "need_habit", .glo "need_layout", .glo "need_shelf", .glo "need_place", .glo "behind_touch", .glo "need_habits", .glo "need_two", .glo "need_lot", .glo "tells", .glo "marks_from", .glo "shortest_test", .glo "alike_paper", .glo "need_many", .glo "marks_of", .glo "partings", .glo "touches_of", .glo "best_tree", .glo "least_worst", .glo "least_tree", .glo "is_test_of", .glo "reads_mark", .glo "worst_of", .glo "worst", .glo "learned", .glo "learn", .glo "_law_taken", .glo "_law_habit", .glo "_law_layout"]
def fa1 : List He.Fa := [.glo "_law_alike", .glo "law", .glo "Shelf", .glo "Best", .free "isinstance", .free "tuple", .free "int", .free "bool", .free "str", .free "list", .free "len", .free "all", .free "set", .free "enumerate", .free "zip", .free "range", .free "sorted", .free "max", .int "LEAST_PLACES" 2, .int "MOST_PLACES" 5, .int "MOST_HABITS" 3, .int "MOST_MANY" 5, .str "LEFT" "left", .str "TEST" "test", .cls "Shelf", .cls "Best", .mkr "Shelf", .mkr "Best", .meth "Shelf" "_name_at", .meth "Shelf" "_move"]
def fa2 : List He.Fa := [.meth "Shelf" "read", .meth "Shelf" "write", .meth "Shelf" "touch", .meth "Best" "tree", .noat "Shelf" "_habit", .noat "Shelf" "_stands", .noat "Shelf" "_books", .noat "Shelf" "_touches", .noat "Best" "habits", .noat "Best" "lot", .noat "Best" "known"]
def fa : List He.Fa := fa0 ++ fa1 ++ fa2
def loose0 : List PySem.Str := ["_wall", "__name__", "ShelfError", "BadHabit", "BadLayout", "BadPlace", "BadNumber", "BadHabits", "BadTree", "LEAST_PLACES", "MOST_PLACES", "is_number", "is_permutation", "need_habit", "need_layout", "need_shelf", "need_place", "behind_touch", "MOST_HABITS", "need_habits", "need_two", "need_lot", "tells", "marks_from", "shortest_test", "alike_paper", "Shelf", "MOST_MANY", "LEFT", "TEST"]
def loose1 : List PySem.Str := ["need_many", "marks_of", "partings", "touches_of", "Best", "best_tree", "least_worst", "least_tree", "is_test_of", "reads_mark", "worst_of", "worst", "learned", "learn", "_law_taken", "_law_habit", "_law_layout", "_law_alike"]
def loose : List PySem.Str := loose0 ++ loose1
abbrev R : PySem.W.OpenRow := PySem.W.OpenLaw.row PySem.Challenge.rw_restlesshelf_k65_whole_learning
/-! the property path and its getter; what isinstance of Shelf asks -/
def pathP (K : PySem.W.Frag) : Addr := He.ma K (He.ga K "Shelf") "path"
def pathG (K : PySem.W.Frag) : Addr := match PySem.W.recIn K (pathP K) "property" with
  | some (.ref g :: _) => g
  | _ => 0
def recP (K : PySem.W.Frag) : Bool := match PySem.W.recIn K (pathP K) "property" with
  | some (.ref _ :: _) => true
  | _ => false
/-- the def at an address: all but its defaults -/
def defAt (K : PySem.W.Frag) (a : Addr) : He.FnW := match K.lookup a with
  | some o => (match o.data with
    | .func u => some (u.name, u.qualname, u.params, u.body, u.scope, u.globals, u.closure, u.builtins)
    | _ => none)
  | none => none
def plainAt (K : PySem.W.Frag) (a : Addr) (q : Str) : Bool := PySem.W.keepIn K (.ref a) && (match K.lookup a with
  | some o => (match o.data with
    | .func u => (match u.defaults with
      | .none => PySem.W.codeIn K u.code q
      | _ => false)
    | _ => false)
  | none => false)
theorem funD_at {K : PySem.W.Frag} {a : Addr} {x q : Str} {ar : Arguments} {b : List Stmt} {sc : Scope} (e : defAt K a = some (x, q, ar, .stmts b, sc, mainGlobals, [], builtinsNs)) (c : plainAt K a q = true) : ∃ fd, FunD K x q ar b sc [] [] a fd := by
  have kp : PySem.W.keepIn K (.ref a) = true := (He.ba c).1
  have c2 := (He.ba c).2
  unfold defAt at e
  revert e c2
  cases hl : K.lookup a with
  | none => intro e; cases e
  | some o =>
    obtain ⟨oc, od, dt, os⟩ := o
    cases dt with
    | func u =>
      obtain ⟨a1, a2, a3, a4, a5, a6, a7, a8, a9, b1, b2, b3, b4, b5, b6⟩ := u
      intro e c2
      have e : some (a1, a2, a3, a4, a5, a6, a7, b6) = some (x, q, ar, FuncBody.stmts b, sc, mainGlobals, [], builtinsNs) := e
      injection e with e
      injection e with w1 e
      injection e with w2 e
      injection e with w3 e
      injection e with w4 e
      injection e with w5 e
      injection e with w6 e
      injection e with w7 w8
      subst w1 w2 w3 w4 w5 w6 w7 w8
      cases a8 with
      | none => exact ⟨_, ⟨oc, od, .none, a9, b1, b2, b3, b4, b5, os, rfl, hl, c2, .inl ⟨rfl, rfl⟩, .inl rfl⟩, kp⟩
      | _ => cases c2
    | _ => intro e; cases e
def exB (K : PySem.W.Frag) : Bool := decide (PySem.W.findIn K (.ref (He.ga K "Shelf")) "path" = some (some (.ref (pathP K)))) &&
  (He.eqO (PySem.W.specialIn K (.ref (pathP K)) "__get__") (some (some (.builtin "property.__get__"))) && (decide (PySem.W.takesIn K (.ref (pathP K)) = some true) && (recP K && (plainAt K (pathG K) "Shelf.path" &&
  (He.eqO (PySem.W.findIn K (.ref (He.ga K "Shelf")) "__class__") (some (some (.builtin "object.__class__"))) && (He.eqO (PySem.W.specialIn K (.builtin "object.__class__") "__get__") (some (some (.builtin "getset_descriptor.__get__"))) &&
  (decide (PySem.W.takesIn K (.builtin "object.__class__") = some true) && (decide (PySem.W.mroIn K (He.ga K "Shelf") (.type "object") = some true) && decide (PySem.W.kitOne K (.ref (He.ga K "Shelf")) (.ref (He.ga K "Shelf")) = some true)))))))))
def tf : List He.Defn := [("is_permutation", none), ("need_lot", none)]
abbrev s_path : Stmt := inClass (top 30) 10
def pathD : He.FnW := some ("path", "Shelf.path", defArgs s_path, .stmts (defBody s_path), defScope s_path, mainGlobals, [], builtinsNs)
abbrev hx : PySem.W.Hook := He.hookX 6 fa fn [] tf exB
/-- the Hook, widened by the getter -/
def obY (g : Addr → Option Obj) : He.AlX × He.FnW := (He.obsX 6 fa fn [] tf exB g, defAt (He.frT g (He.asD g 6)) (pathG (He.frT g (He.asD g 6))))
def hk : PySem.W.Hook where
  α := He.AlX × He.FnW
  obs := fun s => obY s.heap.get?
  val := fun w => (He.valX fn [] w, pathD)
  says := fun w h => ∃ K : PySem.W.Frag, K.In h ∧ He.SaysX fa fn [] tf exB w h K ∧ defAt K (pathG K) = pathD
  of := fun _ _ e => ⟨_, He.frT_in, He.saysX_of (congrArg Prod.fst e), congrArg Prod.snd e⟩
  keeps := fun _ _ _ ⟨K, hK, c, e⟩ k => ⟨K, PySem.W.Frag.In.keeps hK k, ⟨c.t, c.more, c.hd, c.out, fun p hp => k _ _ (c.empty p hp)⟩, e⟩
def ob (s : PySem.W.SharedT) : He.AlX × He.FnW := obY (HandSHeadRun.getT s)
theorem ob_eq (s : PySem.W.SharedT) : ob s = hk.obs s.abs := by
  have e : HandSHeadRun.getT s = s.abs.heap.get? := funext (HandSHeadRun.getT_eq s)
  show obY (HandSHeadRun.getT s) = obY s.abs.heap.get?
  rw [e]
theorem run (w : World) : HandSHeadRun.RunEq R (PySem.W.view R.prog [54]) hk ob 4000 loose w := by
  intro os
  kernel_rfl
end Lk
set_option Elab.async false
set_option linter.all false
set_option maxRecDepth 100000
set_option maxHeartbeats 2000000
/-! Expressions by data: what an expression answers, told of plain data, while all that stood stays. -/
namespace Lk
open PySem PySem.Spec PyProof.Rows L2 GxR
/-! ### data -/
inductive Dt where
  | non | bl (b : Bool) | int (i : Int) | str (s : Str) | ref (a : Addr) | tup (ds : List Dt)
mutual
inductive Tp (H : Hp) : V → Dt → Prop
  | non : Tp H .non .non
  | bl (b : Bool) : Tp H (.bl b) (.bl b)
  | int (i : Int) : Tp H (.int i) (.int i)
  | str (x : Str) : Tp H (.str x) (.str x)
  | ref (a : Addr) : Tp H (.ref a) (.ref a)
  | tup {a : Addr} {xs : List V} {ds : List Dt} : H a = some (.tup xs) → TpA H xs ds → Tp H (.ref a) (.tup ds)
inductive TpA (H : Hp) : List V → List Dt → Prop
  | nil : TpA H [] []
  | cons {v : V} {vs : List V} {d : Dt} {ds : List Dt} : Tp H v d → TpA H vs ds → TpA H (v :: vs) (d :: ds)
end
/-- what stood stays; a code table may grow -/
def Keep (o : HO) (r : Option HO) : Prop := match o with
  | .tbl ps => ∃ ps', r = some (.tbl ps') ∧ (TriplesOk ps.toList → TriplesOk ps'.toList)
  | o => r = some o
/-- all that stood but the things in xs -/
def GeX (xs : List Addr) (H H' : Hp) : Prop := ∀ a o, a ∉ xs → H a = some o → Keep o (H' a)
abbrev Ge : Hp → Hp → Prop := GeX []
theorem Keep.refl (o : HO) : Keep o (some o) := by
  cases o with
  | tbl ps => exact ⟨ps, rfl, id⟩
  | _ => rfl
theorem Keep.of_eq {o : HO} {r : Option HO} (h : r = some o) : Keep o r := h ▸ Keep.refl o
theorem Keep.eq {o : HO} {r : Option HO} (h : Keep o r) (n : ∀ ps, o ≠ .tbl ps) : r = some o := by
  cases o with
  | tbl ps => exact absurd rfl (n ps)
  | _ => exact h
theorem Keep.trans {o : HO} {r r' : Option HO} (h : Keep o r) (h' : ∀ u, r = some u → Keep u r') : Keep o r' := by
  cases o with
  | tbl ps =>
    obtain ⟨m, e, t⟩ := h
    obtain ⟨m', e', t'⟩ := h' _ e
    exact ⟨m', e', fun q => t' (t q)⟩
  | _ => exact h' _ h
theorem Keep.some {o : HO} {r : Option HO} (h : Keep o r) : ∃ u, r = Option.some u := by
  cases o with
  | tbl ps =>
    obtain ⟨m, e, t⟩ := h
    exact ⟨_, e⟩
  | _ => exact ⟨_, h⟩
section
variable {H H1 H2 : Hp} {xs ys : List Addr}
theorem GeX.refl (xs : List Addr) (H : Hp) : GeX xs H H := fun a o _ h => Keep.of_eq h
theorem Ge.refl (H : Hp) : Ge H H := GeX.refl [] H
theorem GeX.trans (p : GeX xs H H1) (q : GeX xs H1 H2) : GeX xs H H2 := fun a o n h => (p a o n h).trans fun u e => q a u n e
theorem Ge.trans (p : Ge H H1) (q : Ge H1 H2) : Ge H H2 := GeX.trans p q
theorem GeX.mono (p : GeX xs H H1) (h : ∀ a ∈ xs, a ∈ ys) : GeX ys H H1 := fun a o n e => p a o (fun m => n (h a m)) e
theorem Ge.x (p : Ge H H1) (ys : List Addr) : GeX ys H H1 := p.mono (fun a m => absurd m (by simp))
theorem GeX.at (p : GeX xs H H1) {a : Addr} {o : HO} (n : a ∉ xs) (h : H a = some o) (t : ∀ ps, o ≠ .tbl ps) : H1 a = some o := (p a o n h).eq t
theorem Ge.at (p : Ge H H1) {a : Addr} {o : HO} (h : H a = some o) (t : ∀ ps, o ≠ .tbl ps) : H1 a = some o := GeX.at p (by simp) h t
theorem GeX.tup (p : GeX xs H H1) {a : Addr} {vs : List V} (n : a ∉ xs) (h : H a = some (.tup vs)) : H1 a = some (.tup vs) := p.at n h (fun _ e => nomatch e)
theorem Ge.tup (p : Ge H H1) {a : Addr} {vs : List V} (h : H a = some (.tup vs)) : H1 a = some (.tup vs) := p.at h (fun _ e => nomatch e)
theorem Ge.lst (p : Ge H H1) {a : Addr} {vs : List V} (h : H a = some (.lst vs)) : H1 a = some (.lst vs) := p.at h (fun _ e => nomatch e)
theorem Ge.dT (p : Ge H H1) {a : Addr} {vs : List (List Key × V)} (h : H a = some (.dT vs)) : H1 a = some (.dT vs) := p.at h (fun _ e => nomatch e)
theorem Ge.ins (p : Ge H H1) {a C dx : Addr} {vs : List (Str × V)} (h : H a = some (.ins C dx vs)) : H1 a = some (.ins C dx vs) := p.at h (fun _ e => nomatch e)
theorem GeX.tab (p : GeX xs H H1) {P : Addr} (n : P ∉ xs) (h : TabG H P) : TabG H1 P := by
  obtain ⟨ps, e, t⟩ := h
  obtain ⟨m, e', t'⟩ := p P _ n e
  exact ⟨_, e', t' t⟩
theorem Ge.tab (p : Ge H H1) {P : Addr} (h : TabG H P) : TabG H1 P := GeX.tab p (by simp) h
/-- fresh before what stood: nothing that stood is at p -/
theorem Ge.free (p : Ge H H1) {a : Addr} (h : H1 a = none) : H a = none := by
  cases e : H a with
  | none => rfl
  | some o =>
    obtain ⟨u, q⟩ := (p a o (by simp) e).some
    rw [h] at q
    cases q
theorem Ge.new {a : Addr} {o : HO} (h : H a = none) : Ge H (upd H a o) := fun b u _ e => Keep.of_eq (by rw [upd_ne (ne_of_none e h)]; exact e)
theorem GeX.set {a : Addr} {o : HO} : GeX [a] H (upd H a o) := fun b u n e => Keep.of_eq (by rw [upd_ne (by simpa using n)]; exact e)
theorem Ge.tabbed {P : Addr} (t : TabG H P) (h : Tabbed P H H1) : Ge H H1 := fun b u _ e => by
  by_cases hb : b = P
  · subst hb
    obtain ⟨⟨qs, eq, tq⟩, _⟩ := h
    obtain ⟨ps, ep, _⟩ := t
    rw [ep] at e
    cases e
    exact ⟨qs, eq, fun _ => tq⟩
  · exact Keep.of_eq (by rw [h.2 b hb]; exact e)
end
mutual
theorem Tp.mono {H H1 : Hp} (g : ∀ a xs, H a = some (.tup xs) → H1 a = some (.tup xs)) : ∀ {d : Dt} {v : V}, Tp H v d → Tp H1 v d
  | .non, _, .non => .non
  | .bl _, _, .bl b => .bl b
  | .int _, _, .int i => .int i
  | .str _, _, .str x => .str x
  | .ref _, _, .ref a => .ref a
  | .tup ds, _, .tup h t => .tup (g _ _ h) (TpA.mono g t)
theorem TpA.mono {H H1 : Hp} (g : ∀ a xs, H a = some (.tup xs) → H1 a = some (.tup xs)) : ∀ {ds : List Dt} {vs : List V}, TpA H vs ds → TpA H1 vs ds
  | [], _, .nil => .nil
  | d :: ds, _, .cons p t => .cons (Tp.mono g p) (TpA.mono g t)
end
section
variable {H H1 : Hp} {v : V} {d : Dt} {vs ws : List V} {ds es : List Dt}
theorem Tp.ge (p : Tp H v d) (g : Ge H H1) : Tp H1 v d := p.mono fun _ _ h => g.tup h
theorem TpA.ge (p : TpA H vs ds) (g : Ge H H1) : TpA H1 vs ds := p.mono fun _ _ h => g.tup h
theorem TpA.length : ∀ {vs : List V} {ds : List Dt}, TpA H vs ds → vs.length = ds.length
  | _, _, .nil => rfl
  | _, _, .cons _ t => congrArg Nat.succ t.length
theorem TpA.get : ∀ {vs : List V} {ds : List Dt} {i : Nat} {d : Dt}, TpA H vs ds → ds[i]? = some d → ∃ v, vs[i]? = some v ∧ Tp H v d
  | _, _, _, _, .nil, e => by simp at e
  | _, _, 0, _, .cons p _, e => by simp at e; subst e; exact ⟨_, rfl, p⟩
  | _, _, i + 1, d, .cons _ t, e => by
    obtain ⟨v, a, b⟩ := TpA.get (i := i) (d := d) t (by simpa using e)
    exact ⟨v, by simpa using a, b⟩
theorem TpA.get' : ∀ {vs : List V} {ds : List Dt} {i : Nat} {v : V}, TpA H vs ds → vs[i]? = some v → ∃ d, ds[i]? = some d ∧ Tp H v d
  | _, _, _, _, .nil, e => by simp at e
  | _, _, 0, _, .cons p _, e => by simp at e; subst e; exact ⟨_, rfl, p⟩
  | _, _, i + 1, d, .cons _ t, e => by
    obtain ⟨v, a, b⟩ := TpA.get' (i := i) (v := d) t (by simpa using e)
    exact ⟨v, by simpa using a, b⟩
theorem TpA.append : ∀ {vs : List V} {ds : List Dt}, TpA H vs ds → TpA H ws es → TpA H (vs ++ ws) (ds ++ es)
  | _, _, .nil, q => q
  | _, _, .cons p t, q => .cons p (TpA.append t q)
theorem TpA.take : ∀ {vs : List V} {ds : List Dt} (n : Nat), TpA H vs ds → TpA H (vs.take n) (ds.take n)
  | _, _, 0, _ => by simp; exact .nil
  | _, _, n + 1, .nil => .nil
  | _, _, n + 1, .cons p t => .cons p (TpA.take n t)
theorem TpA.drop : ∀ {vs : List V} {ds : List Dt} (n : Nat), TpA H vs ds → TpA H (vs.drop n) (ds.drop n)
  | _, _, 0, t => t
  | _, _, n + 1, .nil => .nil
  | _, _, n + 1, .cons p t => TpA.drop n t
theorem Tp.ints : ∀ (ns : List Int), TpA H (ns.map V.int) (ns.map Dt.int)
  | [] => .nil
  | n :: ns => .cons (.int n) (Tp.ints ns)
theorem TpA.ints_eq : ∀ {ns : List Int} {vs : List V}, TpA H vs (ns.map Dt.int) → vs = ns.map V.int
  | [], _, .nil => rfl
  | n :: ns, _, .cons (.int _) t => by rw [List.map_cons, TpA.ints_eq t]
theorem Tp.int_eq {i : Int} (p : Tp H v (.int i)) : v = .int i := by cases p; rfl
theorem Tp.bl_eq {i : Bool} (p : Tp H v (.bl i)) : v = .bl i := by cases p; rfl
theorem Tp.str_eq {i : Str} (p : Tp H v (.str i)) : v = .str i := by cases p; rfl
theorem Tp.non_eq (p : Tp H v .non) : v = .non := by cases p; rfl
theorem Tp.ref_eq {i : Addr} (p : Tp H v (.ref i)) : v = .ref i := by cases p; rfl
theorem Tp.tup_eq (p : Tp H v (.tup ds)) : ∃ a xs, v = .ref a ∧ H a = some (.tup xs) ∧ TpA H xs ds := by
  cases p with
  | tup h t => exact ⟨_, _, rfl, h, t⟩
end
/-! ### the slots -/
abbrev Gam := List (Option Dt)
structure Gm (H : Hp) (σ : L2.St) (Γ : Gam) : Prop where
  len : σ.length = Γ.length
  get : ∀ (i : Nat) (d : Dt), Γ[i]? = some (some d) → ∃ v, σ[i]? = some (some v) ∧ Tp H v d
section
variable {H H1 : Hp} {σ : L2.St} {Γ : Gam}
theorem Gm.ge (m : Gm H σ Γ) (g : Ge H H1) : Gm H1 σ Γ := ⟨m.len, fun i d h => by obtain ⟨v, a, b⟩ := m.get i d h; exact ⟨v, a, b.ge g⟩⟩
theorem Gm.mono (m : Gm H σ Γ) (g : ∀ a xs, H a = some (.tup xs) → H1 a = some (.tup xs)) : Gm H1 σ Γ := ⟨m.len, fun i d h => by obtain ⟨v, a, b⟩ := m.get i d h; exact ⟨v, a, b.mono g⟩⟩
theorem Gm.set (m : Gm H σ Γ) {v : V} {d : Dt} (p : Tp H v d) (i : Nat) : Gm H (σ.set i (some v)) (Γ.set i (some d)) := by
  refine ⟨by rw [List.length_set, List.length_set, m.len], fun j e h => ?_⟩
  by_cases hj : i = j
  · subst hj
    have hi : i < Γ.length := by
      have := (List.getElem?_eq_some_iff.mp h).1
      rwa [List.length_set] at this
    rw [List.getElem?_set_self hi] at h
    cases h
    exact ⟨v, by rw [List.getElem?_set_self (m.len ▸ hi)], p⟩
  · rw [List.getElem?_set_ne hj] at h
    obtain ⟨w, a, b⟩ := m.get j e h
    exact ⟨w, by rw [List.getElem?_set_ne hj]; exact a, b⟩
def wipeG (Γ : Gam) : List Nat → Gam
  | [] => Γ
  | v :: vs => (wipeG Γ vs).set v none
theorem Gm.drop (m : Gm H σ Γ) (i : Nat) : Gm H (σ.set i none) (Γ.set i none) := by
  refine ⟨by rw [List.length_set, List.length_set, m.len], fun j e h => ?_⟩
  by_cases hj : i = j
  · subst hj
    have hi : i < Γ.length := by
      have := (List.getElem?_eq_some_iff.mp h).1
      rwa [List.length_set] at this
    rw [List.getElem?_set_self hi] at h
    cases h
  · rw [List.getElem?_set_ne hj] at h
    obtain ⟨w, a, b⟩ := m.get j e h
    exact ⟨w, by rw [List.getElem?_set_ne hj]; exact a, b⟩
theorem Gm.wipe (m : Gm H σ Γ) : ∀ vs : List Nat, Gm H (wipe σ vs) (wipeG Γ vs)
  | [] => m
  | v :: vs => (m.wipe vs).drop v
theorem Gm.start {vs : List V} {ds : List Dt} (t : TpA H vs ds) (N : List Str) : Gm H (L2.start N vs) (ds.map some ++ List.replicate (N.length - ds.length) none) := by
  unfold L2.start
  refine ⟨by simp [t.length], fun i d h => ?_⟩
  rw [List.getElem?_append] at h
  split at h
  · rename_i hi
    rw [List.getElem?_map] at h
    simp only [Option.map_eq_some_iff, Option.some.injEq] at h
    obtain ⟨a, ha, rfl⟩ := h
    obtain ⟨v, hv, tv⟩ := t.get ha
    refine ⟨v, ?_, tv⟩
    rw [List.getElem?_append_left (by simpa [t.length] using hi), List.getElem?_map, hv]
    rfl
  · rw [List.getElem?_replicate] at h
    split at h <;> simp at h
end
/-! ### semantic readings -/
def RE (X : Cx) (e : Expr) : TE := fun σ H Q => ∀ (pins : List (Addr × Obj)) (s : Shared), Inv X pins σ H s → wpAny (model X.prog X.w) X.A (eval e X.env) (EP X pins σ Q) X.xe s
def RT (X : Cx) (e : Expr) : TT := fun σ H Q => ∀ (pins : List (Addr × Obj)) (s : Shared), Inv X pins σ H s → wpAny (model X.prog X.w) X.A (isTrue e X.env (eval e X.env)) (TP X pins σ Q) X.xe s
def RW (X : Cx) (e : Expr) : TT := fun σ H Q => ∀ (whole : Sem Value) (pins : List (Addr × Obj)) (s : Shared), Inv X pins σ H s → wpAny (model X.prog X.w) X.A (isTrue e X.env whole) (TP X pins σ Q) X.xe s
def RA (X : Cx) (es : List Expr) : TA := fun σ H Q => ∀ (pos : Pos) (pins : List (Addr × Obj)) (s : Shared), Inv X pins σ H s → wpAny (model X.prog X.w) X.A (spliced (backTo pos (starEach es X.env))) (AP X pins σ Q) X.xe s
def RS (X : Cx) (st : Stmt) : TS := fun D σ H => ∀ (pins : List (Addr × Obj)) (s : Shared), Inv X pins σ H s → wpAny (model X.prog X.w) X.A (exec st X.env) (SP X pins D) X.xe s
def RSs (X : Cx) (st : List Stmt) : TS := fun D σ H => ∀ (pins : List (Addr × Obj)) (s : Shared), Inv X pins σ H s → wpAny (model X.prog X.w) X.A (execs st X.env) (SP X pins D) X.xe s
section
variable {X : Cx} {e : Expr} {es : List Expr} {st : Stmt} {sts : List Stmt}
theorem re : PE X e (RE X e) := ⟨fun pins s σ H Q I h => h pins s I⟩
theorem rt : PT X e (RT X e) := ⟨fun pins s σ H Q I h => h pins s I⟩
theorem rw' : PW X e (RW X e) := ⟨fun whole pins s σ H Q I h => h whole pins s I⟩
theorem ra : PA X es (RA X es) := ⟨fun pos pins s σ H Q I h => h pos pins s I⟩
theorem rs : PS X st (RS X st) := ⟨fun pins s σ H D I h => h pins s I⟩
theorem rss : PSs X sts (RSs X sts) := ⟨fun pins s σ H D I h => h pins s I⟩
theorem RE.of {t : TE} (p : PE X e t) {σ : L2.St} {H : Hp} {Q : VK} (h : t σ H Q) : RE X e σ H Q := fun pins s I => p.run pins s σ H Q I h
theorem RT.of {t : TT} (p : PT X e t) {σ : L2.St} {H : Hp} {Q : Bool → Hp → Prop} (h : t σ H Q) : RT X e σ H Q := fun pins s I => p.run pins s σ H Q I h
theorem RW.of {t : TT} (p : PW X e t) {σ : L2.St} {H : Hp} {Q : Bool → Hp → Prop} (h : t σ H Q) : RW X e σ H Q := fun w pins s I => p.run w pins s σ H Q I h
theorem RA.of {t : TA} (p : PA X es t) {σ : L2.St} {H : Hp} {Q : List V → Hp → Prop} (h : t σ H Q) : RA X es σ H Q := fun pos pins s I => p.run pos pins s σ H Q I h
theorem RS.of {t : TS} (p : PS X st t) {σ : L2.St} {H : Hp} {D : Ends} (h : t D σ H) : RS X st D σ H := fun pins s I => p.run pins s σ H D I h
theorem RSs.of {t : TS} (p : PSs X sts t) {σ : L2.St} {H : Hp} {D : Ends} (h : t D σ H) : RSs X sts D σ H := fun pins s I => p.run pins s σ H D I h
theorem RE.mono {σ : L2.St} {H : Hp} {Q Q' : VK} (h : RE X e σ H Q) (q : ∀ v H, Q v H → Q' v H) : RE X e σ H Q' := fun pins s I => thn (h pins s I) fun u s' ⟨v, H', a, b, c⟩ => ⟨v, H', a, b, q v H' c⟩
theorem RT.mono {σ : L2.St} {H : Hp} {Q Q' : Bool → Hp → Prop} (h : RT X e σ H Q) (q : ∀ v H, Q v H → Q' v H) : RT X e σ H Q' := fun pins s I => thn (h pins s I) fun u s' ⟨H', a, c⟩ => ⟨H', a, q u H' c⟩
theorem RA.mono {σ : L2.St} {H : Hp} {Q Q' : List V → Hp → Prop} (h : RA X es σ H Q) (q : ∀ v H, Q v H → Q' v H) : RA X es σ H Q' := fun pos pins s I => thn (h pos pins s I) fun u s' ⟨v, H', a, b, c⟩ => ⟨v, H', a, b, q v H' c⟩
theorem sp_mono {pins : List (Addr × Obj)} {D D' : Ends} (n : ∀ σ H, D.nx σ H → D'.nx σ H) (r : ∀ v H, D.rt v H → D'.rt v H) (b : ∀ σ H, D.bk σ H → D'.bk σ H) (c : ∀ σ H, D.ct σ H → D'.ct σ H) {f : Flow} {s : Shared} (h : SP X pins D f s) : SP X pins D' f s := by
  cases f with
  | next => obtain ⟨a, b', i, q⟩ := h; exact ⟨a, b', i, n _ _ q⟩
  | brk => obtain ⟨a, b', i, q⟩ := h; exact ⟨a, b', i, b _ _ q⟩
  | cont => obtain ⟨a, b', i, q⟩ := h; exact ⟨a, b', i, c _ _ q⟩
  | ret u => obtain ⟨v, a, b', i, rl, q⟩ := h; exact ⟨v, a, b', i, rl, r _ _ q⟩
theorem RS.mono {σ : L2.St} {H : Hp} {D D' : Ends} (h : RS X st D σ H) (n : ∀ σ H, D.nx σ H → D'.nx σ H) (r : ∀ v H, D.rt v H → D'.rt v H) (b : ∀ σ H, D.bk σ H → D'.bk σ H) (c : ∀ σ H, D.ct σ H → D'.ct σ H) : RS X st D' σ H :=
  fun pins s I => thn (h pins s I) fun f s' q => sp_mono n r b c q
theorem RSs.mono {σ : L2.St} {H : Hp} {D D' : Ends} (h : RSs X sts D σ H) (n : ∀ σ H, D.nx σ H → D'.nx σ H) (r : ∀ v H, D.rt v H → D'.rt v H) (b : ∀ σ H, D.bk σ H → D'.bk σ H) (c : ∀ σ H, D.ct σ H → D'.ct σ H) : RSs X sts D' σ H :=
  fun pins s I => thn (h pins s I) fun f s' q => sp_mono n r b c q
end
/-! ### judgements by data: all that stood stays -/
def EX (X : Cx) (e : Expr) (Γ : Gam) (H : Hp) (d : Dt) : Prop := ∀ (σ : L2.St) (H1 : Hp) (Q : VK), Ge H H1 → Gm H1 σ Γ → (∀ v H2, Ge H1 H2 → Tp H2 v d → Q v H2) → RE X e σ H1 Q
def TX (X : Cx) (e : Expr) (Γ : Gam) (H : Hp) (b : Bool) : Prop := ∀ (σ : L2.St) (H1 : Hp) (Q : Bool → Hp → Prop), Ge H H1 → Gm H1 σ Γ → (∀ H2, Ge H1 H2 → Q b H2) → RT X e σ H1 Q
def WX (X : Cx) (e : Expr) (Γ : Gam) (H : Hp) (b : Bool) : Prop := ∀ (σ : L2.St) (H1 : Hp) (Q : Bool → Hp → Prop), Ge H H1 → Gm H1 σ Γ → (∀ H2, Ge H1 H2 → Q b H2) → RW X e σ H1 Q
def AX (X : Cx) (es : List Expr) (Γ : Gam) (H : Hp) (ds : List Dt) : Prop := ∀ (σ : L2.St) (H1 : Hp) (Q : List V → Hp → Prop), Ge H H1 → Gm H1 σ Γ → (∀ vs H2, Ge H1 H2 → TpA H2 vs ds → Q vs H2) → RA X es σ H1 Q
section
variable {X : Cx} {e a b c : Expr} {es : List Expr} {Γ : Gam} {H H1 : Hp} {d da db : Dt} {pos : Pos}
theorem EX.ge (h : EX X e Γ H d) (g : Ge H H1) : EX X e Γ H1 d := fun σ H2 Q g2 => h σ H2 Q (g.trans g2)
theorem TX.ge {k : Bool} (h : TX X e Γ H k) (g : Ge H H1) : TX X e Γ H1 k := fun σ H2 Q g2 => h σ H2 Q (g.trans g2)
theorem AX.ge {ds : List Dt} (h : AX X es Γ H ds) (g : Ge H H1) : AX X es Γ H1 ds := fun σ H2 Q g2 => h σ H2 Q (g.trans g2)
theorem ex_cst {v : V} (p : PE X e (tC v)) (h : ∀ H, Tp H v d) : EX X e Γ H d := fun σ H1 Q g m q => RE.of p (q _ _ (Ge.refl _) (h _))
theorem ex_int {i : Int} {j pos} : EX X (.Constant (.int i) j pos) Γ H (.int i) := ex_cst pe_int fun _ => .int i
theorem ex_bl {i : Bool} {j pos} : EX X (.Constant (.bool i) j pos) Γ H (.bl i) := ex_cst pe_bl fun _ => .bl i
theorem ex_non {j pos} : EX X (.Constant .none j pos) Γ H .non := ex_cst pe_non fun _ => .non
theorem ex_str {i : Str} {j pos} : EX X (.Constant (.str i) j pos) Γ H (.str i) := ex_cst pe_str fun _ => .str i
theorem ex_var (i : Nat) {x : Str} (hG : Γ[i]? = some (some d) := by rfl) (hN : X.N[i]? = some x := by rfl) (hv : Vis X.env.scope x := by first | exact Or.inl rfl | exact Or.inr (Or.inl rfl) | exact Or.inr (Or.inr rfl)) (hd : (x == ("__debug__" : Str)) = false := by decide)
    (hcd : (x == ("__classdict__" : Str)) = false := by decide) : EX X (.Name x pos) Γ H d := fun σ H1 Q g m q => by
  obtain ⟨v, e, t⟩ := m.get i d hG
  exact RE.of (pe_var hN hv hd hcd) ⟨v, e, q v H1 (Ge.refl _) t⟩
theorem ex_glob {x : Str} {v : V} {u : Value} (hm : X.mg x = some u) (r : RelV v u) (t : ∀ H, Tp H v d) (hg : Gl X x := by rfl) (hd : (x == ("__debug__" : Str)) = false := by decide) : EX X (.Name x pos) Γ H d := fun σ H1 Q g m q =>
  RE.of (pe_glob hg hm r hd) (q _ _ (Ge.refl _) (t _))
theorem ex_bin {r : R2} (pe : ∀ {ta tb : TE}, PE X a ta → PE X b tb → PE X e (tOp r ta tb)) (ha : EX X a Γ H da) (hb : EX X b Γ H db)
    (hr : ∀ x y H2 (Q : VK), Ge H H2 → Tp H2 x da → Tp H2 y db → (∀ v H3, Ge H2 H3 → Tp H3 v d → Q v H3) → r x y H2 Q) : EX X e Γ H d := fun σ H1 Q g m q => by
  refine RE.of (pe re re) (ha σ H1 _ g m fun x H2 g2 tx => hb σ H2 _ (g.trans g2) (m.ge g2) fun y H3 g3 ty => ?_)
  exact hr x y H3 Q ((g.trans g2).trans g3) (tx.ge g3) ty fun v H4 g4 tv => q v H4 ((g2.trans g3).trans g4) tv
theorem ex_un {r : V → Hp → VK → Prop} {t : TE → TE} (pe : ∀ {ta : TE}, PE X a ta → PE X e (t ta)) (ht : ∀ (ta : TE) σ H Q, (ta σ H fun x H1 => r x H1 Q) → t ta σ H Q) (ha : EX X a Γ H da)
    (hr : ∀ x H2 (Q : VK), Ge H H2 → Tp H2 x da → (∀ v H3, Ge H2 H3 → Tp H3 v d → Q v H3) → r x H2 Q) : EX X e Γ H d := fun σ H1 Q g m q => by
  refine RE.of (pe re) (ht _ _ _ _ (ha σ H1 _ g m fun x H2 g2 tx => ?_))
  exact hr x H2 Q (g.trans g2) tx fun v H4 g4 tv => q v H4 (g2.trans g4) tv
/-! integers -/
theorem ex_bi {op : Operator} {i j : Int} {f : Int → Int → V} {o : Int} (ho : OpR X (binaryOp op) (rI0 f)) (ha : EX X a Γ H (.int i)) (hb : EX X b Γ H (.int j)) (hf : f i j = .int o) : EX X (.BinOp a op b pos) Γ H (.int o) :=
  ex_bin (pe_op ho) ha hb fun x y H2 Q g tx ty q => ⟨i, j, tx.int_eq, ty.int_eq, by rw [hf]; exact q _ _ (Ge.refl _) (.int o)⟩
theorem ex_add {i j : Int} (ha : EX X a Γ H (.int i)) (hb : EX X b Γ H (.int j)) : EX X (.BinOp a .Add b pos) Γ H (.int (i + j)) := ex_bi op_add ha hb rfl
theorem ex_sub {i j : Int} (ha : EX X a Γ H (.int i)) (hb : EX X b Γ H (.int j)) : EX X (.BinOp a .Sub b pos) Γ H (.int (i - j)) := ex_bi op_sub ha hb rfl
theorem ex_biC {op : Operator} {C : Int → Int → Prop} {i j : Int} {f : Int → Int → V} {o : Int} (ho : OpR X (binaryOp op) (rI C f)) (ha : EX X a Γ H (.int i)) (hb : EX X b Γ H (.int j)) (hc : C i j) (hf : f i j = .int o) : EX X (.BinOp a op b pos) Γ H (.int o) :=
  ex_bin (pe_op ho) ha hb fun x y H2 Q g tx ty q => ⟨i, j, tx.int_eq, ty.int_eq, hc, by rw [hf]; exact q _ _ (Ge.refl _) (.int o)⟩
theorem ex_ci {op : CmpOp} {i j : Int} {p : Int → Int → Bool} (ho : OpR X (compareOp op) (rI0 fun i j => .bl (p i j))) (ha : EX X a Γ H (.int i)) (hb : EX X b Γ H (.int j)) (hm : behindInMarks op b = false := by rfl) : EX X (.Compare a [op] [b] pos) Γ H (.bl (p i j)) :=
  ex_bin (fun h1 h2 => pe_cmpR ho h1 h2 hm) ha hb fun x y H2 Q g tx ty q => ⟨i, j, tx.int_eq, ty.int_eq, q _ _ (Ge.refl _) (.bl _)⟩
theorem ex_lt {i j : Int} (ha : EX X a Γ H (.int i)) (hb : EX X b Γ H (.int j)) (hm : behindInMarks .Lt b = false := by rfl) : EX X (.Compare a [.Lt] [b] pos) Γ H (.bl (decide (i < j))) := ex_ci op_lt ha hb hm
theorem ex_le {i j : Int} (ha : EX X a Γ H (.int i)) (hb : EX X b Γ H (.int j)) (hm : behindInMarks .LtE b = false := by rfl) : EX X (.Compare a [.LtE] [b] pos) Γ H (.bl (decide (i ≤ j))) := ex_ci op_le ha hb hm
theorem ex_gt {i j : Int} (ha : EX X a Γ H (.int i)) (hb : EX X b Γ H (.int j)) (hm : behindInMarks .Gt b = false := by rfl) : EX X (.Compare a [.Gt] [b] pos) Γ H (.bl (decide (j < i))) := ex_ci op_gt ha hb hm
theorem ex_geI {i j : Int} (ha : EX X a Γ H (.int i)) (hb : EX X b Γ H (.int j)) (hm : behindInMarks .GtE b = false := by rfl) : EX X (.Compare a [.GtE] [b] pos) Γ H (.bl (decide (j ≤ i))) := ex_ci op_ge ha hb hm
/-- == of scalars -/
def scD : Dt → Dt → Bool
  | .non, .non => true | .non, .int _ => true | .int _, .non => true | .non, .bl _ => true | .bl _, .non => true | .non, .str _ => true | .str _, .non => true
  | .int _, .int _ => true | .bl _, .bl _ => true | .str _, .str _ => true
  | .int _, .str _ => true | .str _, .int _ => true | .bl _, .str _ => true | .str _, .bl _ => true
  | _, _ => false
def eqD : Dt → Dt → Bool
  | .non, .non => true
  | .int i, .int j => decide (i = j)
  | .bl i, .bl j => decide (i = j)
  | .str i, .str j => decide (i = j)
  | _, _ => false
theorem eqD_of {x y : V} (tx : Tp H x da) (ty : Tp H y db) (h : scD da db = true) : scal x y = true ∧ decide (x = y) = eqD da db := by
  cases tx <;> cases ty <;> first | (exact absurd h Bool.false_ne_true) | (refine ⟨rfl, ?_⟩; simp [eqD])
theorem ex_eq (ha : EX X a Γ H da) (hb : EX X b Γ H db) (hs : scD da db = true := by rfl) (hm : behindInMarks .Eq b = false := by rfl) : EX X (.Compare a [.Eq] [b] pos) Γ H (.bl (eqD da db)) :=
  ex_bin (fun h1 h2 => pe_cmpR op_eq h1 h2 hm) ha hb fun x y H2 Q g tx ty q => by
    obtain ⟨h1, h2⟩ := eqD_of tx ty hs
    exact ⟨h1, by rw [h2]; exact q _ _ (Ge.refl _) (.bl _)⟩
theorem ex_ne (ha : EX X a Γ H da) (hb : EX X b Γ H db) (hs : scD da db = true := by rfl) (hm : behindInMarks .NotEq b = false := by rfl) : EX X (.Compare a [.NotEq] [b] pos) Γ H (.bl (!eqD da db)) :=
  ex_bin (fun h1 h2 => pe_cmpR op_ne h1 h2 hm) ha hb fun x y H2 Q g tx ty q => by
    obtain ⟨h1, h2⟩ := eqD_of tx ty hs
    exact ⟨h1, by rw [h2]; exact q _ _ (Ge.refl _) (.bl _)⟩
def isN : Dt → Bool
  | .non => true
  | _ => false
theorem isN_of {x : V} (tx : Tp H x d) : decide (x = .non) = isN d := by cases tx <;> simp [isN]
theorem ex_isN (ha : EX X a Γ H da) {j : Nat} {pos'} (hm : behindInMarks .Is (.Constant .none j pos') = false := by rfl) : EX X (.Compare a [.Is] [.Constant .none j pos'] pos) Γ H (.bl (isN da)) :=
  ex_bin (fun h1 h2 => pe_cmpR op_isN h1 h2 hm) ha (ex_non (j := j) (pos := pos')) fun x y H2 Q g tx ty q => ⟨ty.non_eq, by rw [isN_of tx]; exact q _ _ (Ge.refl _) (.bl _)⟩
theorem ex_notN (ha : EX X a Γ H da) {j : Nat} {pos'} (hm : behindInMarks .IsNot (.Constant .none j pos') = false := by rfl) : EX X (.Compare a [.IsNot] [.Constant .none j pos'] pos) Γ H (.bl (!isN da)) :=
  ex_bin (fun h1 h2 => pe_cmpR op_notN h1 h2 hm) ha (ex_non (j := j) (pos := pos')) fun x y H2 Q g tx ty q => ⟨ty.non_eq, by rw [isN_of tx]; exact q _ _ (Ge.refl _) (.bl _)⟩
/-! tests -/
theorem tx_ex {k : Bool} (h : EX X e Γ H (.bl k)) (he : ∀ whole, isTrue e X.env whole = (do let v ← whole; standAt e.pos; holding [v] (truthy v)) := by first | (intro _; rfl) | exact isTrue_plain _ _ ) : TX X e Γ H k := fun σ H1 Q g m q =>
  RT.of (pt_val re he) (h σ H1 _ g m fun v H2 g2 t => ⟨k, t.bl_eq, q H2 g2⟩)
theorem wx_one_and {k : Bool} (h : TX X a Γ H k) : WX X (.BoolOp .And [a] pos) Γ H k := fun σ H1 Q g m q => RW.of (pw_and1 rt) (h σ H1 _ g m q)
theorem wx_one_or {k : Bool} (h : TX X a Γ H k) : WX X (.BoolOp .Or [a] pos) Γ H k := fun σ H1 Q g m q => RW.of (pw_or1 rt) (h σ H1 _ g m q)
theorem wx_and {rest : List Expr} {k l : Bool} (h : TX X a Γ H k) (h' : k = true → WX X (.BoolOp .And (b :: rest) pos) Γ H l) : WX X (.BoolOp .And (a :: b :: rest) pos) Γ H (k && l) := fun σ H1 Q g m q =>
  RW.of (pw_and rt rw') (h σ H1 _ g m fun H2 g2 => by
    cases k with
    | true => rw [if_pos rfl]; exact h' rfl σ H2 _ (g.trans g2) (m.ge g2) fun H3 g3 => q H3 (g2.trans g3)
    | false => rw [if_neg (by decide)]; exact q H2 g2)
theorem wx_or {rest : List Expr} {k l : Bool} (h : TX X a Γ H k) (h' : k = false → WX X (.BoolOp .Or (b :: rest) pos) Γ H l) : WX X (.BoolOp .Or (a :: b :: rest) pos) Γ H (k || l) := fun σ H1 Q g m q =>
  RW.of (pw_or rt rw') (h σ H1 _ g m fun H2 g2 => by
    cases k with
    | true => rw [if_pos rfl]; exact q H2 g2
    | false => rw [if_neg (by decide)]; exact h' rfl σ H2 _ (g.trans g2) (m.ge g2) fun H3 g3 => q H3 (g2.trans g3))
theorem tx_wx {k : Bool} (h : WX X e Γ H k) : TX X e Γ H k := fun σ H1 Q g m q => RT.of (rw').pt (h σ H1 _ g m q)
theorem tx_not {k : Bool} (h : TX X a Γ H k) : TX X (.UnaryOp .Not a pos) Γ H (!k) := fun σ H1 Q g m q => RT.of (pt_not rt) (h σ H1 _ g m q)
theorem tx_cast {k l : Bool} (h : TX X e Γ H k) (q : k = l) : TX X e Γ H l := q ▸ h
theorem ex_cast {d' : Dt} (h : EX X e Γ H d) (q : d = d') : EX X e Γ H d' := q ▸ h
/-! values of and, or, not -/
theorem ex_one {op} (h : EX X a Γ H d) : EX X (.BoolOp op [a] pos) Γ H d := fun σ H1 Q g m q => RE.of (pe_one re) (h σ H1 Q g m q)
theorem ex_and {rest : List Expr} {k l : Bool} (h : EX X a Γ H (.bl k)) (h' : k = true → EX X (.BoolOp .And (b :: rest) pos) Γ H (.bl l)) : EX X (.BoolOp .And (a :: b :: rest) pos) Γ H (.bl (k && l)) := fun σ H1 Q g m q =>
  RE.of (pe_and re re) (h σ H1 _ g m fun v H2 g2 t => ⟨k, t.bl_eq, by
    cases k with
    | true => rw [if_pos rfl]; exact h' rfl σ H2 _ (g.trans g2) (m.ge g2) fun v H3 g3 t => q v H3 (g2.trans g3) t
    | false => rw [if_neg (by decide)]; exact q _ H2 g2 (.bl _)⟩)
theorem ex_or {rest : List Expr} {k l : Bool} (h : EX X a Γ H (.bl k)) (h' : k = false → EX X (.BoolOp .Or (b :: rest) pos) Γ H (.bl l)) : EX X (.BoolOp .Or (a :: b :: rest) pos) Γ H (.bl (k || l)) := fun σ H1 Q g m q =>
  RE.of (pe_or re re) (h σ H1 _ g m fun v H2 g2 t => ⟨k, t.bl_eq, by
    cases k with
    | true => rw [if_pos rfl]; exact q _ H2 g2 (.bl _)
    | false => rw [if_neg (by decide)]; exact h' rfl σ H2 _ (g.trans g2) (m.ge g2) fun v H3 g3 t => q v H3 (g2.trans g3) t⟩)
theorem ex_not {k : Bool} (h : EX X a Γ H (.bl k)) : EX X (.UnaryOp .Not a pos) Γ H (.bl (!k)) := fun σ H1 Q g m q =>
  RE.of (pe_not re) (h σ H1 _ g m fun v H2 g2 t => ⟨k, t.bl_eq, q _ H2 g2 (.bl _)⟩)
theorem ex_if {k : Bool} (hc : TX X c Γ H k) (h1 : k = true → EX X a Γ H d) (h2 : k = false → EX X b Γ H d) : EX X (.IfExp c a b pos) Γ H d := fun σ H1 Q g m q =>
  RE.of (pe_ifExp rt re re) (hc σ H1 _ g m fun H2 g2 => by
    cases k with
    | true => rw [if_pos rfl]; exact h1 rfl σ H2 _ (g.trans g2) (m.ge g2) fun v H3 g3 t => q v H3 (g2.trans g3) t
    | false => rw [if_neg (by decide)]; exact h2 rfl σ H2 _ (g.trans g2) (m.ge g2) fun v H3 g3 t => q v H3 (g2.trans g3) t)
/-! chains lo <= x <= hi -/
theorem ex_chain {i j k : Int} {op op' : CmpOp} {p p' : Int → Int → Bool} (ho : OpR X (compareOp op) (rI0 fun i j => .bl (p i j))) (ho' : OpR X (compareOp op') (rI0 fun i j => .bl (p' i j))) (ha : EX X a Γ H (.int i)) (hb : EX X b Γ H (.int j)) (hc : EX X c Γ H (.int k))
    (hm : lastMarks [op, op'] [b, c] = false := by rfl) : EX X (.Compare a [op, op'] [b, c] pos) Γ H (.bl (p i j && p' j k)) := fun σ H1 Q g m q =>
  RE.of (pe_chain ho ho' re re re hm) (ha σ H1 _ g m fun x H2 g2 tx => hb σ H2 _ (g.trans g2) (m.ge g2) fun y H3 g3 ty => ⟨i, j, tx.int_eq, ty.int_eq, p i j, rfl, by
    cases hp : p i j with
    | true =>
      rw [if_pos rfl]
      exact hc σ H3 _ ((g.trans g2).trans g3) ((m.ge g2).ge g3) fun z H4 g4 tz => ⟨j, k, ty.int_eq, tz.int_eq, q _ H4 ((g2.trans g3).trans g4) (by rw [hp]; exact .bl _)⟩
    | false =>
      rw [if_neg (by decide)]
      exact q _ H3 (g2.trans g3) (by rw [hp]; exact .bl _)⟩)
/-! sequences -/
theorem ex_ixT {ds : List Dt} {i : Int} {j : Nat} (ha : EX X a Γ H (.tup ds)) (hb : EX X b Γ H (.int i)) (hi : ixN ds.length i = some j) (hd : ds[j]? = some d) (hs : PlainIx b := by intro _ _; rfl) : EX X (.Subscript a b pos) Γ H d :=
  ex_bin (fun h1 h2 => pe_ix ix_tup h1 h2 hs) ha hb fun x y H2 Q g tx ty q => by
    obtain ⟨p, xs, rfl, hp, t⟩ := tx.tup_eq
    obtain ⟨v, hv, tv⟩ := t.get hd
    exact ⟨p, xs, i, v, rfl, ty.int_eq, SqT.of hp, by unfold atI; rw [t.length, hi]; exact hv, q v H2 (Ge.refl _) tv⟩
theorem ex_ixN {ds : List Dt} {n : Nat} (ha : EX X a Γ H (.tup ds)) (hb : EX X b Γ H (.int n)) (hd : ds[n]? = some d) (hs : PlainIx b := by intro _ _; rfl) : EX X (.Subscript a b pos) Γ H d :=
  ex_ixT ha hb (j := n) (by unfold ixN; rw [if_pos (Int.natCast_nonneg _), if_pos (Int.ofNat_lt.mpr (List.getElem?_eq_some_iff.mp hd).1)]; simp) hd hs
theorem ex_ixL {l : Addr} {vs : List V} {v : V} {n : Nat} (ha : EX X a Γ H (.ref l)) (hl : H l = some (.lst vs)) (hv : vs[n]? = some v) (tv : Tp H v d) (hb : EX X b Γ H (.int n)) (hs : PlainIx b := by intro _ _; rfl) : EX X (.Subscript a b pos) Γ H d :=
  ex_bin (fun h1 h2 => pe_ix ix_list h1 h2 hs) ha hb fun x y H2 Q g tx ty q => by
    refine ⟨l, vs, n, v, tx.ref_eq, ty.int_eq, SqL.of (g.lst hl), ?_, q v H2 (Ge.refl _) (tv.ge g)⟩
    exact atI_nat hv
theorem ax_nil : AX X [] Γ H [] := fun σ H1 Q g m q => RA.of pa_nil (q [] H1 (Ge.refl _) .nil)
theorem ax_cons {ds : List Dt} (h : EX X e Γ H d) (t : AX X es Γ H ds) (hs : starEach (e :: es) X.env = (false, eval e X.env) :: starEach es X.env := by rfl) : AX X (e :: es) Γ H (d :: ds) := fun σ H1 Q g m q =>
  RA.of (pa_cons re ra hs) (h σ H1 _ g m fun v H2 g2 tv => t σ H2 _ (g.trans g2) (m.ge g2) fun vs H3 g3 tvs => q (v :: vs) H3 (g2.trans g3) (.cons (tv.ge g3) tvs))
theorem ex_tup {x1} {ds : List Dt} (h : AX X es Γ H ds) (hl : ds.length ≤ sizeLine := by exact Nat.le_of_ble_eq_true rfl) : EX X (.Tuple es x1 pos) Γ H (.tup ds) := fun σ H1 Q g m q =>
  RE.of (pe_tup ra) (h σ H1 _ g m fun vs H2 g2 t => ⟨by rw [t.length]; exact hl, fun p hp => q _ _ (g2.trans (Ge.new hp)) (.tup upd_same (t.ge (Ge.new hp)))⟩)
/-- + of tuples -/
theorem ex_cat {ds es : List Dt} (ha : EX X a Γ H (.tup ds)) (hb : EX X b Γ H (.tup es)) (hl : ds.length + es.length ≤ sizeLine) : EX X (.BinOp a .Add b pos) Γ H (.tup (ds ++ es)) :=
  ex_bin (pe_op op_catA) ha hb fun x y H2 Q g tx ty q => by
    obtain ⟨p, xs, rfl, hp, t⟩ := tx.tup_eq
    obtain ⟨p', ys, rfl, hp', t'⟩ := ty.tup_eq
    refine ⟨p, p', xs, ys, rfl, rfl, SqT.of hp, SqT.of hp', by rw [t.length, t'.length]; exact hl, fun e => ?_, fun _ e => ?_, fun _ _ r hr => ?_⟩
    · subst e
      cases t
      exact q _ _ (Ge.refl _) (.tup hp' t')
    · subst e
      cases t'
      rw [List.append_nil] at q
      exact q _ _ (Ge.refl _) (.tup hp t)
    · exact q _ _ (Ge.new hr) (.tup upd_same ((t.append t').ge (Ge.new hr)))
/-- [k:] of a tuple -/
theorem sIx_hi (n : Nat) : HT.sIx n n none = n := rfl
theorem ex_from {ds : List Dt} {k : Nat} {p2 : Pos} (ha : EX X a Γ H (.tup ds)) (hb : EX X b Γ H (.int k)) : EX X (.Subscript a (.Slice (some b) none none p2) pos) Γ H (.tup (ds.drop k)) := fun σ H1 Q g m q =>
  RE.of (pe_slice sl_tupA re (po_some re) po_none) (ha σ H1 _ g m fun x H2 g2 tx => hb σ H2 _ (g.trans g2) (m.ge g2) fun y H3 g3 ty => ⟨k, ty.int_eq, by
    obtain ⟨p, xs, rfl, hp, t⟩ := (tx.ge g3).tup_eq
    have e0 : HT.sIx xs.length 0 (some (k : Int)) = min k xs.length := HT.sIx_nat _ _ _
    have cut : cutV xs (some (k : Int)) none = xs.drop k := by
      unfold cutV
      rw [sIx_hi, e0]
      by_cases hk : k ≤ xs.length
      · rw [Nat.min_eq_left hk, List.take_of_length_le (by simp)]
      · rw [Nat.min_eq_right (by omega), List.drop_of_length_le (Nat.le_refl _), List.drop_of_length_le (by omega)]
        simp
    refine ⟨p, xs, rfl, SqT.of hp, fun h => ?_, fun _ r hr => ?_⟩
    · rw [e0] at h
      have hx : xs.drop k = xs := by
        rcases Nat.eq_zero_or_pos k with z | z
        · subst z; rfl
        · have : xs.length = 0 := by omega
          have e : xs = [] := List.length_eq_zero_iff.mp this
          subst e; simp
      have := t.drop k
      rw [hx] at this
      exact q _ _ (g2.trans g3) (.tup hp this)
    · rw [cut]
      exact q _ _ ((g2.trans g3).trans (Ge.new hr)) (.tup upd_same ((t.drop k).ge (Ge.new hr)))⟩)
/-- in, not in a tuple of ints -/
theorem inV_ints (i : Int) : ∀ ns : List Int, inV (.int i) (ns.map V.int) = ns.contains i
  | [] => rfl
  | n :: ns => by
    have := inV_ints i ns
    unfold inV at this ⊢
    rw [List.map_cons, List.any_cons, this, List.contains_cons]
    congr 1
    simp [eqV, eq_comm, Bool.beq_eq_decide_eq]
theorem flat_ints : ∀ ns : List Int, (ns.map V.int).all flatV = true
  | [] => rfl
  | n :: ns => by rw [List.map_cons, List.all_cons, flat_ints ns]; rfl
theorem ex_inT {ns : List Int} {i : Int} (ha : EX X a Γ H (.int i)) (hb : EX X b Γ H (.tup (ns.map Dt.int))) (hm : behindInMarks .In b = false := by rfl) : EX X (.Compare a [.In] [b] pos) Γ H (.bl (ns.contains i)) :=
  ex_bin (fun h1 h2 => pe_cmpR op_in_seq h1 h2 hm) ha hb fun x y H2 Q g tx ty q => by
    obtain ⟨p, xs, rfl, hp, t⟩ := ty.tup_eq
    cases t.ints_eq
    cases tx.int_eq
    refine ⟨p, _, rfl, .inr (SqT.of hp), rfl, flat_ints ns, ?_⟩
    simp only [Bool.false_eq_true, if_false, inV_ints]
    exact q _ _ (Ge.refl _) (.bl _)
theorem ex_notInT {ns : List Int} {i : Int} (ha : EX X a Γ H (.int i)) (hb : EX X b Γ H (.tup (ns.map Dt.int))) (hm : behindInMarks .NotIn b = false := by rfl) : EX X (.Compare a [.NotIn] [b] pos) Γ H (.bl (!ns.contains i)) :=
  ex_bin (fun h1 h2 => pe_cmpR op_notIn_seq h1 h2 hm) ha hb fun x y H2 Q g tx ty q => by
    obtain ⟨p, xs, rfl, hp, t⟩ := ty.tup_eq
    cases t.ints_eq
    cases tx.int_eq
    refine ⟨p, _, rfl, .inr (SqT.of hp), rfl, flat_ints ns, ?_⟩
    simp only [if_true, inV_ints]
    exact q _ _ (Ge.refl _) (.bl _)
end
end Lk
set_option Elab.async false
set_option linter.all false
set_option maxRecDepth 100000
set_option maxHeartbeats 2000000
/-! Calls, comparisons, statements, loops, comprehensions by data. -/
namespace Lk
open PySem PySem.Spec PyProof.Rows L2 GxR
def LeT (H H' : Hp) : Prop := ∀ a xs, H a = some (.tup xs) → H' a = some (.tup xs)
theorem LeT.refl (H : Hp) : LeT H H := fun _ _ h => h
theorem LeT.trans {H H1 H2 : Hp} (a : LeT H H1) (b : LeT H1 H2) : LeT H H2 := fun _ _ h => b _ _ (a _ _ h)
theorem Ge.t {H H1 : Hp} (g : Ge H H1) : LeT H H1 := fun _ _ h => g.tup h
theorem LeT.upd {H : Hp} {a : Addr} {o : HO} (h : ∀ xs, H a ≠ some (.tup xs)) : LeT H (upd H a o) := fun b xs e => by
  rw [upd_ne (fun z => h xs (by rw [← z]; exact e))]
  exact e
section
variable {X : Cx} {e a b c : Expr} {es : List Expr} {Γ : Gam} {H H1 : Hp} {d da db : Dt} {pos : Pos}
/-! ### comparisons, as values and as tests -/
def CO (X : Cx) (op : CmpOp) (da db : Dt) (H : Hp) (k : Bool) : Prop := ∃ r : R2, OpR X (compareOp op) r ∧
  ∀ x y H2 (Q : VK), Ge H H2 → Tp H2 x da → Tp H2 y db → (∀ v H3, Ge H2 H3 → Tp H3 v (.bl k) → Q v H3) → r x y H2 Q
theorem ex_cmp {op : CmpOp} {k : Bool} (ha : EX X a Γ H da) (hb : EX X b Γ H db) (co : CO X op da db H k) (hm : behindInMarks op b = false := by first | rfl | exact nomark _ (by decide) (by decide)) : EX X (.Compare a [op] [b] pos) Γ H (.bl k) := by
  obtain ⟨r, ho, hr⟩ := co
  exact ex_bin (fun h1 h2 => pe_cmpR ho h1 h2 hm) ha hb hr
theorem tx_cmp {op : CmpOp} {k : Bool} (ha : EX X a Γ H da) (hb : EX X b Γ H db) (co : CO X op da db H k) (hm : behindInMarks op b = false := by first | rfl | exact nomark _ (by decide) (by decide)) : TX X (.Compare a [op] [b] pos) Γ H k := fun σ H1 Q g m q => by
  obtain ⟨r, ho, hr⟩ := co
  refine RT.of (pt_cmpR ho re re hm) (ha σ H1 _ g m fun x H2 g2 tx => hb σ H2 _ (g.trans g2) (m.ge g2) fun y H3 g3 ty => ?_)
  exact hr x y H3 _ ((g.trans g2).trans g3) (tx.ge g3) ty fun v H4 g4 tv => ⟨k, tv.bl_eq, q H4 ((g2.trans g3).trans g4)⟩
theorem co_int {op : CmpOp} {i j : Int} {p : Int → Int → Bool} (ho : OpR X (compareOp op) (rI0 fun i j => .bl (p i j))) : CO X op (.int i) (.int j) H (p i j) :=
  ⟨_, ho, fun x y H2 Q g tx ty q => ⟨i, j, tx.int_eq, ty.int_eq, q _ _ (Ge.refl _) (.bl _)⟩⟩
theorem co_lt {i j : Int} : CO X .Lt (.int i) (.int j) H (decide (i < j)) := co_int op_lt
theorem co_le {i j : Int} : CO X .LtE (.int i) (.int j) H (decide (i ≤ j)) := co_int op_le
theorem co_gt {i j : Int} : CO X .Gt (.int i) (.int j) H (decide (j < i)) := co_int op_gt
theorem co_ge {i j : Int} : CO X .GtE (.int i) (.int j) H (decide (j ≤ i)) := co_int op_ge
theorem co_eq (hs : scD da db = true := by rfl) : CO X .Eq da db H (eqD da db) := ⟨_, op_eq, fun x y H2 Q g tx ty q => by
  obtain ⟨h1, h2⟩ := eqD_of tx ty hs
  exact ⟨h1, by rw [h2]; exact q _ _ (Ge.refl _) (.bl _)⟩⟩
theorem co_ne (hs : scD da db = true := by rfl) : CO X .NotEq da db H (!eqD da db) := ⟨_, op_ne, fun x y H2 Q g tx ty q => by
  obtain ⟨h1, h2⟩ := eqD_of tx ty hs
  exact ⟨h1, by rw [h2]; exact q _ _ (Ge.refl _) (.bl _)⟩⟩
theorem co_is : CO X .Is da .non H (isN da) := ⟨_, op_isN, fun x y H2 Q g tx ty q => ⟨ty.non_eq, by rw [isN_of tx]; exact q _ _ (Ge.refl _) (.bl _)⟩⟩
theorem co_isnt : CO X .IsNot da .non H (!isN da) := ⟨_, op_notN, fun x y H2 Q g tx ty q => ⟨ty.non_eq, by rw [isN_of tx]; exact q _ _ (Ge.refl _) (.bl _)⟩⟩
theorem co_in {ns : List Int} {i : Int} : CO X .In (.int i) (.tup (ns.map Dt.int)) H (ns.contains i) := ⟨_, op_in_seq, fun x y H2 Q g tx ty q => by
  obtain ⟨p, xs, rfl, hp, t⟩ := ty.tup_eq
  cases t.ints_eq
  cases tx.int_eq
  refine ⟨p, _, rfl, .inr (SqT.of hp), rfl, flat_ints ns, ?_⟩
  simp only [Bool.false_eq_true, if_false, inV_ints]
  exact q _ _ (Ge.refl _) (.bl _)⟩
theorem co_notin {ns : List Int} {i : Int} : CO X .NotIn (.int i) (.tup (ns.map Dt.int)) H (!ns.contains i) := ⟨_, op_notIn_seq, fun x y H2 Q g tx ty q => by
  obtain ⟨p, xs, rfl, hp, t⟩ := ty.tup_eq
  cases t.ints_eq
  cases tx.int_eq
  refine ⟨p, _, rfl, .inr (SqT.of hp), rfl, flat_ints ns, ?_⟩
  simp only [if_true, inV_ints]
  exact q _ _ (Ge.refl _) (.bl _)⟩
/-- a python datum (no lists) -/
def toPy : Dt → PyData
  | .non => .none
  | .bl b => .bool b
  | .int i => .int i
  | .str s => .str s
  | .ref _ => .none
  | .tup ds => .tuple (toPyL ds)
where toPyL : List Dt → List PyData
  | [] => []
  | d :: ds => toPy d :: toPyL ds
def noRef : Dt → Bool
  | .ref _ => false
  | .tup ds => noRefL ds
  | _ => true
where noRefL : List Dt → Bool
  | [] => true
  | d :: ds => noRef d && noRefL ds
mutual
theorem Tp.dp {K : PySem.W.Frag} : ∀ {d : Dt} {v : V}, Tp H v d → noRef d = true → Dp K H v (toPy d)
  | .non, _, .non, _ => .non
  | .bl _, _, .bl b, _ => .bl b
  | .int _, _, .int i, _ => .int i
  | .str _, _, .str x, _ => .str x
  | .ref _, _, .ref a, h => absurd h Bool.false_ne_true
  | .tup ds, _, .tup h t, n => .tup (SqT.of h) (TpA.dp t n)
theorem TpA.dp {K : PySem.W.Frag} : ∀ {ds : List Dt} {vs : List V}, TpA H vs ds → noRef.noRefL ds = true → DpAll K H vs (toPy.toPyL ds)
  | [], _, .nil, _ => .nil
  | d :: ds, _, .cons p t, n => by
    have n' : (noRef d && noRef.noRefL ds) = true := n
    rw [Bool.and_eq_true] at n'
    exact .cons (Tp.dp p n'.1) (TpA.dp t n'.2)
end
theorem co_eqT {k : Nat} (hr : Room k X.A) (n1 : noRef da = true) (n2 : noRef db = true) (s1 : SeqAt.shaped (toPy da) = true) (s2 : SeqAt.shaped (toPy db) = true) : CO X .Eq da db H (PyData.eqv (toPy da) (toPy db)) :=
  ⟨_, op_eqD hr.units, fun x y H2 Q g tx ty q => ⟨_, _, tx.dp n1, ty.dp n2, s1, s2, q _ _ (Ge.refl _) (.bl _)⟩⟩
theorem co_neT {k : Nat} (hr : Room k X.A) (n1 : noRef da = true) (n2 : noRef db = true) (s1 : SeqAt.shaped (toPy da) = true) (s2 : SeqAt.shaped (toPy db) = true) : CO X .NotEq da db H (!PyData.eqv (toPy da) (toPy db)) :=
  ⟨_, op_neD hr.units, fun x y H2 Q g tx ty q => ⟨_, _, tx.dp n1, ty.dp n2, s1, s2, q _ _ (Ge.refl _) (.bl _)⟩⟩
theorem tx_chain {i j k : Int} {op op' : CmpOp} {p p' : Int → Int → Bool} (ho : OpR X (compareOp op) (rI0 fun i j => .bl (p i j))) (ho' : OpR X (compareOp op') (rI0 fun i j => .bl (p' i j))) (ha : EX X a Γ H (.int i)) (hb : EX X b Γ H (.int j)) (hc : EX X c Γ H (.int k))
    (hm : lastMarks [op, op'] [b, c] = false := by rfl) : TX X (.Compare a [op, op'] [b, c] pos) Γ H (p i j && p' j k) := fun σ H1 Q g m q =>
  RT.of (pt_chain ho ho' re re re hm) (ha σ H1 _ g m fun x H2 g2 tx => hb σ H2 _ (g.trans g2) (m.ge g2) fun y H3 g3 ty => ⟨i, j, tx.int_eq, ty.int_eq, p i j, rfl, by
    cases hp : p i j with
    | true =>
      rw [if_pos rfl]
      exact hc σ H3 _ ((g.trans g2).trans g3) ((m.ge g2).ge g3) fun z H4 g4 tz => ⟨j, k, ty.int_eq, tz.int_eq, _, rfl, by rw [hp] at q; exact q H4 ((g2.trans g3).trans g4)⟩
    | false =>
      rw [if_neg (by decide)]
      exact ⟨false, rfl, by rw [hp] at q; exact q H3 (g2.trans g3)⟩⟩)
/-! ### builtins -/
theorem ex_callB {x : Str} {p : Pos} {id : String} {r : List V → Hp → VK → Prop} {ds : List Dt} (hc : CallR X (.builtin id) r) (hm : X.mg x = none) (hv : bootBuiltins x = some (.builtin id)) (ha : AX X (e :: es) Γ H ds)
    (hr : ∀ vs H2 (Q : VK), Ge H H2 → TpA H2 vs ds → (∀ v H3, Ge H2 H3 → Tp H3 v d → Q v H3) → r vs H2 Q) (hg : Gl X x := by rfl) (hn : x ≠ "__name__" := by decide) (hdb : (x == ("__debug__" : Str)) = false := by decide)
    (he : starEach (e :: es) X.env = (false, eval e X.env) :: starEach es X.env := by rfl) (hpl : (backTo pos (starEach es X.env)).any (·.1) = false := by rfl) : EX X (.Call (.Name x p) (e :: es) [] pos) Γ H d := fun σ H1 Q g m q =>
  RE.of (pe_callB hc hg hm hv ra hn hdb he hpl) (ha σ H1 _ g m fun vs H2 g2 t => hr vs H2 Q (g.trans g2) t fun v H3 g3 tv => q v H3 (g2.trans g3) tv)
theorem tpa1 {vs : List V} (t : TpA H vs [d]) : ∃ v, vs = [v] ∧ Tp H v d := by
  cases t with
  | cons p q => cases q; exact ⟨_, rfl, p⟩
theorem tpa2 {vs : List V} (t : TpA H vs [da, db]) : ∃ v u, vs = [v, u] ∧ Tp H v da ∧ Tp H u db := by
  cases t with
  | cons p q => obtain ⟨u, rfl, r⟩ := tpa1 q; exact ⟨_, u, rfl, p, r⟩
theorem tpa3 {vs : List V} {dc : Dt} (t : TpA H vs [da, db, dc]) : ∃ v u w, vs = [v, u, w] ∧ Tp H v da ∧ Tp H u db ∧ Tp H w dc := by
  cases t with
  | cons p q => obtain ⟨u, w, rfl, r⟩ := tpa2 q; exact ⟨_, u, w, rfl, p, r⟩
theorem ex_len {ds : List Dt} {p : Pos} (hm : X.mg "len" = none) (ha : EX X a Γ H (.tup ds)) (hg : Gl X "len" := by rfl) (he : starEach [a] X.env = (false, eval a X.env) :: starEach [] X.env := by rfl) (hpl : (backTo pos (starEach [] X.env)).any (·.1) = false := by rfl) :
    EX X (.Call (.Name "len" p) [a] [] pos) Γ H (.int ds.length) :=
  ex_callB call_len_seq hm boot_len (ax_cons ha ax_nil he) (fun vs H2 Q g t q => by
    obtain ⟨v, rfl, tv⟩ := tpa1 t
    obtain ⟨p, xs, rfl, hp, t⟩ := tv.tup_eq
    exact ⟨p, xs, rfl, .inr (SqT.of hp), by rw [t.length]; exact q _ _ (Ge.refl _) (.int _)⟩) hg (by decide) (by decide) he hpl
theorem ex_lenL {l : Addr} {vs : List V} {p : Pos} (hm : X.mg "len" = none) (ha : EX X a Γ H (.ref l)) (hl : H l = some (.lst vs)) (hg : Gl X "len" := by rfl) (he : starEach [a] X.env = (false, eval a X.env) :: starEach [] X.env := by rfl) (hpl : (backTo pos (starEach [] X.env)).any (·.1) = false := by rfl) :
    EX X (.Call (.Name "len" p) [a] [] pos) Γ H (.int vs.length) :=
  ex_callB call_len_seq hm boot_len (ax_cons ha ax_nil he) (fun us H2 Q g t q => by
    obtain ⟨v, rfl, tv⟩ := tpa1 t
    exact ⟨l, vs, by rw [tv.ref_eq], .inl (SqL.of (g.lst hl)), q _ _ (Ge.refl _) (.int _)⟩) hg (by decide) (by decide) he hpl
theorem ex_max {i j : Int} {p : Pos} (hc : X.calm = true) (hm : X.mg "max" = none) (hv : bootBuiltins "max" = some (.builtin "max")) (ha : EX X a Γ H (.int i)) (hb : EX X b Γ H (.int j)) (hg : Gl X "max" := by rfl)
    (he : starEach [a, b] X.env = (false, eval a X.env) :: starEach [b] X.env := by rfl) (he2 : starEach [b] X.env = (false, eval b X.env) :: starEach [] X.env := by rfl) (hpl : (backTo pos (starEach [b] X.env)).any (·.1) = false := by rfl) :
    EX X (.Call (.Name "max" p) [a, b] [] pos) Γ H (.int (max i j)) :=
  ex_callB (call_max2 hc) hm hv (ax_cons ha (ax_cons hb ax_nil he2) he) (fun us H2 Q g t q => by
    obtain ⟨v, u, rfl, tv, tu⟩ := tpa2 t
    refine ⟨i, j, by rw [tv.int_eq, tu.int_eq], ?_⟩
    have e : (if j > i then j else i) = max i j := by
      rw [Int.max_def]
      split <;> split <;> omega
    rw [e]
    exact q _ _ (Ge.refl _) (.int _)) hg (by decide) (by decide) he hpl
/-- the class of a datum -/
inductive TyD (H : Hp) : Dt → String → Prop
  | non : TyD H .non "NoneType"
  | bl (b : Bool) : TyD H (.bl b) "bool"
  | int (i : Int) : TyD H (.int i) "int"
  | str (s : Str) : TyD H (.str s) "str"
  | tup (ds : List Dt) : TyD H (.tup ds) "tuple"
theorem TyD.tyX {K : PySem.W.Frag} {v : V} {T : String} (t : Tp H v d) (h : TyD H d T) : TyX K H v (.type T) := by
  cases h with
  | non => rw [t.non_eq]; exact .base .non
  | bl b => rw [t.bl_eq]; exact .base (.bl b)
  | int i => rw [t.int_eq]; exact .base (.int i)
  | str s => rw [t.str_eq]; exact .base (.str s)
  | tup ds =>
    obtain ⟨a, xs, rfl, h, _⟩ := t.tup_eq
    exact .base (.tup h)
theorem ex_isi {p p2 : Pos} {x T : String} {k : Bool} (hm : X.mg "isinstance" = none) (hmx : X.mg (x : String) = none) (hv : bootBuiltins (x : String) = some (.type x)) (ha : EX X a Γ H d) (t : TyD H d T) (hk : kitB T x = some k)
    (hg : Gl X "isinstance" := by rfl) (hgx : Gl X (x : String) := by rfl) (hn : (x : Str) ≠ "__name__" := by decide) (hdb : ((x : Str) == ("__debug__" : Str)) = false := by decide)
    (he : starEach [a, .Name (x : String) p2] X.env = (false, eval a X.env) :: starEach [.Name (x : String) p2] X.env := by rfl) (he2 : starEach [.Name (x : String) p2] X.env = (false, eval (.Name (x : String) p2) X.env) :: starEach [] X.env := by rfl)
    (hpl : (backTo pos (starEach [.Name (x : String) p2] X.env)).any (·.1) = false := by rfl) :
    EX X (.Call (.Name "isinstance" p) [a, .Name (x : String) p2] [] pos) Γ H (.bl k) := fun σ H1 Q g m q =>
  RE.of (pe_callB call_isi hg hm boot_isinstance (pa_cons re (pa_cons (pe_bltn hgx hmx hv (v := .ty x) rfl hn hdb) pa_nil he2) he) (by decide) (by decide) he hpl) (ha σ H1 _ g m fun v H2 g2 tv =>
    ⟨v, .ty x, .type T, .type x, k, rfl, .ty x, TyD.tyX tv (by cases t <;> constructor), kit_ty hk, q _ H2 g2 (.bl k)⟩)
/-- isinstance(a, (x, y)), two built-in classes -/
theorem ex_isi2 {p p2 p3 pt : Pos} {kt : Nat} {x y T : String} {k1 k2 : Bool} (hm : X.mg "isinstance" = none) (hmx : X.mg (x : String) = none) (hmy : X.mg (y : String) = none) (hv : bootBuiltins (x : String) = some (.type x)) (hvy : bootBuiltins (y : String) = some (.type y)) (ha : EX X a Γ H d) (t : TyD H d T) (hk : kitB T x = some k1) (hk2 : kitB T y = some k2)
    (hg : Gl X "isinstance" := by rfl) (hgx : Gl X (x : String) := by rfl) (hgy : Gl X (y : String) := by rfl) (hn : (x : Str) ≠ "__name__" := by decide) (hdb : ((x : Str) == ("__debug__" : Str)) = false := by decide) (hny : (y : Str) ≠ "__name__" := by decide) (hdby : ((y : Str) == ("__debug__" : Str)) = false := by decide)
    (he : starEach [a, .Tuple [.Name (x : String) p2, .Name (y : String) p3] kt pt] X.env = (false, eval a X.env) :: starEach [.Tuple [.Name (x : String) p2, .Name (y : String) p3] kt pt] X.env := by rfl)
    (he2 : starEach [.Tuple [.Name (x : String) p2, .Name (y : String) p3] kt pt] X.env = (false, eval (.Tuple [.Name (x : String) p2, .Name (y : String) p3] kt pt) X.env) :: starEach [] X.env := by rfl)
    (he3 : starEach [.Name (x : String) p2, .Name (y : String) p3] X.env = (false, eval (.Name (x : String) p2) X.env) :: starEach [.Name (y : String) p3] X.env := by rfl)
    (he4 : starEach [.Name (y : String) p3] X.env = (false, eval (.Name (y : String) p3) X.env) :: starEach [] X.env := by rfl)
    (hpl : (backTo pos (starEach [.Tuple [.Name (x : String) p2, .Name (y : String) p3] kt pt] X.env)).any (·.1) = false := by rfl) :
    EX X (.Call (.Name "isinstance" p) [a, .Tuple [.Name (x : String) p2, .Name (y : String) p3] kt pt] [] pos) Γ H (.bl (k1 || k2)) := fun σ H1 Q g m q =>
  RE.of (pe_callB call_isiT hg hm boot_isinstance (pa_cons re (pa_cons (pe_tup (pa_cons (pe_bltn hgx hmx hv (v := .ty x) rfl hn hdb) (pa_cons (pe_bltn hgy hmy hvy (v := .ty y) rfl hny hdby) pa_nil he4) he3)) pa_nil he2) he) (by decide) (by decide) he hpl) (ha σ H1 _ g m fun v H2 g2 tv => by
    refine ⟨by show 2 ≤ sizeLine; decide, fun r hr => ?_⟩
    refine ⟨v, r, [.ty x, .ty y], .type T, [.type x, .type y], (k1 || k2), rfl, upd_same, .cons (.ty x) (.cons (.ty y) .nil), TyD.tyX (tv.ge (Ge.new hr)) (by cases t <;> constructor), ?_, q _ _ (g2.trans (Ge.new hr)) (.bl _)⟩
    refine kitAny_cons (kit_ty hk) (fun e => ?_) (fun e => by rw [e]; rfl)
    rw [e, Bool.false_or]
    refine kitAny_cons (kit_ty hk2) (fun e => ?_) (fun e => e)
    rw [e]
    exact kitAny_nil)
end
end Lk
set_option Elab.async false
set_option linter.all false
set_option maxRecDepth 100000
set_option maxHeartbeats 2000000
/-! Statements, promises, loops, comprehensions by data. -/
namespace Lk
open PySem PySem.Spec PyProof.Rows L2 GxR
open C8 (Cal Met Mak pe_c pe_mt pe_mk pe_mt0)
/-! ### promises -/
def spP {ι : Type} (args : ι → List Dt) (pre : ι → Hp → Prop) (post : ι → Hp → Dt → Hp → Prop) : Sp := fun vs H Q _ => ∃ x : ι, TpA H vs (args x) ∧ pre x H ∧ ∀ d v H2, Tp H2 v d → post x H d H2 → Q v H2
/-- a def that answers R, all that stood staying; T: tables that must stand -/
def spF (T : List Addr) (R : List Dt → Dt → Prop) : Sp := fun vs H Q _ => ∃ ds d, TpA H vs ds ∧ R ds d ∧ (∀ P ∈ T, TabG H P) ∧ ∀ v H2, Ge H H2 → Tp H2 v d → Q v H2
def DN (nx : Gam → Hp → Prop) (rt : Dt → Hp → Prop) : Ends := ⟨fun σ H => ∃ Γ, Gm H σ Γ ∧ nx Γ H, fun v H => ∃ d, Tp H v d ∧ rt d H, fun _ _ => False, fun _ _ => False⟩
def SX (X : Cx) (st : Stmt) (Γ : Gam) (H : Hp) (nx : Gam → Hp → Prop) (rt : Dt → Hp → Prop) : Prop := ∀ σ, Gm H σ Γ → RS X st (DN nx rt) σ H
def SXs (X : Cx) (sts : List Stmt) (Γ : Gam) (H : Hp) (nx : Gam → Hp → Prop) (rt : Dt → Hp → Prop) : Prop := ∀ σ, Gm H σ Γ → RSs X sts (DN nx rt) σ H
/-- an expression that may change things -/
def MX (X : Cx) (e : Expr) (Γ : Gam) (H : Hp) (K : Dt → Hp → Prop) : Prop := ∀ σ, Gm H σ Γ → RE X e σ H fun v H' => ∃ d, Tp H' v d ∧ Gm H' σ Γ ∧ K d H'
section
variable {X : Cx} {e a b c iter : Expr} {es : List Expr} {st : Stmt} {sts body : List Stmt} {Γ : Gam} {H H1 : Hp} {d da db : Dt} {pos : Pos} {nx nx' : Gam → Hp → Prop} {rt rt' : Dt → Hp → Prop}
theorem mx_ex {K : Dt → Hp → Prop} (h : EX X e Γ H d) (k : ∀ H1, Ge H H1 → K d H1) : MX X e Γ H K := fun σ m => h σ H _ (Ge.refl _) m fun v H2 g2 t => ⟨d, t, m.ge g2, k H2 g2⟩
theorem MX.mono {K K' : Dt → Hp → Prop} (h : MX X e Γ H K) (k : ∀ d H1, K d H1 → K' d H1) : MX X e Γ H K' := fun σ m => (h σ m).mono fun v H' ⟨d, a, b, c⟩ => ⟨d, a, b, k d H' c⟩
theorem SXs.mono (h : SXs X sts Γ H nx rt) (n : ∀ Γ H, nx Γ H → nx' Γ H) (r : ∀ d H, rt d H → rt' d H) : SXs X sts Γ H nx' rt' := fun σ m =>
  (h σ m).mono (fun σ H ⟨G, a, b⟩ => ⟨G, a, n _ _ b⟩) (fun v H ⟨d, a, b⟩ => ⟨d, a, r _ _ b⟩) (fun _ _ z => z) (fun _ _ z => z)
theorem sxs_nil (h : nx Γ H) : SXs X [] Γ H nx rt := fun σ m => RSs.of pss_nil ⟨Γ, m, h⟩
theorem sxs_cons (h : SX X st Γ H (fun Γ' H' => SXs X sts Γ' H' nx rt) rt) : SXs X (st :: sts) Γ H nx rt := fun σ m =>
  RSs.of (pss_cons rs rss) ((h σ m).mono (fun σ' H' ⟨G, a, b⟩ => b σ' a) (fun _ _ z => z) (fun _ _ z => z) (fun _ _ z => z))
theorem sxs_one (h : SX X st Γ H nx rt) : SXs X [st] Γ H nx rt := fun σ m => RSs.of (pss_one rs) (h σ m)
theorem sx_asgM {i : Nat} {x : Str} {pos' : Pos} (h : MX X e Γ H fun d H1 => nx (Γ.set i (some d)) H1) (hN : X.N.Nodup) (hi : X.N[i]? = some x := by rfl) (hx : Loc X.env.scope x := by first | exact Or.inl rfl | exact Or.inr rfl)
    (hs : swapsWith e (some (.Name x pos')) pos.line X.env = pure false := by rfl) (hf : X.fn x = true ∨ X.env.scope.names.lookup x = some .local := by first | exact .inl rfl | exact .inr rfl | assumption) : SX X (.Assign [.Name x pos'] e pos) Γ H nx rt := fun σ m =>
  RS.of (ps_set hN hi hx re hs hf) ((h σ m).mono fun v H' ⟨d, t, m', k⟩ => ⟨_, m'.set t i, k⟩)
theorem sx_asg {i : Nat} {x : Str} {pos' : Pos} (h : EX X e Γ H d) (k : ∀ H1, Ge H H1 → nx (Γ.set i (some d)) H1) (hN : X.N.Nodup) (hi : X.N[i]? = some x := by rfl) (hx : Loc X.env.scope x := by first | exact Or.inl rfl | exact Or.inr rfl)
    (hs : swapsWith e (some (.Name x pos')) pos.line X.env = pure false := by rfl) (hf : X.fn x = true ∨ X.env.scope.names.lookup x = some .local := by first | exact .inl rfl | exact .inr rfl | assumption) : SX X (.Assign [.Name x pos'] e pos) Γ H nx rt :=
  sx_asgM (mx_ex h k) hN hi hx hs hf
theorem sx_exprM (h : MX X e Γ H fun _ H1 => nx Γ H1) (hs : swapsWith e none pos.line X.env = pure false := by rfl) : SX X (.Expr e pos) Γ H nx rt := fun σ m =>
  RS.of (ps_expr re hs) ((h σ m).mono fun v H' ⟨d, t, m', k⟩ => ⟨Γ, m', k⟩)
theorem sx_expr (h : EX X e Γ H d) (k : ∀ H1, Ge H H1 → nx Γ H1) (hs : swapsWith e none pos.line X.env = pure false := by rfl) : SX X (.Expr e pos) Γ H nx rt := sx_exprM (mx_ex h k) hs
theorem sx_retM (h : MX X e Γ H rt) : SX X (.Return (some e) pos) Γ H nx rt := fun σ m => RS.of (ps_ret re) ((h σ m).mono fun v H' ⟨d, t, m', k⟩ => ⟨d, t, k⟩)
theorem sx_ret (h : EX X e Γ H d) (k : ∀ H1, Ge H H1 → rt d H1) : SX X (.Return (some e) pos) Γ H nx rt := sx_retM (mx_ex h k)
theorem sx_if {k : Bool} {b1 b2 : List Stmt} (hc : TX X c Γ H k) (h1 : k = true → ∀ H1, Ge H H1 → SXs X b1 Γ H1 nx rt) (h2 : k = false → ∀ H1, Ge H H1 → SXs X b2 Γ H1 nx rt) : SX X (.If c b1 b2 pos) Γ H nx rt := fun σ m =>
  RS.of (ps_if Lk.rt rss rss) (hc σ H _ (Ge.refl _) m fun H1 g => by
    cases k with
    | true => rw [if_pos rfl]; exact h1 rfl H1 g σ (m.ge g)
    | false => rw [if_neg (by decide)]; exact h2 rfl H1 g σ (m.ge g))
/-- a test that may change things -/
def MT (X : Cx) (e : Expr) (Γ : Gam) (H : Hp) (K : Bool → Hp → Prop) : Prop := ∀ σ, Gm H σ Γ → RT X e σ H fun b H' => Gm H' σ Γ ∧ K b H'
theorem mt_tx {k : Bool} {K : Bool → Hp → Prop} (h : TX X e Γ H k) (q : ∀ H1, Ge H H1 → K k H1) : MT X e Γ H K := fun σ m => h σ H _ (Ge.refl _) m fun H2 g2 => ⟨m.ge g2, q H2 g2⟩
theorem sx_ifM {b1 b2 : List Stmt} (hc : MT X c Γ H fun k H1 => if k = true then SXs X b1 Γ H1 nx rt else SXs X b2 Γ H1 nx rt) : SX X (.If c b1 b2 pos) Γ H nx rt := fun σ m =>
  RS.of (ps_if Lk.rt rss rss) ((hc σ m).mono fun k H1 ⟨m1, q⟩ => by
    cases k with
    | true => rw [if_pos rfl] at q ⊢; exact q σ m1
    | false => rw [if_neg (by decide)] at q ⊢; exact q σ m1)
/-- x, y = e, e a pair -/
theorem sx_unpackM {i j : Nat} {x y : Str} {px py pt : Pos} {kt : Nat} (h : MX X e Γ H fun d H1 => ∃ d1 d2, d = .tup [d1, d2] ∧ nx ((Γ.set i (some d1)).set j (some d2)) H1) (hc : X.calm = true) (hN : X.N.Nodup)
    (hi : X.N[i]? = some x := by rfl) (hj : X.N[j]? = some y := by rfl) (hx : Loc X.env.scope x := by first | exact Or.inl rfl | exact Or.inr rfl) (hy : Loc X.env.scope y := by first | exact Or.inl rfl | exact Or.inr rfl)
    (hs : swapsWithSole [.Tuple [.Name x px, .Name y py] kt pt] e pos.line X.env = pure false := by rfl) (hw : swappedStores [.Tuple [.Name x px, .Name y py] kt pt] e X.env = pure none := by rfl)
    (h1 : (assignEach [.Tuple [.Name x px, .Name y py] kt pt] X.env).map (·.2) = [assign (.Tuple [.Name x px, .Name y py] kt pt) X.env] := by rfl)
    (hl : (assignEach [.Name x px, .Name y py] X.env).length = 2 := by rfl) (hst : (assignEach [.Name x px, .Name y py] X.env).findIdx? (·.1) = none := by rfl)
    (hs1 : (assignEach (.Name x px :: [.Name y py]) X.env).map (·.2) = assign (.Name x px) X.env :: (assignEach [.Name y py] X.env).map (·.2) := by rfl)
    (hs2 : (assignEach (.Name y py :: []) X.env).map (·.2) = assign (.Name y py) X.env :: (assignEach [] X.env).map (·.2) := by rfl)
    (hf : X.fn x = true ∨ X.env.scope.names.lookup x = some .local := by first | exact .inl rfl | exact .inr rfl | assumption) (hf2 : X.fn y = true ∨ X.env.scope.names.lookup y = some .local := by first | exact .inl rfl | exact .inr rfl | assumption) :
    SX X (.Assign [.Tuple [.Name x px, .Name y py] kt pt] e pos) Γ H nx rt := fun σ m =>
  RS.of (ps_asg re (pg_tup hc (pgs_cons (pg_name hN hi hx hf) (pgs_cons (pg_name hN hj hy hf2) pgs_nil hs2) hs1) hl hst) hs hw h1) ((h σ m).mono fun v H' ⟨d, t, m', k⟩ => by
    obtain ⟨d1, d2, rfl, k⟩ := k
    obtain ⟨p, xs, rfl, hp, ta⟩ := t.tup_eq
    obtain ⟨v1, v2, rfl, t1, t2⟩ := tpa2 ta
    exact ⟨p, _, rfl, SqT.of hp, rfl, v1, [v2], rfl, v2, [], rfl, rfl, ⟨_, (m'.set t1 i).set t2 j, k⟩⟩)
/-- x, y = a, b -/
theorem sx_par {i j : Nat} {x y : Str} {px py pt : Pos} {kt k2 : Nat} {pt2 : Pos} (ha : EX X a Γ H da) (hb : EX X b Γ H db) (k : ∀ H1, Ge H H1 → nx ((Γ.set i (some da)).set j (some db)) H1) (hc : X.calm = true) (hN : X.N.Nodup) (hij : i ≠ j := by decide)
    (hi : X.N[i]? = some x := by rfl) (hj : X.N[j]? = some y := by rfl) (hx : X.env.scope.names.lookup x = some .local := by rfl) (hy : X.env.scope.names.lookup y = some .local := by rfl)
    (hw : swappedStores [.Tuple [.Name x px, .Name y py] kt pt] (.Tuple [a, b] k2 pt2) X.env = pure (some [x, y]) := by rfl)
    (hs : swapsWithSole [.Tuple [.Name x px, .Name y py] kt pt] (.Tuple [a, b] k2 pt2) pos.line X.env = pure false := by rfl)
    (he : starEach [a, b] X.env = (false, eval a X.env) :: starEach [b] X.env := by rfl) (he2 : starEach [b] X.env = (false, eval b X.env) :: starEach [] X.env := by rfl) :
    SX X (.Assign [.Tuple [.Name x px, .Name y py] kt pt] (.Tuple [a, b] k2 pt2) pos) Γ H nx rt := fun σ m =>
  RS.of (ps_par hc hN hi hj hij hx hy (pa_cons re (pa_cons re pa_nil he2) he) hw hs) (ha σ H _ (Ge.refl _) m fun v H1 g1 t1 => hb σ H1 _ g1 (m.ge g1) fun u H2 g2 t2 =>
    ⟨v, u, rfl, ⟨_, (((m.ge g1).ge g2).set (t1.ge g2) i).set t2 j, k H2 (g1.trans g2)⟩⟩)
/-- the two sides may change things -/
theorem sx_parM {i j : Nat} {x y : Str} {px py pt : Pos} {kt k2 : Nat} {pt2 : Pos} (ha : MX X a Γ H fun d1 H1 => MX X b Γ H1 fun d2 H2 => LeT H1 H2 ∧ nx ((Γ.set i (some d1)).set j (some d2)) H2) (hc : X.calm = true) (hN : X.N.Nodup) (hij : i ≠ j := by decide)
    (hi : X.N[i]? = some x := by rfl) (hj : X.N[j]? = some y := by rfl) (hx : X.env.scope.names.lookup x = some .local := by rfl) (hy : X.env.scope.names.lookup y = some .local := by rfl)
    (hw : swappedStores [.Tuple [.Name x px, .Name y py] kt pt] (.Tuple [a, b] k2 pt2) X.env = pure (some [x, y]) := by rfl)
    (hs : swapsWithSole [.Tuple [.Name x px, .Name y py] kt pt] (.Tuple [a, b] k2 pt2) pos.line X.env = pure false := by rfl)
    (he : starEach [a, b] X.env = (false, eval a X.env) :: starEach [b] X.env := by rfl) (he2 : starEach [b] X.env = (false, eval b X.env) :: starEach [] X.env := by rfl) :
    SX X (.Assign [.Tuple [.Name x px, .Name y py] kt pt] (.Tuple [a, b] k2 pt2) pos) Γ H nx rt := fun σ m =>
  RS.of (ps_par hc hN hi hj hij hx hy (pa_cons re (pa_cons re pa_nil he2) he) hw hs) ((ha σ m).mono fun v H1 ⟨d1, t1, m1, h2⟩ => (h2 σ m1).mono fun u H2 ⟨d2, t2, m2, lt, q⟩ =>
    ⟨v, u, rfl, ⟨_, (m2.set (t1.mono lt) i).set t2 j, q⟩⟩)
/-! ### while, for -/
theorem sx_while (P : Nat → Gam → Hp → Prop) (h0 : ∃ n, P n Γ H) (step : ∀ n Γ' H', P n Γ' H' → ∃ k, TX X c Γ' H' k ∧ (k = true → ∀ H1, Ge H' H1 → SXs X body Γ' H1 (fun Γ2 H2 => ∃ n', n' < n ∧ P n' Γ2 H2) rt) ∧ (k = false → ∀ H1, Ge H' H1 → nx Γ' H1))
    (hp : PassesOwn (model X.prog X.w) X.A X.env X.xe) : SX X (.While c body [] pos) Γ H nx rt := fun σ m =>
  RS.of (ps_while hp Lk.rt rss) (by
    refine ⟨fun n σ H => ∃ Γ, Gm H σ Γ ∧ P n Γ H, h0.imp fun n p => ⟨Γ, m, p⟩, ?_⟩
    rintro n σ' H' ⟨Γ', m', p⟩
    obtain ⟨k, ht, h1, h2⟩ := step n Γ' H' p
    refine ht σ' H' _ (Ge.refl _) m' fun H1 g => ?_
    cases k with
    | true =>
      rw [if_pos rfl]
      refine ⟨fun σ2 H2 => ∃ n', n' < n ∧ ∃ Γ2, Gm H2 σ2 Γ2 ∧ P n' Γ2 H2, fun σ2 H2 h => h, ?_⟩
      exact (h1 rfl H1 g σ' (m'.ge g)).mono (fun σ2 H2 ⟨G, a, n', l, b⟩ => ⟨n', l, G, a, b⟩) (fun _ _ z => z) (fun _ _ z => z.elim) (fun _ _ z => z.elim)
    | false =>
      rw [if_neg (by decide)]
      exact ⟨Γ', m'.ge g, h2 rfl H1 g⟩)
/-- for x in a tuple -/
theorem sx_forT {i : Nat} {x : Str} {px : Pos} {ds : List Dt} (he : EX X iter Γ H (.tup ds))
    (q : ∀ H1, Ge H H1 → ∃ P : Nat → Gam → Hp → Prop, P 0 Γ H1 ∧ (∀ k Γ' H', P k Γ' H' → LeT H1 H') ∧ (∀ k d Γ' H', ds[k]? = some d → P k Γ' H' → SXs X body (Γ'.set i (some d)) H' (P (k + 1)) rt) ∧ ∀ Γ' H', P ds.length Γ' H' → nx Γ' H')
    (hp : PassesOwn (model X.prog X.w) X.A X.env X.xe) (hc : X.calm = true) (hN : X.N.Nodup) (hi : X.N[i]? = some x := by rfl) (hx : Loc X.env.scope x := by first | exact Or.inl rfl | exact Or.inr rfl)
    (hf : X.fn x = true ∨ X.env.scope.names.lookup x = some .local := by first | exact .inl rfl | exact .inr rfl | assumption)
    (hs : ∀ x, foldedSetIterable iter X.env x = pure x := by intro _; rfl) : SX X (.For (.Name x px) iter body [] pos) Γ H nx rt := fun σ m =>
  RS.of (ps_for hp hc (pi_tup re) (pg_name hN hi hx hf) rss hs) (he σ H _ (Ge.refl _) m fun v H1 g tv => by
    obtain ⟨p, xs, rfl, hpx, t⟩ := tv.tup_eq
    obtain ⟨P, p0, pl, ps, pe⟩ := q H1 g
    refine ⟨p, rfl, ⟨xs, SqT.of hpx⟩, ?_⟩
    refine for_it (walk_tup (xs := xs)) (fun k σ' H' => ∃ Γ', Gm H' σ' Γ' ∧ P k Γ' H') ⟨Γ, m.ge g, p0⟩ (fun k σ' H' _ ⟨Γ', m', pk⟩ => SqT.of (pl k Γ' H' pk _ _ hpx)) ?_ ?_
    · rintro k y σ' H' H2 hk ⟨Γ', m', pk⟩ ⟨rfl, hy⟩
      obtain ⟨d, hd, td⟩ := t.get' hy
      have td' := td.mono (pl k Γ' _ pk)
      exact (ps k d Γ' _ hd pk _ (m'.set td' i)).mono (fun _ _ z => z) (fun _ _ z => z) (fun _ _ z => z.elim) (fun _ _ z => z.elim)
    · rintro σ' H' ⟨Γ', m', pk⟩
      rw [t.length] at pk
      exact ⟨Γ', m', pe Γ' H' pk⟩)
/-- for x in a list that stays -/
theorem sx_forL {i : Nat} {x : Str} {px : Pos} {l : Addr} {vs : List V} {ds : List Dt} (he : EX X iter Γ H (.ref l)) (hl : H l = some (.lst vs)) (t : TpA H vs ds)
    (q : ∀ H1, Ge H H1 → ∃ P : Nat → Gam → Hp → Prop, P 0 Γ H1 ∧ (∀ k Γ' H', P k Γ' H' → LeT H1 H' ∧ H' l = some (.lst vs)) ∧ (∀ k d Γ' H', ds[k]? = some d → P k Γ' H' → SXs X body (Γ'.set i (some d)) H' (P (k + 1)) rt) ∧ ∀ Γ' H', P ds.length Γ' H' → nx Γ' H')
    (hp : PassesOwn (model X.prog X.w) X.A X.env X.xe) (hc : X.calm = true) (hN : X.N.Nodup) (hi : X.N[i]? = some x := by rfl) (hx : Loc X.env.scope x := by first | exact Or.inl rfl | exact Or.inr rfl)
    (hf : X.fn x = true ∨ X.env.scope.names.lookup x = some .local := by first | exact .inl rfl | exact .inr rfl | assumption)
    (hs : ∀ x, foldedSetIterable iter X.env x = pure x := by intro _; rfl) : SX X (.For (.Name x px) iter body [] pos) Γ H nx rt := fun σ m =>
  RS.of (ps_for hp hc (pi_list re) (pg_name hN hi hx hf) rss hs) (he σ H _ (Ge.refl _) m fun v H1 g tv => by
    obtain ⟨P, p0, pl, ps, pe⟩ := q H1 g
    refine ⟨l, tv.ref_eq, ⟨vs, SqL.of (g.lst hl)⟩, ?_⟩
    refine for_it (walk_list (xs := vs)) (fun k σ' H' => ∃ Γ', Gm H' σ' Γ' ∧ P k Γ' H') ⟨Γ, m.ge g, p0⟩ (fun k σ' H' _ ⟨Γ', m', pk⟩ => SqL.of (pl k Γ' H' pk).2) ?_ ?_
    · rintro k y σ' H' H2 hk ⟨Γ', m', pk⟩ ⟨rfl, hy⟩
      obtain ⟨d, hd, td⟩ := t.get' hy
      have td' := (td.ge g).mono (pl k Γ' _ pk).1
      exact (ps k d Γ' _ hd pk _ (m'.set td' i)).mono (fun _ _ z => z) (fun _ _ z => z) (fun _ _ z => z.elim) (fun _ _ z => z.elim)
    · rintro σ' H' ⟨Γ', m', pk⟩
      rw [t.length] at pk
      exact ⟨Γ', m', pe Γ' H' pk⟩)
/-- for x in range(n) -/
theorem sx_forR {i n : Nat} {x : Str} {px p : Pos} {e1 : Expr} (he : EX X e1 Γ H (.int n)) (hn : (n : Int) < 2 ^ 62)
    (q : ∀ H1, Ge H H1 → ∃ P : Nat → Gam → Hp → Prop, P 0 Γ H1 ∧ (∀ (k : Nat) Γ' H', k < n → P k Γ' H' → SXs X body (Γ'.set i (some (.int k))) H' (P (k + 1)) rt) ∧ ∀ Γ' H', P n Γ' H' → nx Γ' H')
    (hm : X.mg "range" = none) (hp : PassesOwn (model X.prog X.w) X.A X.env X.xe) (hc : X.calm = true) (hN : X.N.Nodup) (hg : Gl X "range" := by rfl) (hi : X.N[i]? = some x := by rfl) (hx : Loc X.env.scope x := by first | exact Or.inl rfl | exact Or.inr rfl)
    (hf : X.fn x = true ∨ X.env.scope.names.lookup x = some .local := by first | exact .inl rfl | exact .inr rfl | assumption)
    (he1 : starEach [e1] X.env = [(false, eval e1 X.env)] := by rfl)
    (hs : ∀ x, foldedSetIterable (.Call (.Name "range" p) [e1] [] px) X.env x = pure x := by intro _; rfl) {px2 : Pos} : SX X (.For (.Name x px2) (.Call (.Name "range" p) [e1] [] px) body [] pos) Γ H nx rt := fun σ m =>
  RS.of (ps_for hp hc (pi_range1 hg hm (pa_cons re pa_nil he1) he1) (pg_name hN hi hx hf) rss hs) (he σ H _ (Ge.refl _) m fun v H1 g tv => by
    obtain ⟨P, p0, ps, pe⟩ := q H1 g
    refine ⟨n, by rw [tv.int_eq], by omega, hn, ?_⟩
    rw [Int.toNat_natCast]
    refine for_it (walk_range) (fun k σ' H' => ∃ Γ', Gm H' σ' Γ' ∧ P k Γ' H') ⟨Γ, m.ge g, p0⟩ (fun _ _ _ _ _ => trivial) ?_ ?_
    · rintro k y σ' H' H2 hk ⟨Γ', m', pk⟩ ⟨rfl, rfl⟩
      have td : Tp H2 (.int (0 + (k : Int))) (.int k) := by rw [Int.zero_add]; exact .int k
      exact (ps k Γ' _ hk pk _ (m'.set td i)).mono (fun _ _ z => z) (fun _ _ z => z) (fun _ _ z => z.elim) (fun _ _ z => z.elim)
    · rintro σ' H' ⟨Γ', m', pk⟩
      exact ⟨Γ', m', pe Γ' H' pk⟩)
/-! ### calls -/
theorem ex_call {k j : Nat} {x : Str} {p : Pos} {T : List Addr} {R : List Dt → Dt → Prop} {ds : List Dt} (c : Cal X.prog X.w X.K X.mg X.base k x (spF T R) []) (ha : AX X (e :: es) Γ H ds) (r : R ds d) (hr : Room j X.A) (hT : ∀ P ∈ T, TabG H P := by intro _ h; cases h) (hk : k ≤ j := by omega) (hg : Gl X x := by rfl)
    (hdb : (x == ("__debug__" : Str)) = false := by decide) (he : starEach (e :: es) X.env = (false, eval e X.env) :: starEach es X.env := by rfl) (hpl : (backTo pos (starEach es X.env)).any (·.1) = false := by rfl) :
    EX X (.Call (.Name x p) (e :: es) [] pos) Γ H d := fun σ H1 Q g m q =>
  RE.of (pe_c c hr hk hg ra hdb he hpl) (ha σ H1 _ g m fun vs H2 g2 t => by
    show spF T R (vs ++ []) H2 Q _
    rw [List.append_nil]
    exact ⟨ds, d, t, r, fun P hP => (g.trans g2).tab (hT P hP), fun v H3 g3 t3 => q v H3 (g2.trans g3) t3⟩)
theorem mx_call {ι : Type} {args : ι → List Dt} {pre : ι → Hp → Prop} {post : ι → Hp → Dt → Hp → Prop} {k j : Nat} {x : Str} {p : Pos} {K : Dt → Hp → Prop} (c : Cal X.prog X.w X.K X.mg X.base k x (spP args pre post) []) (y : ι) (ha : AX X (e :: es) Γ H (args y)) (r : ∀ H1, Ge H H1 → pre y H1) (lt : ∀ H1 d H2, post y H1 d H2 → LeT H1 H2)
    (q : ∀ H1 d H2, Ge H H1 → post y H1 d H2 → K d H2) (hr : Room j X.A) (hk : k ≤ j := by omega) (hg : Gl X x := by rfl)
    (hdb : (x == ("__debug__" : Str)) = false := by decide) (he : starEach (e :: es) X.env = (false, eval e X.env) :: starEach es X.env := by rfl) (hpl : (backTo pos (starEach es X.env)).any (·.1) = false := by rfl) :
    MX X (.Call (.Name x p) (e :: es) [] pos) Γ H K := fun σ m =>
  RE.of (pe_c c hr hk hg ra hdb he hpl) (ha σ H _ (Ge.refl _) m fun vs H2 g2 t => by
    show spP args pre post (vs ++ []) H2 _ _
    rw [List.append_nil]
    exact ⟨y, t, r H2 g2, fun d v H3 t3 p3 => ⟨d, t3, (m.ge g2).mono (lt _ _ _ p3), q H2 d H3 g2 p3⟩⟩)
end
section
variable {P : Program} {w : World} {K : PySem.W.Frag} {mg : Str → Option Value} {base : Heap}
/-- a def keeps its promise, by its body -/
theorem fn_P {ι : Type} {args : ι → List Dt} {pre : ι → Hp → Prop} {post : ι → Hp → Dt → Hp → Prop} {x qual : Str} {params : Arguments} {body : List Stmt} {scope : Scope} {f : Addr} {fd : FuncData} {N ps : List Str} {k : Nat} (F : FunD K x qual params body scope [] [] f fd) (S : FnScope N ps scope)
    (len : ∀ y, (args y).length = ps.length)
    (hbody : ∀ (cdv : Value) (A : Around) (outer : List Env) (s : Shared) (H : Hp) (E : XK) (y : ι), fd.code = cdv ∧ PySem.W.codeIn K cdv qual = true ∧ (∃ oc od osl, K.lookup f = some ⟨oc, od, .func fd, osl⟩) → Room k (A.deeper (envOfC qual scope s.heap.objs.size f cdv)) → pre y H →
      SXs (cxOf CX0 P w K mg base N qual scope f cdv A outer s H E).nox body ((args y).map some ++ List.replicate (N.length - (args y).length) none) H (fun _ H' => post y H .non H') (post y H)) : FnOk P w K mg base CX0 (k + 1) f fd ps (spP args pre post) := by
  obtain ⟨oc, od, dV, kV, doc, pm, an, cdv, ct, osl, rfl, lk, hcd, _, _⟩ := F.ex
  refine fn_of lk hcd S (fun vs H Q E h => ?_) fun A outer s H vs Q E hr hsp => ?_
  · obtain ⟨y, t, p, _⟩ := h
    rw [t.length]
    exact len y
  · obtain ⟨y, t, p, q⟩ := hsp
    refine ⟨_, PSs.nox rss, ?_⟩
    refine (hbody cdv A outer s H E y ⟨rfl, hcd, _, _, _, lk⟩ hr p _ (Gm.start t N)).mono ?_ ?_ (fun _ _ z => z.elim) (fun _ _ z => z.elim)
    · rintro σ' H' ⟨Γ', m', h⟩
      exact q .non .non H' .non h
    · rintro v H' ⟨d, tv, h⟩
      exact q d v H' tv h
theorem fn_F {x qual : Str} {params : Arguments} {body : List Stmt} {scope : Scope} {f : Addr} {fd : FuncData} {N ps : List Str} {k : Nat} {T : List Addr} {R : List Dt → Dt → Prop} (F : FunD K x qual params body scope [] [] f fd) (S : FnScope N ps scope)
    (len : ∀ ds d, R ds d → ds.length = ps.length)
    (hbody : ∀ (cdv : Value) (A : Around) (outer : List Env) (s : Shared) (H : Hp) (E : XK) (ds : List Dt) (d : Dt), fd.code = cdv ∧ PySem.W.codeIn K cdv qual = true ∧ (∃ oc od osl, K.lookup f = some ⟨oc, od, .func fd, osl⟩) → Room k (A.deeper (envOfC qual scope s.heap.objs.size f cdv)) → R ds d → (∀ P ∈ T, TabG H P) →
      SXs (cxOf CX0 P w K mg base N qual scope f cdv A outer s H E).nox body (ds.map some ++ List.replicate (N.length - ds.length) none) H (fun _ H' => Ge H H' ∧ d = .non) (fun d' H' => Ge H H' ∧ d' = d)) : FnOk P w K mg base CX0 (k + 1) f fd ps (spF T R) := by
  obtain ⟨oc, od, dV, kV, doc, pm, an, cdv, ct, osl, rfl, lk, hcd, _, _⟩ := F.ex
  refine fn_of lk hcd S (fun vs H Q E h => ?_) fun A outer s H vs Q E hr hsp => ?_
  · obtain ⟨ds, d, t, r, _⟩ := h
    rw [t.length]
    exact len ds d r
  · obtain ⟨ds, d, t, r, tb, q⟩ := hsp
    refine ⟨_, PSs.nox rss, ?_⟩
    refine (hbody cdv A outer s H E ds d ⟨rfl, hcd, _, _, _, lk⟩ hr r tb _ (Gm.start t N)).mono ?_ ?_ (fun _ _ z => z.elim) (fun _ _ z => z.elim)
    · rintro σ' H' ⟨Γ', m', g, e⟩
      exact q .non H' g (e ▸ .non)
    · rintro v H' ⟨d', tv, g, e⟩
      exact q v H' g (e ▸ tv)
theorem cal_of {f : Addr} {fd : FuncData} {x : Str} {k : Nat} {ps : List Str} {sp : Sp} (h : FnOk P w K mg base CX0 k f fd ps sp) (hm : mg x = some (.ref f)) (kp : PySem.W.keepIn K (.ref f) = true) (hb : Binds K fd ps []) : Cal P w K mg base k x sp [] :=
  ⟨f, fd, ps, [], h, hm, kp, hb, .nil⟩
end
end Lk
set_option Elab.async false
set_option linter.all false
set_option maxRecDepth 100000
set_option maxHeartbeats 2000000
/-! Sources of walks; for and comprehensions over them. -/
namespace Lk
open PySem PySem.Spec PyProof.Rows L2 GxR
open C8 (Cal Met Mak pe_c pe_mt pe_mk pe_mt0)
theorem wipe_get (σ : L2.St) (j : Nat) : ∀ vs : List Nat, (wipe σ vs)[j]? = if j ∈ vs then (σ[j]?).map (fun _ => none) else σ[j]?
  | [] => by simp [wipe]
  | v :: vs => by
    show ((wipe σ vs).set v none)[j]? = _
    rw [List.getElem?_set]
    by_cases hv : v = j
    · subst hv
      rw [if_pos rfl, if_pos List.mem_cons_self, wipe_length]
      by_cases hl : v < σ.length
      · rw [if_pos hl, List.getElem?_eq_getElem hl]; rfl
      · rw [if_neg hl, List.getElem?_eq_none (by omega)]; rfl
    · rw [if_neg hv, wipe_get σ j vs]
      by_cases hj : j ∈ vs
      · rw [if_pos hj, if_pos (List.mem_cons_of_mem _ hj)]
      · rw [if_neg hj, if_neg (by simp [hj]; exact fun e => hv e.symm)]
theorem wipe_set {i : Nat} {x : Option V} {vs : List Nat} {σ : L2.St} (h : i ∈ vs) : wipe (σ.set i x) vs = wipe σ vs := by
  apply List.ext_getElem?
  intro j
  rw [wipe_get, wipe_get, List.getElem?_set]
  by_cases hi : i = j
  · subst hi
    rw [if_pos h, if_pos h, if_pos rfl]
    by_cases hl : i < σ.length
    · rw [if_pos hl, List.getElem?_eq_getElem hl]; rfl
    · rw [if_neg hl, List.getElem?_eq_none (by omega)]
  · rw [if_neg hi]
theorem wipe_wipe : ∀ (vs us : List Nat) (σ : L2.St), (∀ v ∈ us, v ∈ vs) → wipe (wipe σ us) vs = wipe σ vs
  | vs, [], σ, _ => rfl
  | vs, u :: us, σ, h => by
    show wipe ((wipe σ us).set u none) vs = wipe σ vs
    rw [wipe_set (h u List.mem_cons_self), wipe_wipe vs us σ fun v hv => h v (List.mem_cons_of_mem _ hv)]
/-- what a walk gives: n turns; at turn k the slots in idx are set as put says -/
def SRCp (pre : Hp → Hp → Prop) (X : Cx) (tg iter : Expr) (g : TG) (Γ : Gam) (H : Hp) (n : Nat) (idx : List Nat) (put : Nat → Gam → Gam) (keep : Hp → Hp → Prop) : Prop :=
  ∃ wi, PI X tg iter wi ∧ ∀ σ H1 R, Ge H H1 → Gm H1 σ Γ → (∀ J H2, pre H1 H2 → (∃ G Y, Walk J n G Y ∧ (∀ H3, keep H2 H3 → G H3) ∧
    ∀ k x H3 H4 σ' Γ' (Q : L2.St → Hp → Prop), k < n → keep H2 H3 → Gm H3 σ' Γ' → Y k H3 x H4 → (∀ σ'' H5, Ge H3 H5 → Gm H5 σ'' (put k Γ') → (∀ vs, (∀ i ∈ idx, i ∈ vs) → wipe σ'' vs = wipe σ' vs) → Q σ'' H5) → g x σ' H4 Q) → R J H2) → wi σ H1 R
abbrev SRC : (X : Cx) → (tg iter : Expr) → (g : TG) → (Γ : Gam) → (H : Hp) → (n : Nat) → (idx : List Nat) → (put : Nat → Gam → Gam) → (keep : Hp → Hp → Prop) → Prop := SRCp Ge
section
variable {X : Cx} {e a b c iter iter2 : Expr} {es : List Expr} {st : Stmt} {sts body : List Stmt} {Γ : Gam} {H H1 : Hp} {d da db : Dt} {pos : Pos} {nx nx' : Gam → Hp → Prop} {rt rt' : Dt → Hp → Prop}
theorem wipe_name {i : Nat} {x : Option V} {σ : L2.St} : ∀ vs, (∀ j ∈ [i], j ∈ vs) → wipe (σ.set i x) vs = wipe σ vs := fun vs h => wipe_set (h i List.mem_cons_self)
theorem wipe_pair {i j : Nat} {x y : Option V} {σ : L2.St} : ∀ vs, (∀ k ∈ [i, j], k ∈ vs) → wipe ((σ.set i x).set j y) vs = wipe σ vs := fun vs h => by
  rw [wipe_set (h j (by simp)), wipe_set (h i (by simp))]
abbrev keepT : Hp → Hp → Prop := LeT
def keepL (l : Addr) : Hp → Hp → Prop := fun H H' => LeT H H' ∧ H' l = H l
theorem src_tup {i : Nat} {x : Str} {px : Pos} {ds : List Dt} (he : EX X iter Γ H (.tup ds)) : SRC X (.Name x px) iter (gName i) Γ H ds.length [i] (fun k Γ => Γ.set i ds[k]?) keepT := by
  refine ⟨_, pi_tup re, fun σ H1 R g m q => he σ H1 _ g m fun v H2 g2 tv => ?_⟩
  obtain ⟨p, xs, rfl, hp, t⟩ := tv.tup_eq
  refine ⟨p, rfl, ⟨xs, SqT.of hp⟩, q _ H2 g2 ⟨_, _, t.length ▸ walk_tup (xs := xs), fun H3 lt => SqT.of (lt _ _ hp), ?_⟩⟩
  rintro k x H3 H4 σ' Γ' Q hk lt m' ⟨rfl, hx⟩ q
  obtain ⟨d, hd, td⟩ := t.get' hx
  simp only [hd] at q
  exact q _ _ (Ge.refl _) (m'.set (td.mono lt) i) wipe_name
theorem src_list {i : Nat} {x : Str} {px : Pos} {l : Addr} {vs : List V} {ds : List Dt} (he : EX X iter Γ H (.ref l)) (hl : H l = some (.lst vs)) (t : TpA H vs ds) : SRC X (.Name x px) iter (gName i) Γ H ds.length [i] (fun k Γ => Γ.set i ds[k]?) (keepL l) := by
  refine ⟨_, pi_list re, fun σ H1 R g m q => he σ H1 _ g m fun v H2 g2 tv => ?_⟩
  have hl2 := (g.trans g2).lst hl
  refine ⟨l, tv.ref_eq, ⟨vs, SqL.of hl2⟩, q _ H2 g2 ⟨_, _, t.length ▸ walk_list (xs := vs), fun H3 lt => SqL.of (by rw [lt.2]; exact hl2), ?_⟩⟩
  rintro k x H3 H4 σ' Γ' Q hk lt m' ⟨rfl, hx⟩ q
  obtain ⟨d, hd, td⟩ := t.get' hx
  simp only [hd] at q
  exact q _ _ (Ge.refl _) (m'.set ((td.ge (g.trans g2)).mono lt.1) i) wipe_name
theorem src_rangeM {i n : Nat} {x : Str} {px p p2 : Pos} {e1 : Expr} (he : EX X e1 Γ H (.int n)) (hn : (n : Int) < 2 ^ 62) (hm : X.mg "range" = none) (hg : Gl X "range" := by rfl) (he1 : starEach [e1] X.env = [(false, eval e1 X.env)] := by rfl) :
    SRC X (.Name x px) (.Call (.Name "range" p) [e1] [] p2) (gName i) Γ H n [i] (fun k Γ => Γ.set i (some (.int k))) (fun _ _ => True) := by
  refine ⟨_, pi_range1 hg hm (pa_cons re pa_nil he1) he1, fun σ H1 R g m q => he σ H1 _ g m fun v H2 g2 tv => ?_⟩
  refine ⟨n, by rw [tv.int_eq], by omega, hn, ?_⟩
  rw [Int.toNat_natCast]
  refine q _ H2 g2 ⟨_, _, walk_range, fun H3 lt => trivial, ?_⟩
  rintro k x H3 H4 σ' Γ' Q hk lt m' ⟨rfl, rfl⟩ q
  have td : Tp H4 (.int (0 + (k : Int))) (.int k) := by rw [Int.zero_add]; exact .int k
  exact q _ _ (Ge.refl _) (m'.set td i) wipe_name
/-- a pair as it comes -/
theorem put_pair {K : PySem.W.Frag} {i j T : Nat} {v u : V} {H3 : Hp} {σ' : L2.St} {Γ' : Gam} {Q : L2.St → Hp → Prop} (hT : H3 T = none) (m' : Gm H3 σ' Γ') (tv : Tp H3 v da) (tu : Tp H3 u db)
    (q : ∀ σ'' H5, Ge H3 H5 → Gm H5 σ'' ((Γ'.set i (some da)).set j (some db)) → (∀ vs, (∀ k ∈ [i, j], k ∈ vs) → wipe σ'' vs = wipe σ' vs) → Q σ'' H5) :
    gTup K 2 (gCons (gName i) (gCons (gName j) gNil)) (.ref T) σ' (upd H3 T (.tup [v, u])) Q :=
  ⟨T, [v, u], rfl, SqT.of upd_same, rfl, v, [u], rfl, u, [], rfl, rfl, q _ _ (Ge.new hT) (((m'.ge (Ge.new hT)).set (tv.ge (Ge.new hT)) i).set (tu.ge (Ge.new hT)) j) wipe_pair⟩
theorem pg_pair {i j : Nat} {x y : Str} {px py pt : Pos} {kt : Nat} (hc : X.calm = true) (hN : X.N.Nodup)
    (hi : X.N[i]? = some x := by rfl) (hj : X.N[j]? = some y := by rfl) (hx : Loc X.env.scope x := by first | exact Or.inl rfl | exact Or.inr rfl) (hy : Loc X.env.scope y := by first | exact Or.inl rfl | exact Or.inr rfl)
    (hl : (assignEach [.Name x px, .Name y py] X.env).length = 2 := by rfl) (hst : (assignEach [.Name x px, .Name y py] X.env).findIdx? (·.1) = none := by rfl)
    (hs1 : (assignEach (.Name x px :: [.Name y py]) X.env).map (·.2) = assign (.Name x px) X.env :: (assignEach [.Name y py] X.env).map (·.2) := by rfl)
    (hs2 : (assignEach (.Name y py :: []) X.env).map (·.2) = assign (.Name y py) X.env :: (assignEach [] X.env).map (·.2) := by rfl)
    (hf : X.fn x = true ∨ X.env.scope.names.lookup x = some .local := by first | exact .inl rfl | exact .inr rfl | assumption) (hf2 : X.fn y = true ∨ X.env.scope.names.lookup y = some .local := by first | exact .inl rfl | exact .inr rfl | assumption) :
    PG X (.Tuple [.Name x px, .Name y py] kt pt) (gTup X.K 2 (gCons (gName i) (gCons (gName j) gNil))) :=
  pg_tup hc (pgs_cons (pg_name hN hi hx hf) (pgs_cons (pg_name hN hj hy hf2) pgs_nil hs2) hs1) hl hst
theorem src_zip {i j : Nat} {x y : Str} {px py pt p p2 : Pos} {kt : Nat} {ds es : List Dt} (he : EX X iter Γ H (.tup ds)) (he2 : EX X iter2 Γ H (.tup es)) (hl : ds.length = es.length) (hm : X.mg "zip" = none) (hg : Gl X "zip" := by rfl)
    (hs : starEach [iter, iter2] X.env = (false, eval iter X.env) :: starEach [iter2] X.env := by rfl) (hs2 : starEach [iter2] X.env = (false, eval iter2 X.env) :: starEach [] X.env := by rfl) (hpl : (backTo p2 (starEach [iter2] X.env)).any (·.1) = false := by rfl) :
    SRC X (.Tuple [.Name x px, .Name y py] kt pt) (.Call (.Name "zip" p) [iter, iter2] [] p2) (gTup X.K 2 (gCons (gName i) (gCons (gName j) gNil))) Γ H ds.length [i, j] (fun k Γ => (Γ.set i ds[k]?).set j es[k]?) keepT := by
  refine ⟨_, RZ.pi_zipA hg hm (pa_cons re (pa_cons re pa_nil hs2) hs) hs hpl, fun σ H1 R g m q => he σ H1 _ g m fun v H2 g2 tv => he2 σ H2 _ (g.trans g2) (m.ge g2) fun u H3 g3 tu => ?_⟩
  obtain ⟨p, xs, rfl, hp, t⟩ := (tv.ge g3).tup_eq
  obtain ⟨p', ys, rfl, hp', t'⟩ := tu.tup_eq
  refine ⟨p, p', xs, ys, rfl, .inr ⟨SqT.of hp, SqT.of hp', q _ H3 (g2.trans g3) ⟨fun H => SqT X.K H p xs ∧ SqT X.K H p' ys, YPair (fun i => xs[i]?) (fun i => ys[i]?), ?_, fun H3 lt => ⟨SqT.of (lt _ _ hp), SqT.of (lt _ _ hp')⟩, ?_⟩⟩⟩
  · refine ⟨fun i H hi q => ?_, fun H q => ⟨xs, ys, q.1, q.2, by rw [t.length]; exact .inl (Nat.le_refl _)⟩, fun i H v H' _ q y => ?_⟩
    · have h1 : i < xs.length := by rw [t.length]; exact hi
      have h2 : i < ys.length := by rw [t'.length, ← hl]; exact hi
      exact ⟨xs, ys, xs[i], ys[i], q.1, q.2, by simp [h1], by simp [h2]⟩
    · obtain ⟨T, x, z, h1, h2, h3, h4, h5⟩ := y
      exact ⟨T, x, z, h1, h2, h3, h4 xs q.1, h5 ys q.2⟩
  · rintro k x H3 H4 σ' Γ' Q hk lt m' ⟨T, v, u, rfl, hT, rfl, hv, hu⟩ q
    obtain ⟨d, hd, td⟩ := t.get' hv
    obtain ⟨d', hd', td'⟩ := t'.get' hu
    simp only [hd, hd'] at q
    exact put_pair hT m' (td.mono lt) (td'.mono lt) q
/-- for over a source -/
theorem sx_forp {pre : Hp → Hp → Prop} {tg : Expr} {g : TG} {n : Nat} {idx : List Nat} {put : Nat → Gam → Gam} {keep : Hp → Hp → Prop} (src : SRCp pre X tg iter g Γ H n idx put keep) (pg : PG X tg g) (hpre : ∀ H1, pre H H1 → LeT H H1)
    (q : ∀ H1, pre H H1 → ∃ P : Nat → Gam → Hp → Prop, P 0 Γ H1 ∧ (∀ k Γ' H', P k Γ' H' → keep H1 H') ∧ (∀ k Γ' H' H2, k < n → P k Γ' H' → Ge H' H2 → SXs X body (put k Γ') H2 (P (k + 1)) rt) ∧ ∀ Γ' H', P n Γ' H' → nx Γ' H')
    (hp : PassesOwn (model X.prog X.w) X.A X.env X.xe) (hc : X.calm = true) (hs : ∀ x, foldedSetIterable iter X.env x = pure x := by intro _; rfl) : SX X (.For tg iter body [] pos) Γ H nx rt := fun σ m => by
  obtain ⟨wi, hpi, hw⟩ := src
  refine RS.of (ps_for hp hc hpi pg rss hs) (hw σ H _ (Ge.refl _) m fun J H2 g2 ⟨G, Y, wk, hG, hY⟩ => ?_)
  obtain ⟨P, p0, pl, ps, pe⟩ := q H2 g2
  refine for_it wk (fun k σ' H' => ∃ Γ', Gm H' σ' Γ' ∧ P k Γ' H') ⟨Γ, m.mono (hpre _ g2), p0⟩ (fun k σ' H' _ ⟨Γ', m', pk⟩ => hG H' (pl k Γ' H' pk)) ?_ ?_
  · rintro k y σ' H' H3 hk ⟨Γ', m', pk⟩ hy
    refine hY k y H' H3 σ' Γ' _ hk (pl k Γ' H' pk) m' hy fun σ'' H5 g5 m5 _ => ?_
    exact (ps k Γ' H' H5 hk pk g5 σ'' m5).mono (fun _ _ z => z) (fun _ _ z => z) (fun _ _ z => z.elim) (fun _ _ z => z.elim)
  · rintro σ' H' ⟨Γ', m', pk⟩
    exact ⟨Γ', m', pe Γ' H' pk⟩
theorem sx_for {tg : Expr} {g : TG} {n : Nat} {idx : List Nat} {put : Nat → Gam → Gam} {keep : Hp → Hp → Prop} (src : SRC X tg iter g Γ H n idx put keep) (pg : PG X tg g)
    (q : ∀ H1, Ge H H1 → ∃ P : Nat → Gam → Hp → Prop, P 0 Γ H1 ∧ (∀ k Γ' H', P k Γ' H' → keep H1 H') ∧ (∀ k Γ' H' H2, k < n → P k Γ' H' → Ge H' H2 → SXs X body (put k Γ') H2 (P (k + 1)) rt) ∧ ∀ Γ' H', P n Γ' H' → nx Γ' H')
    (hp : PassesOwn (model X.prog X.w) X.A X.env X.xe) (hc : X.calm = true) (hs : ∀ x, foldedSetIterable iter X.env x = pure x := by intro _; rfl) : SX X (.For tg iter body [] pos) Γ H nx rt := sx_forp src pg (fun _ g => g.t) q hp hc hs
/-- .. all that stood stays: S tells the slots -/
theorem sx_forS {tg : Expr} {g : TG} {n : Nat} {idx : List Nat} {put : Nat → Gam → Gam} {keep : Hp → Hp → Prop} (src : SRC X tg iter g Γ H n idx put keep) (hk : ∀ H2 H3, Ge H2 H3 → keep H2 H3) (pg : PG X tg g) (S : Nat → Gam → Prop) (h0 : S 0 Γ)
    (step : ∀ k Γ' H', k < n → S k Γ' → Ge H H' → SXs X body (put k Γ') H' (fun Γ2 H2 => Ge H' H2 ∧ S (k + 1) Γ2) rt) (fin : ∀ Γ' H', S n Γ' → Ge H H' → nx Γ' H')
    (hp : PassesOwn (model X.prog X.w) X.A X.env X.xe) (hc : X.calm = true) (hs : ∀ x, foldedSetIterable iter X.env x = pure x := by intro _; rfl) : SX X (.For tg iter body [] pos) Γ H nx rt :=
  sx_for src pg (fun H1 g1 => ⟨fun k Γ' H' => Ge H1 H' ∧ S k Γ', ⟨Ge.refl _, h0⟩, fun k Γ' H' p => hk _ _ p.1, fun k Γ' H' H2 hkn p g2 =>
    (step k Γ' H2 hkn p.2 ((g1.trans p.1).trans g2)).mono (fun Γ3 H3 q => ⟨(p.1.trans g2).trans q.1, q.2⟩) fun _ _ z => z, fun Γ' H' p => fin Γ' H' p.2 (g1.trans p.1)⟩) hp hc hs
/-! ### lists that are made -/
def LX (X : Cx) (e : Expr) (Γ : Gam) (H : Hp) (ds : List Dt) : Prop := ∀ (σ : L2.St) (H1 : Hp) (Q : VK), Ge H H1 → Gm H1 σ Γ → (∀ l vs H2, Ge H1 H2 → H1 l = none → H2 l = some (.lst vs) → TpA H2 vs ds → Q (.ref l) H2) → RE X e σ H1 Q
theorem lx_list {ds : List Dt} (h : AX X es Γ H ds) (hl : ds.length ≤ sizeLine := by exact Nat.le_of_ble_eq_true rfl) : LX X (.List es pos) Γ H ds := fun σ H1 Q g m q =>
  RE.of (pe_lst ra) (h σ H1 _ g m fun vs H2 g2 t => ⟨by rw [t.length]; exact hl, fun p hp => q p vs _ (g2.trans (Ge.new hp)) (g2.free hp) upd_same (t.ge (Ge.new hp))⟩)
/-- what the elements answer, turn by turn; none: left out -/
def keepD (f : Nat → Option Dt) (n : Nat) : List Dt := (List.range n).filterMap f
theorem keepD_succ (f : Nat → Option Dt) (n : Nat) : keepD f (n + 1) = keepD f n ++ (f n).toList := by
  unfold keepD
  rw [List.range_succ, List.filterMap_append]
  cases h : f n <;> simp [h]
theorem keepD_len (f : Nat → Option Dt) : ∀ n, (keepD f n).length ≤ n
  | 0 => by simp [keepD]
  | n + 1 => by
    rw [keepD_succ, List.length_append]
    have := keepD_len f n
    cases f n <;> simp <;> omega
def RTs (X : Cx) (ifs : List Expr) : TT := fun σ H Q => ∀ (pins : List (Addr × Obj)) (s : Shared), Inv X pins σ H s →
    wpAny (model X.prog X.w) X.A (forIn ifs true fun c r => if r = true then do let ok ← isTrue c X.env (eval c X.env); pure (ForInStep.yield ok) else pure (ForInStep.yield r)) (TP X pins σ Q) X.xe s
def TXs (X : Cx) (ifs : List Expr) (Γ : Gam) (H : Hp) (b : Bool) : Prop := ∀ (σ : L2.St) (H1 : Hp) (Q : Bool → Hp → Prop), Ge H H1 → Gm H1 σ Γ → (∀ H2, Ge H1 H2 → Q b H2) → RTs X ifs σ H1 Q
theorem txs_nil : TXs X [] Γ H true := fun σ H1 Q g m q pins s I => pts_nil.run pins s σ H1 Q I (q H1 (Ge.refl _))
theorem txs_one {k : Bool} (h : TX X c Γ H k) : TXs X [c] Γ H k := fun σ H1 Q g m q pins s I => (pts_one Lk.rt).run pins s σ H1 Q I (h σ H1 Q g m q)
def teB (X : Cx) (scope : Scope) (elt : Expr) : TE := fun σ H Q => ∀ (s : Shared) (H0 : Hp) (C : Addr) (cl : List (Str × Addr)) (fp : List Addr), RE (X.blk s H0 scope (compEnvC scope cl C X.env) fp) elt σ H Q
def ttB (X : Cx) (scope : Scope) (ifs : List Expr) : TT := fun σ H Q => ∀ (s : Shared) (H0 : Hp) (C : Addr) (cl : List (Str × Addr)) (fp : List Addr), RTs (X.blk s H0 scope (compEnvC scope cl C X.env) fp) ifs σ H Q
theorem he_b {scope : Scope} {elt : Expr} (s : Shared) (H : Hp) (C : Addr) (cl : List (Str × Addr)) (fp : List Addr) : PE (X.blk s H scope (compEnvC scope cl C X.env) fp) elt (teB X scope elt) := ⟨fun pins s' σ H Q I h => h s _ C cl fp pins s' I⟩
theorem ht_b {scope : Scope} {ifs : List Expr} (s : Shared) (H : Hp) (C : Addr) (cl : List (Str × Addr)) (fp : List Addr) : PTs (X.blk s H scope (compEnvC scope cl C X.env) fp) ifs (ttB X scope ifs) := ⟨fun pins s' σ H Q I h => h s _ C cl fp pins s' I⟩
theorem lc_t {tg elt : Expr} {ifs : List Expr} {scope : Scope} {own : List (Str × Nat)} {g : TG} {n : Nat} {idx : List Nat} {put : Nat → Gam → Gam} {keep : Hp → Hp → Prop} {f : Nat → Option Dt} (src : SRC X tg iter g Γ H n idx put keep) (hk : ∀ H2 H3, Ge H2 H3 → keep H2 H3) (hn : n ≤ sizeLine)
    (ok : BlkOk X.N X.env.scope scope own) (hsub : ∀ i ∈ idx, i ∈ own.map (·.2)) (pg : ∀ (s : Shared) (H : Hp) (C : Addr) (cl : List (Str × Addr)) (fp : List Addr), PG (X.blk s H scope (compEnvC scope cl C X.env) fp) tg g)
    (ht : ∀ (s : Shared) (H0 : Hp) (C : Addr) (cl : List (Str × Addr)) (fp : List Addr) (k : Nat) (H1 : Hp), k < n → Ge H H1 → TXs (X.blk s H0 scope (compEnvC scope cl C X.env) fp) ifs (put k (wipeG Γ (own.map (·.2)))) H1 (f k).isSome)
    (he : ∀ (s : Shared) (H0 : Hp) (C : Addr) (cl : List (Str × Addr)) (fp : List Addr) (k : Nat) (d : Dt) (H1 : Hp), k < n → f k = some d → Ge H H1 → EX (X.blk s H0 scope (compEnvC scope cl C X.env) fp) elt (put k (wipeG Γ (own.map (·.2)))) H1 d) :
    ∃ wi, PI X tg iter wi ∧ ∀ (σ : L2.St) (H1 : Hp) (Q : VK), Ge H H1 → Gm H1 σ Γ → (∀ l vs H2, Ge H1 H2 → H1 l = none → H2 l = some (.lst vs) → TpA H2 vs (keepD f n) → Q (.ref l) H2) → tLc wi g (ttB X scope ifs) (teB X scope elt) (own.map (·.2)) σ H1 Q := by
  obtain ⟨wi, hpi, hw⟩ := src
  refine ⟨wi, hpi, fun σ H1 Q g1 m q => ?_⟩
  refine hw σ H1 _ g1 m fun J H2 g2 ⟨G, Y, wk, hG, hY⟩ => fun D hD => ?_
  have gD : Ge H2 (upd H2 D (.lst [])) := Ge.new hD
  refine lc_it wk (fun k H' => Ge H2 H' ∧ ∃ acc, H' D = some (.lst acc) ∧ TpA H' acc (keepD f k)) ⟨gD, [], upd_same, .nil⟩ (fun k H' _ ⟨gg, _⟩ => hG H' (hk _ _ gg)) ?_ ?_
  · rintro k x H' H3 hkn ⟨gg, acc, hacc, tacc⟩ hy
    have mw : Gm H' (wipe σ (own.map (·.2))) (wipeG Γ (own.map (·.2))) := ((m.ge g2).ge gg).wipe _
    refine hY k x H' H3 _ _ _ hkn (hk _ _ gg) mw hy fun σ'' H5 g5 m5 hwp => ?_
    refine ⟨by rw [hwp _ hsub]; exact wipe_wipe _ _ _ fun _ h => h, ?_⟩
    have gH5 : Ge H H5 := ((g1.trans g2).trans gg).trans g5
    intro s H0 C cl fp
    refine ht s H0 C cl fp k H5 hkn gH5 σ'' H5 _ (Ge.refl _) m5 fun H6 g6 => ?_
    cases hf : f k with
    | none =>
      rw [show (none : Option Dt).isSome = false from rfl, if_neg (by decide)]
      refine ⟨(gg.trans g5).trans g6, acc, (g5.trans g6).lst hacc, ?_⟩
      rw [keepD_succ, hf]
      simpa using tacc.ge (g5.trans g6)
    | some d =>
      rw [show (some d : Option Dt).isSome = true from rfl, if_pos rfl]
      intro s H0 C cl fp
      refine he s H0 C cl fp k d H6 hkn hf (gH5.trans g6) σ'' H6 _ (Ge.refl _) (m5.ge g6) fun y H7 g7 ty => ?_
      have hacc7 := ((g5.trans g6).trans g7).lst hacc
      have hlen : acc.length ≤ k := by rw [tacc.length]; exact keepD_len f k
      refine ⟨acc, hacc7, by omega, ?_, acc ++ [y], upd_same, ?_⟩
      · intro b u _ e
        by_cases hb : b = D
        · subst hb
          rw [hD] at e
          cases e
        · exact (((gg.trans g5).trans g6).trans g7) b u (by simp) e |>.trans fun u' e' => Keep.of_eq (by rw [upd_ne hb]; exact e')
      · have gU : LeT H7 (upd H7 D (.lst (acc ++ [y]))) := LeT.upd fun xs h => by rw [hacc7] at h; cases h
        rw [keepD_succ, hf]
        exact ((tacc.ge ((g5.trans g6).trans g7)).append (.cons ty .nil)).mono gU
  · rintro H' ⟨gg, acc, hacc, tacc⟩
    exact q D acc H' (g2.trans gg) (g2.free hD) hacc tacc
theorem lx_lc {tg elt : Expr} {ifs : List Expr} {scope : Scope} {own : List (Str × Nat)} {g : TG} {n : Nat} {idx : List Nat} {put : Nat → Gam → Gam} {keep : Hp → Hp → Prop} {f : Nat → Option Dt} (src : SRC X tg iter g Γ H n idx put keep) (hk : ∀ H2 H3, Ge H2 H3 → keep H2 H3) (hn : n ≤ sizeLine)
    (ok : BlkOk X.N X.env.scope scope own) (hsub : ∀ i ∈ idx, i ∈ own.map (·.2)) (pg : ∀ (s : Shared) (H : Hp) (C : Addr) (cl : List (Str × Addr)) (fp : List Addr), PG (X.blk s H scope (compEnvC scope cl C X.env) fp) tg g)
    (ht : ∀ (s : Shared) (H0 : Hp) (C : Addr) (cl : List (Str × Addr)) (fp : List Addr) (k : Nat) (H1 : Hp), k < n → Ge H H1 → TXs (X.blk s H0 scope (compEnvC scope cl C X.env) fp) ifs (put k (wipeG Γ (own.map (·.2)))) H1 (f k).isSome)
    (he : ∀ (s : Shared) (H0 : Hp) (C : Addr) (cl : List (Str × Addr)) (fp : List Addr) (k : Nat) (d : Dt) (H1 : Hp), k < n → f k = some d → Ge H H1 → EX (X.blk s H0 scope (compEnvC scope cl C X.env) fp) elt (put k (wipeG Γ (own.map (·.2)))) H1 d)
    (hc : X.calm = true) (hN : X.N.Nodup) (hs : ∀ x, foldedSetIterable iter X.env x = pure x := by intro _; rfl) : LX X (.ListComp elt [⟨tg, iter, ifs, 0⟩] scope pos) Γ H (keepD f n) := fun σ H1 Q g1 m q => by
  obtain ⟨wi, hpi, hw⟩ := lc_t src hk hn ok hsub pg ht he
  exact RE.of (pe_lc hc hN hpi ok pg ht_b he_b hs) (hw σ H1 Q g1 m q)
/-- y = [..] -/
theorem sx_setLc {i : Nat} {y : Str} {py spos : Pos} {tg elt : Expr} {ifs : List Expr} {scope : Scope} {own : List (Str × Nat)} {g : TG} {n : Nat} {idx : List Nat} {put : Nat → Gam → Gam} {keep : Hp → Hp → Prop} {f : Nat → Option Dt} (src : SRC X tg iter g Γ H n idx put keep) (hk : ∀ H2 H3, Ge H2 H3 → keep H2 H3) (hn : n ≤ sizeLine)
    (ok : BlkOk X.N X.env.scope scope own) (hsub : ∀ i ∈ idx, i ∈ own.map (·.2)) (pg : ∀ (s : Shared) (H : Hp) (C : Addr) (cl : List (Str × Addr)) (fp : List Addr), PG (X.blk s H scope (compEnvC scope cl C X.env) fp) tg g)
    (ht : ∀ (s : Shared) (H0 : Hp) (C : Addr) (cl : List (Str × Addr)) (fp : List Addr) (k : Nat) (H1 : Hp), k < n → Ge H H1 → TXs (X.blk s H0 scope (compEnvC scope cl C X.env) fp) ifs (put k (wipeG Γ (own.map (·.2)))) H1 (f k).isSome)
    (he : ∀ (s : Shared) (H0 : Hp) (C : Addr) (cl : List (Str × Addr)) (fp : List Addr) (k : Nat) (d : Dt) (H1 : Hp), k < n → f k = some d → Ge H H1 → EX (X.blk s H0 scope (compEnvC scope cl C X.env) fp) elt (put k (wipeG Γ (own.map (·.2)))) H1 d)
    (k : ∀ l vs H1, Ge H H1 → H l = none → H1 l = some (.lst vs) → TpA H1 vs (keepD f n) → nx (Γ.set i (some (.ref l))) H1)
    (hc : X.calm = true) (hN : X.N.Nodup) (hy : X.N[i]? = some y := by rfl) (hyl : X.env.scope.names.lookup y = some .local := by rfl) (hsw : swapsWith (.ListComp elt [⟨tg, iter, ifs, 0⟩] scope pos) (some (.Name y py)) spos.line X.env = pure true := by rfl)
    (hs : ∀ x, foldedSetIterable iter X.env x = pure x := by intro _; rfl) : SX X (.Assign [.Name y py] (.ListComp elt [⟨tg, iter, ifs, 0⟩] scope pos) spos) Γ H nx rt := fun σ m => by
  obtain ⟨wi, hpi, hw⟩ := lc_t src hk hn ok hsub pg ht he
  exact RS.of (ps_setLc hc hN hy hyl hsw hpi ok pg ht_b he_b hs) (hw σ H _ (Ge.refl _) m fun l vs H2 g2 n2 h2 t2 => ⟨_, (m.ge g2).set (.ref l) i, k l vs H2 g2 n2 h2 t2⟩)
/-- tuple(a list that is made) -/
theorem ex_tupL {ds : List Dt} {p : Pos} (h : LX X a Γ H ds) (hm : X.mg "tuple" = none) (hg : Gl X "tuple" := by rfl) (na : starEach [a] X.env = (false, eval a X.env) :: starEach [] X.env := by rfl) : EX X (.Call (.Name "tuple" p) [a] [] pos) Γ H (.tup ds) := fun σ H1 Q g m q =>
  RE.of (pe_tupleOf hg hm re na) (h σ H1 _ g m fun l vs H2 g2 hn hl t => .inl ⟨l, vs, rfl, SqL.of hl, fun r hr => q _ _ (g2.trans (Ge.new hr)) (.tup upd_same (t.ge (Ge.new hr)))⟩)
/-- x = a list that is made -/
theorem sx_asgL {i : Nat} {x : Str} {pos' : Pos} {ds : List Dt} (h : LX X e Γ H ds) (k : ∀ l vs H1, Ge H H1 → H l = none → H1 l = some (.lst vs) → TpA H1 vs ds → nx (Γ.set i (some (.ref l))) H1) (hN : X.N.Nodup) (hi : X.N[i]? = some x := by rfl) (hx : Loc X.env.scope x := by first | exact Or.inl rfl | exact Or.inr rfl)
    (hs : swapsWith e (some (.Name x pos')) pos.line X.env = pure false := by rfl) (hf : X.fn x = true ∨ X.env.scope.names.lookup x = some .local := by first | exact .inl rfl | exact .inr rfl | assumption) : SX X (.Assign [.Name x pos'] e pos) Γ H nx rt :=
  sx_asgM (fun σ m => h σ H _ (Ge.refl _) m fun l vs H2 g2 hn hl t => ⟨.ref l, .ref l, m.ge g2, k l vs H2 g2 hn hl t⟩) hN hi hx hs hf
end
end Lk
set_option linter.all false
/-! Plain Lean: the mirror of the program's functions, and the law's mathematics. -/
namespace Lk
/-! ### lists -/
theorem len_le_of_sub {A : Type} [DecidableEq A] : ∀ {l m : List A}, l.Nodup → (∀ x, x ∈ l → x ∈ m) → l.length ≤ m.length
  | [], _, _, _ => Nat.zero_le _
  | a :: l, m, hn, hs => by
    have h1 := List.nodup_cons.mp hn
    have ha : a ∈ m := hs a (List.mem_cons_self)
    have ih := len_le_of_sub (l := l) (m := m.erase a) h1.2 (fun x hx => by
      have hne : x ≠ a := fun e => h1.1 (e ▸ hx)
      exact (List.mem_erase_of_ne hne).mpr (hs x (List.mem_cons_of_mem _ hx)))
    have hl := List.length_erase_of_mem ha
    have hp : 0 < m.length := List.length_pos_of_mem ha
    rw [List.length_cons]
    omega
/-- all vectors of n numbers below P -/
def vecs (P : Nat) : Nat → List (List Nat)
  | 0 => [[]]
  | n + 1 => (vecs P n).flatMap fun v => (List.range P).map fun x => x :: v
theorem vecs_len (P : Nat) : ∀ n, (vecs P n).length = P ^ n
  | 0 => rfl
  | n + 1 => by
    have ih := vecs_len P n
    unfold vecs
    have h : ∀ l : List (List Nat), (l.flatMap fun v => (List.range P).map fun x => x :: v).length = l.length * P := by
      intro l
      induction l with
      | nil => simp
      | cons a l ih2 =>
        rw [List.flatMap_cons, List.length_append, ih2, List.length_map, List.length_range, List.length_cons, Nat.add_mul, Nat.one_mul, Nat.add_comm]
    rw [h, ih, Nat.pow_succ]
theorem vecs_mem (P : Nat) : ∀ {n : Nat} {v : List Nat}, v.length = n → (∀ x, x ∈ v → x < P) → v ∈ vecs P n
  | 0, [], _, _ => by simp [vecs]
  | 0, _ :: _, h, _ => by simp at h
  | n + 1, [], h, _ => by simp at h
  | n + 1, a :: v, h, hx => by
    have ih := vecs_mem P (n := n) (v := v) (by simpa using h) fun x hm => hx x (List.mem_cons_of_mem _ hm)
    unfold vecs
    exact List.mem_flatMap.mpr ⟨v, ih, List.mem_map.mpr ⟨a, List.mem_range.mpr (hx a List.mem_cons_self), rfl⟩⟩
/-! ### shelves -/
abbrev Habit := List (List Nat)
def stp (h : Habit) (p m : Nat) : Nat := (h.getD p []).getD m 0
def runW (h : Habit) (m : Nat) (w : List Nat) : Nat := w.foldl (fun m p => stp h p m) m
def markAt (h : Habit) (p : Nat) (w : List Nat) : Nat := runW h (stp h p p) w
theorem runW_snoc (h : Habit) (m : Nat) (w : List Nat) (q : Nat) : runW h m (w ++ [q]) = stp h q (runW h m w) := by
  unfold runW
  rw [List.foldl_append]
  rfl
theorem markAt_snoc (h : Habit) (p : Nat) (w : List Nat) (q : Nat) : markAt h p (w ++ [q]) = stp h q (markAt h p w) := runW_snoc h _ w q
structure Tst where
  p : Nat
  w : List Nat
  r : Nat
def reads (h : Habit) (t : Tst) : Bool := decide (markAt h t.p t.w = t.r)
def Tst.of (t : Tst) (lot : List Nat) : Prop := t.p ∈ lot ∧ (∀ q, q ∈ t.w → q ∈ lot) ∧ t.r ∈ lot ∧ t.w.length ≤ 3200
/-- a habit of P places: each row a permutation -/
structure HabOk (P : Nat) (h : Habit) : Prop where
  len : h.length = P
  row : ∀ r, r ∈ h → r.length = P ∧ (∀ x, x ∈ r → x < P) ∧ r.Nodup
theorem HabOk.getD {P : Nat} {h : Habit} (o : HabOk P h) {p : Nat} (hp : p < P) : (h.getD p []) ∈ h := by
  have hl : p < h.length := by rw [o.len]; exact hp
  rw [List.getD_eq_getElem?_getD, List.getElem?_eq_getElem hl]
  exact List.getElem_mem hl
theorem HabOk.stp_lt {P : Nat} {h : Habit} (o : HabOk P h) {p m : Nat} (hp : p < P) (hm : m < P) : stp h p m < P := by
  obtain ⟨h1, h2, _⟩ := o.row _ (o.getD hp)
  unfold stp
  have hl : m < (h.getD p []).length := by rw [h1]; exact hm
  rw [List.getD_eq_getElem?_getD (l := h.getD p []), List.getElem?_eq_getElem hl]
  exact h2 _ (List.getElem_mem hl)
theorem HabOk.stp_inj {P : Nat} {h : Habit} (o : HabOk P h) {p m n : Nat} (hp : p < P) (hm : m < P) (hn : n < P) (e : stp h p m = stp h p n) : m = n := by
  obtain ⟨h1, _, h3⟩ := o.row _ (o.getD hp)
  unfold stp at e
  have hl : m < (h.getD p []).length := by rw [h1]; exact hm
  have hl2 : n < (h.getD p []).length := by rw [h1]; exact hn
  rw [List.getD_eq_getElem?_getD (l := h.getD p []), List.getElem?_eq_getElem hl, List.getD_eq_getElem?_getD (l := h.getD p []), List.getElem?_eq_getElem hl2] at e
  exact (List.getElem_inj h3).mp e
/-! ### dicts -/
def lk {A B : Type} [DecidableEq A] (d : List (A × B)) (k : A) : Option B := (d.find? fun q => decide (q.1 = k)).map (·.2)
def put {A B : Type} [DecidableEq A] (d : List (A × B)) (k : A) (v : B) : List (A × B) :=
  if (d.any fun q => decide (q.1 = k)) = true then d.map (fun q => if q.1 = k then (q.1, v) else q) else d ++ [(k, v)]
section
variable {A B : Type} [DecidableEq A] {d : List (A × B)} {k j : A} {v : B}
theorem lk_mem (h : lk d k = some v) : (k, v) ∈ d := by
  unfold lk at h
  cases e : d.find? fun q => decide (q.1 = k) with
  | none => rw [e] at h; cases h
  | some q =>
    rw [e] at h
    have h1 : q.2 = v := Option.some.inj h
    have h2 : q.1 = k := by simpa using List.find?_some e
    have h3 := List.mem_of_find?_eq_some e
    rw [← h1, ← h2]
    exact h3
theorem lk_some_of_mem (h : k ∈ d.map (·.1)) : ∃ v, lk d k = some v := by
  obtain ⟨q, hq, e⟩ := List.mem_map.mp h
  unfold lk
  cases e2 : d.find? fun q => decide (q.1 = k) with
  | none =>
    have := List.find?_eq_none.mp e2 q hq
    simp [e] at this
  | some q => exact ⟨q.2, rfl⟩
theorem mem_of_lk (h : lk d k = some v) : k ∈ d.map (·.1) := List.mem_map.mpr ⟨_, lk_mem h, rfl⟩
theorem lk_none (h : lk d k = none) : ¬ k ∈ d.map (·.1) := fun q => by
  obtain ⟨v, e⟩ := lk_some_of_mem q
  rw [e] at h
  cases h
theorem lk_none_of (h : ¬ k ∈ d.map (·.1)) : lk d k = none := by
  cases e : lk d k with
  | none => rfl
  | some v => exact absurd (mem_of_lk e) h
theorem lk_of_mem (hn : (d.map (·.1)).Nodup) (h : (k, v) ∈ d) : lk d k = some v := by
  obtain ⟨u, hu⟩ := lk_some_of_mem (List.mem_map.mpr ⟨_, h, rfl⟩ : k ∈ d.map (·.1))
  have h2 := lk_mem hu
  have : v = u := by
    obtain ⟨i, hi, ei⟩ := List.mem_iff_getElem.mp h
    obtain ⟨j, hj, ej⟩ := List.mem_iff_getElem.mp h2
    have hi' : i < (d.map (·.1)).length := by rw [List.length_map]; exact hi
    have hj' : j < (d.map (·.1)).length := by rw [List.length_map]; exact hj
    have e : (d.map (·.1))[i] = (d.map (·.1))[j] := by rw [List.getElem_map, List.getElem_map, ei, ej]
    have := (List.getElem_inj hn).mp e
    subst this
    rw [ei] at ej
    exact congrArg Prod.snd ej
  rw [this]
  exact hu
theorem put_new (h : lk d k = none) : put d k v = d ++ [(k, v)] := by
  have hn : ¬ (d.any fun q => decide (q.1 = k)) = true := fun z => by
    obtain ⟨q, hq, e⟩ := List.any_eq_true.mp z
    exact lk_none h (List.mem_map.mpr ⟨q, hq, of_decide_eq_true e⟩)
  unfold put
  rw [if_neg hn]
theorem put_old (h : ∃ u, lk d k = some u) : put d k v = d.map (fun q => if q.1 = k then (q.1, v) else q) := by
  obtain ⟨u, h⟩ := h
  have hn : (d.any fun q => decide (q.1 = k)) = true := List.any_eq_true.mpr ⟨_, lk_mem h, decide_eq_true rfl⟩
  unfold put
  rw [if_pos hn]
theorem put_keys_old (h : ∃ u, lk d k = some u) : (put d k v).map (·.1) = d.map (·.1) := by
  rw [put_old h, List.map_map]
  apply List.map_congr_left
  intro q _
  show (if q.1 = k then (q.1, v) else q).1 = q.1
  split <;> rfl
theorem put_mem {q : A × B} (h : q ∈ put d k v) : q = (k, v) ∨ q ∈ d := by
  cases e : lk d k with
  | none =>
    rw [put_new e] at h
    rcases List.mem_append.mp h with h | h
    · exact .inr h
    · exact .inl (List.mem_singleton.mp h)
  | some u =>
    rw [put_old ⟨u, e⟩] at h
    obtain ⟨z, hz, ez⟩ := List.mem_map.mp h
    by_cases hk : z.1 = k
    · rw [if_pos hk] at ez
      exact .inl (by rw [← ez, hk])
    · rw [if_neg hk] at ez
      exact .inr (ez ▸ hz)
theorem put_key : k ∈ (put d k v).map (·.1) := by
  cases e : lk d k with
  | none =>
    rw [put_new e, List.map_append]
    exact List.mem_append_right _ (by simp)
  | some u =>
    rw [put_keys_old ⟨u, e⟩]
    exact mem_of_lk e
theorem put_keys_sub {x : A} (h : x ∈ d.map (·.1)) : x ∈ (put d k v).map (·.1) := by
  cases e : lk d k with
  | none =>
    rw [put_new e, List.map_append]
    exact List.mem_append_left _ h
  | some u =>
    rw [put_keys_old ⟨u, e⟩]
    exact h
theorem nodup_snoc {A : Type} {l : List A} {k : A} (h : l.Nodup) (hk : ¬ k ∈ l) : (l ++ [k]).Nodup := by
  rw [List.nodup_append]
  refine ⟨h, by simp, fun a ha b hb e => ?_⟩
  rw [List.mem_singleton] at hb
  rw [e, hb] at ha
  exact hk ha
theorem put_nodup (hn : (d.map (·.1)).Nodup) : ((put d k v).map (·.1)).Nodup := by
  cases e : lk d k with
  | none =>
    rw [put_new e, List.map_append]
    exact nodup_snoc hn (lk_none e)
  | some u =>
    rw [put_keys_old ⟨u, e⟩]
    exact hn
theorem put_len : (put d k v).length ≤ d.length + 1 := by
  cases e : lk d k with
  | none => rw [put_new e, List.length_append] <;> exact Nat.le_refl _
  | some u => rw [put_old ⟨u, e⟩, List.length_map]; exact Nat.le_succ _
end
/-! ### marks: the breadth-first walk -/
abbrev MD := List (List Nat × (Nat × List Nat))
section
variable (hs : List Habit) (lot group : List Nat)
def hb (i : Nat) : Habit := hs.getD i []
def mStart (p : Nat) : List Nat := group.map fun i => stp (hb hs i) p p
def mMove (marks : List Nat) (p : Nat) : List Nat := (group.zip marks).map fun q => stp (hb hs q.1) p q.2
def st0 (s : MD × List (List Nat)) (p : Nat) : MD × List (List Nat) :=
  match lk s.1 (mStart hs group p) with
  | some _ => s
  | none => (s.1 ++ [(mStart hs group p, (p, []))], s.2 ++ [mStart hs group p])
def stIn (marks : List Nat) (s : MD × List (List Nat)) (p : Nat) : MD × List (List Nat) :=
  match lk s.1 (mMove hs group marks p) with
  | some _ => s
  | none => (s.1 ++ [(mMove hs group marks p, (((lk s.1 marks).getD (0, [])).1, ((lk s.1 marks).getD (0, [])).2 ++ [p]))], s.2 ++ [mMove hs group marks p])
def stMid (s : MD × List (List Nat)) (marks : List Nat) : MD × List (List Nat) := lot.foldl (stIn hs group marks) s
def layerF (d : MD) (layer : List (List Nat)) : MD × List (List Nat) := layer.foldl (stMid hs lot group) (d, [])
def bfsF : Nat → MD × List (List Nat) → MD
  | 0, s => s.1
  | n + 1, s => match s.2 with
    | [] => s.1
    | _ :: _ => bfsF n (layerF hs lot group s.1 s.2)
def marks0 : MD × List (List Nat) := lot.foldl (st0 hs group) ([], [])
def fuel : Nat := 4000
def marksOf : MD := bfsF hs lot group fuel (marks0 hs lot group)
/-- what is told of a dict of marks -/
structure Good (P : Nat) (d : MD) : Prop where
  ent : ∀ q, q ∈ d → q.2.1 ∈ lot ∧ (∀ x, x ∈ q.2.2 → x ∈ lot) ∧ q.1 = group.map fun i => markAt (hb hs i) q.2.1 q.2.2
  nd : (d.map (·.1)).Nodup
  wl : ∀ q, q ∈ d → q.2.2.length < d.length
/-- the places, the habits -/
structure Ok (P : Nat) : Prop where
  hab : ∀ i, i ∈ group → HabOk P (hb hs i)
  lt : ∀ p, p ∈ lot → p < P
  size : P ^ group.length ≤ 3200
end
section
variable {hs : List Habit} {lot group : List Nat} {P : Nat}
theorem runW_lt {h : Habit} (o : HabOk P h) : ∀ (w : List Nat) {m : Nat}, m < P → (∀ x, x ∈ w → x < P) → runW h m w < P
  | [], _, hm, _ => hm
  | q :: w, m, hm, hw => by
    show runW h (stp h q m) w < P
    exact runW_lt o w (o.stp_lt (hw q List.mem_cons_self) hm) fun x hx => hw x (List.mem_cons_of_mem _ hx)
theorem markAt_lt {h : Habit} (o : HabOk P h) {p : Nat} {w : List Nat} (hp : p < P) (hw : ∀ x, x ∈ w → x < P) : markAt h p w < P := runW_lt o w (o.stp_lt hp hp) hw
theorem move_map (f : Nat → Nat) (p : Nat) : mMove hs group (group.map f) p = group.map fun i => stp (hb hs i) p (f i) := by
  unfold mMove
  have : ∀ g : List Nat, (g.zip (g.map f)).map (fun q => stp (hb hs q.1) p q.2) = g.map fun i => stp (hb hs i) p (f i) := by
    intro g
    induction g with
    | nil => rfl
    | cons a g ih => simp only [List.map_cons, List.zip_cons_cons, ih]
  exact this group
theorem Good.lt {d : MD} (ok : Ok hs lot group P) (g : Good hs lot group P d) {k : List Nat} (h : k ∈ d.map (·.1)) : k.length = group.length ∧ ∀ x, x ∈ k → x < P := by
  obtain ⟨q, hq, e⟩ := List.mem_map.mp h
  obtain ⟨h1, h2, h3⟩ := g.ent q hq
  have e : q.1 = k := e
  rw [← e, h3]
  refine ⟨List.length_map _, fun x hx => ?_⟩
  obtain ⟨i, hi, ei⟩ := List.mem_map.mp hx
  rw [← ei]
  exact markAt_lt (ok.hab i hi) (ok.lt _ h1) fun y hy => ok.lt _ (h2 y hy)
theorem Good.len {d : MD} (ok : Ok hs lot group P) (g : Good hs lot group P d) : d.length ≤ P ^ group.length := by
  have h := len_le_of_sub (m := vecs P group.length) g.nd fun k hk => vecs_mem P (g.lt ok hk).1 (g.lt ok hk).2
  rw [List.length_map, vecs_len] at h
  exact h
theorem Good.len' {d : MD} (ok : Ok hs lot group P) (g : Good hs lot group P d) : d.length ≤ 3200 := Nat.le_trans (g.len ok) ok.size
theorem Good.nil : Good hs lot group P [] := ⟨fun _ h => absurd h (by simp), by simp, fun _ h => absurd h (by simp)⟩
theorem Good.add {d : MD} (g : Good hs lot group P d) {p : Nat} {w : List Nat} (hp : p ∈ lot) (hw : ∀ x, x ∈ w → x ∈ lot) {k : List Nat} (ek : k = group.map fun i => markAt (hb hs i) p w) (hn : lk d k = none) (hwl : w.length ≤ d.length) :
    Good hs lot group P (d ++ [(k, (p, w))]) := by
  refine ⟨fun q hq => ?_, ?_, fun q hq => ?_⟩
  · rcases List.mem_append.mp hq with h | h
    · exact g.ent q h
    · rw [List.mem_singleton.mp h]
      exact ⟨hp, hw, ek⟩
  · rw [List.map_append]
    exact nodup_snoc g.nd (lk_none hn)
  · rw [List.length_append, List.length_singleton]
    rcases List.mem_append.mp hq with h | h
    · exact Nat.lt_succ_of_lt (g.wl q h)
    · rw [List.mem_singleton.mp h]
      exact Nat.lt_succ_of_le hwl
/-- the start -/
theorem st0_some {s : MD × List (List Nat)} {p : Nat} {v : Nat × List Nat} (h : lk s.1 (mStart hs group p) = some v) : st0 hs group s p = s := by
  unfold st0
  rw [h]
theorem st0_none {s : MD × List (List Nat)} {p : Nat} (h : lk s.1 (mStart hs group p) = none) : st0 hs group s p = (s.1 ++ [(mStart hs group p, (p, []))], s.2 ++ [mStart hs group p]) := by
  unfold st0
  rw [h]
theorem st0_good {s : MD × List (List Nat)} {p : Nat} (g : Good hs lot group P s.1) (hp : p ∈ lot) : Good hs lot group P (st0 hs group s p).1 := by
  cases e : lk s.1 (mStart hs group p) with
  | some v => rw [st0_some e]; exact g
  | none =>
    rw [st0_none e]
    exact g.add hp (fun _ h => absurd h (by simp)) rfl e (Nat.zero_le _)
/-- keys and layer: ks the keys that stood before -/
def Tail (ks : List (List Nat)) (s : MD × List (List Nat)) : Prop := s.1.map (·.1) = ks ++ s.2
theorem st0_tail {ks : List (List Nat)} {s : MD × List (List Nat)} {p : Nat} (t : Tail ks s) : Tail ks (st0 hs group s p) := by
  cases e : lk s.1 (mStart hs group p) with
  | some v => rw [st0_some e]; exact t
  | none =>
    rw [st0_none e]
    unfold Tail
    dsimp only
    rw [List.map_append, show s.1.map (·.1) = ks ++ s.2 from t, List.append_assoc]
    rfl
theorem st0_key {s : MD × List (List Nat)} {p : Nat} : mStart hs group p ∈ (st0 hs group s p).1.map (·.1) := by
  cases e : lk s.1 (mStart hs group p) with
  | some v => rw [st0_some e]; exact mem_of_lk e
  | none =>
    rw [st0_none e]
    dsimp only
    rw [List.map_append]
    exact List.mem_append_right _ (by simp)
theorem st0_sub {s : MD × List (List Nat)} {p : Nat} {k : List Nat} (h : k ∈ s.1.map (·.1)) : k ∈ (st0 hs group s p).1.map (·.1) := by
  cases e : lk s.1 (mStart hs group p) with
  | some v => rw [st0_some e]; exact h
  | none =>
    rw [st0_none e]
    dsimp only
    rw [List.map_append]
    exact List.mem_append_left _ h
theorem fold0 : ∀ (l : List Nat) (s : MD × List (List Nat)), (∀ p, p ∈ l → p ∈ lot) → Good hs lot group P s.1 → Tail [] s →
    Good hs lot group P (l.foldl (st0 hs group) s).1 ∧ Tail [] (l.foldl (st0 hs group) s) ∧ (∀ k, k ∈ s.1.map (·.1) → k ∈ (l.foldl (st0 hs group) s).1.map (·.1)) ∧ ∀ p, p ∈ l → mStart hs group p ∈ (l.foldl (st0 hs group) s).1.map (·.1)
  | [], s, _, g, t => ⟨g, t, fun _ h => h, fun _ h => absurd h (by simp)⟩
  | q :: l, s, hl, g, t => by
    obtain ⟨h1, h2, h3, h4⟩ := fold0 l (st0 hs group s q) (fun p hp => hl p (List.mem_cons_of_mem _ hp)) (st0_good g (hl q List.mem_cons_self)) (st0_tail t)
    refine ⟨h1, h2, fun k hk => h3 k (st0_sub hk), fun p hp => ?_⟩
    rcases List.mem_cons.mp hp with e | hp
    · rw [e]
      exact h3 _ st0_key
    · exact h4 p hp
/-- one move -/
theorem stIn_some {s : MD × List (List Nat)} {marks : List Nat} {p : Nat} {v : Nat × List Nat} (h : lk s.1 (mMove hs group marks p) = some v) : stIn hs group marks s p = s := by
  unfold stIn
  rw [h]
theorem stIn_none {s : MD × List (List Nat)} {marks : List Nat} {p p0 : Nat} {w0 : List Nat} (h : lk s.1 (mMove hs group marks p) = none) (hm : lk s.1 marks = some (p0, w0)) :
    stIn hs group marks s p = (s.1 ++ [(mMove hs group marks p, (p0, w0 ++ [p]))], s.2 ++ [mMove hs group marks p]) := by
  unfold stIn
  rw [h, hm]
  rfl
structure StepOk (hs : List Habit) (lot group : List Nat) (P : Nat) (ks : List (List Nat)) (s s' : MD × List (List Nat)) : Prop where
  good : Good hs lot group P s'.1
  tail : Tail ks s'
  sub : ∀ k, k ∈ s.1.map (·.1) → k ∈ s'.1.map (·.1)
theorem stIn_ok {ks : List (List Nat)} {s : MD × List (List Nat)} {marks : List Nat} {p : Nat} (g : Good hs lot group P s.1) (t : Tail ks s) (hm : marks ∈ s.1.map (·.1)) (hp : p ∈ lot) :
    StepOk hs lot group P ks s (stIn hs group marks s p) ∧ mMove hs group marks p ∈ (stIn hs group marks s p).1.map (·.1) := by
  cases e : lk s.1 (mMove hs group marks p) with
  | some v => rw [stIn_some e]; exact ⟨⟨g, t, fun _ h => h⟩, mem_of_lk e⟩
  | none =>
    obtain ⟨⟨p0, w0⟩, hv⟩ := lk_some_of_mem hm
    rw [stIn_none e hv]
    obtain ⟨h1, h2, h3⟩ := g.ent _ (lk_mem hv)
    refine ⟨⟨g.add h1 (fun x hx => ?_) ?_ e (by rw [List.length_append]; exact g.wl _ (lk_mem hv)), ?_, fun k hk => ?_⟩, ?_⟩
    · rcases List.mem_append.mp hx with hx | hx
      · exact h2 x hx
      · rw [List.mem_singleton.mp hx]
        exact hp
    · have h3 : marks = group.map fun i => markAt (hb hs i) p0 w0 := h3
      rw [h3, move_map]
      apply List.map_congr_left
      intro i _
      exact (markAt_snoc _ _ _ _).symm
    · unfold Tail
      dsimp only
      rw [List.map_append, show s.1.map (·.1) = ks ++ s.2 from t, List.append_assoc]
      rfl
    · dsimp only
      rw [List.map_append]
      exact List.mem_append_left _ hk
    · dsimp only
      rw [List.map_append]
      exact List.mem_append_right _ (by simp)
theorem foldIn {ks : List (List Nat)} {marks : List Nat} : ∀ (l : List Nat) (s : MD × List (List Nat)), (∀ p, p ∈ l → p ∈ lot) → Good hs lot group P s.1 → Tail ks s → marks ∈ s.1.map (·.1) →
    StepOk hs lot group P ks s (l.foldl (stIn hs group marks) s) ∧ ∀ p, p ∈ l → mMove hs group marks p ∈ (l.foldl (stIn hs group marks) s).1.map (·.1)
  | [], s, _, g, t, _ => ⟨⟨g, t, fun _ h => h⟩, fun _ h => absurd h (by simp)⟩
  | q :: l, s, hl, g, t, hm => by
    obtain ⟨a, ak⟩ := stIn_ok (p := q) g t hm (hl q List.mem_cons_self)
    obtain ⟨b, bk⟩ := foldIn l (stIn hs group marks s q) (fun p hp => hl p (List.mem_cons_of_mem _ hp)) a.good a.tail (a.sub _ hm)
    refine ⟨⟨b.good, b.tail, fun k hk => b.sub k (a.sub k hk)⟩, fun p hp => ?_⟩
    rcases List.mem_cons.mp hp with e | hp
    · rw [e]
      exact b.sub _ ak
    · exact bk p hp
theorem foldMid {ks : List (List Nat)} : ∀ (l : List (List Nat)) (s : MD × List (List Nat)), Good hs lot group P s.1 → Tail ks s → (∀ k, k ∈ l → k ∈ s.1.map (·.1)) →
    StepOk hs lot group P ks s (l.foldl (stMid hs lot group) s) ∧ ∀ k, k ∈ l → ∀ p, p ∈ lot → mMove hs group k p ∈ (l.foldl (stMid hs lot group) s).1.map (·.1)
  | [], s, g, t, _ => ⟨⟨g, t, fun _ h => h⟩, fun _ h => absurd h (by simp)⟩
  | q :: l, s, g, t, hm => by
    obtain ⟨a, ak⟩ := foldIn (marks := q) lot s (fun p hp => hp) g t (hm q List.mem_cons_self)
    obtain ⟨b, bk⟩ := foldMid l (stMid hs lot group s q) a.good a.tail (fun k hk => a.sub k (hm k (List.mem_cons_of_mem _ hk)))
    refine ⟨⟨b.good, b.tail, fun k hk => b.sub k (a.sub k hk)⟩, fun k hk p hp => ?_⟩
    rcases List.mem_cons.mp hk with e | hk
    · rw [e]
      exact b.sub _ (ak p hp)
    · exact bk k hk p hp
/-- a state between two layers -/
structure BInv (hs : List Habit) (lot group : List Nat) (P : Nat) (s : MD × List (List Nat)) : Prop where
  good : Good hs lot group P s.1
  lay : ∀ k, k ∈ s.2 → k ∈ s.1.map (·.1)
  cl : ∀ k, k ∈ s.1.map (·.1) → k ∈ s.2 ∨ ∀ p, p ∈ lot → mMove hs group k p ∈ s.1.map (·.1)
  st : ∀ p, p ∈ lot → mStart hs group p ∈ s.1.map (·.1)
theorem BInv.start : BInv hs lot group P (marks0 hs lot group) := by
  obtain ⟨h1, h2, _, h4⟩ := fold0 (hs := hs) (lot := lot) (group := group) (P := P) lot ([], []) (fun _ h => h) Good.nil rfl
  have h2 : (marks0 hs lot group).1.map (·.1) = (marks0 hs lot group).2 := h2
  exact ⟨h1, fun k hk => by rw [h2]; exact hk, fun k hk => .inl (by rw [h2] at hk; exact hk), h4⟩
theorem tail_start (d : MD) : Tail (d.map (·.1)) (d, []) := by
  show d.map (·.1) = d.map (·.1) ++ []
  rw [List.append_nil]
theorem BInv.layer {s : MD × List (List Nat)} (b : BInv hs lot group P s) : BInv hs lot group P (layerF hs lot group s.1 s.2) ∧ (layerF hs lot group s.1 s.2).1.length = s.1.length + (layerF hs lot group s.1 s.2).2.length := by
  obtain ⟨a, ak⟩ := foldMid (hs := hs) (lot := lot) (group := group) (P := P) s.2 (s.1, []) b.good (tail_start s.1) b.lay
  have ht : (layerF hs lot group s.1 s.2).1.map (·.1) = s.1.map (·.1) ++ (layerF hs lot group s.1 s.2).2 := a.tail
  refine ⟨⟨a.good, fun k hk => ?_, fun k hk => ?_, fun p hp => a.sub _ (b.st p hp)⟩, ?_⟩
  · rw [ht]
    exact List.mem_append_right _ hk
  · rw [ht] at hk
    rcases List.mem_append.mp hk with hk | hk
    · rcases b.cl k hk with h | h
      · exact .inr (ak k h)
      · exact .inr fun p hp => a.sub _ (h p hp)
    · exact .inl hk
  · have := congrArg List.length ht
    rw [List.length_map, List.length_append, List.length_map] at this
    exact this
theorem bfs_nil (n : Nat) (d : MD) : bfsF hs lot group n (d, []) = d := by
  cases n <;> rfl
theorem bfs_go (n : Nat) (d : MD) (l : List (List Nat)) (hl : l ≠ []) : bfsF hs lot group (n + 1) (d, l) = bfsF hs lot group n (layerF hs lot group d l) := by
  cases l with
  | nil => exact absurd rfl hl
  | cons a l => rfl
theorem bfs_good (ok : Ok hs lot group P) : ∀ (n : Nat) (s : MD × List (List Nat)), BInv hs lot group P s → (s.2 = [] ∨ 3200 < n + s.1.length) → BInv hs lot group P (bfsF hs lot group n s, [])
  | n, (d, []), b, _ => by
    rw [bfs_nil]
    exact b
  | 0, (d, _ :: _), b, h => by
    rcases h with h | h
    · cases h
    · have := b.good.len' ok
      have h : 3200 < 0 + d.length := h
      have this : d.length ≤ 3200 := this
      omega
  | n + 1, (d, a :: l), b, h => by
    obtain ⟨b2, e⟩ := b.layer
    show BInv hs lot group P (bfsF hs lot group n (layerF hs lot group d (a :: l)), [])
    refine bfs_good ok n _ b2 ?_
    rcases h with h | h
    · cases h
    · have h : 3200 < n + 1 + d.length := h
      have e : (layerF hs lot group d (a :: l)).1.length = d.length + (layerF hs lot group d (a :: l)).2.length := e
      cases e2 : (layerF hs lot group d (a :: l)).2 with
      | nil => exact .inl rfl
      | cons c r =>
        right
        rw [e2, List.length_cons] at e
        omega
theorem marksOf_ok (ok : Ok hs lot group P) : BInv hs lot group P (marksOf hs lot group, []) := by
  refine bfs_good ok fuel _ BInv.start (.inr ?_)
  show 3200 < 4000 + _
  omega
theorem closed_word {d : MD} (b : BInv hs lot group P (d, [])) {p : Nat} (hp : p ∈ lot) : ∀ (w : List Nat), (∀ x, x ∈ w → x ∈ lot) → (group.map fun i => markAt (hb hs i) p w) ∈ d.map (·.1) := by
  have key : ∀ (w : List Nat) (f : Nat → Nat), (∀ x, x ∈ w → x ∈ lot) → (group.map f) ∈ d.map (·.1) → (group.map fun i => runW (hb hs i) (f i) w) ∈ d.map (·.1) := by
    intro w
    induction w with
    | nil => intro f _ h; exact h
    | cons q w ih =>
      intro f hw h
      have h1 : mMove hs group (group.map f) q ∈ d.map (·.1) := by
        rcases b.cl _ h with z | z
        · exact absurd z (by simp)
        · exact z q (hw q List.mem_cons_self)
      rw [move_map] at h1
      exact ih (fun i => stp (hb hs i) q (f i)) (fun x hx => hw x (List.mem_cons_of_mem _ hx)) h1
  intro w hw
  exact key w (fun i => stp (hb hs i) p p) hw (b.st p hp)
end
/-! ### the partings of a group -/
abbrev PD := List (List Nat × Tst)
section
variable (hs : List Habit) (lot group : List Nat)
def markedOf (marks : List Nat) (r : Nat) : List Nat := ((group.zip marks).filter fun q => decide (q.2 = r)).map (·.1)
/-- not there, or there with a longer word -/
def better (f : PD) (k : List Nat) (n : Nat) : Bool := match lk f k with
  | none => true
  | some t => decide (n < t.w.length)
def ptIn (marks : List Nat) (pw : Nat × List Nat) (f : PD) (r : Nat) : PD :=
  if 0 < (markedOf group marks r).length ∧ (markedOf group marks r).length < group.length ∧ better f (markedOf group marks r) pw.2.length = true then put f (markedOf group marks r) ⟨pw.1, pw.2, r⟩ else f
def ptMid (d : MD) (f : PD) (marks : List Nat) : PD := lot.foldl (ptIn group marks ((lk d marks).getD (0, []))) f
def partOf (d : MD) : PD := (d.map (·.1)).foldl (ptMid lot group d) []
def partings : PD := partOf lot group (marksOf hs lot group)
/-- the habits of a group that read the mark -/
def readsOf (t : Tst) : List Nat := group.filter fun i => reads (hb hs i) t
end
section
variable {hs : List Habit} {lot group : List Nat} {P : Nat}
theorem marked_map (f : Nat → Nat) (r : Nat) : markedOf group (group.map f) r = group.filter fun i => decide (f i = r) := by
  unfold markedOf
  have : ∀ g : List Nat, ((g.zip (g.map f)).filter fun q => decide (q.2 = r)).map (·.1) = g.filter fun i => decide (f i = r) := by
    intro g
    induction g with
    | nil => rfl
    | cons a g ih =>
      rw [List.map_cons, List.zip_cons_cons, List.filter_cons, List.filter_cons]
      by_cases h : f a = r
      · rw [if_pos (by simpa using h), if_pos (by simpa using h), List.map_cons, ih]
      · rw [if_neg (by simpa using h), if_neg (by simpa using h), ih]
  exact this group
/-- what is told of a dict of partings -/
structure PGood (hs : List Habit) (lot group : List Nat) (f : PD) : Prop where
  ent : ∀ q, q ∈ f → q.2.of lot ∧ q.1 = readsOf hs group q.2 ∧ 0 < q.1.length ∧ q.1.length < group.length
  nd : (f.map (·.1)).Nodup
theorem PGood.nil : PGood hs lot group [] := ⟨fun _ h => absurd h (by simp), by simp⟩
theorem ptIn_ok {f : PD} {p : Nat} {w : List Nat} {r : Nat} (g : PGood hs lot group f) (hp : p ∈ lot) (hw : ∀ x, x ∈ w → x ∈ lot) (hwl : w.length ≤ 3200) (hr : r ∈ lot) :
    PGood hs lot group (ptIn group (group.map fun i => markAt (hb hs i) p w) (p, w) f r) := by
  unfold ptIn
  split
  · rename_i h
    refine ⟨fun q hq => ?_, put_nodup g.nd⟩
    rcases put_mem hq with e | hq
    · rw [e]
      exact ⟨⟨hp, hw, hr, hwl⟩, by rw [marked_map]; rfl, h.1, h.2.1⟩
    · exact g.ent q hq
  · exact g
theorem ptIn_sub {f : PD} {marks : List Nat} {pw : Nat × List Nat} {r : Nat} {k : List Nat} (h : k ∈ f.map (·.1)) : k ∈ (ptIn group marks pw f r).map (·.1) := by
  unfold ptIn
  split
  · exact put_keys_sub h
  · exact h
theorem ptIn_key {f : PD} {marks : List Nat} {pw : Nat × List Nat} {r : Nat} (h1 : 0 < (markedOf group marks r).length) (h2 : (markedOf group marks r).length < group.length) : markedOf group marks r ∈ (ptIn group marks pw f r).map (·.1) := by
  unfold ptIn
  split
  · exact put_key
  · rename_i h
    cases e : lk f (markedOf group marks r) with
    | none =>
      refine absurd ⟨h1, h2, ?_⟩ h
      unfold better
      rw [e]
    | some t => exact mem_of_lk e
theorem ptIn_len {f : PD} {marks : List Nat} {pw : Nat × List Nat} {r : Nat} : (ptIn group marks pw f r).length ≤ f.length + 1 := by
  unfold ptIn
  split
  · exact put_len
  · exact Nat.le_succ _
theorem foldPt {p : Nat} {w : List Nat} (hp : p ∈ lot) (hw : ∀ x, x ∈ w → x ∈ lot) (hwl : w.length ≤ 3200) : ∀ (l : List Nat) (f : PD), (∀ r, r ∈ l → r ∈ lot) → PGood hs lot group f →
    PGood hs lot group (l.foldl (ptIn group (group.map fun i => markAt (hb hs i) p w) (p, w)) f) ∧ (∀ k, k ∈ f.map (·.1) → k ∈ (l.foldl (ptIn group (group.map fun i => markAt (hb hs i) p w) (p, w)) f).map (·.1)) ∧
    (∀ r, r ∈ l → 0 < (readsOf hs group ⟨p, w, r⟩).length → (readsOf hs group ⟨p, w, r⟩).length < group.length → readsOf hs group ⟨p, w, r⟩ ∈ (l.foldl (ptIn group (group.map fun i => markAt (hb hs i) p w) (p, w)) f).map (·.1)) ∧
    (l.foldl (ptIn group (group.map fun i => markAt (hb hs i) p w) (p, w)) f).length ≤ f.length + l.length
  | [], f, _, g => ⟨g, fun _ h => h, fun _ h => absurd h (by simp), Nat.le_refl _⟩
  | q :: l, f, hl, g => by
    obtain ⟨a, b, c, d⟩ := foldPt hp hw hwl l (ptIn group (group.map fun i => markAt (hb hs i) p w) (p, w) f q) (fun r hr => hl r (List.mem_cons_of_mem _ hr)) (ptIn_ok g hp hw hwl (hl q List.mem_cons_self))
    refine ⟨a, fun k hk => b k (ptIn_sub hk), fun r hr h1 h2 => ?_, ?_⟩
    · rcases List.mem_cons.mp hr with e | hr
      · rw [e] at h1 h2 ⊢
        have em : markedOf group (group.map fun i => markAt (hb hs i) p w) q = readsOf hs group ⟨p, w, q⟩ := marked_map _ _
        rw [← em] at h1 h2 ⊢
        exact b _ (ptIn_key h1 h2)
      · exact c r hr h1 h2
    · have := ptIn_len (group := group) (f := f) (marks := group.map fun i => markAt (hb hs i) p w) (pw := (p, w)) (r := q)
      rw [List.length_cons]
      rw [List.foldl_cons]
      omega
theorem foldPm {d : MD} (gd : Good hs lot group P d) (hd : d.length ≤ 3200) : ∀ (l : List (List Nat)) (f : PD), (∀ k, k ∈ l → k ∈ d.map (·.1)) → PGood hs lot group f →
    PGood hs lot group (l.foldl (ptMid lot group d) f) ∧ (∀ k, k ∈ f.map (·.1) → k ∈ (l.foldl (ptMid lot group d) f).map (·.1)) ∧
    (∀ k, k ∈ l → ∀ r, r ∈ lot → 0 < (markedOf group k r).length → (markedOf group k r).length < group.length → markedOf group k r ∈ (l.foldl (ptMid lot group d) f).map (·.1)) ∧
    (l.foldl (ptMid lot group d) f).length ≤ f.length + l.length * lot.length
  | [], f, _, g => ⟨g, fun _ h => h, fun _ h => absurd h (by simp), by simp⟩
  | q :: l, f, hl, g => by
    obtain ⟨⟨p, w⟩, hv⟩ := lk_some_of_mem (hl q List.mem_cons_self)
    obtain ⟨h1, h2, h3⟩ := gd.ent _ (lk_mem hv)
    have h3 : q = group.map fun i => markAt (hb hs i) p w := h3
    have em : ptMid lot group d f q = lot.foldl (ptIn group (group.map fun i => markAt (hb hs i) p w) (p, w)) f := by
      unfold ptMid
      rw [hv, ← h3]
      rfl
    obtain ⟨a1, b1, c1, d1⟩ := foldPt (hs := hs) h1 h2 (Nat.le_of_lt (Nat.lt_of_lt_of_le (gd.wl _ (lk_mem hv)) hd)) lot f (fun r hr => hr) g
    rw [← em] at a1 b1 c1 d1
    obtain ⟨a, b, c, dd⟩ := foldPm gd hd l (ptMid lot group d f q) (fun k hk => hl k (List.mem_cons_of_mem _ hk)) a1
    refine ⟨a, fun k hk => b k (b1 k hk), fun k hk r hr z1 z2 => ?_, ?_⟩
    · rcases List.mem_cons.mp hk with e | hk
      · rw [e] at z1 z2 ⊢
        have e2 : markedOf group q r = readsOf hs group ⟨p, w, r⟩ := by rw [h3]; exact marked_map _ _
        rw [e2] at z1 z2 ⊢
        exact b _ (c1 r hr z1 z2)
      · exact c k hk r hr z1 z2
    · rw [List.length_cons, List.foldl_cons, Nat.add_mul, Nat.one_mul]
      omega
theorem part_ok (ok : Ok hs lot group P) : PGood hs lot group (partings hs lot group) := (foldPm (marksOf_ok ok).good ((marksOf_ok ok).good.len' ok) _ [] (fun _ h => h) PGood.nil).1
theorem part_all (ok : Ok hs lot group P) {t : Tst} (ht : t.of lot) (h1 : 0 < (readsOf hs group t).length) (h2 : (readsOf hs group t).length < group.length) : readsOf hs group t ∈ (partings hs lot group).map (·.1) := by
  obtain ⟨hp, hw, hr, hwl⟩ := ht
  have hk := closed_word (marksOf_ok ok) hp t.w hw
  have e : markedOf group (group.map fun i => markAt (hb hs i) t.p t.w) t.r = readsOf hs group t := marked_map _ _
  rw [← e] at h1 h2 ⊢
  exact (foldPm (marksOf_ok ok).good ((marksOf_ok ok).good.len' ok) _ [] (fun _ h => h) PGood.nil).2.2.1 _ hk t.r hr h1 h2
theorem part_len (ok : Ok hs lot group P) : (partings hs lot group).length ≤ 3200 * lot.length := by
  have h := (foldPm (hs := hs) (lot := lot) (group := group) (P := P) (marksOf_ok ok).good ((marksOf_ok ok).good.len' ok) _ [] (fun _ h => h) PGood.nil).2.2.2
  have h2 := (marksOf_ok ok).good.len' ok
  have h3 : ((marksOf hs lot group).map (·.1)).length ≤ 3200 := by rw [List.length_map]; exact h2
  refine Nat.le_trans h ?_
  show 0 + _ ≤ _
  rw [Nat.zero_add]
  exact Nat.mul_le_mul_right _ h3
/-- no parting: all of the group read alike -/
theorem part_none (ok : Ok hs lot group P) (h : partings hs lot group = []) {t : Tst} (ht : t.of lot) {i j : Nat} (hi : i ∈ group) (hj : j ∈ group) : reads (hb hs i) t = reads (hb hs j) t := by
  cases ei : reads (hb hs i) t with
  | true =>
    cases ej : reads (hb hs j) t with
    | true => rfl
    | false =>
      exfalso
      have h1 : i ∈ readsOf hs group t := List.mem_filter.mpr ⟨hi, ei⟩
      have h2 : (readsOf hs group t).length < group.length := List.length_filter_lt_length_iff_exists.mpr ⟨j, hj, by rw [ej]; decide⟩
      have := part_all ok ht (List.length_pos_of_mem h1) h2
      rw [h] at this
      simp at this
  | false =>
    cases ej : reads (hb hs j) t with
    | false => rfl
    | true =>
      exfalso
      have h1 : j ∈ readsOf hs group t := List.mem_filter.mpr ⟨hj, ej⟩
      have h2 : (readsOf hs group t).length < group.length := List.length_filter_lt_length_iff_exists.mpr ⟨i, hi, by rw [ei]; decide⟩
      have := part_all ok ht (List.length_pos_of_mem h1) h2
      rw [h] at this
      simp at this
end
/-! ### trees -/
inductive Tree where
  | left (g : List Nat)
  | test (t : Tst) (a b : Tree)
section
variable (hs : List Habit) (lot : List Nat)
def restOf (g mk : List Nat) : List Nat := g.filter fun i => !mk.contains i
/-- the least of some numbers, 0 of none -/
def minL : List Nat → Nat
  | [] => 0
  | x :: xs => xs.foldl min x
def bestW : Nat → List Nat → Nat
  | 0, _ => 0
  | n + 1, g => minL ((partings hs lot g).map fun q => q.2.w.length + 2 + max (bestW n q.1) (bestW n (restOf g q.1)))
inductive VT : List Nat → Tree → Nat → Prop where
  | left {g : List Nat} (h : partings hs lot g = []) : VT g (.left g) 0
  | test {g : List Nat} {t : Tst} {a b : Tree} {wa wb : Nat} (ht : t.of lot) (h1 : readsOf hs g t ≠ []) (h2 : restOf g (readsOf hs g t) ≠ []) (va : VT (readsOf hs g t) a wa) (vb : VT (restOf g (readsOf hs g t)) b wb) :
      VT g (.test t a b) (t.w.length + 2 + max wa wb)
/-- the group that a tree leaves on a shelf, and how many touches are made -/
def leaf (h : Habit) : Tree → List Nat × Nat
  | .left g => (g, 0)
  | .test t a b => if reads h t then ((leaf h a).1, (leaf h a).2 + (t.w.length + 2)) else ((leaf h b).1, (leaf h b).2 + (t.w.length + 2))
end
theorem foldl_min_le : ∀ (l : List Nat) (x : Nat), l.foldl min x ≤ x ∧ ∀ y, y ∈ l → l.foldl min x ≤ y
  | [], x => ⟨Nat.le_refl _, fun _ h => absurd h (by simp)⟩
  | a :: l, x => by
    obtain ⟨h1, h2⟩ := foldl_min_le l (min x a)
    rw [List.foldl_cons]
    refine ⟨by omega, fun y hy => ?_⟩
    rcases List.mem_cons.mp hy with e | hy
    · rw [e]; omega
    · exact h2 y hy
theorem foldl_min_mem : ∀ (l : List Nat) (x : Nat), l.foldl min x = x ∨ l.foldl min x ∈ l
  | [], x => .inl rfl
  | a :: l, x => by
    rw [List.foldl_cons]
    rcases foldl_min_mem l (min x a) with h | h
    · rw [h]
      by_cases hx : x ≤ a
      · left; omega
      · right
        rw [show min x a = a by omega]
        exact List.mem_cons_self
    · exact .inr (List.mem_cons_of_mem _ h)
theorem minL_le {l : List Nat} {y : Nat} (h : y ∈ l) : minL l ≤ y := by
  cases l with
  | nil => simp at h
  | cons a l =>
    rcases List.mem_cons.mp h with e | h
    · rw [e]; exact (foldl_min_le l a).1
    · exact (foldl_min_le l a).2 y h
theorem minL_mem {l : List Nat} (h : l ≠ []) : minL l ∈ l := by
  cases l with
  | nil => exact absurd rfl h
  | cons a l =>
    rcases foldl_min_mem l a with e | h
    · show l.foldl min a ∈ a :: l
      rw [e]; exact List.mem_cons_self
    · exact List.mem_cons_of_mem _ h
theorem minL_eq {l : List Nat} {x : Nat} (h1 : x ∈ l) (h2 : ∀ y, y ∈ l → x ≤ y) : minL l = x := by
  have a := minL_le h1
  have b := h2 _ (minL_mem (fun e => by rw [e] at h1; simp at h1))
  omega
theorem minL_snoc {l : List Nat} {x : Nat} (h : l ≠ []) : minL (l ++ [x]) = min (minL l) x := by
  cases l with
  | nil => exact absurd rfl h
  | cons a l =>
    show (l ++ [x]).foldl min a = min (l.foldl min a) x
    rw [List.foldl_append]
    rfl
theorem minL_perm {l m : List Nat} (h : l.Perm m) : minL l = minL m := by
  cases m with
  | nil => rw [List.perm_nil.mp h]
  | cons a r =>
    have hm : minL (a :: r) ∈ a :: r := minL_mem (by simp)
    exact minL_eq (h.mem_iff.mpr hm) fun y hy => minL_le (h.mem_iff.mp hy)
section
variable {hs : List Habit} {lot : List Nat} {P : Nat}
theorem rest_of {g : List Nat} {t : Tst} : restOf g (readsOf hs g t) = g.filter fun i => !reads (hb hs i) t := by
  unfold restOf
  apply List.filter_congr
  intro i hi
  have : (readsOf hs g t).contains i = reads (hb hs i) t := by
    rw [Bool.eq_iff_iff, List.contains_iff_mem]
    exact ⟨fun h => (List.mem_filter.mp h).2, fun h => List.mem_filter.mpr ⟨hi, h⟩⟩
  rw [this]
theorem mem_rest {g : List Nat} {t : Tst} {i : Nat} : i ∈ restOf g (readsOf hs g t) ↔ i ∈ g ∧ reads (hb hs i) t = false := by
  rw [rest_of, List.mem_filter]
  simp
theorem mem_reads {g : List Nat} {t : Tst} {i : Nat} : i ∈ readsOf hs g t ↔ i ∈ g ∧ reads (hb hs i) t = true := List.mem_filter
theorem Ok.sub {g g' : List Nat} (ok : Ok hs lot g P) (h : ∀ i, i ∈ g' → i ∈ g) (hl : g'.length ≤ g.length) (hP : 0 < P) : Ok hs lot g' P :=
  ⟨fun i hi => ok.hab i (h i hi), ok.lt, Nat.le_trans (Nat.pow_le_pow_right hP hl) ok.size⟩
/-- the shelf's own habit is left; those that are left cannot be parted; as many touches at most -/
theorem leaf_ok {g : List Nat} {t : Tree} {w : Nat} (v : VT hs lot g t w) : ∀ i, i ∈ g → i ∈ (leaf (hb hs i) t).1 ∧ partings hs lot (leaf (hb hs i) t).1 = [] ∧ (∀ j, j ∈ (leaf (hb hs i) t).1 → j ∈ g) ∧ (leaf (hb hs i) t).1.length ≤ g.length ∧ (leaf (hb hs i) t).2 ≤ w := by
  induction v with
  | left h => exact fun i hi => ⟨hi, h, fun j hj => hj, Nat.le_refl _, Nat.le_refl _⟩
  | @test g t a b wa wb ht h1 h2 va vb iha ihb =>
    intro i hi
    unfold leaf
    cases e : reads (hb hs i) t with
    | true =>
      obtain ⟨z1, z2, z3, z4, z5⟩ := iha i (mem_reads.mpr ⟨hi, e⟩)
      rw [if_pos rfl]
      exact ⟨z1, z2, fun j hj => (mem_reads.mp (z3 j hj)).1, Nat.le_trans z4 (List.length_filter_le _ _), by show _ + (t.w.length + 2) ≤ _; omega⟩
    | false =>
      obtain ⟨z1, z2, z3, z4, z5⟩ := ihb i (mem_rest.mpr ⟨hi, e⟩)
      rw [if_neg (by simp)]
      exact ⟨z1, z2, fun j hj => (mem_rest.mp (z3 j hj)).1, Nat.le_trans z4 (List.length_filter_le _ _), by show _ + (t.w.length + 2) ≤ _; omega⟩
/-- some shelf makes them all -/
theorem leaf_most {g : List Nat} {t : Tree} {w : Nat} (v : VT hs lot g t w) : g ≠ [] → ∃ i, i ∈ g ∧ (leaf (hb hs i) t).2 = w := by
  induction v with
  | @left g h =>
    intro hg
    obtain ⟨i, hi⟩ := List.exists_mem_of_ne_nil g hg
    exact ⟨i, hi, rfl⟩
  | @test g t a b wa wb ht h1 h2 va vb iha ihb =>
    intro _
    by_cases hw : wb ≤ wa
    · obtain ⟨i, hi, e⟩ := iha h1
      obtain ⟨hi, er⟩ := mem_reads.mp hi
      refine ⟨i, hi, ?_⟩
      unfold leaf
      rw [er, if_pos rfl]
      show (leaf (hb hs i) a).2 + (t.w.length + 2) = _
      rw [e]
      omega
    · obtain ⟨i, hi, e⟩ := ihb h2
      obtain ⟨hi, er⟩ := mem_rest.mp hi
      refine ⟨i, hi, ?_⟩
      unfold leaf
      rw [er, if_neg (by simp)]
      show (leaf (hb hs i) b).2 + (t.w.length + 2) = _
      rw [e]
      omega
/-- habits that read alike come to one leaf -/
theorem leaf_same {g : List Nat} {t : Tree} {w : Nat} (v : VT hs lot g t w) {h h' : Habit} (al : ∀ t : Tst, t.of lot → reads h t = reads h' t) : leaf h t = leaf h' t := by
  induction v with
  | left _ => rfl
  | @test g t a b wa wb ht h1 h2 va vb iha ihb =>
    unfold leaf
    rw [al t ht, iha, ihb]
/-- two shelves alike in all that can be read -/
def alikeB (h o : Habit) (lot : List Nat) : Bool := (marksOf [h, o] lot [0, 1]).all fun q => lot.all fun r => (decide (q.1.getD 0 0 = r) == decide (q.1.getD 1 0 = r))
theorem alike_iff {h o : Habit} (ok : Ok [h, o] lot [0, 1] P) : alikeB h o lot = true ↔ ∀ t : Tst, t.of lot → reads h t = reads o t := by
  have b := marksOf_ok ok
  constructor
  · intro hA t ht
    obtain ⟨hp, hw, hr, hwl⟩ := ht
    have hk := closed_word b hp t.w hw
    obtain ⟨q, hq, eq⟩ := List.mem_map.mp hk
    have h1 := List.all_eq_true.mp hA q hq
    have h2 := List.all_eq_true.mp h1 t.r hr
    have eq : q.1 = [markAt h t.p t.w, markAt o t.p t.w] := eq
    rw [eq] at h2
    exact eq_of_beq h2
  · intro hA
    refine List.all_eq_true.mpr fun q hq => List.all_eq_true.mpr fun r hr => ?_
    obtain ⟨h1, h2, h3⟩ := b.good.ent q hq
    have h3 : q.1 = [markAt h q.2.1 q.2.2, markAt o q.2.1 q.2.2] := h3
    have := hA ⟨q.2.1, q.2.2, r⟩ ⟨h1, h2, hr, Nat.le_of_lt (Nat.lt_of_lt_of_le (b.good.wl q hq) (b.good.len' ok))⟩
    rw [h3]
    exact beq_iff_eq.mpr this
/-- THE LAW, one index and one other -/
theorem law_other {g : List Nat} {t : Tree} {w : Nat} (v : VT hs lot g t w) (ok : Ok hs lot g P) (hP : 0 < P) {i j : Nat} (hi : i ∈ g) (hj : j ∈ g) (ok2 : Ok [hb hs i, hb hs j] lot [0, 1] P) :
    (j ∈ (leaf (hb hs i) t).1 → alikeB (hb hs i) (hb hs j) lot = true) ∧ (alikeB (hb hs i) (hb hs j) lot = true → (leaf (hb hs j) t).1 = (leaf (hb hs i) t).1) := by
  obtain ⟨z1, z2, z3, z4, z5⟩ := leaf_ok v i hi
  refine ⟨fun hm => ?_, fun hA => ?_⟩
  · exact (alike_iff ok2).mpr fun t ht => part_none (ok.sub z3 z4 hP) z2 ht z1 hm
  · rw [leaf_same v ((alike_iff ok2).mp hA)]
end
/-! ### a shelf at work -/
structure Sh where
  st : List Nat
  bk : List Int
  pa : List Nat
def Sh.mv (h : Habit) (s : Sh) (p : Nat) : Sh := ⟨s.st.map (stp h p), s.bk, s.pa ++ [p]⟩
def Sh.wr (h : Habit) (s : Sh) (p : Nat) (v : Int) : Sh := Sh.mv h ⟨s.st, s.bk.set (s.st.idxOf p) v, s.pa⟩ p
def Sh.rd (s : Sh) (p : Nat) : Int := s.bk.getD (s.st.idxOf p) 0
def Sh.run (h : Habit) (s : Sh) (w : List Nat) : Sh := w.foldl (Sh.mv h) s
/-- the tests of a tree done at a shelf, the marks from k + 1 on -/
def lrn (h : Habit) : Tree → Sh → Nat → List Nat × Sh
  | .left g, s, _ => (g, s)
  | .test t a b, s, k =>
    if (((s.wr h t.p ((k + 1 : Nat) : Int)).run h t.w).rd t.r) = ((k + 1 : Nat) : Int) then lrn h a (((s.wr h t.p ((k + 1 : Nat) : Int)).run h t.w).mv h t.r) (k + 1)
    else lrn h b (((s.wr h t.p ((k + 1 : Nat) : Int)).run h t.w).mv h t.r) (k + 1)
structure ShOk (P : Nat) (s : Sh) (k : Int) : Prop where
  len : s.st.length = P
  nd : s.st.Nodup
  lt : ∀ x, x ∈ s.st → x < P
  bl : s.bk.length = P
  le : ∀ v, v ∈ s.bk → v ≤ k
section
variable {P : Nat} {h : Habit} {s : Sh} {k : Int}
theorem ShOk.mem (o : ShOk P s k) {p : Nat} (hp : p < P) : p ∈ s.st := by
  by_cases hm : p ∈ s.st
  · exact hm
  · exfalso
    have hn : (p :: s.st).Nodup := List.nodup_cons.mpr ⟨hm, o.nd⟩
    have hl := len_le_of_sub (m := List.range P) hn fun x hx => by
      rcases List.mem_cons.mp hx with e | hx
      · rw [e]; exact List.mem_range.mpr hp
      · exact List.mem_range.mpr (o.lt x hx)
    rw [List.length_cons, List.length_range, o.len] at hl
    omega
theorem ShOk.idx (o : ShOk P s k) {p : Nat} (hp : p < P) : s.st.idxOf p < P := by
  have := List.idxOf_lt_length_of_mem (o.mem hp)
  rw [o.len] at this
  exact this
theorem ShOk.mv (o : ShOk P s k) (ho : HabOk P h) {p : Nat} (hp : p < P) : ShOk P (s.mv h p) k := by
  refine ⟨by show (s.st.map _).length = P; rw [List.length_map]; exact o.len, ?_, fun x hx => ?_, o.bl, o.le⟩
  · show (s.st.map (stp h p)).Nodup
    rw [List.nodup_iff_pairwise_ne, List.pairwise_map]
    refine List.Pairwise.imp_of_mem ?_ (List.nodup_iff_pairwise_ne.mp o.nd)
    intro a b ha hb hne e
    exact hne (ho.stp_inj hp (o.lt a ha) (o.lt b hb) e)
  · have hx : x ∈ s.st.map (stp h p) := hx
    obtain ⟨y, hy, e⟩ := List.mem_map.mp hx
    rw [← e]
    exact ho.stp_lt hp (o.lt y hy)
theorem ShOk.up (o : ShOk P s k) {k' : Int} (hk : k ≤ k') : ShOk P s k' := ⟨o.len, o.nd, o.lt, o.bl, fun v hv => Int.le_trans (o.le v hv) hk⟩
theorem ShOk.wr (o : ShOk P s k) (ho : HabOk P h) {p : Nat} (hp : p < P) {v : Int} (hv : k ≤ v) : ShOk P (s.wr h p v) v := by
  have o2 : ShOk P (⟨s.st, s.bk.set (s.st.idxOf p) v, s.pa⟩ : Sh) v := by
    refine ⟨o.len, o.nd, o.lt, by show (s.bk.set _ v).length = P; rw [List.length_set]; exact o.bl, fun x hx => ?_⟩
    rcases List.mem_or_eq_of_mem_set (show x ∈ s.bk.set (s.st.idxOf p) v from hx) with hx | e
    · exact Int.le_trans (o.le x hx) hv
    · rw [e]; exact Int.le_refl _
  exact o2.mv ho hp
theorem ShOk.run (ho : HabOk P h) : ∀ (w : List Nat) {s : Sh}, ShOk P s k → (∀ x, x ∈ w → x < P) → ShOk P (s.run h w) k
  | [], _, o, _ => o
  | p :: w, s, o, hw => ShOk.run ho w (o.mv ho (hw p List.mem_cons_self)) fun x hx => hw x (List.mem_cons_of_mem _ hx)
theorem run_bk : ∀ (w : List Nat) (s : Sh), (s.run h w).bk = s.bk
  | [], _ => rfl
  | p :: w, s => run_bk w (s.mv h p)
theorem run_pa : ∀ (w : List Nat) (s : Sh), (s.run h w).pa = s.pa ++ w
  | [], s => (List.append_nil _).symm
  | p :: w, s => by
    show ((s.mv h p).run h w).pa = _
    rw [run_pa w (s.mv h p)]
    show s.pa ++ [p] ++ w = s.pa ++ (p :: w)
    rw [List.append_assoc]
    rfl
theorem run_at : ∀ (w : List Nat) (s : Sh) (n m : Nat), s.st[n]? = some m → (s.run h w).st[n]? = some (runW h m w)
  | [], _, _, _, e => e
  | p :: w, s, n, m, e => by
    have e2 : (s.mv h p).st[n]? = some (stp h p m) := by
      show (s.st.map (stp h p))[n]? = _
      rw [List.getElem?_map, e]
      rfl
    exact run_at w (s.mv h p) n _ e2
theorem idx_at {l : List Nat} {p : Nat} (h : p ∈ l) : l[l.idxOf p]? = some p := by
  have hl := List.idxOf_lt_length_of_mem h
  rw [List.getElem?_eq_getElem hl, List.getElem_idxOf hl]
theorem idx_eq {l : List Nat} {n m : Nat} (hn : l.Nodup) (h : l[n]? = some m) : l.idxOf m = n := by
  obtain ⟨hl, e⟩ := List.getElem?_eq_some_iff.mp h
  have hm : m ∈ l := e ▸ List.getElem_mem hl
  have h2 := idx_at hm
  obtain ⟨hl2, e2⟩ := List.getElem?_eq_some_iff.mp h2
  exact (List.getElem_inj hn).mp (e2.trans e.symm)
/-- the mark is read where the habit brings it, and nowhere else -/
theorem tst_reads (o : ShOk P s k) (ho : HabOk P h) {t : Tst} {v : Int} (hv : k < v) (hp : t.p < P) (hw : ∀ x, x ∈ t.w → x < P) (hr : t.r < P) :
    decide (((s.wr h t.p v).run h t.w).rd t.r = v) = reads h t := by
  have o1 : ShOk P (s.wr h t.p v) v := o.wr ho hp (Int.le_of_lt hv)
  have o2 := ShOk.run ho t.w o1 hw
  have hn : s.st.idxOf t.p < P := o.idx hp
  have e1 : (s.wr h t.p v).st[s.st.idxOf t.p]? = some (stp h t.p t.p) := by
    show (s.st.map (stp h t.p))[s.st.idxOf t.p]? = _
    rw [List.getElem?_map, idx_at (o.mem hp)]
    rfl
  have e2 : ((s.wr h t.p v).run h t.w).st[s.st.idxOf t.p]? = some (markAt h t.p t.w) := run_at t.w _ _ _ e1
  have eb : ((s.wr h t.p v).run h t.w).bk = s.bk.set (s.st.idxOf t.p) v := run_bk t.w _
  have ei : ((s.wr h t.p v).run h t.w).st.idxOf (markAt h t.p t.w) = s.st.idxOf t.p := idx_eq o2.nd e2
  unfold Sh.rd reads
  rw [eb]
  by_cases he : markAt h t.p t.w = t.r
  · rw [decide_eq_true he, ← he, ei]
    refine decide_eq_true ?_
    rw [List.getD_eq_getElem?_getD, List.getElem?_set_self (by rw [o.bl]; exact hn)]
    rfl
  · rw [decide_eq_false he]
    refine decide_eq_false fun z => ?_
    have hne : s.st.idxOf t.p ≠ ((s.wr h t.p v).run h t.w).st.idxOf t.r := fun q => by
      have h3 := idx_at (o2.mem hr)
      rw [← q, e2] at h3
      exact he (Option.some.inj h3)
    rw [List.getD_eq_getElem?_getD, List.getElem?_set_ne hne] at z
    have hr2 := o2.idx hr
    have hl : ((s.wr h t.p v).run h t.w).st.idxOf t.r < s.bk.length := by rw [o.bl]; exact hr2
    rw [List.getElem?_eq_getElem hl] at z
    have := o.le _ (List.getElem_mem hl)
    have z : s.bk[((s.wr h t.p v).run h t.w).st.idxOf t.r] = v := z
    omega
theorem lrn_test {t : Tst} {a b : Tree} {j : Nat} (o : ShOk P s j) (ho : HabOk P h) (hp : t.p < P) (hw : ∀ x, x ∈ t.w → x < P) (hr : t.r < P) :
    lrn h (.test t a b) s j = lrn h (if reads h t then a else b) (((s.wr h t.p ((j + 1 : Nat) : Int)).run h t.w).mv h t.r) (j + 1) := by
  have e := tst_reads (v := ((j + 1 : Nat) : Int)) o ho (by omega) hp hw hr
  conv => lhs; unfold lrn
  cases er : reads h t with
  | true =>
    rw [er] at e
    rw [if_pos (of_decide_eq_true e), if_pos rfl]
  | false =>
    rw [er] at e
    rw [if_neg (of_decide_eq_false e), if_neg (by simp)]
theorem next_ok {t : Tst} {j : Nat} (o : ShOk P s j) (ho : HabOk P h) (hp : t.p < P) (hw : ∀ x, x ∈ t.w → x < P) (hr : t.r < P) : ShOk P (((s.wr h t.p ((j + 1 : Nat) : Int)).run h t.w).mv h t.r) ((j + 1 : Nat) : Int) :=
  (ShOk.run ho t.w (o.wr ho hp (by omega)) hw).mv ho hr
theorem lrn_ok {hs : List Habit} {lot g : List Nat} {t : Tree} {w : Nat} (v : VT hs lot g t w) (ho : HabOk P h) (hl : ∀ p, p ∈ lot → p < P) : ∀ (s : Sh) (j : Nat), ShOk P s j →
    (lrn h t s j).1 = (leaf h t).1 ∧ (lrn h t s j).2.pa.length = s.pa.length + (leaf h t).2 ∧ ∀ x, x ∈ (lrn h t s j).2.pa → x ∈ s.pa ∨ x ∈ lot := by
  induction v with
  | left _ => exact fun s j _ => ⟨rfl, rfl, fun x hx => .inl hx⟩
  | @test g t a b wa wb ht h1 h2 va vb iha ihb =>
    intro s j o
    obtain ⟨hp, hw, hr, hwl⟩ := ht
    have hw' : ∀ x, x ∈ t.w → x < P := fun x hx => hl x (hw x hx)
    rw [lrn_test o ho (hl _ hp) hw' (hl _ hr)]
    have on := next_ok o ho (hl _ hp) hw' (hl _ hr)
    have ep : (((s.wr h t.p ((j + 1 : Nat) : Int)).run h t.w).mv h t.r).pa = s.pa ++ [t.p] ++ t.w ++ [t.r] := by
      show ((s.wr h t.p ((j + 1 : Nat) : Int)).run h t.w).pa ++ [t.r] = _
      rw [run_pa]
      rfl
    have el : (((s.wr h t.p ((j + 1 : Nat) : Int)).run h t.w).mv h t.r).pa.length = s.pa.length + (t.w.length + 2) := by
      rw [ep]
      simp only [List.length_append, List.length_singleton]
      omega
    have em : ∀ x, x ∈ (((s.wr h t.p ((j + 1 : Nat) : Int)).run h t.w).mv h t.r).pa → x ∈ s.pa ∨ x ∈ lot := fun x hx => by
      rw [ep] at hx
      rcases List.mem_append.mp hx with hx | hx
      · rcases List.mem_append.mp hx with hx | hx
        · rcases List.mem_append.mp hx with hx | hx
          · exact .inl hx
          · rw [List.mem_singleton.mp hx]; exact .inr hp
        · exact .inr (hw x hx)
      · rw [List.mem_singleton.mp hx]; exact .inr hr
    cases er : reads h t with
    | true =>
      obtain ⟨z1, z2, z3⟩ := iha (((s.wr h t.p ((j + 1 : Nat) : Int)).run h t.w).mv h t.r) (j + 1) on
      rw [if_pos rfl]
      unfold leaf
      rw [er, if_pos rfl]
      refine ⟨z1, ?_, fun x hx => ?_⟩
      · show _ = _ + ((leaf h a).2 + (t.w.length + 2))
        rw [z2, el]
        omega
      · rcases z3 x hx with z | z
        · exact em x z
        · exact .inr z
    | false =>
      obtain ⟨z1, z2, z3⟩ := ihb (((s.wr h t.p ((j + 1 : Nat) : Int)).run h t.w).mv h t.r) (j + 1) on
      rw [if_neg (by simp)]
      unfold leaf
      rw [er, if_neg (by simp)]
      refine ⟨z1, ?_, fun x hx => ?_⟩
      · show _ = _ + ((leaf h b).2 + (t.w.length + 2))
        rw [z2, el]
        omega
      · rcases z3 x hx with z | z
        · exact em x z
        · exact .inr z
end
end Lk
set_option Elab.async false
set_option linter.all false
set_option maxRecDepth 100000
set_option maxHeartbeats 2000000
/-! The law's data as python data. -/
namespace Lk
open PySem PySem.Spec PyProof.Rows L2 GxR
open C8 (Cal Met Mak pe_c pe_mt pe_mk pe_mt0)
abbrev dN (n : Nat) : Dt := .int n
def dNs (l : List Nat) : Dt := .tup (l.map dN)
def dH (h : Habit) : Dt := .tup (h.map dNs)
def dHs (hs : List Habit) : Dt := .tup (hs.map dH)
def dT (t : Tst) : Dt := .tup [dN t.p, dNs t.w, dN t.r]
def dTree : Tree → Dt
  | .left g => .tup [.str "left", dNs g]
  | .test t a b => .tup [.str "test", dT t, dTree a, dTree b]
def zs (l : List Nat) : List Int := l.map Int.ofNat
theorem dNs_zs (l : List Nat) : dNs l = .tup ((zs l).map Dt.int) := by
  unfold dNs zs
  rw [List.map_map]
  rfl
theorem zs_contains (l : List Nat) (n : Nat) : (zs l).contains (n : Int) = l.contains n := by
  unfold zs
  induction l with
  | nil => rfl
  | cons a l ih =>
    rw [List.map_cons, List.contains_cons, List.contains_cons, ih]
    congr 1
    rw [Bool.eq_iff_iff, beq_iff_eq, beq_iff_eq]
    exact Int.ofNat_inj
section
variable {X : Cx} {e a b c : Expr} {es : List Expr} {Γ : Gam} {H H1 : Hp} {d da db : Dt} {pos : Pos}
theorem ex_ixNs {l : List Nat} {n : Nat} (ha : EX X a Γ H (dNs l)) (hb : EX X b Γ H (dN n)) (h : n < l.length) (hs : PlainIx b := by intro _ _; rfl) : EX X (.Subscript a b pos) Γ H (dN (l.getD n 0)) :=
  ex_ixN ha hb (by rw [List.getElem?_map, List.getElem?_eq_getElem h]; simp [List.getD, List.getElem?_eq_getElem h]) hs
theorem ex_ixH {h : Habit} {n : Nat} (ha : EX X a Γ H (dH h)) (hb : EX X b Γ H (dN n)) (hn : n < h.length) (hs : PlainIx b := by intro _ _; rfl) : EX X (.Subscript a b pos) Γ H (dNs (h.getD n [])) :=
  ex_ixN ha hb (by rw [List.getElem?_map, List.getElem?_eq_getElem hn]; simp [List.getD, List.getElem?_eq_getElem hn]) hs
theorem ex_ixHs {hs : List Habit} {n : Nat} (ha : EX X a Γ H (dHs hs)) (hb : EX X b Γ H (dN n)) (hn : n < hs.length) (hs' : PlainIx b := by intro _ _; rfl) : EX X (.Subscript a b pos) Γ H (dH (Lk.hb hs n)) :=
  ex_ixN ha hb (by rw [List.getElem?_map, List.getElem?_eq_getElem hn]; simp [Lk.hb, List.getD, List.getElem?_eq_getElem hn]) hs'
theorem row_len {P : Nat} {h : Habit} (o : HabOk P h) {p : Nat} (hp : p < P) : (h.getD p []).length = P := (o.row _ (o.getD hp)).1
theorem ex_stp {h : Habit} {P p m : Nat} (o : HabOk P h) (hp : p < P) (hm : m < P) {pos' : Pos} (ha : EX X a Γ H (dH h)) (hb : EX X b Γ H (dN p)) (hc : EX X c Γ H (dN m)) (h1 : PlainIx b := by intro _ _; rfl) (h2 : PlainIx c := by intro _ _; rfl) :
    EX X (.Subscript (.Subscript a b pos') c pos) Γ H (dN (stp h p m)) :=
  ex_ixNs (ex_ixH ha hb (o.len.symm ▸ hp) h1) hc (by rw [row_len o hp]; exact hm) h2
theorem co_inN {l : List Nat} {n : Nat} : CO X .In (dN n) (dNs l) H (l.contains n) := by
  rw [dNs_zs, ← zs_contains]
  exact co_in
theorem co_notinN {l : List Nat} {n : Nat} : CO X .NotIn (dN n) (dNs l) H (!l.contains n) := by
  rw [dNs_zs, ← zs_contains]
  exact co_notin
theorem ex_at {ds : List Dt} {i : Int} {j : Nat} {p : Pos} (ha : EX X a Γ H (.tup ds)) (hd : ds[j]? = some d) {k : Nat} {pb : Pos} (hi : ixN ds.length i = some j := by rfl) : EX X (.Subscript a (.Constant (.int i) k pb) p) Γ H d :=
  ex_ixT ha ex_int hi hd (by intro _ _; rfl)
theorem at0 {d0 : Dt} {ds : List Dt} {p pb : Pos} {k : Nat} (ha : EX X a Γ H (.tup (d0 :: ds))) : EX X (.Subscript a (.Constant (.int 0) k pb) p) Γ H d0 :=
  ex_at (j := 0) ha rfl (by show ixN _ ((0 : Nat) : Int) = some 0; unfold ixN; simp)
theorem at1 {d0 d1 : Dt} {ds : List Dt} {p pb : Pos} {k : Nat} (ha : EX X a Γ H (.tup (d0 :: d1 :: ds))) : EX X (.Subscript a (.Constant (.int 1) k pb) p) Γ H d1 :=
  ex_at (j := 1) ha rfl (by show ixN _ ((1 : Nat) : Int) = some 1; unfold ixN; rw [if_pos (by omega), if_pos (by simp only [List.length_cons]; omega)]; rfl)
theorem at2 {d0 d1 d2 : Dt} {ds : List Dt} {p pb : Pos} {k : Nat} (ha : EX X a Γ H (.tup (d0 :: d1 :: d2 :: ds))) : EX X (.Subscript a (.Constant (.int 2) k pb) p) Γ H d2 :=
  ex_at (j := 2) ha rfl (by show ixN _ ((2 : Nat) : Int) = some 2; unfold ixN; rw [if_pos (by omega), if_pos (by simp only [List.length_cons]; omega)]; rfl)
theorem at3 {d0 d1 d2 d3 : Dt} {ds : List Dt} {p pb : Pos} {k : Nat} (ha : EX X a Γ H (.tup (d0 :: d1 :: d2 :: d3 :: ds))) : EX X (.Subscript a (.Constant (.int 3) k pb) p) Γ H d3 :=
  ex_at (j := 3) ha rfl (by show ixN _ ((3 : Nat) : Int) = some 3; unfold ixN; rw [if_pos (by omega), if_pos (by simp only [List.length_cons]; omega)]; rfl)
end
/-- the names of the top -/
structure Gb (mg : Str → Option Value) : Prop where
  isinstance : mg "isinstance" = none
  tuple : mg "tuple" = none
  int : mg "int" = none
  bool : mg "bool" = none
  str : mg "str" = none
  list : mg "list" = none
  len : mg "len" = none
  all : mg "all" = none
  set : mg "set" = none
  enumerate : mg "enumerate" = none
  zip : mg "zip" = none
  range : mg "range" = none
  sorted : mg "sorted" = none
  max : mg "max" = none
  LEAST_PLACES : ∃ t, mg "LEAST_PLACES" = some (.int 2 t)
  MOST_PLACES : ∃ t, mg "MOST_PLACES" = some (.int 5 t)
  MOST_HABITS : ∃ t, mg "MOST_HABITS" = some (.int 3 t)
  MOST_MANY : ∃ t, mg "MOST_MANY" = some (.int 5 t)
  LEFT : ∃ t, mg "LEFT" = some (.str "left" t)
  TEST : ∃ t, mg "TEST" = some (.str "test" t)
section
variable {X : Cx} {Γ : Gam} {H : Hp} {pos : Pos}
theorem gi {x : Str} {i : Int} (h : ∃ t, X.mg x = some (.int i t)) (hg : Gl X x := by rfl) (hd : (x == ("__debug__" : Str)) = false := by decide) : EX X (.Name x pos) Γ H (.int i) := by
  obtain ⟨t, h⟩ := h
  exact ex_glob h (v := .int i) ⟨t, rfl⟩ (fun _ => .int i) hg hd
theorem gs {x y : Str} (h : ∃ t, X.mg x = some (.str y t)) (hg : Gl X x := by rfl) (hd : (x == ("__debug__" : Str)) = false := by decide) : EX X (.Name x pos) Γ H (.str y) := by
  obtain ⟨t, h⟩ := h
  exact ex_glob h (v := .str y) ⟨t, rfl⟩ (fun _ => .str y) hg hd
end
end Lk
set_option Elab.async false
set_option linter.all false
set_option maxRecDepth 100000
set_option maxHeartbeats 2000000
/-! Dicts whose keys are tuples of numbers. -/
namespace Lk
open PySem PySem.Spec PyProof.Rows L2 GxR
open C8 (Cal Met Mak pe_c pe_mt pe_mk pe_mt0)
def kI (l : List Nat) : List Key := l.map fun n : Nat => (Sum.inl (n : Int) : Key)
theorem kI_kV (l : List Nat) : (kI l).map kV = (zs l).map V.int := by
  unfold kI zs
  rw [List.map_map, List.map_map]
  rfl
theorem kI_inj {k l : List Nat} (h : kI k = kI l) : k = l := by
  unfold kI at h
  refine List.map_inj_right (f := fun n : Nat => (Sum.inl (n : Int) : Key)) (fun a b e => ?_) |>.mp h
  exact Int.ofNat_inj.mp (Sum.inl.inj e)
theorem kI_eq {k l : List Nat} : kI k = kI l ↔ k = l := ⟨kI_inj, fun h => h ▸ rfl⟩
section
variable {α : Type}
def DcR (f : α → Dt) (H : Hp) (kvs : List (List Key × V)) (m : List (List Nat × α)) : Prop := Paired (fun (p : List Key × V) (q : List Nat × α) => p.1 = kI q.1 ∧ Tp H p.2 (f q.2)) kvs m
variable {f : α → Dt} {H H1 : Hp} {kvs : List (List Key × V)} {m : List (List Nat × α)}
theorem DcR.mono (r : DcR f H kvs m) (g : LeT H H1) : DcR f H1 kvs m := Paired.mapP r fun _ _ h => ⟨h.1, h.2.mono g⟩
theorem DcR.length (r : DcR f H kvs m) : kvs.length = m.length := Paired.length r
theorem DcR.val (r : DcR f H kvs m) (k : List Nat) : (lk m k = none ∧ valV kvs (kI k) = none) ∨ ∃ x v, lk m k = some x ∧ valV kvs (kI k) = some v ∧ Tp H v (f x) := by
  unfold DcR at r
  induction r with
  | nil => exact .inl ⟨rfl, rfl⟩
  | @cons p q ps qs h t ih =>
    by_cases e : q.1 = k
    · refine .inr ⟨q.2, p.2, ?_, ?_, h.2⟩
      · simp [lk, List.find?_cons, e]
      · exact valV_pos (by rw [h.1, e])
    · have e2 : ¬ p.1 = kI k := fun z => e (kI_inj (h.1.symm.trans z))
      rw [valV_neg e2]
      have : lk (q :: qs) k = lk qs k := by simp [lk, List.find?_cons, e]
      rw [this]
      exact ih
theorem DcR.got (r : DcR f H kvs m) {k : List Nat} {x : α} (h : lk m k = some x) : ∃ v, valV kvs (kI k) = some v ∧ Tp H v (f x) := by
  rcases r.val k with ⟨a, _⟩ | ⟨y, v, a, b, c⟩
  · rw [a] at h; cases h
  · rw [a] at h; cases h; exact ⟨v, b, c⟩
theorem DcR.isSome (r : DcR f H kvs m) (k : List Nat) : (valV kvs (kI k)).isSome = (lk m k).isSome := by
  rcases r.val k with ⟨a, b⟩ | ⟨y, v, a, b, c⟩ <;> rw [a, b] <;> rfl
theorem any_put (r : DcR f H kvs m) (k : List Nat) : (kvs.any fun kv => decide (kv.1 = kI k)) = (m.any fun q => decide (q.1 = k)) := by
  unfold DcR at r
  induction r with
  | nil => rfl
  | @cons p q ps qs h t ih =>
    rw [List.any_cons, List.any_cons, ih]
    congr 1
    rw [decide_eq_decide, h.1]
    exact kI_eq
theorem DcR.put (r : DcR f H kvs m) {k : List Nat} {v : V} {x : α} (t : Tp H v (f x)) : DcR f H (putK kvs (kI k) v) (Lk.put m k x) := by
  unfold putK Lk.put
  rw [any_put r k]
  split
  · rename_i hx
    clear hx
    unfold DcR at r ⊢
    induction r with
    | nil => exact .nil
    | @cons p q ps qs h tl ih =>
      rw [List.map_cons, List.map_cons]
      refine .cons ?_ ih
      by_cases e : q.1 = k
      · rw [if_pos e, if_pos (by rw [h.1, e])]
        exact ⟨h.1, t⟩
      · rw [if_neg e, if_neg (fun z => e (kI_inj (h.1.symm.trans z)))]
        exact h
  · exact Paired.snoc r ⟨rfl, t⟩
theorem DcR.get (r : DcR f H kvs m) {i : Nat} {k : List Key} {v : V} (h : kvs[i]? = some (k, v)) : ∃ q, m[i]? = some q ∧ k = kI q.1 ∧ Tp H v (f q.2) := by
  unfold DcR at r
  induction r generalizing i with
  | nil => simp at h
  | @cons p q ps qs hh tl ih =>
    cases i with
    | zero =>
      simp at h
      exact ⟨q, rfl, by rw [← hh.1, h], by have := hh.2; rw [h] at this; exact this⟩
    | succ i =>
      simp at h
      obtain ⟨z, a, b, c⟩ := ih h
      exact ⟨z, by simpa using a, b, c⟩
end
theorem Ge.rd {H H1 : Hp} (g : Ge H H1) {a : Addr} {kvs : List (List Key × V)} (h : Rd H a (.dT kvs)) : Rd H1 a (.dT kvs) := by
  rcases h with h | ⟨o, h⟩
  · exact .inl (g.dT h)
  · exact .inr ⟨o, g.at h (fun _ e => nomatch e)⟩
section
variable {α : Type} {fα : α → Dt} {X : Cx} {e a b c : Expr} {es : List Expr} {Γ : Gam} {H H1 : Hp} {d da db : Dt} {pos : Pos} {kvs : List (List Key × V)} {m : List (List Nat × α)} {f : Addr} {k : List Nat} {nx : Gam → Hp → Prop} {rt : Dt → Hp → Prop}
theorem tup_key {v : V} (t : Tp H v (dNs k)) : ∃ p, v = .ref p ∧ H p = some (.tup ((kI k).map kV)) := by
  rw [dNs_zs] at t
  obtain ⟨p, xs, rfl, hp, t⟩ := t.tup_eq
  cases t.ints_eq
  exact ⟨p, rfl, by rw [kI_kV]; exact hp⟩
theorem tx_din {j : Nat} (ha : EX X a Γ H (dNs k)) (hb : EX X b Γ H (.ref f)) (hf : Rd H f (.dT kvs)) (hR : DcR fα H kvs m) (hr : Room j X.A) (h1 : behindInMarks .In b = false := by rfl) : TX X (.Compare a [.In] [b] pos) Γ H (lk m k).isSome := fun σ H1 Q g mm q =>
  RT.of (pt_cmp (pc_din (by have := hr.units; omega) re re) h1) (ha σ H1 _ g mm fun x H2 g2 tx => hb σ H2 _ (g.trans g2) (mm.ge g2) fun y H3 g3 ty => by
    obtain ⟨p, rfl, hp⟩ := tup_key (tx.ge g3)
    exact ⟨f, _, ty.ref_eq, .inr ⟨kvs, kI k, p, ((g.trans g2).trans g3).rd hf, rfl, hp, rfl⟩, _, rfl, by rw [hR.isSome k]; exact q H3 (g2.trans g3)⟩)
theorem tx_dnotin {j : Nat} (ha : EX X a Γ H (dNs k)) (hb : EX X b Γ H (.ref f)) (hf : Rd H f (.dT kvs)) (hR : DcR fα H kvs m) (hr : Room j X.A) (h1 : behindInMarks .NotIn b = false := by rfl) : TX X (.Compare a [.NotIn] [b] pos) Γ H (!(lk m k).isSome) := fun σ H1 Q g mm q =>
  RT.of (pt_cmp (pc_dnotin (by have := hr.units; omega) re re) h1) (ha σ H1 _ g mm fun x H2 g2 tx => hb σ H2 _ (g.trans g2) (mm.ge g2) fun y H3 g3 ty => by
    obtain ⟨p, rfl, hp⟩ := tup_key (tx.ge g3)
    exact ⟨f, _, ty.ref_eq, .inr ⟨kvs, kI k, p, ((g.trans g2).trans g3).rd hf, rfl, hp, rfl⟩, _, rfl, by rw [hR.isSome k]; exact q H3 (g2.trans g3)⟩)
theorem ex_dget {j : Nat} {x : α} (ha : EX X a Γ H (.ref f)) (hb : EX X b Γ H (dNs k)) (hf : Rd H f (.dT kvs)) (hR : DcR fα H kvs m) (hl : lk m k = some x) (hr : Room j X.A) (hs : NoSl b := by intro _ _; rfl) : EX X (.Subscript a b pos) Γ H (fα x) := fun σ H1 Q g mm q =>
  RE.of (pe_dget (by have := hr.units; omega) re re hs) (ha σ H1 _ g mm fun x H2 g2 tx => hb σ H2 _ (g.trans g2) (mm.ge g2) fun y H3 g3 ty => by
    obtain ⟨p, rfl, hp⟩ := tup_key ty
    obtain ⟨v, hv, tv⟩ := hR.got hl
    exact ⟨f, v, (tx.ge g3).ref_eq, .inr ⟨kvs, kI k, p, ((g.trans g2).trans g3).rd hf, rfl, hp, hv.symm⟩, q v H3 (g2.trans g3) (tv.ge ((g.trans g2).trans g3))⟩)
/-- found[k] = e -/
theorem sx_dput {j : Nat} {x : α} {pos' : Pos} (hv : EX X e Γ H (fα x)) (ha : EX X a Γ H (.ref f)) (hb : EX X b Γ H (dNs k)) (hf : H f = some (.dT kvs)) (hR : DcR fα H kvs m) (hl : m.length < sizeLine)
    (q : ∀ H1 kvs', GeX [f] H H1 → H1 f = some (.dT kvs') → DcR fα H1 kvs' (put m k x) → nx Γ H1) (hr : Room j X.A) (hs : swapsWith e (some (.Subscript a b pos')) pos.line X.env = pure false := by rfl) : SX X (.Assign [.Subscript a b pos'] e pos) Γ H nx rt := fun σ mm =>
  RS.of (ps_dput (by have := hr.units; omega) re re re hs) (hv σ H _ (Ge.refl _) mm fun v H1 g1 tv => ha σ H1 _ g1 (mm.ge g1) fun o H2 g2 to => hb σ H2 _ (g1.trans g2) ((mm.ge g1).ge g2) fun i H3 g3 ti => by
    obtain ⟨p, rfl, hp⟩ := tup_key ti
    have g := (g1.trans g2).trans g3
    have hf3 := g.dT hf
    have lt : LeT H3 (upd H3 f (.dT (putK kvs (kI k) v))) := LeT.upd fun xs h => by rw [hf3] at h; cases h
    refine ⟨f, _, (to.ge g3).ref_eq, DPut.t hf3 hp (by rw [hR.length]; exact hl), Γ, (mm.ge g).mono lt, ?_⟩
    exact q _ _ ((g.x [f]).trans GeX.set) upd_same (((hR.mono g.t).put (tv.ge (g2.trans g3))).mono lt))
theorem mx_dnew {K : Dt → Hp → Prop} (q : ∀ f H1, Ge H H1 → H f = none → H1 f = some (.dT []) → K (.ref f) H1) : MX X (.Dict [] [] pos) Γ H K := fun σ mm =>
  RE.of pe_dnewT fun p hp => ⟨.ref p, .ref p, mm.ge (Ge.new hp), q p _ (Ge.new hp) hp upd_same⟩
end
/-! ### walks over such a dict (it is locked from then on) -/
def FrzD (d : Addr) (kvs : List (List Key × V)) (H H' : Hp) : Prop := GeX [d] H H' ∧ ∃ o, H' d = some (.frz o (.dT kvs))
def keepD' (d : Addr) (H H' : Hp) : Prop := LeT H H' ∧ H' d = H d
/-- the pairs, each a new tuple -/
def Itit (d : Addr) (o : Obj) (kvs : List (List Key × V)) : It :=
  ⟨fun i H => H d = some (.frz o (.dT kvs)) ∧ i < kvs.length, fun i H x H' => ∃ T k v q, kvs[i]? = some (k, v) ∧ x = .ref T ∧ H T = none ∧ H' = upd H T (.tup [.ref q, v]) ∧ H q = some (.tup (k.map kV)), fun i H => H d = some (.frz o (.dT kvs)) ∧ kvs.length ≤ i⟩
section
variable {pins : List (Addr × Obj)} {σ : L2.St} {H : Hp} {s : Shared} {X : Cx} {d : Addr} {o : Obj}
theorem frzT2 {kvs : List (List Key × V)} (I : Inv X pins σ H s) (h : H d = some (.frz o (.dT kvs))) :
    (d == sysModules) = false ∧ ∃ (es : Array DictEntry) (ep : Nat), s.heap.DictRaw d es ep ∧ o.data = .dict es ep ∧ es.size = kvs.length ∧
      ∀ (i : Nat) (k : List Key) (v : V), kvs[i]? = some (k, v) → ∃ (en : DictEntry) (q : Addr), es[i]? = some en ∧ en.key = .ref q ∧ H q = some (.tup (k.map kV)) ∧ RelV v en.val := by
  obtain ⟨hd, z, hs, xs, pr, o', es, ep, ho, hx, hdt, he, _⟩ := I.hok d _ h
  have hd0 := hd
  rw [hd] at ho
  cases ho
  refine ⟨hs, es, ep, ⟨o, hd0, hx, hdt⟩, hdt, ?_, fun i k v e => ?_⟩
  · have l1 : es.size = xs.length := by rw [← Array.length_toList, he, List.length_map]
    have l2 : kvs.length = xs.length := Paired.length pr
    omega
  · obtain ⟨b, hb, e1, e2, e3⟩ := paired_get pr e
    have q := entry_at he i
    rw [hb] at q
    exact ⟨_, b.2.1, q, rfl, e2, e3⟩
end
theorem turn_itemsT {P : Program} {w : World} {K : PySem.W.Frag} {d : Addr} {o : Obj} {es : Array DictEntry} {ep : Nat} {kvs : List (List Key × V)} {elts : List Expr} {kk : Nat} {tpos : Pos} (it : Addr) (hod : o.data = .dict es ep) :
    Turn P w K (.Tuple elts kk tpos) (Itit d o kvs) [it] it (fun i h => ∃ ok ov, IsItemIter h it d i kvs.length ep ok ov) where
  mem := by simp
  obj := fun i h st b hb => by
    have e : b = it := by simpa using hb
    subst e
    obtain ⟨ok, ov, e⟩ := st
    exact ⟨_, e, fun v z => nomatch z⟩
  keep := fun i h h' st k => let ⟨ok, ov, e⟩ := st; ⟨ok, ov, k it (by simp) _ e⟩
  item := by
    intro X hP hw hK hc i pins s σ H E I hf st hg
    subst hP hw hK
    obtain ⟨hd, hi⟩ := hg
    obtain ⟨hs, es', ep', hm, hdt, hsz, ent⟩ := frzT2 I hd
    obtain ⟨rfl, rfl⟩ := dict_ep hod hdt
    obtain ⟨⟨k, v⟩, hkv⟩ : ∃ p, kvs[i]? = some p := ⟨kvs[i], List.getElem?_eq_getElem hi⟩
    obtain ⟨en, q, hen, hkey, hq, rv⟩ := ent i k v hkv
    obtain ⟨ok, ov, he⟩ := st
    rw [← hsz] at he
    have hlt : it < s.heap.objs.size := Heap.lt_size he
    have hi2 : i < es'.size := by omega
    have een : es'[i] = en := by
      rw [Array.getElem?_eq_getElem hi2] at hen
      exact Option.some.inj hen
    refine wpAny_pyNext_items_item_raw he hm hi2 fun h' ho hT hz hk => ?_
    rw [een, hkey] at hT
    refine ⟨_, rfl, wpAny_letOwnedTupleGo_items (s := { s with heap := h' }) ho fun h'' he' sb => ?_⟩
    have hT2 : h''.get? s.heap.objs.size = some { cls := .type "tuple", data := .seq #[.ref q, en.val] } := (sb.2 _ (Nat.ne_of_gt hlt)).trans hT
    have new : ObjOk X.prog X.w (upd H s.heap.objs.size (.tup [.ref q, v])) h'' s.heap.objs.size (.tup [.ref q, v]) :=
      ⟨by show 2 ≤ sizeLine; decide, [.ref q, en.val], .cons rfl (.cons rv .nil), ⟨_, hT2, rfl, _, rfl⟩⟩
    have I1 : Inv X pins σ (upd H s.heap.objs.size (.tup [.ref q, v])) { s with heap := h'' } :=
      I.turnedNew (t' := s.toks) (ch := [it]) (fun b ob hb e => (sb.2 b (by simpa using hb)).trans (hk b ob (by simpa using hb) e)) hf (Nat.le_refl _) new
    refine ⟨.ref s.heap.objs.size, _, I1, rfl, ⟨_, k, v, q, hkv, rfl, I.hok.fresh (Nat.le_refl _), rfl, hq⟩, ⟨es'[i].key, es'[i].val, ?_⟩, fun b hb => ?_⟩
    · rw [hsz] at he'; exact he'
    · have e : b = it := by simpa using hb
      rw [e, upd_ne (Nat.ne_of_lt hlt)]
      exact (hf it (by simp)).1
  done := by
    intro X hP hw hK hc i pins s σ H E I hf st hg
    subst hP hw hK
    obtain ⟨hd, hi⟩ := hg
    obtain ⟨f0, f1, f2, f3, f4, f5⟩ := hf it (by simp)
    obtain ⟨hs, es', ep', hm, hdt, hsz, ent⟩ := frzT2 I hd
    obtain ⟨rfl, rfl⟩ := dict_ep hod hdt
    obtain ⟨ok, ov, he⟩ := st
    rw [← hsz] at he
    exact wpAny_pyNext_items_end_raw (I.ok.hd hc) he hm (by omega) fun h' eb => ⟨rfl, I.turned (t' := s.toks) (fun b ob hb e => eb b ob hb e) f0 f1 f3 f4 f5⟩
  self := fun A i s Q E st h => let ⟨_, _, e⟩ := st; PySem.W.kcp_self e h
def iKeysL (td : TE) : TI := fun σ H R => td σ H fun x H1 => ∃ d kvs, x = .ref d ∧ H1 d = some (.dT kvs) ∧ ∀ o, R (Itkt d o kvs) (upd H1 d (.frz o (.dT kvs)))
def iItemsL (td : TE) : TI := fun σ H R => td σ H fun x H1 => ∃ d kvs, x = .ref d ∧ H1 d = some (.dT kvs) ∧ ∀ o, R (Itit d o kvs) (upd H1 d (.frz o (.dT kvs)))
section
variable {X : Cx} {tg e : Expr} {td : TE} {apos cpos : Pos}
theorem pi_itemsL {elts : List Expr} {kk : Nat} {tpos : Pos} (he : PE X e td) (hbase : attributeBase e "items" X.env (eval e X.env) = eval e X.env := by rfl) (hline : (apos.endLine == cpos.line) = true := by rfl) :
    PI X (.Tuple elts kk tpos) (.Call (.Attribute e "items" apos) [] [] cpos) (iItemsL td) := by
  refine ⟨fun pins s σ H R I h => ?_⟩
  refine wpAny_Call_method (T := "dict") (id := "dict.items") hbase rfl hline F.plainAttrs_dict F.slot_dict_items F.type_dict_items (thn (he.run pins s σ H _ I h) fun u s1 ⟨x, H1, I1, rx, d, kvs, ex, hd, q⟩ => ?_)
  subst ex
  obtain rfl : u = Value.ref d := rx
  obtain ⟨o, I1⟩ := I1.lock hd (by trivial)
  have q := q o
  obtain ⟨hs, es, ep, hm, hdt, hsz, ent⟩ := frzT2 I1 upd_same
  refine ⟨hm.typeIs, fun b hb => by obtain ⟨ob, h1, h2, _⟩ := id hm; cases hb; exact ⟨ob, h1, h2.2.1⟩, ?_⟩
  have I2 : Inv X pins σ _ { s1 with heap := s1.heap.push { cls := .type "dict_items", data := .fields #[.ref d] } } := I1.kept (t' := s1.toks) fun b ob q => Heap.get?_push_of_some _ q
  have hm2 : (s1.heap.push { cls := .type "dict_items", data := .fields #[.ref d] }).DictRaw d es ep := hm.at fun _ e => Heap.get?_push_of_some _ e
  have fin : wpAny (model X.prog X.w) X.A (pyIter (.ref s1.heap.objs.size)) (PIE X pins σ (.Tuple elts kk tpos) R) X.xe { s1 with heap := s1.heap.push { cls := .type "dict_items", data := .fields #[.ref d] } } := by
    refine wpAny_pyIter_items_raw (d := d) ⟨_, Heap.get?_push_size _ rfl, rfl, rfl⟩ hm2 (pi_one (tk := s1.toks) I2 _ (turn_itemsT _ hdt) ⟨.none, .none, ?_⟩ q)
    rw [← hsz]
    exact Heap.get?_push_size _ rfl
  show wpAny _ _ (callWith cpos (.builtin "dict.items") [.ref d] [] []) _ X.xe s1
  exact method_meetsIn F.slot_dict_items F.entry_dict_items rfl (PySem.evalArgs_none ⟨rfl, hm.typeIs, F.args_dict_items_1 _, _, meets_dict_items_raw d hs, ⟨es, ep, hm⟩, fin⟩)
theorem pi_keysL (he : PE X e td) (hbase : attributeBase e "keys" X.env (eval e X.env) = eval e X.env := by rfl) (hline : (apos.endLine == cpos.line) = true := by rfl) :
    PI X tg (.Call (.Attribute e "keys" apos) [] [] cpos) (iKeysL td) := by
  refine ⟨fun pins s σ H R I h => ?_⟩
  refine wpAny_Call_method (T := "dict") (id := "dict.keys") hbase rfl hline F.plainAttrs_dict F.slot_dict_keys F.type_dict_keys (thn (he.run pins s σ H _ I h) fun u s1 ⟨x, H1, I1, rx, d, kvs, ex, hd, q⟩ => ?_)
  subst ex
  obtain rfl : u = Value.ref d := rx
  obtain ⟨o, I1⟩ := I1.lock hd (by trivial)
  have q := q o
  obtain ⟨hs, es, ep, hm, hdt, hsz, ent⟩ := frzT2 I1 upd_same
  refine ⟨hm.typeIs, fun b hb => by obtain ⟨ob, h1, h2, _⟩ := id hm; cases hb; exact ⟨ob, h1, h2.2.1⟩, ?_⟩
  have I2 : Inv X pins σ _ { s1 with heap := s1.heap.push { cls := .type "dict_keys", data := .fields #[.ref d] } } := I1.kept (t' := s1.toks) fun b ob q => Heap.get?_push_of_some _ q
  have hm2 : (s1.heap.push { cls := .type "dict_keys", data := .fields #[.ref d] }).DictRaw d es ep := hm.at fun _ e => Heap.get?_push_of_some _ e
  have fin : wpAny (model X.prog X.w) X.A (pyIter (.ref s1.heap.objs.size)) (PIE X pins σ tg R) X.xe { s1 with heap := s1.heap.push { cls := .type "dict_keys", data := .fields #[.ref d] } } := by
    refine wpAny_pyIter_keys_raw (d := d) ⟨_, Heap.get?_push_size _ rfl, rfl, rfl⟩ hm2 (pi_one (tk := s1.toks) I2 _ (turn_keysT _ hdt) ⟨_, Heap.get?_push_size _ rfl, rfl, ?_⟩ q)
    rw [← hsz] <;> rfl
  show wpAny _ _ (callWith cpos (.builtin "dict.keys") [.ref d] [] []) _ X.xe s1
  exact method_meetsIn F.slot_dict_keys F.entry_dict_keys rfl (PySem.evalArgs_none ⟨rfl, hm.typeIs, F.args_dict_keys_1 _, _, meets_dict_keys_raw d hs, ⟨es, ep, hm⟩, fin⟩)
end
def keepF (H H' : Hp) : Prop := LeT H H' ∧ ∀ a o u, H a = some (.frz o u) → H' a = some (.frz o u)
theorem Ge.keepF {H H' : Hp} (g : Ge H H') : keepF H H' := ⟨g.t, fun a o u h => g.at h (fun _ e => nomatch e)⟩
theorem lock_ge {H H1 : Hp} {d : Addr} {o : HO} (g : Ge H H1) (n : H d = none) : Ge H (upd H1 d o) := fun b u hb e => by
  have hne : b ≠ d := ne_of_none e n
  exact (g b u hb e).trans fun u' e' => Keep.of_eq (by rw [upd_ne hne]; exact e')
section
variable {α : Type} {fα : α → Dt} {X : Cx} {e a b c : Expr} {es : List Expr} {Γ : Gam} {H H1 : Hp} {d da db : Dt} {pos : Pos} {kvs : List (List Key × V)} {m : List (List Nat × α)} {f : Addr} {k : List Nat} {nx : Gam → Hp → Prop} {rt : Dt → Hp → Prop}
theorem src_keys {i : Nat} {x : Str} {px apos cpos : Pos} (he : EX X e Γ H (.ref f)) (hf : H f = some (.dT kvs)) (hR : DcR fα H kvs m) (hbase : attributeBase e "keys" X.env (eval e X.env) = eval e X.env := by rfl) (hline : (apos.endLine == cpos.line) = true := by rfl) :
    SRCp (FrzD f kvs) X (.Name x px) (.Call (.Attribute e "keys" apos) [] [] cpos) (gName i) Γ H m.length [i] (fun k Γ => Γ.set i (m[k]?.map fun q => dNs q.1)) keepF := by
  refine ⟨_, pi_keysL re hbase hline, fun σ H1 R g mm q => he σ H1 _ g mm fun v H2 g2 tv => ⟨f, kvs, tv.ref_eq, g2.dT (g.dT hf), fun o => ?_⟩⟩
  have hf2 := g2.dT (g.dT hf)
  refine q _ _ ⟨(g2.x [f]).trans GeX.set, o, upd_same⟩ ⟨_, _, hR.length ▸ walk_keysT (kvs := kvs), fun H3 kp => kp.2 _ _ _ upd_same, ?_⟩
  rintro k x H3 H4 σ' Γ' Q hk kp m' ⟨rfl, k0, v0, q0, hkv, rfl, hq0⟩ q
  obtain ⟨z, hz, rfl, tz⟩ := hR.get hkv
  simp only [hz, Option.map_some] at q
  refine q _ _ (Ge.refl _) (m'.set ?_ i) wipe_name
  rw [dNs_zs]
  rw [kI_kV] at hq0
  exact .tup hq0 (Tp.ints _)
theorem src_items {i j l : Nat} {x y z : Str} {px py pz pt pt2 apos cpos : Pos} {kt kt2 : Nat} {g1 g2 : α → Dt} (hfα : ∀ x, fα x = .tup [g1 x, g2 x]) (he : ∀ H1, Ge H H1 → MX X e Γ H1 (fun d' H2 => ∃ f kvs, d' = .ref f ∧ Ge H1 H2 ∧ H1 f = none ∧ H2 f = some (.dT kvs) ∧ DcR fα H2 kvs m))
    (hbase : attributeBase e "items" X.env (eval e X.env) = eval e X.env := by rfl) (hline : (apos.endLine == cpos.line) = true := by rfl) :
    SRC X (.Tuple [.Name x px, .Tuple [.Name y py, .Name z pz] kt pt] kt2 pt2) (.Call (.Attribute e "items" apos) [] [] cpos) (gTup X.K 2 (gCons (gName i) (gCons (gTup X.K 2 (gCons (gName j) (gCons (gName l) gNil))) gNil))) Γ H m.length [i, j, l]
      (fun k Γ => ((Γ.set i (m[k]?.map fun q => dNs q.1)).set j (m[k]?.map fun q => g1 q.2)).set l (m[k]?.map fun q => g2 q.2)) keepF := by
  refine ⟨_, pi_itemsL re hbase hline, fun σ H1 R g mm q => (he H1 g σ mm).mono fun v H2 ⟨d', tv, m2, f, kvs, ed, g2', nf, hf2, hR⟩ => ?_⟩
  subst ed
  refine ⟨f, kvs, tv.ref_eq, hf2, fun o => ?_⟩
  refine q _ _ (lock_ge g2' nf) ⟨fun H => H f = some (.frz o (.dT kvs)), fun i H x H' => ∃ T k v q, kvs[i]? = some (k, v) ∧ x = .ref T ∧ H T = none ∧ H' = upd H T (.tup [.ref q, v]) ∧ H q = some (.tup (k.map kV)), ?_, fun H3 kp => kp.2 _ _ _ upd_same, ?_⟩
  · rw [← hR.length]
    exact ⟨fun _ _ hi q => ⟨q, hi⟩, fun _ q => ⟨q, Nat.le_refl _⟩, fun _ _ _ _ _ _ y => y⟩
  · rintro k x H3 H4 σ' Γ' Q hk kp m' ⟨T, k0, v0, q0, hkv, rfl, hT, rfl, hq0⟩ q
    obtain ⟨z, hz, rfl, tz⟩ := hR.get hkv
    simp only [hz, Option.map_some] at q
    rw [hfα] at tz
    obtain ⟨p, xs, rfl, hp, ta⟩ := tz.tup_eq
    obtain ⟨v1, v2, rfl, t1, t2⟩ := tpa2 ta
    have lk2 : LeT H2 (upd H2 f (.frz o (.dT kvs))) := LeT.upd fun xs h => by rw [hf2] at h; cases h
    have ltT : LeT H3 (upd H3 T (.tup [.ref q0, .ref p])) := (Ge.new hT).t
    have lt2 : LeT H2 (upd H3 T (.tup [.ref q0, .ref p])) := (lk2.trans kp.1).trans ltT
    have tk : Tp (upd H3 T (.tup [.ref q0, .ref p])) (.ref q0) (dNs z.1) := by
      rw [dNs_zs]
      rw [kI_kV] at hq0
      exact .tup (ltT _ _ hq0) (Tp.ints _)
    refine ⟨T, _, rfl, SqT.of upd_same, rfl, _, _, rfl, _, _, rfl, p, _, SqT.of (lt2 _ _ hp) |> fun h => ⟨rfl, h, rfl, _, _, rfl, _, _, rfl, rfl, rfl, ?_⟩⟩
    refine q _ _ (Ge.new hT) ((((m'.ge (Ge.new hT)).set tk i).set (t1.mono lt2) j).set (t2.mono lt2) l) fun vs h => ?_
    rw [wipe_set (h l (by simp)), wipe_set (h j (by simp)), wipe_set (h i (by simp))]
theorem pg_items {i j l : Nat} {x y z : Str} {px py pz pt pt2 : Pos} {kt kt2 : Nat} (hc : X.calm = true) (hN : X.N.Nodup) (hi : X.N[i]? = some x) (hj : X.N[j]? = some y) (hl : X.N[l]? = some z) (hx : Loc X.env.scope x) (hy : Loc X.env.scope y) (hz : Loc X.env.scope z)
    (hf : X.fn x = true ∨ X.env.scope.names.lookup x = some .local) (hf2 : X.fn y = true ∨ X.env.scope.names.lookup y = some .local) (hf3 : X.fn z = true ∨ X.env.scope.names.lookup z = some .local)
    (a1 : (assignEach [.Name y py, .Name z pz] X.env).length = 2 := by rfl) (a2 : (assignEach [.Name y py, .Name z pz] X.env).findIdx? (·.1) = none := by rfl)
    (a3 : (assignEach (.Name y py :: [.Name z pz]) X.env).map (·.2) = assign (.Name y py) X.env :: (assignEach [.Name z pz] X.env).map (·.2) := by rfl)
    (a4 : (assignEach (.Name z pz :: []) X.env).map (·.2) = assign (.Name z pz) X.env :: (assignEach [] X.env).map (·.2) := by rfl)
    (b1 : (assignEach [.Name x px, .Tuple [.Name y py, .Name z pz] kt pt] X.env).length = 2 := by rfl) (b2 : (assignEach [.Name x px, .Tuple [.Name y py, .Name z pz] kt pt] X.env).findIdx? (·.1) = none := by rfl)
    (b3 : (assignEach (.Name x px :: [.Tuple [.Name y py, .Name z pz] kt pt]) X.env).map (·.2) = assign (.Name x px) X.env :: (assignEach [.Tuple [.Name y py, .Name z pz] kt pt] X.env).map (·.2) := by rfl)
    (b4 : (assignEach (.Tuple [.Name y py, .Name z pz] kt pt :: []) X.env).map (·.2) = assign (.Tuple [.Name y py, .Name z pz] kt pt) X.env :: (assignEach [] X.env).map (·.2) := by rfl) :
    PG X (.Tuple [.Name x px, .Tuple [.Name y py, .Name z pz] kt pt] kt2 pt2) (gTup X.K 2 (gCons (gName i) (gCons (gTup X.K 2 (gCons (gName j) (gCons (gName l) gNil))) gNil))) :=
  pg_tup hc (pgs_cons (pg_name hN hi hx hf) (pgs_cons (pg_tup hc (pgs_cons (pg_name hN hj hy hf2) (pgs_cons (pg_name hN hl hz hf3) pgs_nil a4) a3) a1 a2) pgs_nil b4) b3) b1 b2
end
end Lk
set_option Elab.async false
set_option linter.all false
set_option maxRecDepth 100000
set_option maxHeartbeats 2000000
/-! Equality of tuples and lists by data; lists at work. -/
namespace Lk
open PySem PySem.Spec PyProof.Rows L2 GxR
open C8 (Cal Met Mak pe_c pe_mt pe_mk pe_mt0)
def rEqM (K : PySem.W.Frag) (neg : Bool) : R2 := fun x y H Q => ∃ d e, Dp K H x d ∧ Dp K H y e ∧ d.canLay0 = true ∧ e.canLay0 = true ∧ min d.depth e.depth ≤ 64 ∧ Q (.bl (if neg then !PyData.eqv d e else PyData.eqv d e)) H
section
variable {X : Cx}
theorem op_eqM {k : Nat} (hr : Room k X.A) : OpR X (compareOp .Eq) (rEqM X.K false) := by
  intro pins s σ H x y v u Q I rx ry h
  obtain ⟨d, e, hd, he, sd, se, hm, q⟩ := h
  obtain ⟨as, r1⟩ := Dp.reads I d x v hd rx
  obtain ⟨bs, r2⟩ := Dp.reads I e y u he ry
  exact SeqAt.compareEq_reads r1 r2 sd se (by have := hr.units; omega) ⟨.bl _, H, I, rfl, q⟩
theorem op_neM {k : Nat} (hr : Room k X.A) : OpR X (compareOp .NotEq) (rEqM X.K true) := by
  intro pins s σ H x y v u Q I rx ry h
  obtain ⟨d, e, hd, he, sd, se, hm, q⟩ := h
  obtain ⟨as, r1⟩ := Dp.reads I d x v hd rx
  obtain ⟨bs, r2⟩ := Dp.reads I e y u he ry
  exact SeqAt.compareNe_reads r1 r2 sd se (by have := hr.units; omega) ⟨.bl _, H, I, rfl, q⟩
end
/-- a datum of numbers, strings and tuples -/
structure Pur (d : Dt) : Prop where
  n : noRef d = true
  c : (toPy d).canLay0 = true
structure PurA (ds : List Dt) : Prop where
  n : noRef.noRefL ds = true
  c : PyData.canLayAll0 (toPy.toPyL ds) = true
theorem PurA.nil : PurA [] := ⟨rfl, rfl⟩
theorem PurA.cons {d : Dt} {ds : List Dt} (h : Pur d) (t : PurA ds) : PurA (d :: ds) :=
  ⟨by show (noRef d && noRef.noRefL ds) = true; rw [h.n, t.n]; rfl, by show PyData.canLayAll0 (toPy d :: toPy.toPyL ds) = true; unfold PyData.canLayAll0; rw [h.c, t.c]; rfl⟩
theorem PurA.all : ∀ {ds : List Dt}, (∀ d ∈ ds, Pur d) → PurA ds
  | [], _ => PurA.nil
  | d :: ds, h => PurA.cons (h d List.mem_cons_self) (PurA.all fun e m => h e (List.mem_cons_of_mem _ m))
theorem Pur.tup {ds : List Dt} (h : PurA ds) : Pur (.tup ds) := ⟨h.n, by show PyData.canLay0 (.tuple (toPy.toPyL ds)) = true; unfold PyData.canLay0; exact h.c⟩
theorem Pur.int (i : Int) : Pur (.int i) := ⟨rfl, by simp [toPy, PyData.canLay0]⟩
theorem Pur.str {x : Str} (h : PyData.strOk x = true) : Pur (.str x) := ⟨rfl, by simp [toPy, PyData.canLay0, h]⟩
theorem Pur.dNs (l : List Nat) : Pur (dNs l) := Pur.tup (PurA.all fun d m => by
  obtain ⟨n, _, rfl⟩ := List.mem_map.mp m
  exact Pur.int _)
theorem Pur.dT (t : Tst) : Pur (dT t) := Pur.tup (.cons (Pur.int _) (.cons (Pur.dNs _) (.cons (Pur.int _) .nil)))
theorem Pur.dTree : ∀ t : Tree, Pur (dTree t)
  | .left g => Pur.tup (.cons (Pur.str (by decide +kernel)) (.cons (Pur.dNs _) .nil))
  | .test t a b => Pur.tup (.cons (Pur.str (by decide +kernel)) (.cons (Pur.dT _) (.cons (Pur.dTree a) (.cons (Pur.dTree b) .nil))))
theorem eqv_ints (a b : List Nat) : PyData.eqvAll (toPy.toPyL (a.map dN)) (toPy.toPyL (b.map dN)) = decide (a = b) := by
  induction a generalizing b with
  | nil => cases b <;> simp [toPy.toPyL, PyData.eqvAll]
  | cons x a ih =>
    cases b with
    | nil => simp [toPy.toPyL, PyData.eqvAll]
    | cons y b =>
      show PyData.eqvAll (toPy (dN x) :: toPy.toPyL (a.map dN)) (toPy (dN y) :: toPy.toPyL (b.map dN)) = _
      unfold PyData.eqvAll
      rw [ih b]
      show (PyData.eqv (.int x) (.int y) && _) = _
      unfold PyData.eqv
      rw [Bool.eq_iff_iff, Bool.and_eq_true, beq_iff_eq, decide_eq_true_iff, decide_eq_true_iff]
      constructor
      · rintro ⟨h1, h2⟩
        rw [Int.ofNat_inj.mp h1, h2]
      · intro h
        injection h with h1 h2
        exact ⟨by rw [h1], h2⟩
theorem eqv_dNs (a b : List Nat) : PyData.eqv (toPy (dNs a)) (toPy (dNs b)) = decide (a = b) := by
  show PyData.eqv (.tuple (toPy.toPyL (a.map dN))) (.tuple (toPy.toPyL (b.map dN))) = _
  unfold PyData.eqv
  exact eqv_ints a b
theorem depth_dNs (a : List Nat) : (toPy (dNs a)).depth ≤ 1 := by
  show PyData.depth (.tuple (toPy.toPyL (a.map dN))) ≤ 1
  unfold PyData.depth
  have : PyData.depthAll (toPy.toPyL (a.map dN)) = 0 := by
    induction a with
    | nil => simp [toPy.toPyL, PyData.depthAll]
    | cons x a ih =>
      show PyData.depthAll (toPy (dN x) :: toPy.toPyL (a.map dN)) = 0
      unfold PyData.depthAll
      rw [ih]
      show max (PyData.depth (.int x)) 0 = 0
      unfold PyData.depth
      rfl
  omega
section
variable {X : Cx} {e a b c : Expr} {es : List Expr} {Γ : Gam} {H H1 : Hp} {d da db : Dt} {pos : Pos} {nx : Gam → Hp → Prop} {rt : Dt → Hp → Prop}
theorem co_eqM {k : Nat} (hr : Room k X.A) (p1 : Pur da) (p2 : Pur db) (hm : min (toPy da).depth (toPy db).depth ≤ 64) : CO X .Eq da db H (PyData.eqv (toPy da) (toPy db)) :=
  ⟨_, op_eqM hr, fun x y H2 Q g tx ty q => ⟨_, _, tx.dp p1.n, ty.dp p2.n, p1.c, p2.c, hm, q _ _ (Ge.refl _) (.bl _)⟩⟩
theorem co_neM {k : Nat} (hr : Room k X.A) (p1 : Pur da) (p2 : Pur db) (hm : min (toPy da).depth (toPy db).depth ≤ 64) : CO X .NotEq da db H (!PyData.eqv (toPy da) (toPy db)) :=
  ⟨_, op_neM hr, fun x y H2 Q g tx ty q => ⟨_, _, tx.dp p1.n, ty.dp p2.n, p1.c, p2.c, hm, q _ _ (Ge.refl _) (.bl _)⟩⟩
theorem co_eqNs {k : Nat} (hr : Room k X.A) {l m : List Nat} : CO X .Eq (dNs l) (dNs m) H (decide (l = m)) := by
  rw [← eqv_dNs]
  exact co_eqM hr (Pur.dNs _) (Pur.dNs _) (by have := depth_dNs l; omega)
theorem co_neNs {k : Nat} (hr : Room k X.A) {l m : List Nat} : CO X .NotEq (dNs l) (dNs m) H (!decide (l = m)) := by
  rw [← eqv_dNs]
  exact co_neM hr (Pur.dNs _) (Pur.dNs _) (by have := depth_dNs l; omega)
theorem ex_nil {x1} : EX X (.Tuple [] x1 pos) Γ H (dNs []) := ex_tup ax_nil
/-- a list, new or old -/
def LD (X : Cx) (e : Expr) (Γ : Gam) (H : Hp) (ds : List Dt) : Prop := ∀ (σ : L2.St) (H1 : Hp) (Q : VK), Ge H H1 → Gm H1 σ Γ → (∀ l vs H2, Ge H1 H2 → H2 l = some (.lst vs) → TpA H2 vs ds → Q (.ref l) H2) → RE X e σ H1 Q
theorem LX.ld {ds : List Dt} (h : LX X e Γ H ds) : LD X e Γ H ds := fun σ H1 Q g m q => h σ H1 Q g m fun l vs H2 g2 _ hl t => q l vs H2 g2 hl t
theorem ld_ref {l : Addr} {vs : List V} {ds : List Dt} (h : EX X e Γ H (.ref l)) (hl : H l = some (.lst vs)) (t : TpA H vs ds) : LD X e Γ H ds := fun σ H1 Q g m q =>
  h σ H1 Q g m fun v H2 g2 tv => by rw [tv.ref_eq]; exact q l vs H2 g2 ((g.trans g2).lst hl) (t.ge (g.trans g2))
theorem eqv_nil (ds : List Dt) : PyData.eqv (.list (toPy.toPyL ds)) (.list []) = ds.isEmpty := by
  cases ds with
  | nil => simp [toPy.toPyL, PyData.eqv, PyData.eqvAll]
  | cons d ds =>
    show PyData.eqv (.list (toPy d :: toPy.toPyL ds)) (.list []) = false
    simp [PyData.eqv, PyData.eqvAll]
theorem list_cmp {ds : List Dt} {neg : Bool} {σ : L2.St} {H1 : Hp} {Q : VK} {pb : Pos} (h : LD X a Γ H ds) (p : PurA ds) (g : Ge H H1) (m : Gm H1 σ Γ) (q : ∀ H2, Ge H1 H2 → Q (.bl (if neg then !ds.isEmpty else ds.isEmpty)) H2) :
    tOp (rEqM X.K neg) (RE X a) (RE X (.List [] pb)) σ H1 Q :=
  h σ H1 _ g m fun l vs H2 g2 hl t => RE.of (pe_lst pa_nil) ⟨Nat.zero_le _, fun r hr => by
    have g3 : Ge H2 (upd H2 r (.lst [])) := Ge.new hr
    refine ⟨.list (toPy.toPyL ds), .list [], .lst (SqL.of (g3.lst hl)) ((t.ge g3).dp p.n), .lst (SqL.of upd_same) .nil, ?_, ?_, ?_, ?_⟩
    · unfold PyData.canLay0; exact p.c
    · simp [PyData.canLay0, PyData.canLayAll0]
    · have : (PyData.list []).depth = 1 := by simp [PyData.depth, PyData.depthAll]
      omega
    · rw [eqv_nil]
      exact q _ (g2.trans g3)⟩
theorem tx_neL {k : Nat} {ds : List Dt} {pb : Pos} (hr : Room k X.A) (h : LD X a Γ H ds) (p : PurA ds) (hm : behindInMarks .NotEq (.List [] pb) = false := by rfl) : TX X (.Compare a [.NotEq] [.List [] pb] pos) Γ H (!ds.isEmpty) := fun σ H1 Q g m q =>
  RT.of (pt_cmpR (op_neM hr) re re hm) (list_cmp (neg := true) h p g m fun H2 g2 => ⟨_, rfl, q H2 g2⟩)
theorem tx_eqL {k : Nat} {ds : List Dt} {pb : Pos} (hr : Room k X.A) (h : LD X a Γ H ds) (p : PurA ds) (hm : behindInMarks .Eq (.List [] pb) = false := by rfl) : TX X (.Compare a [.Eq] [.List [] pb] pos) Γ H ds.isEmpty := fun σ H1 Q g m q =>
  RT.of (pt_cmpR (op_eqM hr) re re hm) (list_cmp (neg := false) h p g m fun H2 g2 => ⟨_, rfl, q H2 g2⟩)
theorem ex_eqL {k : Nat} {ds : List Dt} {pb : Pos} (hr : Room k X.A) (h : LD X a Γ H ds) (p : PurA ds) (hm : behindInMarks .Eq (.List [] pb) = false := by rfl) : EX X (.Compare a [.Eq] [.List [] pb] pos) Γ H (.bl ds.isEmpty) := fun σ H1 Q g m q =>
  RE.of (pe_cmpR (op_eqM hr) re re hm) (list_cmp (neg := false) h p g m fun H2 g2 => q _ H2 g2 (.bl _))
/-- l.append(e) -/
theorem mx_append {l : Addr} {vs : List V} {apos cpos : Pos} {K : Dt → Hp → Prop} (ha : EX X a Γ H (.ref l)) (hl : H l = some (.lst vs)) (hn : vs.length < sizeLine) (he : EX X e Γ H d) (q : ∀ H1 v, GeX [l] H H1 → Tp H1 v d → H1 l = some (.lst (vs ++ [v])) → K .non H1)
    (hbase : attributeBase a "append" X.env (eval a X.env) = eval a X.env := by rfl)
    (hfew : ((backTo cpos (starEach [e] X.env)).all (fun x => !x.1) && (backToKw cpos (keywordEach [] X.env)).all (fun x => x.1.isSome)
      && decide ([e].length + ([] : List Keyword).length + (if ([] : List Keyword).isEmpty then 0 else 1) < 30)) = true := by rfl)
    (hline : (apos.endLine == cpos.line) = true := by rfl) (hs : starEach [e] X.env = (false, eval e X.env) :: starEach [] X.env := by rfl) (hplain : (backTo cpos (starEach [] X.env)).any (·.1) = false := by rfl) :
    MX X (.Call (.Attribute a "append" apos) [e] [] cpos) Γ H K := fun σ m =>
  RE.of (pe_bm PySem.F.plainAttrs_list PySem.F.slot_list_append PySem.F.type_list_append mt_append re (pa_cons re pa_nil hs) hbase hfew hline hs hplain) (ha σ H _ (Ge.refl _) m fun v H1 g1 tv => by
    cases tv.ref_eq
    refine ⟨.inl ⟨rfl, vs, SqL.of (g1.lst hl)⟩, he σ H1 _ g1 (m.ge g1) fun u H2 g2 tu => ?_⟩
    have hl2 := (g1.trans g2).lst hl
    have lt : LeT H2 (upd H2 l (.lst (vs ++ [u]))) := LeT.upd fun xs h => by rw [hl2] at h; cases h
    exact ⟨l, vs, u, rfl, rfl, hl2, hn, .non, .non, (m.ge (g1.trans g2)).mono lt, q _ u (((g1.trans g2).x [l]).trans GeX.set) (tu.mono lt) upd_same⟩)
end
end Lk
set_option Elab.async false
set_option linter.all false
set_option maxRecDepth 100000
set_option maxHeartbeats 4000000
/-! sorted(d), sorted(d.keys()): keys are tuples of numbers, none empty. -/
namespace Lk
open PySem PySem.Spec PyProof.Rows L2 GxR
open C8 (Cal Met Mak pe_c pe_mt pe_mk pe_mt0)
/-- a tuple of these ints -/
def TIs (h : Heap) (v : Value) (ns : List Int) : Prop := ∃ (a : Addr) (o : Obj) (items : Array Value) (n : Nat), v = .ref a ∧ h.get? a = some o ∧ o.cls = .type "tuple" ∧ o.data = .seq items n ∧ IntsAre items.toList ns
theorem TIs.keeps {h h' : Heap} {v : Value} {ns : List Int} (x : TIs h v ns) (k : ∀ b o, v = .ref b → o.cls = .type "tuple" → h.get? b = some o → h'.get? b = some o) : TIs h' v ns := by
  obtain ⟨a, o, items, n, e, g, c, d, i⟩ := x
  exact ⟨a, o, items, n, e, k _ _ e c g, c, d, i⟩
def intsAt (h : Heap) (v : Value) : List Int := match v with
  | .ref a => (match h.get? a with
    | some o => (match o.data with
      | .seq items _ => items.toList.map fun u => match u with
        | .int i _ => i
        | _ => 0
      | _ => [])
    | none => [])
  | _ => []
theorem intsAt_map {vs : List Value} {ns : List Int} (h : IntsAre vs ns) : (vs.map fun u => match u with
        | Value.int i _ => i
        | _ => (0 : Int)) = ns := by
  induction h with
  | nil => rfl
  | cons n t _ ih => rw [List.map_cons, ih]
theorem TIs.at_ {h : Heap} {v : Value} {ns : List Int} (x : TIs h v ns) : intsAt h v = ns := by
  obtain ⟨a, o, items, n, rfl, g, c, d, i⟩ := x
  unfold intsAt
  simp only [g, d]
  exact intsAt_map i
section
variable {prog : Program} {w : World} {A : Around} {E : Value → Shared → Prop} {s : Shared} {b fin : Bool} {Q : Bool → Shared → Prop}
theorem kat_ints {vs ws : List Value} {ns ms : List Int} (hv : IntsAre vs ns) (hw : IntsAre ws ms) (hf : fin = decide (vs.length < ws.length)) (h : Q (HT.lexLt ns ms) s) : ∀ i, PySem.W.KatLex prog w A b fin Q (vs.zip ws) i s := by
  induction hv generalizing ws ms with
  | nil =>
    intro i
    cases hw with
    | nil =>
      refine PySem.W.kat_nil ?_
      rw [hf]
      exact h
    | cons m u hw =>
      refine PySem.W.kat_nil ?_
      rw [hf]
      exact h
  | cons n t hv ih =>
    intro i
    cases hw with
    | nil =>
      refine PySem.W.kat_nil ?_
      rw [hf]
      exact h
    | @cons m u ws' ms' hw =>
      rw [List.zip_cons_cons]
      rw [HT.lexLt_cons] at h
      refine PySem.W.kat_cons (SeqAt.EqAt.int_int n t m u prog w _ _ ?_)
      refine PySem.W.kat_go (fun e => ?_) (fun e => ?_)
      · have e2 : n = m := by simpa using e
        rw [if_pos e2] at h
        refine PySem.W.kat_yes (ih hw ?_ h _)
        rw [hf, List.length_cons, List.length_cons]
        rw [decide_eq_decide]
        omega
      · have e2 : ¬ n = m := by simpa using e
        rw [if_neg e2] at h
        exact PySem.W.kat_no (TS.oneLt_ints _ h)
theorem tup_cmp {vs : List Value} {k : Value → List Int} (hp : ∀ v ∈ vs, TIs s.heap v (k v)) : SrtO.Cmp prog w A s (tuples' true) (fun p => p.1 ∈ vs) (SrtO.lt2 fun v u => HT.lexLt (k v) (k u)) := by
  intro p q hm hm'
  have h1 := hp _ hm
  have h2 := hp _ hm'
  show wpAny (model prog w) A (keyLt' (tuples' true) p.1 q.1) (fun r s' => s' = s ∧ r = HT.lexLt (k p.1) (k q.1)) (fun _ _ => False) s
  obtain ⟨a, o, items, n, e, ho, hc, hd, hi⟩ := h1
  obtain ⟨a', o', items', n', e', ho', hc', hd', hi'⟩ := h2
  rw [e, e']
  refine PySem.W.kat_lt ho hd ho' hd' (kat_ints hi hi' (by simp) ⟨rfl, ?_⟩ 0)
  rw [← e, ← e']
theorem firsts_tup {h : Heap} {k : Value → List Int} : ∀ {vs : List Value}, (∀ v ∈ vs, TIs h v (k v) ∧ k v ≠ []) → ∃ fs : List Value, PySem.W.KatTups h vs fs ∧ fs.length = vs.length ∧ ∀ f ∈ fs, ∃ x t, f = .int x t
  | [], _ => ⟨[], PySem.W.KatTups.nil, rfl, fun _ m => absurd m (by simp)⟩
  | v :: vs, hp => by
    obtain ⟨fs, h1, h2, h3⟩ := firsts_tup (vs := vs) fun u m => hp u (List.mem_cons_of_mem _ m)
    obtain ⟨⟨a, o, items, n, e, ho, hc, hd, hi⟩, hne⟩ := hp v List.mem_cons_self
    obtain ⟨items⟩ := items
    generalize hk : k v = ns at hi hne
    cases hi with
    | nil => exact absurd rfl hne
    | cons m t hi =>
      refine ⟨.int m t :: fs, ?_, by rw [List.length_cons, List.length_cons, h2], fun f hf => ?_⟩
      · rw [e]
        exact PySem.W.KatTups.cons ho hc hd (by simp_all) h1
      · rcases List.mem_cons.mp hf with rfl | hf
        · exact ⟨m, t, rfl⟩
        · exact h3 f hf
theorem tup_sortable {a : Addr} {vs : List Value} {k : Value → List Int} (h0 : 0 < vs.length) (hp : ∀ v ∈ vs, TIs s.heap v (k v) ∧ k v ≠ []) (ha : ∀ o, s.heap.get? a = some o → o.cls ≠ .type "tuple") : SrtO.SortableO prog w A s a vs fun v u => HT.lexLt (k v) (k u) := by
  intro h' keep
  have hp' : ∀ v ∈ vs, TIs h' v (k v) ∧ k v ≠ [] := fun v hm => ⟨(hp v hm).1.keeps fun b o e c g => keep b o (fun z => by subst z; exact ha o g c) g, (hp v hm).2⟩
  obtain ⟨fs, h1, h2, h3⟩ := firsts_tup hp'
  refine ⟨tuples' true, fun Q E hq => ?_, tup_cmp (s := { s with heap := h' }) fun v hm => (hp' v hm).1⟩
  refine PySem.W.kat_kind (s := { s with heap := h' }) (T := .type "int") h1 (by omega) (fun f hm => ?_) (by rfl) ?_
  · obtain ⟨x, t, rfl⟩ := h3 f hm
    exact PySem.W.Looks.now
  · have e : (Value.type "int" != Value.type "tuple") = true := by first | decide +kernel | rfl | decide
    rw [e]
    exact hq
end
/-! ### what is collected -/
section
variable {prog : Program} {w : World} {d r : Addr} {es : Array DictEntry} {ep : Nat}
theorem lt_raw {h : Heap} (x : h.DictRaw d es ep) : d < h.objs.size := let ⟨_, ho, _⟩ := x; Heap.lt_size ho
theorem src_dictR (lo : (d == sysModules) = false) : PySem.W.KdlSrc prog w "dict" d d es.size (fun i v => ∃ hi : i < es.size, v = es[i].key) (fun h => h.DictRaw d es ep) where
  type := fun _ hm => hm.typeIs
  there := fun _ hm => ⟨lt_raw hm, lt_raw hm⟩
  keep := fun _ _ hm hk => hm.at fun o e => hk d (.inl rfl) o e
  notList := by decide
  notTuple := by decide
  hint := fun _ _ _ _ hm hq => PySem.W.kdl_hint_dict hm.typeIs hq
  iter := fun _ _ hh hm => ⟨_, _, (fun _ _ hq => wpAny_pyIter_dict_raw lo hm hq), Walks.rawKeys hh _ d (Nat.ne_of_lt (lt_raw hm)) es ep, ⟨⟨_, Heap.get?_push_size _ rfl, rfl, rfl⟩, hm.at fun _ e => Heap.get?_push_of_some _ e⟩⟩
theorem src_keysR : PySem.W.KdlSrc prog w "dict_keys" r d es.size (fun i v => ∃ hi : i < es.size, v = es[i].key) (fun h => PySem.W.KdlKeysView h r d ∧ h.DictRaw d es ep) where
  type := fun _ hm => hm.1.typeIs
  there := fun _ hm => ⟨let ⟨_, ho, _⟩ := hm.1; Heap.lt_size ho, lt_raw hm.2⟩
  keep := fun _ _ hm hk => ⟨let ⟨o, ho, x⟩ := hm.1; ⟨o, hk r (.inl rfl) o ho, x⟩, hm.2.at fun o e => hk d (.inr rfl) o e⟩
  notList := by decide
  notTuple := by decide
  hint := fun _ _ _ _ hm hq => PySem.W.kdl_hint_keys hm.1.typeIs hq
  iter := fun _ _ hh hm => ⟨_, _, (fun _ _ hq => wpAny_pyIter_keys_raw hm.1 hm.2 hq), Walks.rawKeys hh _ d (Nat.ne_of_lt (lt_raw hm.2)) es ep, ⟨⟨_, Heap.get?_push_size _ rfl, rfl, rfl⟩, hm.2.at fun _ e => Heap.get?_push_of_some _ e⟩⟩
end
theorem perm_lift {α β : Type} (f : α → β) : ∀ (l : List β) (m : List α), l.Perm (m.map f) → ∃ l' : List α, l'.Perm m ∧ l'.map f = l
  | [], m, h => by
    have := h.length_eq
    rw [List.length_map] at this
    cases m with
    | nil => exact ⟨[], .refl _, rfl⟩
    | cons a m => simp at this
  | a :: l, m, h => by
    have ha : a ∈ m.map f := h.mem_iff.mp List.mem_cons_self
    obtain ⟨x, hx, rfl⟩ := List.mem_map.mp ha
    obtain ⟨s, t, rfl⟩ := List.append_of_mem hx
    rw [List.map_append, List.map_cons] at h
    have h2 : l.Perm ((s ++ t).map f) := by
      rw [List.map_append]
      exact (h.trans List.perm_middle).cons_inv
    obtain ⟨l', p, e⟩ := perm_lift f l (s ++ t) h2
    exact ⟨x :: l', (p.cons x).trans List.perm_middle.symm, by rw [List.map_cons, e]⟩
section
variable {X : Cx} {pins : List (Addr × Obj)} {σ : L2.St} {H : Hp} {s : Shared}
theorem ti_of (I : Inv X pins σ H s) {q : Addr} {m : List Nat} (h : H q = some (.tup ((kI m).map kV))) : TIs s.heap (.ref q) (zs m) := by
  rw [kI_kV] at h
  obtain ⟨its, r, ⟨o, ho, hc, n, hd⟩, _⟩ := I.tuple (SqT.of h)
  exact ⟨q, o, _, n, rfl, ho, hc, hd, by simpa using intsAre_of r⟩
theorem sorted_src {T : String} {r d : Addr} {es : Array DictEntry} {OK : Heap → Prop} {ms : List (List Nat)} {Q : VK} (I : Inv X pins σ H s) (hc : X.calm = true) (K : PySem.W.KdlSrc X.prog X.w T r d es.size (fun i v => ∃ hi : i < es.size, v = es[i].key) OK) (hok : OK s.heap)
    (hes : es.size = ms.length) (hk : ∀ (i : Nat) (m : List Nat), ms[i]? = some m → ∃ (en : DictEntry) (q : Addr), es[i]? = some en ∧ en.key = .ref q ∧ H q = some (.tup ((kI m).map kV))) (hne : ∀ m ∈ ms, m ≠ []) (hn : ms.length ≤ 4000)
    (q : ∀ (ts : List (Addr × List Nat)) p, (ts.map (·.2)).Perm ms → (∀ x ∈ ts, H x.1 = some (.tup ((kI x.2).map kV))) → H p = none → Q (.ref p) (upd H p (.lst (ts.map fun x => V.ref x.1)))) :
    wpAny (model X.prog X.w) X.A (call (.builtin "sorted") [.ref r]) (EP X pins σ Q) X.xe s := by
  have h16 : es.size ≤ sizeLine := by rw [hes]; exact Nat.le_trans hn (by decide)
  refine Calls.call_function_entry PyProof.Rows.kind_sorted PyProof.Rows.plain_sorted PyProof.Rows.entry_sorted (PyProof.Rows.args_sorted1 _) ?_
  unfold Builtin.«sorted»
  refine wpAny_bind (m := checkCount "sorted" 1 1 _) (wpAny_pure ?_)
  refine wpAny_bind (PySem.W.kdu_collect (A := X.A.in1) K (I.ok.hd hc) hok h16 fun h' tk acc hkp hacc => ?_)
  have hal : acc.toList.length = ms.length := by rw [Array.length_toList, hacc.1, hes]
  have hkey : ∀ (i : Nat) (m : List Nat), ms[i]? = some m → ∃ q : Addr, acc.toList[i]? = some (.ref q) ∧ H q = some (.tup ((kI m).map kV)) := fun i m e => by
    obtain ⟨en, q0, e1, e2, e3⟩ := hk i m e
    have hi : i < acc.size := by
      rw [← Array.length_toList, hal]
      exact (List.getElem?_eq_some_iff.mp e).1
    obtain ⟨hi2, e4⟩ := hacc.2 i acc[i] (Array.getElem?_eq_getElem hi)
    rw [Array.getElem?_eq_getElem hi2] at e1
    cases e1
    refine ⟨q0, ?_, e3⟩
    rw [Array.getElem?_toList, Array.getElem?_eq_getElem hi, e4, e2]
  have href : ∀ v ∈ acc.toList, ∃ t, v = Value.ref t := fun v hv => by
    obtain ⟨i, hi, e⟩ := List.mem_iff_getElem.mp hv
    obtain ⟨q0, e1, _⟩ := hkey i (ms[i]'(by rw [← hal]; exact hi)) (List.getElem?_eq_getElem _)
    rw [List.getElem?_eq_getElem hi, e] at e1
    exact ⟨q0, Option.some.inj e1⟩
  have eacc := ref_map href
  have hqs : (acc.toList.map adO).length = ms.length := by rw [List.length_map, hal]
  have hts : ∀ x ∈ (acc.toList.map adO).zip ms, H x.1 = some (.tup ((kI x.2).map kV)) := fun x hx => by
    obtain ⟨i, hi, e⟩ := List.mem_iff_getElem.mp hx
    have hi1 : i < acc.toList.length := by rw [List.length_zip, hqs, Nat.min_self] at hi; rw [hal]; exact hi
    have hi2 : i < ms.length := by rw [← hal]; exact hi1
    obtain ⟨q0, e1, e2⟩ := hkey i ms[i] (List.getElem?_eq_getElem hi2)
    rw [List.getElem_zip, List.getElem_map] at e
    rw [List.getElem?_eq_getElem hi1] at e1
    rw [← e, Option.some.inj e1]
    exact e2
  have z1 : ((acc.toList.map adO).zip ms).map (·.1) = acc.toList.map adO := by
    rw [List.map_fst_zip]
    rw [hqs]
    exact Nat.le_refl _
  have z2 : ((acc.toList.map adO).zip ms).map (·.2) = ms := by
    rw [List.map_snd_zip]
    rw [hqs]
    exact Nat.le_refl _
  generalize hts0 : (acc.toList.map adO).zip ms = ts0 at hts z1 z2
  have hvals : ∀ v ∈ acc.toList, TIs s.heap v (intsAt s.heap v) ∧ intsAt s.heap v ≠ [] := fun v hv => by
    obtain ⟨t, rfl⟩ := href v hv
    have ht : t ∈ acc.toList.map adO := List.mem_map.mpr ⟨_, hv, rfl⟩
    rw [← z1] at ht
    obtain ⟨x, hx, rfl⟩ := List.mem_map.mp ht
    have ti := ti_of I (hts x hx)
    rw [ti.at_]
    refine ⟨ti, fun e => ?_⟩
    have hm : x.2 ∈ ms := by rw [← z2]; exact List.mem_map.mpr ⟨x, hx, rfl⟩
    exact hne _ hm (by
      cases e2 : x.2 with
      | nil => rfl
      | cons a l => rw [e2] at e; cases e)
  have I1 : Inv X pins σ H { s with heap := h', toks := tk } := I.kept hkp
  have hz : acc.toList.length ≤ sizeLine := by rw [hal]; exact Nat.le_trans hn (by decide)
  refine wpAny_bind (wpAny_newList ?_ hz)
  have hoL : (h'.push (seqObj "list" acc.toList.toArray 0)).get? h'.objs.size = some (seqObj "list" acc.toList.toArray 0) := Heap.get?_push_size _ rfl
  show wpAny _ _ _ _ _ { s with heap := h'.push (seqObj "list" acc.toList.toArray 0), toks := tk }
  refine wpAny_bind (wpAny_holding (wpAny_call_entry PyProof.Rows.slot_list_sort ⟨_, hoL, rfl⟩ PyProof.Rows.entry_list_sort
    (SrtO.list_sort_ord (s := { s with heap := h'.push (seqObj "list" acc.toList.toArray 0), toks := tk }) (NtL.swo_lexL (intsAt s.heap)) hoL hz (fun h2 => tup_sortable (by omega) (fun v hv => ⟨(hvals v hv).1.keeps fun b o _ _ g => Heap.get?_push_of_some _ (hkp _ _ g), (hvals v hv).2⟩) fun o e c => ?_) fun out h1 h2 => ⟨_, rfl, ?_⟩)
    (PyProof.Rows.args_list_sort _)))
  · have e' : some o = some (seqObj "list" acc.toList.toArray 0) := e.symm.trans hoL
    cases e'
    exact absurd (Value.type.inj c) (by decide)
  · obtain ⟨e', he'⟩ := PyProof.Rows.sortedHeap_at (vs := acc.toList) (out := out.toArray) hoL
    have eo : out = (out.map adO).map Value.ref := ref_map fun v hv => href v (h2.perm.mem_iff.mp hv)
    have hp : (out.map adO).Perm (ts0.map (·.1)) := by rw [z1]; exact h2.perm.map adO
    obtain ⟨ts, p1, p2⟩ := perm_lift Prod.fst _ _ hp
    have hvs : Vals (ts.map fun x => V.ref x.1) out := by
      rw [eo, ← p2, List.map_map]
      have z := of_nts (ts.map (·.1))
      rw [List.map_map, List.map_map] at z
      exact z
    have hlen : (ts.map fun x => V.ref x.1).length ≤ sizeLine := by rw [hvs.length, h2.perm.length_eq]; exact hz
    refine wpAny_pure ⟨_, rfl, .ref h'.objs.size, upd H h'.objs.size (.lst (ts.map fun x => V.ref x.1)), I1.laid (t' := tk) (fun b u e => ?_) (Nat.le_refl _)
      (show ObjOk X.prog X.w _ _ _ (.lst (ts.map fun x => V.ref x.1)) from ⟨hlen, out, e', hvs, he'⟩), rfl, q ts _ ?_ (fun x hx => hts x (p1.mem_iff.mp hx)) (I1.hok.fresh (Nat.le_refl _))⟩
    · have hb : b < h'.objs.size := Heap.lt_size e
      rw [PyProof.Rows.sortedHeap_old (Nat.ne_of_lt hb) (by rw [size_push']; exact Nat.lt_succ_of_lt hb)]
      exact Heap.get?_push_of_some _ e
    · rw [← z2]
      exact p1.map _
/-- the entries of such a dict -/
theorem dt_raw {a : Addr} {kvs : List (List Key × V)} (I : Inv X pins σ H s) (h : Rd H a (.dT kvs)) :
    (a == sysModules) = false ∧ ∃ (es : Array DictEntry) (ep : Nat), s.heap.DictRaw a es ep ∧ es.size = kvs.length ∧
      ∀ (i : Nat) (k : List Key) (v : V), kvs[i]? = some (k, v) → ∃ (en : DictEntry) (q : Addr), es[i]? = some en ∧ en.key = .ref q ∧ H q = some (.tup (k.map kV)) ∧ RelV v en.val := by
  rcases h with h | ⟨o, h⟩
  · obtain ⟨z, hs, xs, pr, o', es, ep, ho, hx, hdt, he, _⟩ := I.hok a _ h
    refine ⟨hs, es, ep, ⟨_, ho, hx, hdt⟩, ?_, fun i k v e => ?_⟩
    · have l1 : es.size = xs.length := by rw [← Array.length_toList, he, List.length_map]
      have l2 : kvs.length = xs.length := Paired.length pr
      omega
    · obtain ⟨b, hb, e1, e2, e3⟩ := paired_get pr e
      have q := entry_at he i
      rw [hb] at q
      exact ⟨_, b.2.1, q, rfl, e2, e3⟩
  · obtain ⟨hs, es, ep, hm, _, hsz, ent⟩ := frzT2 I h
    exact ⟨hs, es, ep, hm, hsz, ent⟩
end
/-- sorted(d) -/
def rSortD {α : Type} (fα : α → Dt) : List V → Hp → VK → Prop := fun xs H Q => ∃ (a : Addr) (kvs : List (List Key × V)) (m : List (List Nat × α)), xs = [.ref a] ∧ Rd H a (.dT kvs) ∧ DcR fα H kvs m ∧ (∀ q ∈ m, q.1 ≠ []) ∧ m.length ≤ 4000 ∧
  ∀ (ts : List (Addr × List Nat)) p, (ts.map (·.2)).Perm (m.map (·.1)) → (∀ x ∈ ts, H x.1 = some (.tup ((kI x.2).map kV))) → H p = none → Q (.ref p) (upd H p (.lst (ts.map fun x => V.ref x.1)))
theorem keys_at {α : Type} {fα : α → Dt} {H : Hp} {kvs : List (List Key × V)} {m : List (List Nat × α)} (r : DcR fα H kvs m) {i : Nat} {k : List Nat} (h : (m.map (·.1))[i]? = some k) : ∃ v, kvs[i]? = some (kI k, v) := by
  rw [List.getElem?_map] at h
  obtain ⟨q, hq, rfl⟩ := Option.map_eq_some_iff.mp h
  have hi : i < kvs.length := by rw [r.length]; exact (List.getElem?_eq_some_iff.mp hq).1
  have e : kvs[i]? = some (kvs[i].1, kvs[i].2) := List.getElem?_eq_getElem hi
  obtain ⟨q', h1, h2, _⟩ := r.get e
  rw [hq] at h1
  cases h1
  exact ⟨_, by rw [e, h2]⟩
theorem call_sortD {X : Cx} {α : Type} {fα : α → Dt} (hc : X.calm = true) : CallR X (.builtin "sorted") (rSortD fα) := by
  intro pins s σ H xs us Q I r h
  obtain ⟨a, kvs, m, rfl, hd, hR, hne, hn, q⟩ := h
  obtain ⟨u, rfl, ru⟩ := vals1 r
  cases ru
  obtain ⟨hs, es, ep, hm, hsz, ent⟩ := dt_raw I hd
  refine sorted_src (ms := m.map (·.1)) I hc (src_dictR (ep := ep) hs) hm (by rw [hsz, hR.length, List.length_map]) (fun i k e => ?_) (fun k hk => ?_) (by rw [List.length_map]; exact hn) q
  · obtain ⟨v, hv⟩ := keys_at hR e
    obtain ⟨en, q0, e1, e2, e3, _⟩ := ent i _ v hv
    exact ⟨en, q0, e1, e2, e3⟩
  · obtain ⟨z, hz, rfl⟩ := List.mem_map.mp hk
    exact hne z hz
section
variable {X : Cx} {α : Type} {fα : α → Dt} {e : Expr} {Γ : Gam} {H : Hp} {kvs : List (List Key × V)} {m : List (List Nat × α)} {f : Addr} {p pos apos cpos : Pos}
theorem tp_keys {H : Hp} : ∀ {ts : List (Addr × List Nat)}, (∀ x ∈ ts, H x.1 = some (.tup ((kI x.2).map kV))) → TpA H (ts.map fun x => V.ref x.1) (ts.map fun x => dNs x.2)
  | [], _ => .nil
  | x :: ts, h => by
    refine .cons ?_ (tp_keys fun y hy => h y (List.mem_cons_of_mem _ hy))
    have := h x List.mem_cons_self
    rw [kI_kV] at this
    show Tp H (.ref x.1) (dNs x.2)
    rw [dNs_zs]
    exact .tup this (Tp.ints _)
/-- a list of the keys, in some order -/
def SortK (m : List (List Nat × α)) (H H2 : Hp) (l : Addr) : Prop := Ge H H2 ∧ H l = none ∧ ∃ (ks : List (List Nat)) (vs : List V), ks.Perm (m.map (·.1)) ∧ H2 l = some (.lst vs) ∧ TpA H2 vs (ks.map dNs)
theorem mx_sortD {K : Dt → Hp → Prop} (hm : X.mg "sorted" = none) (hc : X.calm = true) (he : MX X e Γ H fun d H1 => ∃ f kvs, d = .ref f ∧ Ge H H1 ∧ Rd H1 f (.dT kvs) ∧ DcR fα H1 kvs m) (hne : ∀ q ∈ m, q.1 ≠ []) (hn : m.length ≤ 4000)
    (q : ∀ l H2, SortK m H H2 l → K (.ref l) H2) (hg : Gl X "sorted" := by rfl) (hs : starEach [e] X.env = (false, eval e X.env) :: starEach [] X.env := by rfl) (hpl : (backTo pos (starEach [] X.env)).any (·.1) = false := by rfl) :
    MX X (.Call (.Name "sorted" p) [e] [] pos) Γ H K := fun σ mm =>
  RE.of (pe_callB (call_sortD (fα := fα) hc) hg hm PyProof.Rows.boot_sorted (pa_cons re pa_nil hs) (by decide) (by decide) hs hpl) ((he σ mm).mono fun v H1 ⟨d, tv, m1, f, kvs, ed, g1, hf, hR⟩ => by
    subst ed
    refine ⟨f, kvs, m, by rw [tv.ref_eq], hf, hR, hne, hn, fun ts p hp ht hpn => ?_⟩
    have g2 : Ge H1 (upd H1 p (.lst (ts.map fun x => V.ref x.1))) := Ge.new hpn
    refine ⟨.ref p, .ref p, m1.ge g2, q p _ ⟨g1.trans g2, g1.free hpn, ts.map (·.2), _, hp, upd_same, ?_⟩⟩
    have := (tp_keys ht).ge g2
    rw [List.map_map]
    exact this)
def tSortK {α : Type} (fα : α → Dt) (te : TE) : TE := fun σ H Q => te σ H fun x H1 => rSortD fα [x] H1 Q
theorem pe_sortK {te : TE} (hm : X.mg "sorted" = none) (hc : X.calm = true) (he : PE X e te) (hg : Gl X "sorted" := by rfl) (hbase : attributeBase e "keys" X.env (eval e X.env) = eval e X.env := by rfl) (hline : (apos.endLine == cpos.line) = true := by rfl)
    (hs : starEach [.Call (.Attribute e "keys" apos) [] [] cpos] X.env = (false, eval (.Call (.Attribute e "keys" apos) [] [] cpos) X.env) :: starEach [] X.env := by rfl) :
    PE X (.Call (.Name "sorted" p) [.Call (.Attribute e "keys" apos) [] [] cpos] [] pos) (tSortK fα te) := by
  refine ⟨fun pins s σ H Q I h => ?_⟩
  refine wpAny_Call_Name_kw (ld_blt I hg hm PyProof.Rows.boot_sorted ?_)
  refine PyProof.Rows.callWith_builtin1 ?_ hs (by rfl)
  rw [hs]
  show wpAny _ _ (spliced ((false, eval (.Call (.Attribute e "keys" apos) [] [] cpos) X.env) :: backTo pos (starEach [] X.env))) _ _ s
  refine Calls.spliced_cons ?_
  refine wpAny_Call_method (T := "dict") (id := "dict.keys") hbase rfl hline F.plainAttrs_dict F.slot_dict_keys F.type_dict_keys (thn (he.run pins s σ H _ I h) fun u s1 ⟨x, H1, I1, rx, d, kvs, m, ex, hd, hR, hne, hn, q⟩ => ?_)
  cases ex
  obtain rfl : u = Value.ref d := rx
  obtain ⟨hs, es, ep, hm, hsz, ent⟩ := dt_raw I1 hd
  refine ⟨hm.typeIs, fun b hb => by obtain ⟨ob, h1, h2, _⟩ := id hm; cases hb; exact ⟨ob, h1, h2.2.1⟩, ?_⟩
  have I2 : Inv X pins σ H1 { s1 with heap := s1.heap.push { cls := .type "dict_keys", data := .fields #[.ref d] } } := I1.kept (t' := s1.toks) fun b ob q => Heap.get?_push_of_some _ q
  have hm2 : (s1.heap.push { cls := .type "dict_keys", data := .fields #[.ref d] }).DictRaw d es ep := hm.at fun _ e => Heap.get?_push_of_some _ e
  show wpAny _ _ (callWith cpos (.builtin "dict.keys") [.ref d] [] []) _ X.xe s1
  refine method_meetsIn F.slot_dict_keys F.entry_dict_keys rfl (PySem.evalArgs_none ⟨rfl, hm.typeIs, F.args_dict_keys_1 _, _, meets_dict_keys_raw d hs, ⟨es, ep, hm⟩, ?_⟩)
  refine Calls.spliced_nil ?_
  refine sorted_src (ms := m.map (·.1)) I2 hc (src_keysR (d := d) (es := es) (ep := ep)) ⟨⟨_, Heap.get?_push_size _ rfl, rfl, rfl⟩, hm2⟩ (by rw [hsz, hR.length, List.length_map]) (fun i k e => ?_) (fun k hk => ?_) (by rw [List.length_map]; exact hn) q
  · obtain ⟨v, hv⟩ := keys_at hR e
    obtain ⟨en, q0, e1, e2, e3, _⟩ := ent i _ v hv
    exact ⟨en, q0, e1, e2, e3⟩
  · obtain ⟨z, hz, rfl⟩ := List.mem_map.mp hk
    exact hne z hz
theorem mx_sortK {K : Dt → Hp → Prop} (hm : X.mg "sorted" = none) (hc : X.calm = true) (he : EX X e Γ H (.ref f)) (hf : Rd H f (.dT kvs)) (hR : DcR fα H kvs m) (hne : ∀ q ∈ m, q.1 ≠ []) (hn : m.length ≤ 4000)
    (q : ∀ l H2, SortK m H H2 l → K (.ref l) H2) (hg : Gl X "sorted" := by rfl) (hbase : attributeBase e "keys" X.env (eval e X.env) = eval e X.env := by rfl) (hline : (apos.endLine == cpos.line) = true := by rfl)
    (hs : starEach [.Call (.Attribute e "keys" apos) [] [] cpos] X.env = (false, eval (.Call (.Attribute e "keys" apos) [] [] cpos) X.env) :: starEach [] X.env := by rfl) :
    MX X (.Call (.Name "sorted" p) [.Call (.Attribute e "keys" apos) [] [] cpos] [] pos) Γ H K := fun σ mm =>
  RE.of (pe_sortK (fα := fα) hm hc re hg hbase hline hs) (he σ H _ (Ge.refl _) mm fun v H1 g1 tv => by
    refine ⟨f, kvs, m, by rw [tv.ref_eq], g1.rd hf, hR.mono g1.t, hne, hn, fun ts p hp ht hpn => ?_⟩
    have g2 : Ge H1 (upd H1 p (.lst (ts.map fun x => V.ref x.1))) := Ge.new hpn
    refine ⟨.ref p, .ref p, (mm.ge g1).ge g2, q p _ ⟨g1.trans g2, g1.free hpn, ts.map (·.2), _, hp, upd_same, ?_⟩⟩
    have := (tp_keys ht).ge g2
    rw [List.map_map]
    exact this)
end
end Lk
set_option Elab.async false
set_option linter.all false
set_option maxRecDepth 100000
set_option maxHeartbeats 4000000
/-! enumerate of a tuple. -/
namespace Lk
open PySem PySem.Spec PyProof.Rows L2 GxR
open C8 (Cal Met Mak pe_c pe_mt pe_mk pe_mt0)
section
open Sem (wp)
open AutoSeq1 (wpAny_loadPart')
theorem meets_enumerate_newT (l : Addr) (items : Array Value) (n : Nat) (dct : Option Addr) (sl : Array (Option Value)) :
    Meets (Builtin.«enumerate.__new__» ⟨[.type "enumerate", .ref l], []⟩) (fun _ R s => s.heap.get? l = some { cls := .type "tuple", dict := dct, data := .seq items n, slots := sl } ∧
      R (.ok (.ret (.ref (s.heap.push { cls := .type "tuple_iterator", data := .fields #[.ref l, .int 0 0] }).objs.size)))
        { s with heap := (s.heap.push { cls := .type "tuple_iterator", data := .fields #[.ref l, .int 0 0] }).push { cls := .type "enumerate", data := .fields #[.none, .bool false, .ref s.heap.objs.size, rawInt 0, .none, .none] } }) :=
  .of_wp fun prog w A R s h => by
    obtain ⟨hp, g, d, tk, os⟩ := s; obtain ⟨hl, h⟩ := h
    have hsub := sub_enumerate
    have hL : Heap.IsTuple (Shared.heap ⟨hp, g, d, tk, os⟩) l items := ⟨_, hl, rfl, n, rfl⟩
    wp_walk using wpAny_loadPart' hl
    refine wpAny_stack_any fun st => wpAny_pure ?_
    split
    · rename_i c _ _ _ _ _
      cases (c == Value.type "enumerate")
      · wp_walk using wpAny_loadPart' hl, wpAny_pyIter_tuple hL
        exact ⟨_, rfl, h⟩
      · wp_walk using wpAny_loadPart' hl, wpAny_pyIter_tuple hL
        exact ⟨_, rfl, h⟩
    · wp_walk using wpAny_loadPart' hl, wpAny_pyIter_tuple hL
      exact ⟨_, rfl, h⟩
end
section
variable {prog : Program} {w : World} {A : Around} {E : Value → Shared → Prop} {s : Shared}
theorem call_enumerate_tuple {l : Addr} {items : Array Value} {Q : Value → Shared → Prop} (hL : s.heap.IsTuple l items)
    (h : ∀ h', IsEnum h' (s.heap.objs.size + 1) s.heap.objs.size 0 .none → h'.IsTupleIter s.heap.objs.size l 0 → h'.objs.size = s.heap.objs.size + 2 →
      (∀ b o, s.heap.get? b = some o → h'.get? b = some o) → Q (.ref (s.heap.objs.size + 1)) { s with heap := h' }) :
    wpAny (model prog w) A (call (.type "enumerate") [.ref l]) Q E s := by
  obtain ⟨⟨c, dct, dt, sl⟩, hl, hc, n, hd⟩ := hL
  replace hc : c = .type "tuple" := hc
  replace hd : dt = .seq items n := hd
  subst hc hd
  refine callType_new F.called_enumerate (by decide) (F.typeCall_enumerate_1 _) (F.newCall_enumerate_1 _) (fun obj => F.args_object_init_2 obj _) F.entry_enumerate_new
    (meets_enumerate_newT l items n dct sl) ⟨hl, ?_⟩
  have hz : (s.heap.push { cls := .type "tuple_iterator", data := .fields #[.ref l, .int 0 0] }).objs.size = s.heap.objs.size + 1 := Heap.size_push ..
  show _ ∧ _
  rw [hz]
  have he : IsEnum ((s.heap.push { cls := .type "tuple_iterator", data := .fields #[.ref l, .int 0 0] }).push
      { cls := .type "enumerate", data := .fields #[.none, .bool false, .ref s.heap.objs.size, rawInt 0, .none, .none] }) (s.heap.objs.size + 1) s.heap.objs.size 0 .none := by
    have := Heap.get?_push_size (s.heap.push { cls := .type "tuple_iterator", data := .fields #[.ref l, .int 0 0] })
      (o := { cls := .type "enumerate", data := .fields #[.none, .bool false, .ref s.heap.objs.size, rawInt 0, .none, .none] }) rfl
    rw [hz] at this; exact this
  refine ⟨⟨_, he, rfl⟩, h _ he ⟨_, Heap.get?_push_of_some _ (Heap.get?_push_size _ rfl), rfl, rfl⟩ (by rw [Heap.size_push, hz]) fun b o x => Heap.get?_push_of_some _ (Heap.get?_push_of_some _ x)⟩
end
def IteT (K : PySem.W.Frag) (a : Addr) : It :=
  ⟨fun i H => ∃ (xs : List V) (x : V), SqT K H a xs ∧ xs[i]? = some x, fun i H v H' => ∃ T x, v = .ref T ∧ H T = none ∧ H' = upd H T (.tup [.int (i : Nat), x]) ∧ ∀ xs, SqT K H a xs → xs[i]? = some x, fun i H => ∃ xs : List V, SqT K H a xs ∧ xs.length ≤ i⟩
theorem tup_items {X : Cx} {pins : List (Addr × Obj)} {σ : L2.St} {H : Hp} {s : Shared} {a : Addr} {xs : List V} (I : Inv X pins σ H s) (h : SqT X.K H a xs) : ∃ its : List Value, Vals xs its ∧ s.heap.IsTuple a its.toArray := by
  obtain ⟨its, r, p, _⟩ := I.tuple h
  exact ⟨its, r, p⟩
theorem turn_enumT {P : Program} {w : World} {K : PySem.W.Frag} {elts : List Expr} {kk : Nat} {tpos : Pos} (a e it : Addr) :
    Turn P w K (.Tuple elts kk tpos) (IteT K a) [e, it] e (fun i h => (∃ old, IsEnum h e it ((i : Nat) : Int) old) ∧ h.IsTupleIter it a i ∧ e ≠ it ∧ a ≠ it ∧ a ≠ e) where
  mem := by simp
  obj := fun i h st b hb => by
    obtain ⟨⟨old, he⟩, ⟨o, ho, hc, hd⟩, _⟩ := st
    have e' : b = e ∨ b = it := by simpa using hb
    rcases e' with z | z
    · rw [z]; exact ⟨_, he, fun v q => nomatch q⟩
    · rw [z]; exact ⟨o, ho, fun v q => by rw [hd] at q; cases q⟩
  keep := fun i h h' st k => let ⟨⟨old, he⟩, hi, hne⟩ := st; ⟨⟨old, k e (by simp) _ he⟩, hi.at fun o q => k it (by simp) o q, hne⟩
  item := by
    intro X hP hw hK hc i pins s σ H E I hf st hg
    subst hP hw hK
    obtain ⟨⟨old, he⟩, hit, hne, hai, hae⟩ := st
    obtain ⟨xs, x, hq, hx⟩ := hg
    obtain ⟨its, rv, p⟩ := tup_items I hq
    obtain ⟨u, hu, ru⟩ := rv.get hx
    have hel : e < s.heap.objs.size := Heap.lt_size he
    have hil : it < s.heap.objs.size := by obtain ⟨_, q, _⟩ := hit; exact Heap.lt_size q
    have hi : i < its.toArray.size := by simpa using (List.getElem?_eq_some_iff.mp hu).1
    refine wpAny_pyNext_enum_itemD (Draws.tuple (A := X.A.in1) (I.ok.hd hc) it a hai its.toArray) he ⟨hit, p⟩ hi hne (by simp [hne]; exact fun z => hae z.symm) fun x' h' tk hx' ho hst' hT hsz hk => ?_
    have ex : x' = u := by
      have : its.toArray[i]? = some u := by simpa using hu
      rw [this] at hx'
      exact (Option.some.inj hx').symm
    subst ex
    refine ⟨_, rfl, wpAny_letOwnedTupleGo_enum (s := { s with heap := h', toks := tk + 1 }) ho fun h'' he' sb => ?_⟩
    have hT2 : h''.get? s.heap.objs.size = some { cls := .type "tuple", data := .seq #[.int i tk, x'] } := (sb.2 _ (Nat.ne_of_gt hel)).trans hT
    have new : ObjOk X.prog X.w (upd H s.heap.objs.size (.tup [.int (i : Nat), x])) h'' s.heap.objs.size (.tup [.int (i : Nat), x]) :=
      ⟨by show 2 ≤ sizeLine; decide, [.int i tk, x'], .cons ⟨_, rfl⟩ (.cons ru .nil), ⟨_, hT2, rfl, _, rfl⟩⟩
    have I1 : Inv X pins σ (upd H s.heap.objs.size (.tup [.int (i : Nat), x])) { s with heap := h'', toks := tk + 1 } :=
      I.turnedNew (ch := [e, it]) (fun b ob hb q => (sb.2 b (fun z => hb (by simp [z]))).trans (hk b ob (fun z => hb (by simp [z])) (fun z => hb (by simp [z])) q)) hf (Nat.le_refl _) new
    refine ⟨.ref s.heap.objs.size, _, I1, rfl, ⟨_, x, rfl, I.hok.fresh (Nat.le_refl _), rfl, fun ys hy => by rw [I.tuple_inj hy hq]; exact hx⟩, ⟨⟨x', ?_⟩, hst'.1.at fun o q => (sb.2 it (Ne.symm hne)).trans q, hne, hai, hae⟩, fun b hb => ?_⟩
    · have e1 : ((i + 1 : Nat) : Int) = (i : Int) + 1 := by omega
      rw [e1]; exact he'
    · have hb' : b < s.heap.objs.size := by
        have e' : b = e ∨ b = it := by simpa using hb
        rcases e' with z | z
        · rw [z]; exact hel
        · rw [z]; exact hil
      rw [upd_ne (Nat.ne_of_lt hb')]
      exact (hf b hb).1
  done := by
    intro X hP hw hK hc i pins s σ H E I hf st hg
    subst hP hw hK
    obtain ⟨⟨old, he⟩, hit, hne, hai, hae⟩ := st
    obtain ⟨xs, hq, hx⟩ := hg
    obtain ⟨its, rv, p⟩ := tup_items I hq
    obtain ⟨f0, f1, f2, f3, f4, f5⟩ := hf it (by simp)
    have hl := rv.length
    unfold pyNext
    have hT : s.TypeIs (.ref e) "enumerate" := ⟨_, he, rfl⟩
    refine wpAny_bind (wpAny_attempt (wpAny_callSpecial?_slot (name := Str.ofString "__next__") hT F.slot_enumerate_next
      (wpAny_call_entry F.slot_enumerate_next hT F.entry_enumerate_next ?_ (F.args_enumerate_next_1 _))))
    show wpAny _ _ (field (.ref e) 2 >>= _) _ _ _
    refine wpAny_bind (wpAny_field he rfl (x := .ref it) rfl ?_)
    refine wpAny_bind (wpAny_nextOf_tuple_end (I.ok.hd hc) hit p (by simp; omega) fun h' x hx1 hx2 => ?_)
    obtain ⟨o, ho, hc2⟩ := hx2
    refine wpAny_bind (wpAny_isInstance (T := "StopIteration") (b := true) ⟨o, ho, hc2⟩ isSubtype_stop ?_)
    exact wpAny_pure ⟨rfl, I.turned (t' := s.toks) (fun b o hb q => hx1 b o hb q) f0 f1 f3 f4 f5⟩
  self := fun A i s Q E st h => let ⟨⟨_, he⟩, _⟩ := st; wpAny_pyIter_enum he h
def iEnumT (K : PySem.W.Frag) (ta : TA) : TI := fun σ H R => ta σ H fun vs H1 => ∃ a xs, vs = [.ref a] ∧ SqT K H1 a xs ∧ R (IteT K a) H1
theorem pi_enumT {X : Cx} {e : Expr} {ta : TA} {p pos tpos : Pos} {elts : List Expr} {kk : Nat} (hg : Gl X "enumerate") (hm : X.mg "enumerate" = none) (ha : PA X [e] ta) (hs : starEach [e] X.env = [(false, eval e X.env)] := by rfl) :
    PI X (.Tuple elts kk tpos) (.Call (.Name "enumerate" p) [e] [] pos) (iEnumT X.K ta) := by
  refine ⟨fun pins s σ H R I h => ?_⟩
  refine Call_ (ld_blt I hg hm boot_enumerate (PyProof.Rows.callWith_type1 (thn (ha.run pos pins s σ H _ I h) fun us s1 ⟨vs, H1, I1, r1, q1⟩ => ?_) hs rfl))
  obtain ⟨a, xs, ex, hq, q⟩ := q1
  subst ex
  cases r1 with
  | cons r rr =>
    cases rr
    cases r
    obtain ⟨its, rv, p'⟩ := tup_items I1 hq
    have hal : a < s1.heap.objs.size := by obtain ⟨o, ho, _⟩ := id p'; exact Heap.lt_size ho
    refine call_enumerate_tuple p' fun h' he hit hsz hk => wpAny_pyIter_enum he ?_
    have I2 : Inv X pins σ H1 { s1 with heap := h' } := I1.kept (t' := s1.toks) hk
    refine ⟨s1.heap.objs.size + 1, [s1.heap.objs.size + 1, s1.heap.objs.size], _, _, H1, rfl, I2, turn_enumT a (s1.heap.objs.size + 1) s1.heap.objs.size, ⟨⟨.none, he⟩, hit, Nat.succ_ne_self _, Nat.ne_of_lt hal, Nat.ne_of_lt (Nat.lt_succ_of_lt hal)⟩, fun b hb => ?_, q⟩
    have e' : b = s1.heap.objs.size + 1 ∨ b = s1.heap.objs.size := by simpa using hb
    have hle : s1.heap.objs.size ≤ b := by
      rcases e' with z | z
      · rw [z]; exact Nat.le_add_right _ _
      · rw [z]; exact Nat.le_refl _
    exact I1.fpOk hle (I1.hok.fresh hle)
theorem src_enum {X : Cx} {e : Expr} {Γ : Gam} {H : Hp} {i j : Nat} {x y : Str} {px py pt p p2 : Pos} {kt : Nat} {ds : List Dt} (he : EX X e Γ H (.tup ds)) (hm : X.mg "enumerate" = none) (hg : Gl X "enumerate" := by rfl) (hs : starEach [e] X.env = [(false, eval e X.env)] := by rfl) :
    SRC X (.Tuple [.Name x px, .Name y py] kt pt) (.Call (.Name "enumerate" p) [e] [] p2) (gTup X.K 2 (gCons (gName i) (gCons (gName j) gNil))) Γ H ds.length [i, j] (fun k Γ => (Γ.set i (some (dN k))).set j ds[k]?) keepT := by
  refine ⟨_, pi_enumT hg hm (pa_cons re pa_nil hs) hs, fun σ H1 R g m q => he σ H1 _ g m fun v H2 g2 tv => ?_⟩
  obtain ⟨p, xs, rfl, hp, t⟩ := tv.tup_eq
  refine ⟨p, xs, rfl, SqT.of hp, q _ H2 g2 ⟨fun H => SqT X.K H p xs, YPair (fun i => some (.int (i : Nat))) (fun i => xs[i]?), ?_, fun H3 lt => SqT.of (lt _ _ hp), ?_⟩⟩
  · rw [← t.length]
    refine ⟨fun i H hi q => ⟨xs, xs[i], q, by simp [hi]⟩, fun H q => ⟨xs, q, Nat.le_refl _⟩, fun i H v H' _ q y => ?_⟩
    obtain ⟨T, x, h1, h2, h3, h4⟩ := y
    exact ⟨T, .int (i : Nat), x, h1, h2, h3, rfl, h4 xs q⟩
  · rintro k x H3 H4 σ' Γ' Q hk lt m' ⟨T, v, u, rfl, hT, rfl, hv, hu⟩ q
    obtain ⟨d, hd, td⟩ := t.get' hu
    simp only [hd] at q
    cases hv
    exact put_pair hT m' (.int (k : Nat)) (td.mono lt) q
end Lk
set_option Elab.async false
set_option linter.all false
set_option maxRecDepth 100000
set_option maxHeartbeats 4000000
/-! a dict == {}, a dict != {}. -/
namespace Lk
open PySem PySem.Spec PyProof.Rows L2 GxR
open C8 (Cal Met Mak pe_c pe_mt pe_mk pe_mt0)
section
variable {prog : Program} {w : World} {A : Around} {E : Value → Shared → Prop} {s : Shared}
theorem samePairs_nil {id : String} {a b : Addr} {es : Array DictEntry} {ep ep' : Nat} {Q : Bool → Shared → Prop} (ha : (a == sysModules) = false) (hb : (b == sysModules) = false) (da : s.heap.DictRaw a es ep) (db : s.heap.DictRaw b #[] ep') (h : Q (decide (es.size = 0)) s) :
    wpAny (model prog w) A (Builtin.Dict.samePairs id a b) Q E s := by
  obtain ⟨oa, hoa, hca, hda⟩ := id_ da
  obtain ⟨ob, hob, hcb, hdb⟩ := id_ db
  unfold Builtin.Dict.samePairs Builtin.Dict.showsAll
  rw [if_neg (by rw [ha]; exact Bool.false_ne_true), if_neg (by rw [hb]; exact Bool.false_ne_true)]
  refine wpAny_bind (wpAny_pure (wpAny_bind (wpAny_pure ?_)))
  refine wpAny_bind (wpAny_dictEntries hoa hda (wpAny_bind (wpAny_dictEntries hob hdb ?_)))
  by_cases hz : es.size = 0
  · have e : (es.size != (#[] : Array DictEntry).size) = false := by rw [hz]; rfl
    simp only [e, Bool.false_eq_true, if_false]
    refine wpAny_bind (wpAny_dictEpoch hoa hda ?_)
    rw [hz]
    rw [show decide (es.size = 0) = true from decide_eq_true hz] at h
    refine wpAny_bind ?_
    rw [Std.Legacy.Range.forIn_eq_forIn_range']
    simp only [Std.Legacy.Range.size, Nat.sub_zero, Nat.add_sub_cancel, Nat.div_one, List.range'_zero, List.forIn_nil]
    exact wpAny_pure (wpAny_pure h)
  · have e : (es.size != (#[] : Array DictEntry).size) = true := by simpa using hz
    simp only [e, if_true]
    rw [show decide (es.size = 0) = false from decide_eq_false hz] at h
    exact wpAny_bind (wpAny_rule (wpAny_pure h))
where
  id_ {α : Prop} (h : α) : α := h
end
section
variable {X : Cx}
def rDNil (neg : Bool) : R2 := fun x y H Q => ∃ a b kvs, x = .ref a ∧ y = .ref b ∧ Rd H a (.dT kvs) ∧ H b = some (.dT []) ∧ Q (.bl (if neg then !kvs.isEmpty else kvs.isEmpty)) H
theorem isEmpty_dec {α : Type} {β : Type} {l : List α} {a : Array β} (h : a.size = l.length) : decide (a.size = 0) = l.isEmpty := by
  cases l with
  | nil => exact decide_eq_true h
  | cons x l => exact decide_eq_false (by rw [h]; simp)
theorem raw_nil {b : Addr} {pins : List (Addr × Obj)} {σ : L2.St} {H : Hp} {s : Shared} (I : Inv X pins σ H s) (h : H b = some (.dT [])) : (b == sysModules) = false ∧ ∃ ep, s.heap.DictRaw b #[] ep := by
  obtain ⟨hs, es, ep, hm, hsz, _⟩ := dt_raw I (.inl h)
  have e : es = #[] := Array.eq_empty_of_size_eq_zero hsz
  subst e
  exact ⟨hs, ep, hm⟩
theorem op_eqDN {k : Nat} (hr : Room k X.A) : OpR X (compareOp .Eq) (rDNil false) := by
  intro pins s σ H x y v u Q I rx ry h
  obtain ⟨a, b, kvs, rfl, rfl, ha, hb, q⟩ := h
  cases rx
  cases ry
  obtain ⟨sa, es, ep, da, hsz, _⟩ := dt_raw I ha
  obtain ⟨sb, ep', db⟩ := raw_nil I hb
  show wpAny _ _ (richCompare .Eq (.ref a) (.ref b)) _ _ _
  refine wpAny_richCompare_same_room (op := .Eq) da.typeIs db.typeIs PySem.F.slot_dict_eq (wpAny_call_entry PySem.F.slot_dict_eq da.typeIs PySem.F.entry_dict_eq ?_ (PySem.F.args_dict_eq_2 _ _)) hr.units0
  show wpAny _ _ (Builtin.Dict.dictSlotArgs "__eq__" ⟨[.ref a, .ref b], []⟩ >>= _) _ _ s
  refine wpAny_bind ?_
  unfold Builtin.Dict.dictSlotArgs
  refine wpAny_bind (wpAny_notOrdered_dict da.typeIs ?_)
  show wpAny _ _ (pure (Value.ref a, Value.ref b)) _ _ s
  refine wpAny_pure ?_
  refine wpAny_bind (wpAny_isInstance (T := "dict") db.typeIs PySem.F.sub_dict_dict ?_)
  simp only [Bool.not_true, Bool.false_eq_true, if_false]
  refine wpAny_bind (wpAny_pure (wpAny_bind (wpAny_pure ?_)))
  refine wpAny_bind (samePairs_nil sa sb da db ?_)
  refine wpAny_pure ⟨_, rfl, (fun x => nomatch x), ?_⟩
  rw [isEmpty_dec hsz]
  refine ⟨.bl kvs.isEmpty, H, I, ?_, q⟩
  show Value.bool (kvs.isEmpty == true) = Value.bool kvs.isEmpty
  cases kvs.isEmpty <;> rfl
theorem op_neDN {k : Nat} (hr : Room k X.A) : OpR X (compareOp .NotEq) (rDNil true) := by
  intro pins s σ H x y v u Q I rx ry h
  obtain ⟨a, b, kvs, rfl, rfl, ha, hb, q⟩ := h
  cases rx
  cases ry
  obtain ⟨sa, es, ep, da, hsz, _⟩ := dt_raw I ha
  obtain ⟨sb, ep', db⟩ := raw_nil I hb
  show wpAny _ _ (richCompare .NotEq (.ref a) (.ref b)) _ _ _
  refine wpAny_richCompare_same_room (op := .NotEq) da.typeIs db.typeIs PySem.F.slot_dict_ne (wpAny_call_entry PySem.F.slot_dict_ne da.typeIs PySem.F.entry_dict_ne ?_ (PySem.F.args_dict_ne_2 _ _)) hr.units0
  show wpAny _ _ (Builtin.Dict.dictSlotArgs "__ne__" ⟨[.ref a, .ref b], []⟩ >>= _) _ _ s
  refine wpAny_bind ?_
  unfold Builtin.Dict.dictSlotArgs
  refine wpAny_bind (wpAny_notOrdered_dict da.typeIs ?_)
  show wpAny _ _ (pure (Value.ref a, Value.ref b)) _ _ s
  refine wpAny_pure ?_
  refine wpAny_bind (wpAny_isInstance (T := "dict") db.typeIs PySem.F.sub_dict_dict ?_)
  simp only [Bool.not_true, Bool.false_eq_true, if_false]
  refine wpAny_bind (wpAny_pure (wpAny_bind (wpAny_pure ?_)))
  refine wpAny_bind (samePairs_nil sa sb da db ?_)
  refine wpAny_pure ⟨_, rfl, (fun x => nomatch x), ?_⟩
  rw [isEmpty_dec hsz]
  refine ⟨.bl (!kvs.isEmpty), H, I, ?_, q⟩
  show Value.bool (kvs.isEmpty == false) = Value.bool (!kvs.isEmpty)
  cases kvs.isEmpty <;> rfl
variable {α : Type} {fα : α → Dt} {a : Expr} {Γ : Gam} {H : Hp} {kvs : List (List Key × V)} {m : List (List Nat × α)} {f : Addr} {pos pb : Pos}
theorem DcR.emp {H : Hp} (r : DcR fα H kvs m) : kvs.isEmpty = m.isEmpty := by
  have := r.length
  cases kvs <;> cases m <;> simp_all
theorem tx_neDN {k : Nat} (hr : Room k X.A) (ha : EX X a Γ H (.ref f)) (hf : Rd H f (.dT kvs)) (hR : DcR fα H kvs m) (hm : behindInMarks .NotEq (.Dict [] [] pb) = false := by rfl) : TX X (.Compare a [.NotEq] [.Dict [] [] pb] pos) Γ H (!m.isEmpty) := fun σ H1 Q g mm q =>
  RT.of (pt_cmpR (op_neDN hr) re pe_dnewT hm) (ha σ H1 _ g mm fun v H2 g2 tv => fun p hp => ⟨f, p, kvs, tv.ref_eq, rfl, (Ge.new hp).rd ((g.trans g2).rd hf), upd_same, _, rfl, by rw [if_pos rfl, hR.emp]; exact q _ (g2.trans (Ge.new hp))⟩)
/-- e == {} of a dict that is made -/
theorem mt_eqDN {k : Nat} {K : Bool → Hp → Prop} (hr : Room k X.A) (ha : MX X a Γ H fun d H1 => ∃ f kvs, d = .ref f ∧ Rd H1 f (.dT kvs) ∧ ∀ H2, Ge H1 H2 → K kvs.isEmpty H2) (hm : behindInMarks .Eq (.Dict [] [] pb) = false := by rfl) : MT X (.Compare a [.Eq] [.Dict [] [] pb] pos) Γ H K := fun σ mm =>
  RT.of (pt_cmpR (op_eqDN hr) re pe_dnewT hm) ((ha σ mm).mono fun v H1 ⟨d, tv, m1, f, kvs, ed, hf, k⟩ => fun p hp => by
    subst ed
    exact ⟨f, p, kvs, tv.ref_eq, rfl, (Ge.new hp).rd hf, upd_same, _, rfl, m1.ge (Ge.new hp), k _ (Ge.new hp)⟩)
end
end Lk
set_option Elab.async false
set_option linter.all false
set_option maxRecDepth 100000
set_option maxHeartbeats 4000000
/-! Objects: fields, methods, making. -/
namespace Lk
open PySem PySem.Spec PyProof.Rows L2 GxR
open C8 (Cal Met Mak pe_c pe_mt pe_mk pe_mt0)
section
variable {X : Cx} {e o : Expr} {es : List Expr} {Γ : Gam} {H : Hp} {d : Dt} {pos : Pos} {nx : Gam → Hp → Prop} {rt : Dt → Hp → Prop}
theorem ex_fld {b C dx : Addr} {fs : List (Str × V)} {f : Str} {v : V} (he : EX X e Γ H (.ref b)) (hb : H b = some (.ins C dx fs)) (cl : Cls X.K C) (na : NoAttr X.K C f) (hl : fs.lookup f = some v) (tv : Tp H v d) (hab : attributeBase e f X.env (eval e X.env) = eval e X.env := by rfl) :
    EX X (.Attribute e f pos) Γ H d := fun σ H1 Q g m q =>
  RE.of (pe_fld re hab) (he σ H1 _ g m fun x H2 g2 tx => ⟨b, C, dx, fs, v, tx.ref_eq, (g.trans g2).ins hb, cl, na, hl, q v H2 g2 (tv.ge (g.trans g2))⟩)
/-- o.f = e -/
theorem sx_fld {b C dx : Addr} {fs : List (Str × V)} {f : Str} {pos' : Pos} (hv : EX X e Γ H d) (ho : EX X o Γ H (.ref b)) (hb : H b = some (.ins C dx fs)) (cl : Cls X.K C) (na : NoAttr X.K C f) (hn : fs.length < 1000)
    (k : ∀ H1 v, GeX [b] H H1 → Tp H1 v d → H1 b = some (.ins C dx (putF f v fs)) → nx Γ H1) (hs : swapsWith e (some (.Attribute o f pos')) pos.line X.env = pure false := by rfl) : SX X (.Assign [.Attribute o f pos'] e pos) Γ H nx rt := fun σ m =>
  RS.of (ps_fld re re hs) (hv σ H _ (Ge.refl _) m fun v H1 g1 tv => ho σ H1 _ g1 (m.ge g1) fun x H2 g2 tx => by
    have hb2 := (g1.trans g2).ins hb
    have lt : LeT H2 (upd H2 b (.ins C dx (putF f v fs))) := LeT.upd fun xs h => by rw [hb2] at h; cases h
    exact ⟨b, C, dx, fs, tx.ref_eq, hb2, cl, na, hn, Γ, (m.ge (g1.trans g2)).mono lt, k _ v (((g1.trans g2).x [b]).trans GeX.set) ((tv.ge g2).mono lt) upd_same⟩)
/-- o.f = e, e may change things -/
theorem sx_fldM {f : Str} {pos' : Pos} (hv : MX X e Γ H fun d H1 => ∃ b C dx fs, EX X o Γ H1 (.ref b) ∧ H1 b = some (.ins C dx fs) ∧ Cls X.K C ∧ NoAttr X.K C f ∧ fs.length < 1000 ∧ ∀ H2 v, GeX [b] H1 H2 → Tp H2 v d → H2 b = some (.ins C dx (putF f v fs)) → nx Γ H2)
    (hs : swapsWith e (some (.Attribute o f pos')) pos.line X.env = pure false := by rfl) : SX X (.Assign [.Attribute o f pos'] e pos) Γ H nx rt := fun σ m =>
  RS.of (ps_fld re re hs) ((hv σ m).mono fun v H1 ⟨d, tv, m1, b, C, dx, fs, ho, hb, cl, na, hn, k⟩ => ho σ H1 _ (Ge.refl _) m1 fun x H2 g2 tx => by
    have hb2 := g2.ins hb
    have lt : LeT H2 (upd H2 b (.ins C dx (putF f v fs))) := LeT.upd fun xs h => by rw [hb2] at h; cases h
    exact ⟨b, C, dx, fs, tx.ref_eq, hb2, cl, na, hn, Γ, (m1.ge g2).mono lt, k _ v ((g2.x [b]).trans GeX.set) ((tv.ge g2).mono lt) upd_same⟩)
variable {ι : Type} {args : ι → List Dt} {pre : ι → Hp → Prop} {post : ι → Hp → Dt → Hp → Prop} {k j : Nat} {C : Addr} {m x : Str} {p apos : Pos} {K : Dt → Hp → Prop}
theorem mx_meth {pl : Sem Bool} (c : Met X.prog X.w X.K X.mg X.base k C m (spP args pre post) []) (hr : Room j X.A) (hk : k ≤ j) (ho : MX X o Γ H fun d0 H1 => ∃ a dx fs ds y, d0 = .ref a ∧ H1 a = some (.ins C dx fs) ∧ fs.lookup m = none ∧ AX X (e :: es) Γ H1 ds ∧ args y = .ref a :: ds ∧
      (∀ H2, Ge H1 H2 → pre y H2) ∧ ∀ H2 d H3, Ge H1 H2 → post y H2 d H3 → LeT H2 H3 ∧ K d H3)
    (hst : starEach (e :: es) X.env = (false, eval e X.env) :: starEach es X.env := by rfl) (hpl : (backTo pos (starEach es X.env)).any (·.1) = false := by rfl)
    (ht : eval (.Call (.Attribute o m apos) (e :: es) [] pos) X.env = (do
      let ov ← eval o X.env
      standAt apos.atName
      let (f, first) ← holding [ov] (getMethod ov m pl)
      callWith pos f first (backTo pos (starEach (e :: es) X.env)) (backToKw pos (keywordEach [] X.env))) := by rfl) :
    MX X (.Call (.Attribute o m apos) (e :: es) [] pos) Γ H K := fun σ mm =>
  RE.of (pe_mt (pl := pl) c hr hk re ra hst hpl ht) ((ho σ mm).mono fun v H1 ⟨d0, tv, m1, a, dx, fs, ds, y, ed, hb, hl, ha, ey, hp, hq⟩ => by
    subst ed
    cases tv.ref_eq
    refine ⟨a, dx, fs, rfl, hb, hl, ha σ H1 _ (Ge.refl _) m1 fun vs H2 g2 t => ?_⟩
    show spP args pre post (.ref a :: (vs ++ [])) H2 _ _
    rw [List.append_nil]
    refine ⟨y, by rw [ey]; exact .cons (.ref a) t, hp H2 g2, fun d v H3 tv p3 => ?_⟩
    obtain ⟨lt, k⟩ := hq H2 d H3 g2 p3
    exact ⟨d, tv, (m1.ge g2).mono lt, k⟩)
theorem mx_meth0 {pl : Sem Bool} (c : Met X.prog X.w X.K X.mg X.base k C m (spP args pre post) []) (hr : Room j X.A) (hk : k ≤ j) (ho : MX X o Γ H fun d0 H1 => ∃ a dx fs y, d0 = .ref a ∧ H1 a = some (.ins C dx fs) ∧ fs.lookup m = none ∧ args y = [.ref a] ∧
      pre y H1 ∧ ∀ d H3, post y H1 d H3 → LeT H1 H3 ∧ K d H3)
    (ht : eval (.Call (.Attribute o m apos) [] [] pos) X.env = (do
      let ov ← eval o X.env
      standAt apos.atName
      let (f, first) ← holding [ov] (getMethod ov m pl)
      callWith pos f first (backTo pos (starEach [] X.env)) (backToKw pos (keywordEach [] X.env))) := by rfl) :
    MX X (.Call (.Attribute o m apos) [] [] pos) Γ H K := fun σ mm =>
  RE.of (pe_mt0 (pl := pl) c hr hk re ht) ((ho σ mm).mono fun v H1 ⟨d0, tv, m1, a, dx, fs, y, ed, hb, hl, ey, hp, hq⟩ => by
    subst ed
    cases tv.ref_eq
    refine ⟨a, dx, fs, rfl, hb, hl, ?_⟩
    show spP args pre post (.ref a :: ([] ++ [])) H1 _ C8.E0
    refine ⟨y, by rw [ey]; exact .cons (.ref a) .nil, hp, fun d v H3 tv p3 => ?_⟩
    obtain ⟨lt, k⟩ := hq d H3 p3
    exact ⟨d, tv, m1.mono lt, k⟩)
theorem mx_make {ds : List Dt} (c : Mak X.prog X.w X.K X.mg X.base k x C (spP args pre post) []) (hr : Room j X.A) (hk : k + 1 ≤ j) (ha : AX X (e :: es) Γ H ds)
    (h : ∀ H1 b dx, Ge H H1 → H1 b = none → H1 dx = none → dx ≠ b → ∃ y, args y = .ref b :: ds ∧ pre y (upd (upd H1 dx (.own b)) b (.ins C dx [])) ∧ ∀ d H3, post y (upd (upd H1 dx (.own b)) b (.ins C dx [])) d H3 → d = .non ∧ LeT H1 H3 ∧ K (.ref b) H3)
    (hg : Gl X x := by rfl) (hdb : (x == ("__debug__" : Str)) = false := by decide) (he : starEach (e :: es) X.env = (false, eval e X.env) :: starEach es X.env := by rfl) (hpl : (backTo pos (starEach es X.env)).any (·.1) = false := by rfl) :
    MX X (.Call (.Name x p) (e :: es) [] pos) Γ H K := fun σ mm =>
  RE.of (pe_mk c hr hk hg ra hdb he hpl) (ha σ H _ (Ge.refl _) mm fun vs H1 g1 t => fun b dx nb nd ne => by
    obtain ⟨y, ey, hp, hq⟩ := h H1 b dx g1 nb nd ne
    show spP args pre post (.ref b :: (vs ++ [])) _ _ _
    rw [List.append_nil]
    have g2 : Ge H1 (upd (upd H1 dx (.own b)) b (.ins C dx [])) := (Ge.new nd).trans (Ge.new (by rw [upd_ne ne.symm]; exact nb))
    refine ⟨y, by rw [ey]; exact .cons (.ref b) (t.ge g2), hp, fun d v H3 tv p3 => ?_⟩
    obtain ⟨rfl, lt, k⟩ := hq d H3 p3
    exact ⟨tv.non_eq, .ref b, .ref b, (mm.ge g1).mono lt, k⟩)
end
end Lk
set_option linter.all false
/-! The least worst, without fuel. -/
namespace Lk
section
variable {hs : List Habit} {lot : List Nat} {P : Nat}
def bW (hs : List Habit) (lot : List Nat) (g : List Nat) : Nat := bestW hs lot g.length g
theorem part_ent {g : List Nat} (ok : Ok hs lot g P) {q : List Nat × Tst} (hq : q ∈ partings hs lot g) : q.2.of lot ∧ q.1 = readsOf hs g q.2 ∧ 0 < q.1.length ∧ q.1.length < g.length := (part_ok ok).ent q hq
theorem filter_len {A : Type} (p : A → Bool) : ∀ l : List A, (l.filter p).length + (l.filter fun x => !p x).length = l.length
  | [] => rfl
  | a :: l => by
    have ih := filter_len p l
    cases h : p a <;> simp [List.filter_cons, h] <;> omega
theorem rest_len {g : List Nat} (ok : Ok hs lot g P) {q : List Nat × Tst} (hq : q ∈ partings hs lot g) : 0 < (restOf g q.1).length ∧ (restOf g q.1).length < g.length := by
  obtain ⟨_, e, h1, h2⟩ := part_ent ok hq
  have hf := filter_len (fun i => reads (hb hs i) q.2) g
  have e2 : restOf g q.1 = g.filter fun i => !reads (hb hs i) q.2 := by rw [e]; exact rest_of
  rw [e2]
  have e3 : q.1.length = (g.filter fun i => reads (hb hs i) q.2).length := by rw [e]; rfl
  omega
theorem Ok.part {g : List Nat} (ok : Ok hs lot g P) (hP : 0 < P) {q : List Nat × Tst} (hq : q ∈ partings hs lot g) : Ok hs lot q.1 P := by
  obtain ⟨_, e, h1, h2⟩ := part_ent ok hq
  exact ok.sub (fun i hi => by rw [e] at hi; exact (List.mem_filter.mp hi).1) (Nat.le_of_lt h2) hP
theorem Ok.rest {g : List Nat} (ok : Ok hs lot g P) (hP : 0 < P) {q : List Nat × Tst} (hq : q ∈ partings hs lot g) : Ok hs lot (restOf g q.1) P :=
  ok.sub (fun i hi => (List.mem_filter.mp hi).1) (Nat.le_of_lt (rest_len ok hq).2) hP
def BB (hs : List Habit) (lot : List Nat) (g : List Nat) : Nat := minL ((partings hs lot g).map fun q => q.2.w.length + 2 + max (bW hs lot q.1) (bW hs lot (restOf g q.1)))
theorem best_fuel (hP : 0 < P) : ∀ (n : Nat) (m : Nat), m ≤ n → ∀ g, Ok hs lot g P → g.length ≤ m → bestW hs lot m g = BB hs lot g
  | n, 0, _, g, ok, hg => by
    have e : partings hs lot g = [] := by
      cases h : partings hs lot g with
      | nil => rfl
      | cons q r =>
        have := part_ent ok (q := q) (by rw [h]; exact List.mem_cons_self)
        omega
    show 0 = minL _
    rw [e]
    rfl
  | 0, m + 1, h, _, _, _ => absurd h (by omega)
  | n + 1, m + 1, h, g, ok, hg => by
    show minL _ = minL _
    congr 1
    apply List.map_congr_left
    intro q hq
    have h1 := part_ent ok hq
    have h2 := rest_len ok hq
    have ok1 := ok.part hP hq
    have ok2 := ok.rest hP hq
    have a1 := best_fuel hP n m (by omega) q.1 ok1 (by omega)
    have a2 := best_fuel hP n m (by omega) (restOf g q.1) ok2 (by omega)
    have b1 := best_fuel hP n q.1.length (by omega) q.1 ok1 (Nat.le_refl _)
    have b2 := best_fuel hP n (restOf g q.1).length (by omega) (restOf g q.1) ok2 (Nat.le_refl _)
    rw [a1, a2]
    unfold bW
    rw [b1, b2]
theorem bW_eq (hP : 0 < P) {g : List Nat} (ok : Ok hs lot g P) : bW hs lot g = BB hs lot g := best_fuel hP g.length g.length (Nat.le_refl _) g ok (Nat.le_refl _)
/-- what one key costs -/
def kW (hs : List Habit) (lot : List Nat) (g mk : List Nat) : Nat := ((lk (partings hs lot g) mk).map fun t => t.w.length).getD 0 + 2 + max (bW hs lot mk) (bW hs lot (restOf g mk))
theorem BB_keys {g : List Nat} (ok : Ok hs lot g P) {ks : List (List Nat)} (hp : ks.Perm ((partings hs lot g).map (·.1))) : BB hs lot g = minL (ks.map (kW hs lot g)) := by
  have h1 : (partings hs lot g).map (fun q => q.2.w.length + 2 + max (bW hs lot q.1) (bW hs lot (restOf g q.1))) = ((partings hs lot g).map (·.1)).map (kW hs lot g) := by
    rw [List.map_map]
    apply List.map_congr_left
    intro q hq
    show _ = kW hs lot g q.1
    unfold kW
    rw [lk_of_mem (part_ok ok).nd (k := q.1) (v := q.2) hq]
    rfl
  unfold BB
  rw [h1]
  exact minL_perm (hp.symm.map _)
theorem key_of {g : List Nat} (ok : Ok hs lot g P) {ks : List (List Nat)} (hp : ks.Perm ((partings hs lot g).map (·.1))) {mk : List Nat} (hm : mk ∈ ks) : ∃ t, lk (partings hs lot g) mk = some t ∧ (mk, t) ∈ partings hs lot g := by
  obtain ⟨t, ht⟩ := lk_some_of_mem (hp.mem_iff.mp hm)
  exact ⟨t, ht, lk_mem ht⟩
end
/-! few keys -/
def keys5 : List (List Nat) := vecs 5 0 ++ vecs 5 1 ++ vecs 5 2 ++ vecs 5 3 ++ vecs 5 4 ++ vecs 5 5
theorem keys5_len : keys5.length ≤ 3906 := by
  unfold keys5
  simp only [List.length_append, vecs_len]
  decide
theorem few {ks : List (List Nat)} (hn : ks.Nodup) (h : ∀ k, k ∈ ks → k.length ≤ 5 ∧ ∀ x, x ∈ k → x < 5) : ks.length ≤ 3906 := by
  refine Nat.le_trans (len_le_of_sub hn fun k hk => ?_) keys5_len
  obtain ⟨h1, h2⟩ := h k hk
  unfold keys5
  simp only [List.mem_append]
  have hv := vecs_mem 5 (n := k.length) (v := k) rfl h2
  have : k.length = 0 ∨ k.length = 1 ∨ k.length = 2 ∨ k.length = 3 ∨ k.length = 4 ∨ k.length = 5 := by omega
  rcases this with e | e | e | e | e | e <;> rw [e] at hv <;> simp [hv]
end Lk
set_option Elab.async false
set_option linter.all false
set_option maxRecDepth 100000
set_option maxHeartbeats 4000000
/-! marks_of. -/
namespace Lk
open PySem PySem.Spec PyProof.Rows L2 GxR
open C8 (Cal Met Mak pe_c pe_mt pe_mk pe_mt0)
abbrev FnP (K : PySem.W.Frag) (x qual : Str) (st : Stmt) (f : Addr) (fd : FuncData) : Prop := FunD K x qual (defArgs st) (defBody st) (defScope st) [] [] f fd
def mdD (q : Nat × List Nat) : Dt := .tup [dN q.1, dNs q.2]
theorem GeX.t {f : Addr} {H H' : Hp} (g : GeX [f] H H') (hf : ∀ xs, H f ≠ some (.tup xs)) : LeT H H' := fun a xs h => g.tup (by
  intro m
  rw [List.mem_singleton.mp m] at h
  exact hf xs h) h
theorem ge_of {xs : List Addr} {H H' H2 : Hp} (g : Ge H H') (x : GeX xs H' H2) (n : ∀ a ∈ xs, H a = none) : Ge H H2 := fun a o _ e => by
  have hne : a ∉ xs := fun m => by rw [n a m] at e; cases e
  exact (g a o (by simp) e).trans fun u e' => x a u hne e'
theorem GeX.one {f l : Addr} {H H' : Hp} (g : GeX [f] H H') (n : l ≠ f) {o : HO} (h : H l = some o) (t : ∀ ps, o ≠ .tbl ps) : H' l = some o := g.at (by simpa using n) h t
/-- found and layer as they stand -/
structure MS (H H' : Hp) (f l : Addr) (s : MD × List (List Nat)) : Prop where
  ge : Ge H H'
  fn : H f = none
  ln : H l = none
  d : ∃ kvs, H' f = some (.dT kvs) ∧ DcR mdD H' kvs s.1
  y : ∃ vs, H' l = some (.lst vs) ∧ TpA H' vs (s.2.map dNs)
theorem MS.ne {H H' : Hp} {f l : Addr} {s : MD × List (List Nat)} (m : MS H H' f l s) : l ≠ f := fun e => by
  obtain ⟨kvs, h1, _⟩ := m.d
  obtain ⟨vs, h2, _⟩ := m.y
  rw [e, h1] at h2
  cases h2
theorem MS.mono {H H' H2 : Hp} {f l : Addr} {s : MD × List (List Nat)} (m : MS H H' f l s) (g : Ge H' H2) : MS H H2 f l s := by
  obtain ⟨kvs, h1, r⟩ := m.d
  obtain ⟨vs, h2, t⟩ := m.y
  exact ⟨m.ge.trans g, m.fn, m.ln, ⟨kvs, g.dT h1, r.mono g.t⟩, ⟨vs, g.lst h2, t.ge g⟩⟩
theorem size4k {n : Nat} (h : n ≤ 4000) : n < sizeLine := Nat.lt_of_le_of_lt h (by decide)
section
variable {X : Cx} {a b c : Expr} {Γ : Gam} {H0 H : Hp} {pos : Pos} {nx : Gam → Hp → Prop} {rt : Dt → Hp → Prop} {j : Nat}
/-- found[k] = e; layer.append(k) -/
theorem sx_add {f l : Addr} {s : MD × List (List Nat)} {k : List Nat} {q : Nat × List Nat} {e ef ek el ek2 : Expr} {pos' pos2 apos cpos : Pos} {rest : List Stmt} (ms : MS H0 H f l s) (hn : lk s.1 k = none) (h1 : s.1.length ≤ 4000) (h2 : s.2.length ≤ 4000) (hr : Room j X.A)
    (hv : EX X e Γ H (mdD q)) (hf : ∀ H, EX X ef Γ H (.ref f)) (hk : ∀ H, EX X ek Γ H (dNs k)) (hl : ∀ H, EX X el Γ H (.ref l)) (hk2 : ∀ H, EX X ek2 Γ H (dNs k))
    (hnx : ∀ H1, MS H0 H1 f l (s.1 ++ [(k, q)], s.2 ++ [k]) → GeX [f, l] H H1 → SXs X rest Γ H1 nx rt)
    (hs : swapsWith e (some (.Subscript ef ek pos')) pos.line X.env = pure false := by rfl)
    (hs2 : swapsWith (.Call (.Attribute el "append" apos) [ek2] [] cpos) none pos2.line X.env = pure false := by rfl)
    (hbase : attributeBase el "append" X.env (eval el X.env) = eval el X.env := by rfl)
    (hfew : ((backTo cpos (starEach [ek2] X.env)).all (fun x => !x.1) && (backToKw cpos (keywordEach [] X.env)).all (fun x => x.1.isSome)
      && decide ([ek2].length + ([] : List Keyword).length + (if ([] : List Keyword).isEmpty then 0 else 1) < 30)) = true := by rfl)
    (hline : (apos.endLine == cpos.line) = true := by rfl) (hst : starEach [ek2] X.env = (false, eval ek2 X.env) :: starEach [] X.env := by rfl) (hplain : (backTo cpos (starEach [] X.env)).any (·.1) = false := by rfl) :
    SXs X (.Assign [.Subscript ef ek pos'] e pos :: .Expr (.Call (.Attribute el "append" apos) [ek2] [] cpos) pos2 :: rest) Γ H nx rt := by
  obtain ⟨kvs, hd, r⟩ := ms.d
  obtain ⟨vs, hy, t⟩ := ms.y
  refine sxs_cons (sx_dput hv (hf H) (hk H) hd r (size4k h1) (fun H1 kvs' g1 hd1 r1 => ?_) hr hs)
  have hy1 := g1.one ms.ne hy (fun _ e => nomatch e)
  have lt1 : LeT H H1 := g1.t fun xs h => by rw [hd] at h; cases h
  refine sxs_cons (sx_exprM (mx_append (hl H1) hy1 (by rw [t.length, List.length_map]; exact size4k h2) (hk2 H1) (fun H2 v g2 tv hy2 => ?_) hbase hfew hline hst hplain) hs2)
  have lt2 : LeT H1 H2 := g2.t fun xs h => by rw [hy1] at h; cases h
  have hd2 := g2.one ms.ne.symm hd1 (fun _ e => nomatch e)
  rw [put_new hn] at r1
  refine hnx H2 ⟨ge_of (ge_of ms.ge g1 (fun a m => by rw [List.mem_singleton.mp m]; exact ms.fn)) g2 (fun a m => by rw [List.mem_singleton.mp m]; exact ms.ln), ms.fn, ms.ln, ⟨kvs', hd2, r1.mono lt2⟩, ⟨_, hy2, ?_⟩⟩ ?_
  · rw [List.map_append]
    exact ((t.mono lt1).mono lt2).append (.cons tv .nil)
  · exact (g1.mono (fun a m => by rw [List.mem_singleton.mp m]; simp)).trans (g2.mono (fun a m => by rw [List.mem_singleton.mp m]; simp))
end
theorem pgn {X : Cx} {pos : Pos} {i : Nat} {x : Str} (hN : X.N.Nodup) (hi : X.N[i]? = some x := by rfl) (hx : Loc X.env.scope x := by first | exact Or.inl rfl | exact Or.inr rfl) (hf : X.fn x = true ∨ X.env.scope.names.lookup x = some .local := by first | exact .inl rfl | exact .inr rfl | assumption) : PG X (.Name x pos) (gName i) := pg_name hN hi hx hf
theorem ex_dgM {X : Cx} {a b : Expr} {Γ : Gam} {H : Hp} {pos : Pos} {kvs : List (List Key × V)} {m : MD} {f : Addr} {k : List Nat} {j : Nat} {p : Nat} {w : List Nat} (ha : EX X a Γ H (.ref f)) (hb : EX X b Γ H (dNs k)) (hf : Rd H f (.dT kvs)) (hR : DcR mdD H kvs m) (hl : lk m k = some (p, w)) (hr : Room j X.A) (hs : NoSl b := by intro _ _; rfl) :
    EX X (.Subscript a b pos) Γ H (.tup [dN p, dNs w]) := ex_dget (fα := mdD) ha hb hf hR hl hr hs
structure MoIn where
  hs : List Habit
  lot : List Nat
  group : List Nat
  P : Nat
def moArgs (y : MoIn) : List Dt := [dHs y.hs, dNs y.lot, dNs y.group]
def moPre (y : MoIn) (_ : Hp) : Prop := Ok y.hs y.lot y.group y.P ∧ (∀ i, i ∈ y.group → i < y.hs.length) ∧ y.group.length ≤ 4000
def moPost (y : MoIn) (H : Hp) (d : Dt) (H' : Hp) : Prop := Ge H H' ∧ ∃ f kvs, d = .ref f ∧ H f = none ∧ H' f = some (.dT kvs) ∧ DcR mdD H' kvs (marksOf y.hs y.lot y.group)
abbrev N_mo : List Str := ["habits", "lot", "group", "found", "layer", "place", "marks", "later", "moved", "index", "mark"]
theorem sc_marks_of : FnScope N_mo ["habits", "lot", "group"] (defScope s_marks_of) := ⟨rfl, rfl, rfl, by decide +kernel, rfl, by decide +kernel, by decide +kernel⟩
section
variable {P : Program} {w : World} {K : PySem.W.Frag} {mg : Str → Option Value} {base : Heap} {f : Addr} {fd : FuncData}
theorem keepD_all {α : Type} (l : List α) (g : α → Dt) : keepD (fun k => l[k]?.map g) l.length = l.map g := by
  unfold keepD
  induction l with
  | nil => rfl
  | cons a l ih =>
    rw [List.length_cons, List.range_succ_eq_map, List.filterMap_cons]
    simp only [List.getElem?_cons_zero, Option.map_some, List.map_cons, List.filterMap_map]
    rw [← ih]
    congr 1
theorem ok_marks_of (g : Gb mg) (F : FnP K "marks_of" "marks_of" s_marks_of f fd) : FnOk P w K mg base CX0 1 f fd ["habits", "lot", "group"] (spP moArgs moPre moPost) := by
  refine fn_P F sc_marks_of (fun y => rfl) fun cdv A outer s H E y _ hr h => ?_
  obtain ⟨hs, lot, group, Pl⟩ := y
  obtain ⟨ok, hgr, hg4⟩ := h
  have hg4 : group.length ≤ 4000 := hg4
  refine sxs_cons (sx_parM (i := 3) (j := 4) (mx_dnew fun fo H1 g1 nf hf => fun σ m => lx_list ax_nil (Nat.zero_le _) σ H1 _ (Ge.refl _) m fun l vs H2 g2 nl hl t => ⟨.ref l, .ref l, m.ge g2, g2.t, ?_⟩) rfl sc_marks_of.nd)
  have h0 : MS H H2 fo l ([], []) := ⟨g1.trans g2, nf, g1.free nl, ⟨_, g2.dT hf, .nil⟩, ⟨vs, hl, t⟩⟩
  refine sxs_cons (sx_for (src_tup (i := 5) (ex_var 1)) (pgn sc_marks_of.nd) (fun H3 g3 => ?_) PassesOwn.never rfl)
  refine ⟨fun k Γ' H' => LeT H3 H' ∧ (∃ x5 x6 x9, Γ' = [some (dHs hs), some (dNs lot), some (dNs group), some (.ref fo), some (.ref l), x5, x6, none, none, x9, none]) ∧
    MS H H' fo l ((lot.take k).foldl (st0 hs group) ([], [])) ∧ Good hs lot group Pl ((lot.take k).foldl (st0 hs group) ([], [])).1 ∧ Tail [] ((lot.take k).foldl (st0 hs group) ([], [])),
    ⟨LeT.refl _, ⟨none, none, none, rfl⟩, h0.mono g3, Good.nil, rfl⟩, fun k Γ' H' p => p.1, ?_, ?_⟩
  · rintro k Γ' H' H4 hk ⟨lt, ⟨x5, x6, x9, rfl⟩, ms, gd, tl⟩ g4
    rw [List.length_map] at hk
    have e : (lot.map dN)[k]? = some (dN lot[k]) := by rw [List.getElem?_map, List.getElem?_eq_getElem hk]; rfl
    simp only [e]
    have hp : lot[k] ∈ lot := List.getElem_mem hk
    generalize hS : (lot.take k).foldl (st0 hs group) ([], []) = S at ms gd tl
    have ms := ms.mono g4
    refine sxs_cons (sx_asg (i := 6) (d := dNs (mStart hs group lot[k])) (ex_cast (ex_tupL (lx_lc (own := [("index", 9)]) (f := fun k' => group[k']?.map fun i => dN (stp (hb hs i) lot[k] lot[k])) (src_tup (i := 9) (ex_var 2)) (fun _ _ g => g.t) ?_ (blkOk_by (by show blkC N_mo (defScope s_marks_of) _ _ = true; decide +kernel)) (by decide)
      (fun _ _ _ _ _ => pgn sc_marks_of.nd) ?_ ?_ rfl sc_marks_of.nd) g.tuple) ?_) ?_ sc_marks_of.nd)
    · rw [List.length_map]; exact Nat.le_of_lt (size4k hg4)
    · intro s' H0 C cl fp k' H5 hk' g5
      rw [List.length_map] at hk'
      rw [List.getElem?_eq_getElem hk']
      exact txs_nil
    · intro s' H0 C cl fp k' d H5 hk' hd g5
      rw [List.length_map] at hk'
      rw [List.getElem?_eq_getElem hk'] at hd
      cases hd
      have e' : (group.map dN)[k']? = some (dN group[k']) := by rw [List.getElem?_map, List.getElem?_eq_getElem hk']; rfl
      simp only [e']
      have hi : group[k'] ∈ group := List.getElem_mem hk'
      exact ex_stp (ok.hab _ hi) (ok.lt _ hp) (ok.lt _ hp) (ex_ixHs (ex_var 0) (ex_var 9) (hgr _ hi)) (ex_var 5) (ex_var 5)
    · rw [List.length_map, keepD_all]
      unfold dNs mStart
      rw [List.map_map]
      rfl
    · intro H5 g5
      have ms5 := ms.mono g5
      obtain ⟨kvs, hd, r⟩ := id ms5.d
      have nx : (lot.take (k + 1)).foldl (st0 hs group) ([], []) = st0 hs group S lot[k] := by
        rw [List.take_succ_eq_append_getElem hk, List.foldl_append, hS]
        rfl
      have gd' : Good hs lot group Pl (st0 hs group S lot[k]).1 := st0_good gd hp
      have tl' : Tail [] (st0 hs group S lot[k]) := st0_tail tl
      refine sxs_one (sx_if (tx_dnotin (ex_var 6) (ex_var 3) (.inl hd) r hr) (fun hb6 H6 g6 => ?_) fun hb6 H6 g6 => ?_)
      · have hn : lk S.1 (mStart hs group lot[k]) = none := by
          cases q : lk S.1 (mStart hs group lot[k]) with
          | none => rfl
          | some v => rw [q] at hb6; cases hb6
        have l1 := Good.len' ok gd
        have l2 : S.2.length ≤ S.1.length := by
          have := congrArg List.length (show S.1.map (·.1) = [] ++ S.2 from tl)
          simp at this
          omega
        refine sx_add (q := (lot[k], [])) (ms5.mono g6) hn (by omega) (by omega) hr (ex_tup (ax_cons (ex_var 5) (ax_cons ex_nil ax_nil))) (fun _ => ex_var 3) (fun _ => ex_var 6) (fun _ => ex_var 4) (fun _ => ex_var 6) fun H7 ms7 g7 => sxs_nil ?_
        rw [st0_none hn] at nx gd' tl'
        rw [nx]
        have lt7 : LeT H6 H7 := fun a xs h => g7.tup (by
          have m6 := ms5.mono g6
          obtain ⟨kvs, hd, r⟩ := m6.d
          obtain ⟨vs, hy, t⟩ := m6.y
          intro m
          rcases List.mem_cons.mp m with z | z
          · rw [z, hd] at h; cases h
          · rw [List.mem_singleton.mp z, hy] at h; cases h) h
        exact ⟨(((lt.trans g4.t).trans g5.t).trans g6.t).trans lt7, ⟨_, _, _, rfl⟩, ms7, gd', tl'⟩
      · obtain ⟨v, hv⟩ : ∃ v, lk S.1 (mStart hs group lot[k]) = some v := by
          cases q : lk S.1 (mStart hs group lot[k]) with
          | none => rw [q] at hb6; cases hb6
          | some v => exact ⟨v, rfl⟩
        rw [st0_some hv] at nx gd' tl'
        refine sxs_nil ?_
        rw [nx]
        exact ⟨(((lt.trans g4.t).trans g5.t).trans g6.t), ⟨_, _, _, rfl⟩, ms5.mono g6, gd', tl'⟩
  · rintro Γ' H4 ⟨lt, ⟨x5, x6, x9, rfl⟩, ms, gd, tl⟩
    rw [List.length_map, List.take_length] at ms gd tl
    have b0 : BInv hs lot group Pl (marks0 hs lot group) := BInv.start
    refine sxs_cons (sx_while (fun n Γ' H' => ∃ s l', (∃ x5 x6 x7 x8 x9 x10, Γ' = [some (dHs hs), some (dNs lot), some (dNs group), some (.ref fo), some (.ref l'), x5, x6, x7, x8, x9, x10]) ∧ MS H H' fo l' s ∧ BInv hs lot group Pl s ∧
      bfsF hs lot group n s = marksOf hs lot group ∧ (s.2 = [] ∨ 3200 < n + s.1.length)) ⟨fuel, marks0 hs lot group, l, ⟨_, _, _, _, _, _, rfl⟩, ms, b0, rfl, .inr (by show 3200 < 4000 + _; omega)⟩ ?_ PassesOwn.never)
    rintro n Γ' H' ⟨s, l', ⟨x5, x6, x7, x8, x9, x10, rfl⟩, ms, bi, hbf, hfu⟩
    obtain ⟨vs, hy, t⟩ := id ms.y
    refine ⟨_, tx_neL hr (ld_ref (ex_var 4) hy t) (PurA.all fun d m => by obtain ⟨k, _, rfl⟩ := List.mem_map.mp m; exact Pur.dNs k), fun hk H5 g5 => ?_, fun hk H5 g5 => ?_⟩
    · have hne : s.2 ≠ [] := fun e => by rw [e] at hk; cases hk
      have gdl := bi.good.len' ok
      obtain ⟨n', rfl⟩ : ∃ n', n = n' + 1 := by
        cases n with
        | zero =>
          rcases hfu with z | z
          · exact absurd z hne
          · omega
        | succ n => exact ⟨n, rfl⟩
      refine sxs_cons (sx_asgL (i := 7) (lx_list ax_nil (Nat.zero_le _)) (fun l2 vs2 H6 g6 n6 h6 t6 => ?_) sc_marks_of.nd)
      have ms6 := (ms.mono g5).mono g6
      have hl2 : l' ≠ l2 := fun e => by
        have := g5.lst hy
        rw [e, n6] at this
        cases this
      have hy6 := g6.lst (g5.lst hy)
      have hfl : fo ≠ l2 := fun e => by
        obtain ⟨kvs, hd, r⟩ := (ms.mono g5).d
        rw [e, n6] at hd
        cases hd
      have mt6 : MS H H6 fo l2 (s.1, []) := ⟨ms6.ge, ms6.fn, (ms.mono g5).ge.free n6, ms6.d, ⟨vs2, h6, by exact t6⟩⟩
      refine sxs_cons (sx_for (src_list (i := 6) (ex_var 4) hy6 ((t.ge g5).ge g6)) (pgn sc_marks_of.nd) (fun H7 g7 => ?_) PassesOwn.never rfl)
      refine ⟨fun k Γ' H' => (LeT H7 H' ∧ H' l' = some (.lst vs)) ∧ (∃ x5 x6 x8 x9 x10, Γ' = [some (dHs hs), some (dNs lot), some (dNs group), some (.ref fo), some (.ref l'), x5, x6, some (.ref l2), x8, x9, x10]) ∧
        MS H H' fo l2 ((s.2.take k).foldl (stMid hs lot group) (s.1, [])) ∧ StepOk hs lot group Pl (s.1.map (·.1)) (s.1, []) ((s.2.take k).foldl (stMid hs lot group) (s.1, [])),
        ⟨⟨LeT.refl _, g7.lst hy6⟩, ⟨_, _, _, _, _, rfl⟩, mt6.mono g7, ⟨bi.good, tail_start s.1, fun k h => h⟩⟩, fun k Γ' H' p => ⟨p.1.1, p.1.2.trans (g7.lst hy6).symm⟩, ?_, ?_⟩
      · rintro k Γ' H' H8 hk ⟨lt, ⟨x5, x6, x8, x9, x10, rfl⟩, ms7, so⟩ g8
        rw [List.length_map] at hk
        have e : (s.2.map dNs)[k]? = some (dNs s.2[k]) := by rw [List.getElem?_map, List.getElem?_eq_getElem hk]; rfl
        simp only [e]
        generalize hS : (s.2.take k).foldl (stMid hs lot group) (s.1, []) = S at ms7 so
        generalize hM : s.2[k] = M
        have hMm : M ∈ s.2 := hM ▸ List.getElem_mem hk
        have hMk : M ∈ s.1.map (·.1) := bi.lay M hMm
        have hML := bi.good.lt ok hMk
        have nxm : (s.2.take (k + 1)).foldl (stMid hs lot group) (s.1, []) = stMid hs lot group S M := by
          rw [List.take_succ_eq_append_getElem hk, List.foldl_append, hS, hM]
          rfl
        refine sxs_one (sx_for (src_tup (i := 5) (ex_var 1)) (pgn sc_marks_of.nd) (fun H9 g9 => ?_) PassesOwn.never rfl)
        refine ⟨fun j Γ' H' => (LeT H9 H' ∧ H' l' = some (.lst vs)) ∧ (∃ x5 x8 x9 x10, Γ' = [some (dHs hs), some (dNs lot), some (dNs group), some (.ref fo), some (.ref l'), x5, some (dNs M), some (.ref l2), x8, x9, x10]) ∧
          MS H H' fo l2 ((lot.take j).foldl (stIn hs group M) S) ∧ StepOk hs lot group Pl (s.1.map (·.1)) (s.1, []) ((lot.take j).foldl (stIn hs group M) S),
          ⟨⟨LeT.refl _, g9.lst (g8.lst lt.2)⟩, ⟨_, _, _, _, rfl⟩, (ms7.mono g8).mono g9, so⟩, fun k Γ' H' p => p.1.1, ?_, ?_⟩
        · rintro j Γ' H' H10 hj ⟨lt9, ⟨x5, x8, x9, x10, rfl⟩, ms9, so9⟩ g10
          rw [List.length_map] at hj
          have e : (lot.map dN)[j]? = some (dN lot[j]) := by rw [List.getElem?_map, List.getElem?_eq_getElem hj]; rfl
          simp only [e]
          have hp : lot[j] ∈ lot := List.getElem_mem hj
          have nxj : (lot.take (j + 1)).foldl (stIn hs group M) S = stIn hs group M ((lot.take j).foldl (stIn hs group M) S) lot[j] := by
            rw [List.take_succ_eq_append_getElem hj, List.foldl_append]
            rfl
          generalize hT : (lot.take j).foldl (stIn hs group M) S = T at ms9 so9 nxj
          generalize hp' : lot[j] = p at hp nxj
          have hMT : M ∈ T.1.map (·.1) := so9.sub _ hMk
          obtain ⟨⟨p0, w0⟩, hMv⟩ := lk_some_of_mem hMT
          have ms10 := ms9.mono g10
          have lz : (group.zip M).length = group.length := by rw [List.length_zip, hML.1]; exact Nat.min_self _
          refine sxs_cons (sx_asg (i := 8) (d := dNs (mMove hs group M p)) (ex_cast (ex_tupL (lx_lc (own := [("index", 9), ("mark", 10)]) (f := fun k' => (group.zip M)[k']?.map fun q => dN (stp (hb hs q.1) p q.2)) (src_zip (i := 9) (j := 10) (ex_var 2) (ex_var 6) (by rw [List.length_map, List.length_map, hML.1]) g.zip) (fun _ _ g => g.t) ?_
            (blkOk_by (by show blkC N_mo (defScope s_marks_of) _ _ = true; decide +kernel)) (by decide) (fun _ _ _ _ _ => pg_pair rfl sc_marks_of.nd) ?_ ?_ rfl sc_marks_of.nd) g.tuple) ?_) ?_ sc_marks_of.nd)
          · rw [List.length_map]; exact Nat.le_of_lt (size4k hg4)
          · intro s' H0 C cl fp k' H5 hk' g5
            rw [List.length_map, ← lz] at hk'
            rw [List.getElem?_eq_getElem hk']
            exact txs_nil
          · intro s' H0 C cl fp k' d H5 hk' hd g5
            rw [List.length_map] at hk'
            have hk2 : k' < (group.zip M).length := by rw [lz]; exact hk'
            have hk3 : k' < M.length := by rw [hML.1]; exact hk'
            rw [List.getElem?_eq_getElem hk2, List.getElem_zip] at hd
            cases hd
            have e1 : (group.map dN)[k']? = some (dN group[k']) := by rw [List.getElem?_map, List.getElem?_eq_getElem hk']; rfl
            have e2 : (M.map dN)[k']? = some (dN M[k']) := by rw [List.getElem?_map, List.getElem?_eq_getElem hk3]; rfl
            simp only [e1, e2]
            have hi : group[k'] ∈ group := List.getElem_mem hk'
            exact ex_stp (ok.hab _ hi) (ok.lt _ hp) (hML.2 _ (List.getElem_mem hk3)) (ex_ixHs (ex_var 0) (ex_var 9) (hgr _ hi)) (ex_var 5) (ex_var 10)
          · rw [List.length_map, ← lz, keepD_all]
            unfold dNs mMove
            rw [List.map_map]
            rfl
          · intro H11 g11
            have ms11 := ms10.mono g11
            obtain ⟨kvs, hd, r⟩ := id ms11.d
            obtain ⟨st1, _⟩ := stIn_ok (hs := hs) (lot := lot) (group := group) (P := Pl) (ks := s.1.map (·.1)) (s := T) (marks := M) (p := p) so9.good so9.tail hMT hp
            have so' : StepOk hs lot group Pl (s.1.map (·.1)) (s.1, []) (stIn hs group M T p) := ⟨st1.good, st1.tail, fun k h => st1.sub k (so9.sub k h)⟩
            refine sxs_one (sx_if (tx_dnotin (ex_var 8) (ex_var 3) (.inl hd) r hr) (fun hb12 H12 g12 => ?_) fun hb12 H12 g12 => ?_)
            · have hn : lk T.1 (mMove hs group M p) = none := by
                cases q : lk T.1 (mMove hs group M p) with
                | none => rfl
                | some v => rw [q] at hb12; cases hb12
              have l1 := Good.len' ok so9.good
              have l2' : T.2.length ≤ T.1.length := by
                have := congrArg List.length (show T.1.map (·.1) = s.1.map (·.1) ++ T.2 from so9.tail)
                rw [List.length_map, List.length_append] at this
                omega
              have wl : w0.length ≤ 3200 := Nat.le_of_lt (Nat.lt_of_lt_of_le (so9.good.wl _ (lk_mem hMv)) l1)
              have ms12 := ms11.mono g12
              obtain ⟨kvs12, hd12, r12⟩ := id ms12.d
              refine sx_add (q := (p0, w0 ++ [p])) ms12 hn (by omega) (by omega) hr (ex_cast (ex_tup (ax_cons (at0 (ex_dgM (ex_var 3) (ex_var 6) (.inl hd12) r12 hMv hr)) (ax_cons (ex_cat (at1 (ex_dgM (ex_var 3) (ex_var 6) (.inl hd12) r12 hMv hr)) (ex_tup (ax_cons (ex_var 5) ax_nil)) (by rw [List.length_map]; show w0.length + 1 ≤ sizeLine; exact Nat.le_of_lt (size4k (by omega)))) ax_nil))) ?_) (fun _ => ex_var 3) (fun _ => ex_var 8) (fun _ => ex_var 7) (fun _ => ex_var 8) fun H13 ms13 g13 => sxs_nil ?_
              · unfold mdD dNs
                rw [List.map_append]
                rfl
              rw [stIn_none hn hMv] at so'
              rw [nxj, stIn_none hn hMv]
              have lt13 : LeT H12 H13 := fun a xs h => g13.tup (by
                obtain ⟨vs', hy', _⟩ := ms12.y
                intro m
                rcases List.mem_cons.mp m with z | z
                · rw [z, hd12] at h; cases h
                · rw [List.mem_singleton.mp z, hy'] at h; cases h) h
              have hl12 : H12 l' = some (.lst vs) := g12.lst (g11.lst (g10.lst lt9.2))
              have hlf : l' ≠ fo := fun z => by rw [z, hd12] at hl12; cases hl12
              exact ⟨⟨(((lt9.1.trans g10.t).trans g11.t).trans g12.t).trans lt13, g13.at (by simp [hlf, hl2]) hl12 (fun _ e => nomatch e)⟩, ⟨_, _, _, _, rfl⟩, ms13, so'⟩
            · obtain ⟨v, hv⟩ : ∃ v, lk T.1 (mMove hs group M p) = some v := by
                cases q : lk T.1 (mMove hs group M p) with
                | none => rw [q] at hb12; cases hb12
                | some v => exact ⟨v, rfl⟩
              rw [stIn_some hv] at so'
              rw [nxj, stIn_some hv]
              exact sxs_nil ⟨⟨(((lt9.1.trans g10.t).trans g11.t).trans g12.t), g12.lst (g11.lst (g10.lst lt9.2))⟩, ⟨_, _, _, _, rfl⟩, ms11.mono g12, so'⟩
        · rintro Γ' H10 ⟨lt9, ⟨x5, x8, x9, x10, rfl⟩, ms9, so9⟩
          rw [List.length_map, List.take_length] at ms9 so9
          rw [nxm]
          exact ⟨⟨((lt.1.trans g8.t).trans g9.t).trans lt9.1, lt9.2⟩, ⟨_, _, _, _, _, rfl⟩, ms9, so9⟩
      · rintro Γ' H8 ⟨lt, ⟨x5, x6, x8, x9, x10, rfl⟩, ms7, so⟩
        rw [List.length_map, List.take_length] at ms7 so
        refine sxs_one (sx_asg (i := 4) (ex_var 7) (fun H9 g9 => ?_) sc_marks_of.nd)
        obtain ⟨bl, el⟩ := bi.layer
        refine ⟨n', Nat.lt_succ_self _, layerF hs lot group s.1 s.2, l2, ⟨_, _, _, _, _, _, rfl⟩, ms7.mono g9, bl, ?_, ?_⟩
        · rw [← bfs_go n' s.1 s.2 hne]
          exact hbf
        · rcases hfu with z | z
          · exact absurd z hne
          · cases e2 : (layerF hs lot group s.1 s.2).2 with
            | nil => exact .inl rfl
            | cons c r =>
              right
              rw [e2, List.length_cons] at el
              omega
    · have he : s.2 = [] := by
        cases q : s.2 with
        | nil => rfl
        | cons a r => rw [q] at hk; cases hk
      obtain ⟨d, ly⟩ := s
      have he : ly = [] := he
      subst he
      rw [bfs_nil] at hbf
      subst hbf
      refine sxs_one (sx_ret (ex_var 3) fun H6 g6 => ?_)
      have ms6 := (ms.mono g5).mono g6
      obtain ⟨kvs, hd, r⟩ := ms6.d
      exact ⟨ms6.ge, fo, kvs, rfl, ms6.fn, hd, r⟩
end
end Lk
set_option Elab.async false
set_option linter.all false
set_option maxRecDepth 100000
set_option maxHeartbeats 4000000
/-! partings. -/
namespace Lk
open PySem PySem.Spec PyProof.Rows L2 GxR
open C8 (Cal Met Mak pe_c pe_mt pe_mk pe_mt0)
theorem GeX.keepF {f : Addr} {H H' : Hp} {kvs : List (List Key × V)} (g : GeX [f] H H') (hf : H f = some (.dT kvs)) : keepF H H' :=
  ⟨g.t (fun xs h => by rw [hf] at h; cases h), fun a o u h => g.at (by
    intro m
    rw [List.mem_singleton.mp m, hf] at h
    cases h) h (fun _ e => nomatch e)⟩
theorem keepF.refl (H : Hp) : keepF H H := ⟨LeT.refl H, fun _ _ _ h => h⟩
theorem keepF.trans {H H1 H2 : Hp} (a : keepF H H1) (b : keepF H1 H2) : keepF H H2 := ⟨a.1.trans b.1, fun x o u h => b.2 _ _ _ (a.2 _ _ _ h)⟩
theorem FrzD.t {d : Addr} {kvs : List (List Key × V)} {H H' : Hp} (z : FrzD d kvs H H') (h : H d = some (.dT kvs)) : LeT H H' := z.1.t fun xs e => by rw [h] at e; cases e
structure PS (H H' : Hp) (f : Addr) (s : PD) : Prop where
  ge : Ge H H'
  fn : H f = none
  d : ∃ kvs, H' f = some (.dT kvs) ∧ DcR dT H' kvs s
theorem PS.mono {H H' H2 : Hp} {f : Addr} {s : PD} (m : PS H H' f s) (g : Ge H' H2) : PS H H2 f s := by
  obtain ⟨kvs, h1, r⟩ := m.d
  exact ⟨m.ge.trans g, m.fn, ⟨kvs, g.dT h1, r.mono g.t⟩⟩
theorem ex_dgT {X : Cx} {a b : Expr} {Γ : Gam} {H : Hp} {pos : Pos} {kvs : List (List Key × V)} {m : PD} {f : Addr} {k : List Nat} {j : Nat} {t : Tst} (ha : EX X a Γ H (.ref f)) (hb : EX X b Γ H (dNs k)) (hf : Rd H f (.dT kvs)) (hR : DcR dT H kvs m) (hl : lk m k = some t) (hr : Room j X.A) (hs : NoSl b := by intro _ _; rfl) :
    EX X (.Subscript a b pos) Γ H (.tup [dN t.p, .tup (t.w.map dN), dN t.r]) := ex_dget (fα := dT) ha hb hf hR hl hr hs
def paPre (y : MoIn) (_ : Hp) : Prop := Ok y.hs y.lot y.group y.P ∧ (∀ i, i ∈ y.group → i < y.hs.length) ∧ y.group.length ≤ 4000 ∧ y.lot.length ≤ 100
def paPost (y : MoIn) (H : Hp) (d : Dt) (H' : Hp) : Prop := Ge H H' ∧ ∃ f kvs, d = .ref f ∧ H f = none ∧ H' f = some (.dT kvs) ∧ DcR dT H' kvs (partings y.hs y.lot y.group)
abbrev N_pa : List Str := ["habits", "lot", "group", "found", "marks_to", "marks", "place", "word", "read", "marked", "index", "mark"]
theorem sc_partings : FnScope N_pa ["habits", "lot", "group"] (defScope s_partings) := ⟨rfl, rfl, rfl, by decide +kernel, rfl, by decide +kernel, by decide +kernel⟩
theorem keepD_filter {α : Type} (l : List α) (p : α → Bool) (g : α → Dt) : keepD (fun k => (l[k]?.filter p).map g) l.length = (l.filter p).map g := by
  unfold keepD
  induction l with
  | nil => rfl
  | cons a l ih =>
    rw [List.length_cons, List.range_succ_eq_map, List.filterMap_cons]
    simp only [List.getElem?_cons_zero, List.filterMap_map]
    have e : (List.filterMap ((fun k => ((a :: l)[k]?.filter p).map g) ∘ Nat.succ) (List.range l.length)) = (l.filter p).map g := by
      rw [← ih]
      congr 1
    rw [e]
    cases hp : p a <;> simp [Option.filter, hp]
section
variable {P : Program} {w : World} {K : PySem.W.Frag} {mg : Str → Option Value} {base : Heap} {f : Addr} {fd : FuncData}
theorem ok_partings (g : Gb mg) (cM : Cal P w K mg base 1 "marks_of" (spP moArgs moPre moPost) []) (F : FnP K "partings" "partings" s_partings f fd) : FnOk P w K mg base CX0 2 f fd ["habits", "lot", "group"] (spP moArgs paPre paPost) := by
  refine fn_P F sc_partings (fun y => rfl) fun cdv A outer s H E y _ hr h => ?_
  obtain ⟨hs, lot, group, Pl⟩ := y
  obtain ⟨ok, hgr, hg4, hlot⟩ := h
  have hg4 : group.length ≤ 4000 := hg4
  have hlot : lot.length ≤ 100 := hlot
  refine sxs_cons (sx_asgM (i := 3) (mx_dnew fun fo H1 g1 nf hf => ?_) sc_partings.nd)
  refine sxs_cons (sx_asgM (i := 4) (mx_call cM ⟨hs, lot, group, Pl⟩ (ax_cons (ex_var 0) (ax_cons (ex_var 1) (ax_cons (ex_var 2) ax_nil))) (fun _ _ => ⟨ok, hgr, hg4⟩) (fun _ _ _ p => p.1.t) (fun H2 d H3 g2 p => ?_) hr) sc_partings.nd)
  obtain ⟨g3, dm, kvm, rfl, nm, hm, rm⟩ := p
  have nmH : H dm = none := (g1.trans g2).free nm
  have hf3 : H3 fo = some (.dT []) := g3.dT (g2.dT hf)
  have hfm : fo ≠ dm := fun e => by
    have := g2.dT hf
    rw [e, nm] at this
    cases this
  have b := marksOf_ok ok
  refine sxs_cons (sx_forp (src_keys (i := 5) (ex_var 4) hm rm) (pgn sc_partings.nd) (fun H4 z => z.t hm) (fun H4 z => ?_) PassesOwn.never rfl)
  obtain ⟨z1, om, hm4⟩ := z
  have hf4 : H4 fo = some (.dT []) := z1.one hfm hf3 (fun _ e => nomatch e)
  have ltm : LeT H3 H4 := z1.t fun xs e => by rw [hm] at e; cases e
  have p4 : PS H H4 fo [] := ⟨ge_of ((g1.trans g2).trans g3) z1 (fun a m => by rw [List.mem_singleton.mp m]; exact nmH), nf, ⟨_, hf4, .nil⟩⟩
  have rm4 : DcR mdD H4 kvm (marksOf hs lot group) := rm.mono ltm
  have hml : (marksOf hs lot group).length ≤ 3200 := b.good.len' ok
  refine ⟨fun k Γ' H' => keepF H4 H' ∧ (∃ x5 x6 x7 x8 x9 x10 x11, Γ' = [some (dHs hs), some (dNs lot), some (dNs group), some (.ref fo), some (.ref dm), x5, x6, x7, x8, x9, x10, x11]) ∧
    PS H H' fo ((((marksOf hs lot group).map (·.1)).take k).foldl (ptMid lot group (marksOf hs lot group)) []) ∧ ((((marksOf hs lot group).map (·.1)).take k).foldl (ptMid lot group (marksOf hs lot group)) []).length ≤ k * lot.length,
    ⟨keepF.refl _, ⟨_, _, _, _, _, _, _, rfl⟩, p4, Nat.zero_le _⟩, fun k Γ' H' p => p.1, ?_, ?_⟩
  · rintro k Γ' H' H5 hk ⟨kf, ⟨x5, x6, x7, x8, x9, x10, x11, rfl⟩, ps, hl⟩ g5
    have hk : k < (marksOf hs lot group).length := hk
    have hkm : k < ((marksOf hs lot group).map (·.1)).length := by rw [List.length_map]; exact hk
    have ek : (marksOf hs lot group)[k]? = some (marksOf hs lot group)[k] := List.getElem?_eq_getElem hk
    simp only [ek, Option.map_some]
    have nxk : (((marksOf hs lot group).map (·.1)).take (k + 1)).foldl (ptMid lot group (marksOf hs lot group)) [] = ptMid lot group (marksOf hs lot group) ((((marksOf hs lot group).map (·.1)).take k).foldl (ptMid lot group (marksOf hs lot group)) []) (marksOf hs lot group)[k].1 := by
      rw [List.take_succ_eq_append_getElem hkm, List.foldl_append, List.getElem_map]
      rfl
    rw [nxk]
    generalize hS : (((marksOf hs lot group).map (·.1)).take k).foldl (ptMid lot group (marksOf hs lot group)) [] = S at ps hl
    have hMk : (marksOf hs lot group)[k].1 ∈ (marksOf hs lot group).map (·.1) := List.mem_map.mpr ⟨_, List.getElem_mem hk, rfl⟩
    generalize hM : (marksOf hs lot group)[k].1 = M at hMk
    have hML := b.good.lt ok hMk
    obtain ⟨⟨p0, w0⟩, hMv⟩ := lk_some_of_mem hMk
    have kf5 : keepF H4 H5 := kf.trans g5.keepF
    refine sxs_cons (sx_unpackM (i := 6) (j := 7) (mx_ex (ex_dgM (ex_var 4) (ex_var 5) (.inr ⟨om, kf5.2 _ _ _ hm4⟩) (rm4.mono kf5.1) hMv hr) fun H6 g6 => ⟨_, _, rfl, ?_⟩) rfl sc_partings.nd)
    have ps6 := (ps.mono g5).mono g6
    have kf6 := kf5.trans g6.keepF
    have emid : ptMid lot group (marksOf hs lot group) S M = lot.foldl (ptIn group M (p0, w0)) S := by
      unfold ptMid
      rw [hMv]
      rfl
    rw [emid]
    refine sxs_one (sx_for (src_tup (i := 8) (ex_var 1)) (pgn sc_partings.nd) (fun H7 g7 => ?_) PassesOwn.never rfl)
    refine ⟨fun j Γ' H' => keepF H7 H' ∧ (∃ x8 x9 x10 x11, Γ' = [some (dHs hs), some (dNs lot), some (dNs group), some (.ref fo), some (.ref dm), some (dNs M), some (dN p0), some (dNs w0), x8, x9, x10, x11]) ∧
      PS H H' fo ((lot.take j).foldl (ptIn group M (p0, w0)) S) ∧ ((lot.take j).foldl (ptIn group M (p0, w0)) S).length ≤ k * lot.length + j,
      ⟨keepF.refl _, ⟨_, _, _, _, rfl⟩, ps6.mono g7, hl⟩, fun j Γ' H' p => p.1.1, ?_, ?_⟩
    · rintro j Γ' H' H8 hj ⟨kf8, ⟨x8, x9, x10, x11, rfl⟩, ps7, hl7⟩ g8
      rw [List.length_map] at hj
      have e : (lot.map dN)[j]? = some (dN lot[j]) := by rw [List.getElem?_map, List.getElem?_eq_getElem hj]; rfl
      simp only [e]
      have hrl : lot[j] ∈ lot := List.getElem_mem hj
      have nxj : (lot.take (j + 1)).foldl (ptIn group M (p0, w0)) S = ptIn group M (p0, w0) ((lot.take j).foldl (ptIn group M (p0, w0)) S) lot[j] := by
        rw [List.take_succ_eq_append_getElem hj, List.foldl_append]
        rfl
      rw [nxj]
      generalize hT : (lot.take j).foldl (ptIn group M (p0, w0)) S = T at ps7 hl7
      generalize hr' : lot[j] = r at hrl
      have lz : (group.zip M).length = group.length := by rw [List.length_zip, hML.1]; exact Nat.min_self _
      refine sxs_cons (sx_asg (i := 9) (d := dNs (markedOf group M r)) (ex_cast (ex_tupL (lx_lc (own := [("index", 10), ("mark", 11)]) (f := fun k' => ((group.zip M)[k']?.filter fun q => decide (q.2 = r)).map fun q => dN q.1) (src_zip (i := 10) (j := 11) (ex_var 2) (ex_var 5) (by rw [List.length_map, List.length_map, hML.1]) g.zip) (fun _ _ g => g.t) ?_
        (blkOk_by (by show blkC N_pa (defScope s_partings) _ _ = true; decide +kernel)) (by decide) (fun _ _ _ _ _ => pg_pair rfl sc_partings.nd) ?_ ?_ rfl sc_partings.nd) g.tuple) ?_) ?_ sc_partings.nd)
      · rw [List.length_map]; exact Nat.le_of_lt (size4k hg4)
      · intro s' H0 C cl fp k' H9 hk' g9
        rw [List.length_map] at hk'
        have hk2 : k' < (group.zip M).length := by rw [lz]; exact hk'
        have hk3 : k' < M.length := by rw [hML.1]; exact hk'
        have e1 : (group.map dN)[k']? = some (dN group[k']) := by rw [List.getElem?_map, List.getElem?_eq_getElem hk']; rfl
        have e2 : (M.map dN)[k']? = some (dN M[k']) := by rw [List.getElem?_map, List.getElem?_eq_getElem hk3]; rfl
        simp only [e1, e2]
        refine txs_one (tx_cast (tx_cmp (ex_var 11) (ex_var 8) co_eq) ?_)
        rw [List.getElem?_eq_getElem hk2, List.getElem_zip]
        show decide ((M[k'] : Int) = (r : Int)) = _
        rw [Option.isSome_map]
        by_cases hq : M[k'] = r
        · simp [Option.filter, hq]
        · have : ¬ (M[k'] : Int) = (r : Int) := fun z => hq (Int.ofNat_inj.mp z)
          simp [Option.filter, hq, this]
      · intro s' H0 C cl fp k' d H9 hk' hd g9
        rw [List.length_map] at hk'
        have hk2 : k' < (group.zip M).length := by rw [lz]; exact hk'
        have hk3 : k' < M.length := by rw [hML.1]; exact hk'
        rw [List.getElem?_eq_getElem hk2, List.getElem_zip] at hd
        obtain ⟨q, hq, rfl⟩ := Option.map_eq_some_iff.mp hd
        have hq2 : (group[k'], M[k']) = q := by
          rw [Option.filter_eq_some_iff] at hq
          exact Option.some.inj hq.1
        have e1 : (group.map dN)[k']? = some (dN group[k']) := by rw [List.getElem?_map, List.getElem?_eq_getElem hk']; rfl
        have e2 : (M.map dN)[k']? = some (dN M[k']) := by rw [List.getElem?_map, List.getElem?_eq_getElem hk3]; rfl
        simp only [e1, e2]
        rw [← hq2]
        exact ex_var 10
      · rw [List.length_map, ← lz, keepD_filter]
        unfold dNs markedOf
        rw [List.map_map]
        rfl
      · intro H9 g9
        have ps9 := (ps7.mono g8).mono g9
        have kf9 : keepF H7 H9 := (kf8.trans g8.keepF).trans g9.keepF
        obtain ⟨kvs, hd, rr⟩ := id ps9.d
        generalize hmk : markedOf group M r = mk
        refine sxs_one (sx_if (tx_wx (wx_and (tx_chain op_lt op_lt ex_int (ex_len g.len (ex_var 9)) (ex_len g.len (ex_var 2))) fun _ => wx_one_and (tx_wx (wx_or (l := better T mk w0.length) (tx_dnotin (ex_var 9) (ex_var 3) (.inl hd) rr hr) fun hb => wx_one_or ?_)))) (fun hb H10 g10 => ?_) fun hb H10 g10 => ?_)
        · obtain ⟨t, ht⟩ : ∃ t, lk T mk = some t := by
            cases q : lk T mk with
            | none => rw [q] at hb; cases hb
            | some v => exact ⟨v, rfl⟩
          refine tx_cast (tx_cmp (ex_len g.len (ex_var 7)) (ex_len g.len (at1 (ex_dgT (ex_var 3) (ex_var 9) (.inl hd) rr ht hr))) co_lt) ?_
          unfold better
          rw [ht]
          simp only [List.length_map]
          rw [decide_eq_decide]
          exact Int.ofNat_lt
        · have hc : 0 < (markedOf group M r).length ∧ (markedOf group M r).length < group.length ∧ better T (markedOf group M r) w0.length = true := by
            rw [hmk]
            rw [Bool.and_eq_true, Bool.and_eq_true, decide_eq_true_iff, decide_eq_true_iff, List.length_map, List.length_map] at hb
            obtain ⟨⟨h1, h2⟩, h3⟩ := hb
            refine ⟨by omega, by omega, ?_⟩
            unfold better at h3 ⊢
            cases q : lk T mk with
            | none => rfl
            | some t => rw [q] at h3; simpa using h3
          have ei : ptIn group M (p0, w0) T r = put T mk ⟨p0, w0, r⟩ := by
            unfold ptIn
            rw [if_pos hc, hmk]
          rw [ei]
          have ps10 := ps9.mono g10
          obtain ⟨kvs10, hd10, rr10⟩ := id ps10.d
          have hTl : T.length < sizeLine := by
            have : k * lot.length ≤ 3200 * 100 := Nat.mul_le_mul (by omega) hlot
            have h2 : T.length ≤ 400000 := by omega
            exact Nat.lt_of_le_of_lt h2 (by decide)
          refine sxs_one (sx_dput (fα := dT) (x := ⟨p0, w0, r⟩) (ex_tup (ax_cons (ex_var 6) (ax_cons (ex_var 7) (ax_cons (ex_var 8) ax_nil)))) (ex_var 3) (ex_var 9) hd10 rr10 hTl (fun H11 kvs' g11 hd11 rr11 => ?_) hr)
          refine ⟨(kf9.trans g10.keepF).trans (g11.keepF hd10), ⟨_, _, _, _, rfl⟩, ⟨ge_of ps10.ge g11 (fun a m => by rw [List.mem_singleton.mp m]; exact nf), nf, kvs', hd11, rr11⟩, ?_⟩
          have := put_len (d := T) (k := mk) (v := (⟨p0, w0, r⟩ : Tst))
          omega
        · have hc : ¬ (0 < (markedOf group M r).length ∧ (markedOf group M r).length < group.length ∧ better T (markedOf group M r) w0.length = true) := by
            rintro ⟨h1, h2, h3⟩
            rw [hmk] at h1 h2 h3
            rw [h3, Bool.or_true, Bool.and_true, Bool.and_eq_false_iff, decide_eq_false_iff_not, decide_eq_false_iff_not, List.length_map, List.length_map] at hb
            omega
          have ei : ptIn group M (p0, w0) T r = T := by
            unfold ptIn
            rw [if_neg hc]
          rw [ei]
          exact sxs_nil ⟨kf9.trans g10.keepF, ⟨_, _, _, _, rfl⟩, ps9.mono g10, by omega⟩
    · rintro Γ' H8 ⟨kf8, ⟨x8, x9, x10, x11, rfl⟩, ps7, hl7⟩
      rw [List.length_map, List.take_length] at ps7 hl7
      refine ⟨(kf6.trans g7.keepF).trans kf8, ⟨_, _, _, _, _, _, _, rfl⟩, ps7, ?_⟩
      rw [Nat.add_mul, Nat.one_mul]
      exact hl7
  · rintro Γ' H5 ⟨kf, ⟨x5, x6, x7, x8, x9, x10, x11, rfl⟩, ps, hl⟩
    have e : ((marksOf hs lot group).map (·.1)).take (marksOf hs lot group).length = (marksOf hs lot group).map (·.1) := List.take_of_length_le (by rw [List.length_map]; exact Nat.le_refl _)
    rw [e] at ps
    refine sxs_one (sx_ret (ex_var 3) fun H6 g6 => ?_)
    have ps6 := ps.mono g6
    obtain ⟨kvs, hd, rr⟩ := ps6.d
    exact ⟨ps6.ge, fo, kvs, rfl, ps6.fn, hd, rr⟩
end
end Lk
set_option Elab.async false
set_option linter.all false
set_option maxRecDepth 100000
set_option maxHeartbeats 2000000
/-! The small defs. -/
namespace Lk
open PySem PySem.Spec PyProof.Rows L2 GxR
open C8 (Cal Met Mak pe_c pe_mt pe_mk pe_mt0)
theorem tx_lstT {X : Cx} {a : Expr} {Γ : Gam} {H : Hp} {l : Addr} {vs : List V} (ha : EX X a Γ H (.ref l)) (hl : H l = some (.lst vs)) (he : ∀ whole, isTrue a X.env whole = (do let v ← whole; standAt a.pos; holding [v] (truthy v)) := by intro _; rfl) : TX X a Γ H (!vs.isEmpty) := fun σ H1 Q g m q =>
  RT.of (pt_truth re he) (ha σ H1 _ g m fun v H2 g2 tv => by
    rw [tv.ref_eq]
    exact ⟨_, .inl ⟨vs, SqL.of ((g.trans g2).lst hl), rfl⟩, q H2 g2⟩)
theorem tx_tupT {X : Cx} {a : Expr} {Γ : Gam} {H : Hp} {ds : List Dt} (ha : EX X a Γ H (.tup ds)) (he : ∀ whole, isTrue a X.env whole = (do let v ← whole; standAt a.pos; holding [v] (truthy v)) := by intro _; rfl) : TX X a Γ H (!ds.isEmpty) := fun σ H1 Q g m q =>
  RT.of (pt_truth re he) (ha σ H1 _ g m fun v H2 g2 tv => by
    obtain ⟨p, xs, rfl, hp, t⟩ := tv.tup_eq
    refine ⟨_, .inr (.inl ⟨xs, SqT.of hp, rfl⟩), ?_⟩
    have e : xs.isEmpty = ds.isEmpty := by cases t <;> rfl
    rw [e]
    exact q H2 g2)
section
variable {P : Program} {w : World} {K : PySem.W.Frag} {mg : Str → Option Value} {base : Heap} {f : Addr} {fd : FuncData}
def R_is_number : List Dt → Dt → Prop := fun ds d => ∃ i lo hi : Int, ds = [.int i, .int lo, .int hi] ∧ d = .bl (decide (lo ≤ i) && decide (i ≤ hi))
theorem sc_is_number : FnScope ["value", "low", "high"] ["value", "low", "high"] (defScope s_is_number) := ⟨rfl, rfl, rfl, by decide +kernel, rfl, by decide +kernel, by decide +kernel⟩
theorem ok_is_number (g : Gb mg) (F : FnP K "is_number" "is_number" s_is_number f fd) : FnOk P w K mg base CX0 1 f fd ["value", "low", "high"] (spF [] R_is_number) := by
  refine fn_F F sc_is_number (fun ds d h => ?_) fun cdv A outer s H E ds d _ hr h _ => ?_
  · obtain ⟨i, lo, hi, rfl, _⟩ := h
    rfl
  · obtain ⟨i, lo, hi, rfl, rfl⟩ := h
    exact sxs_one (sx_ret (ex_and (ex_isi (x := "int") (k := true) g.isinstance g.int rfl (ex_var 0) (.int i) (by decide +kernel)) fun _ =>
      ex_and (ex_not (ex_isi (x := "bool") (k := false) g.isinstance g.bool rfl (ex_var 0) (.int i) (by decide +kernel))) fun _ =>
      ex_one (ex_chain op_le op_le (ex_var 1) (ex_var 0) (ex_var 2))) fun H1 g1 => ⟨g1, by simp⟩)
def R_reads_mark : List Dt → Dt → Prop := fun ds d => ∃ (P : Nat) (h : Habit) (t : Tst), ds = [dH h, dT t] ∧ HabOk P h ∧ t.p < P ∧ (∀ x, x ∈ t.w → x < P) ∧ d = .bl (reads h t)
theorem sc_reads_mark : FnScope ["habit", "test", "mark", "place"] ["habit", "test"] (defScope s_reads_mark) := ⟨rfl, rfl, rfl, by decide +kernel, rfl, by decide +kernel, by decide +kernel⟩
theorem ok_reads_mark (F : FnP K "reads_mark" "reads_mark" s_reads_mark f fd) : FnOk P w K mg base CX0 1 f fd ["habit", "test"] (spF [] R_reads_mark) := by
  refine fn_F F sc_reads_mark (fun ds d h => ?_) fun cdv A outer s H E ds d _ hr h _ => ?_
  · obtain ⟨i, lo, hi, rfl, _⟩ := h
    rfl
  · obtain ⟨Pl, h, t, rfl, o, hp, hw, rfl⟩ := h
    refine sxs_cons (sx_asg (i := 2) (ex_stp o hp hp (ex_var 0) (at0 (ex_var 1)) (at0 (ex_var 1))) (fun H1 g1 => ?_) sc_reads_mark.nd)
    refine sxs_cons (sx_forS (src_tup (i := 3) (at1 (ex_var 1))) (fun _ _ g => g.t) (pg_name sc_reads_mark.nd rfl (.inl rfl)) (fun k Γ' => ∃ x, Γ' = [some (dH h), some (dT t), some (dN (markAt h t.p (t.w.take k))), x]) ⟨none, rfl⟩ ?_ ?_ PassesOwn.never rfl)
    · rintro k Γ' H2 hk ⟨x, rfl⟩ g2
      rw [List.length_map] at hk
      have hx : t.w[k] < Pl := hw _ (List.getElem_mem hk)
      have e : (t.w.map dN)[k]? = some (dN t.w[k]) := by rw [List.getElem?_map, List.getElem?_eq_getElem hk]; rfl
      simp only [e]
      have hm : markAt h t.p (t.w.take k) < Pl := markAt_lt o hp fun x hx => hw x (List.mem_of_mem_take hx)
      refine sxs_one (sx_asg (i := 2) (ex_stp o hx hm (ex_var 0) (ex_var 3) (ex_var 2)) (fun H3 g3 => ⟨g3, some (dN t.w[k]), ?_⟩) sc_reads_mark.nd)
      rw [List.take_succ_eq_append_getElem hk, markAt_snoc]
      rfl
    · rintro Γ' H2 ⟨x, rfl⟩ g2
      rw [List.length_map, List.take_length]
      refine sxs_one (sx_ret (ex_cast (ex_cmp (ex_var 2) (at2 (ex_var 1)) co_eq) ?_) fun H3 g3 => ⟨(g1.trans g2).trans g3, rfl⟩)
      unfold reads eqD
      congr 1
      rw [decide_eq_decide]
      exact Int.ofNat_inj
def R_touches_of : List Dt → Dt → Prop := fun ds d => ∃ t : Tst, ds = [dT t] ∧ d = dN (t.w.length + 2)
theorem sc_touches_of : FnScope ["test"] ["test"] (defScope s_touches_of) := ⟨rfl, rfl, rfl, by decide +kernel, rfl, by decide +kernel, by decide +kernel⟩
theorem ok_touches_of (g : Gb mg) (F : FnP K "touches_of" "touches_of" s_touches_of f fd) : FnOk P w K mg base CX0 1 f fd ["test"] (spF [] R_touches_of) := by
  refine fn_F F sc_touches_of (fun ds d h => ?_) fun cdv A outer s H E ds d _ hr h _ => ?_
  · obtain ⟨i, rfl, _⟩ := h
    rfl
  · obtain ⟨t, rfl, rfl⟩ := h
    exact sxs_one (sx_ret (ex_add (ex_len g.len (at1 (ex_var 0))) ex_int) fun H1 g1 => ⟨g1, by rw [List.length_map]; rfl⟩)
def R_need_place : List Dt → Dt → Prop := fun ds d => ∃ (hs : List Dt) (v : Int), ds = [.tup hs, .int v] ∧ 0 ≤ v ∧ v ≤ hs.length - 1 ∧ d = .non
theorem sc_need_place : FnScope ["habit", "value"] ["habit", "value"] (defScope s_need_place) := ⟨rfl, rfl, rfl, by decide +kernel, rfl, by decide +kernel, by decide +kernel⟩
theorem ok_need_place (g : Gb mg) (cN : Cal P w K mg base 1 "is_number" (spF [] R_is_number) []) (F : FnP K "need_place" "need_place" s_need_place f fd) : FnOk P w K mg base CX0 2 f fd ["habit", "value"] (spF [] R_need_place) := by
  refine fn_F F sc_need_place (fun ds d h => ?_) fun cdv A outer s H E ds d _ hr h _ => ?_
  · obtain ⟨i, v, rfl, _⟩ := h
    rfl
  · obtain ⟨hs, v, rfl, h0, h1, rfl⟩ := h
    refine sxs_one (sx_if (k := false) (tx_cast (tx_not (tx_ex (ex_call cN (ax_cons (ex_var 1) (ax_cons ex_int (ax_cons (ex_sub (ex_len g.len (ex_var 0)) ex_int) ax_nil))) ⟨_, _, _, rfl, rfl⟩ hr))) ?_) (fun z => absurd z (by decide)) fun _ H1 g1 => sxs_nil ⟨g1, rfl⟩)
    rw [decide_eq_true h0, decide_eq_true h1]
    rfl
def R_behind_touch : List Dt → Dt → Prop := fun ds d => ∃ (P : Nat) (h : Habit) (st : List Nat) (p : Nat), ds = [dH h, dNs st, dN p] ∧ HabOk P h ∧ p < P ∧ (∀ x, x ∈ st → x < P) ∧ st.length ≤ 100 ∧ d = dNs (st.map (stp h p))
abbrev N_bt : List Str := ["habit", "layout", "place", "stands"]
theorem sc_behind_touch : FnScope N_bt ["habit", "layout", "place"] (defScope s_behind_touch) := ⟨rfl, rfl, rfl, by decide +kernel, rfl, by decide +kernel, by decide +kernel⟩
theorem ok_behind_touch (g : Gb mg) (F : FnP K "behind_touch" "behind_touch" s_behind_touch f fd) : FnOk P w K mg base CX0 1 f fd ["habit", "layout", "place"] (spF [] R_behind_touch) := by
  refine fn_F F sc_behind_touch (fun ds d h => ?_) fun cdv A outer s H E ds d _ hr h _ => ?_
  · obtain ⟨_, _, _, _, rfl, _⟩ := h
    rfl
  · obtain ⟨Pl, h, st, p, rfl, o, hp, hst, hl, rfl⟩ := h
    refine sxs_one (sx_ret (ex_cast (ex_tupL (lx_lc (own := [("stands", 3)]) (f := fun k' => st[k']?.map fun x => dN (stp h p x)) (src_tup (i := 3) (ex_var 1)) (fun _ _ g => g.t) ?_ (blkOk_by (by show blkC N_bt (defScope s_behind_touch) _ _ = true; decide +kernel)) (by decide)
      (fun _ _ _ _ _ => pgn sc_behind_touch.nd) ?_ ?_ rfl sc_behind_touch.nd) g.tuple) ?_) fun H1 g1 => ⟨g1, rfl⟩)
    · rw [List.length_map]; exact Nat.le_of_lt (size4k (by omega))
    · intro s' H0 C cl fp k' H5 hk' g5
      rw [List.length_map] at hk'
      rw [List.getElem?_eq_getElem hk']
      exact txs_nil
    · intro s' H0 C cl fp k' d H5 hk' hd g5
      rw [List.length_map] at hk'
      rw [List.getElem?_eq_getElem hk'] at hd
      cases hd
      have e' : (st.map dN)[k']? = some (dN st[k']) := by rw [List.getElem?_map, List.getElem?_eq_getElem hk']; rfl
      simp only [e']
      exact ex_stp o hp (hst _ (List.getElem_mem hk')) (ex_var 0) (ex_var 2) (ex_var 3)
    · rw [List.length_map, keepD_all]
      unfold dNs
      rw [List.map_map]
      rfl
def R_is_test_of : List Dt → Dt → Prop := fun ds d => ∃ (P : Nat) (h : Habit) (hs : List Habit) (lot : List Nat) (t : Tst), ds = [dHs (h :: hs), dNs lot, dT t] ∧ h.length = P ∧ (∀ p, p ∈ lot → p < P) ∧ t.of lot ∧ d = .bl true
abbrev N_it : List Str := ["habits", "lot", "value", "places", "place"]
theorem sc_is_test_of : FnScope N_it ["habits", "lot", "value"] (defScope s_is_test_of) := ⟨rfl, rfl, rfl, by decide +kernel, rfl, by decide +kernel, by decide +kernel⟩
theorem keepD_none {α : Type} (n : Nat) (f : Nat → Option Dt) (h : ∀ k, k < n → f k = none) : keepD f n = [] := by
  unfold keepD
  rw [List.filterMap_eq_nil_iff]
  intro k hk
  exact h k (List.mem_range.mp hk)
theorem ok_is_test_of (g : Gb mg) (cN : Cal P w K mg base 1 "is_number" (spF [] R_is_number) []) (F : FnP K "is_test_of" "is_test_of" s_is_test_of f fd) : FnOk P w K mg base CX0 2 f fd ["habits", "lot", "value"] (spF [] R_is_test_of) := by
  refine fn_F F sc_is_test_of (fun ds d h => ?_) fun cdv A outer s H E ds d _ hr h _ => ?_
  · obtain ⟨_, _, _, _, _, rfl, _⟩ := h
    rfl
  · obtain ⟨Pl, h, hs, lot, t, rfl, hl, hlot, ⟨h1, h2, h3, h4⟩, rfl⟩ := h
    refine sxs_cons (sx_if (k := false) (tx_wx (wx_or (k := false) (l := false) (tx_not (k := true) (tx_ex (ex_isi (x := "tuple") (k := true) g.isinstance g.tuple rfl (ex_var 2) (.tup _) (by decide +kernel)))) fun _ =>
      wx_or (k := false) (l := false) (tx_cast (tx_cmp (ex_len g.len (ex_var 2)) ex_int co_ne) (by rfl)) fun _ =>
      wx_one_or (tx_not (k := true) (tx_ex (ex_isi (x := "tuple") (k := true) g.isinstance g.tuple rfl (at1 (ex_var 2)) (.tup _) (by decide +kernel)))))) (fun z => absurd z (by decide)) fun _ H1 g1 => sxs_nil ?_)
    refine sxs_cons (sx_asg (i := 3) (d := dNs ([t.p] ++ t.w ++ [t.r])) (ex_cast (ex_cat (ex_cat (ex_tup (ax_cons (at0 (ex_var 2)) ax_nil)) (at1 (ex_var 2)) ?_) (ex_tup (ax_cons (at2 (ex_var 2)) ax_nil)) ?_) ?_) (fun H2 g2 => ?_) sc_is_test_of.nd)
    · rw [List.length_map]; show 1 + t.w.length ≤ _; exact Nat.le_of_lt (size4k (by omega))
    · rw [List.length_append, List.length_map]; show 1 + t.w.length + 1 ≤ _; exact Nat.le_of_lt (size4k (by omega))
    · unfold dNs
      rw [List.map_append, List.map_append]
      rfl
    generalize hpl : [t.p] ++ t.w ++ [t.r] = pl
    have hpm : ∀ x, x ∈ pl → x ∈ lot := by
      rw [← hpl]
      intro x hx
      rcases List.mem_append.mp hx with hx | hx
      · rcases List.mem_append.mp hx with hx | hx
        · rw [List.mem_singleton.mp hx]; exact h1
        · exact h2 x hx
      · rw [List.mem_singleton.mp hx]; exact h3
    have hpll : pl.length ≤ 4000 := by
      rw [← hpl, List.length_append, List.length_append]
      show 1 + t.w.length + 1 ≤ 4000
      omega
    have hP : (h :: hs).length > 0 := Nat.succ_pos _
    refine sxs_one (sx_ret (d := .bl true) (ex_cast (ex_eqL hr (LX.ld (lx_lc (own := [("place", 4)]) (f := fun _ => none) (src_tup (i := 4) (ex_var 3)) (fun _ _ g => g.t) ?_ (blkOk_by (by show blkC N_it (defScope s_is_test_of) _ _ = true; decide +kernel)) (by decide)
      (fun _ _ _ _ _ => pgn sc_is_test_of.nd) ?_ (fun _ _ _ _ _ _ _ _ _ hd _ => nomatch hd) rfl sc_is_test_of.nd)) (by rw [keepD_none (α := Nat) _ _ fun _ _ => rfl]; exact PurA.nil)) (by rw [keepD_none (α := Nat) _ _ fun _ _ => rfl]; rfl)) fun H3 g3 => ⟨(g1.trans g2).trans g3, rfl⟩)
    · rw [List.length_map]; exact Nat.le_of_lt (size4k hpll)
    · intro s' H0 C cl fp k' H5 hk' g5
      rw [List.length_map] at hk'
      have e' : (pl.map dN)[k']? = some (dN pl[k']) := by rw [List.getElem?_map, List.getElem?_eq_getElem hk']; rfl
      simp only [e']
      have hm := hpm _ (List.getElem_mem hk')
      have hlt := hlot _ hm
      refine txs_one (tx_wx (wx_or (k := false) (l := false) (tx_not (k := true) (tx_cast (tx_ex (ex_call cN (ax_cons (ex_var 4) (ax_cons ex_int (ax_cons (ex_sub (ex_len g.len (at0 (ex_var 0))) ex_int) ax_nil))) ⟨_, _, _, rfl, rfl⟩ hr)) ?_)) fun _ => wx_one_or (tx_cast (tx_cmp (ex_var 4) (ex_var 1) co_notinN) ?_)))
      · rw [List.length_map, Bool.and_eq_true, decide_eq_true_iff, decide_eq_true_iff]
        omega
      · rw [List.contains_iff_mem.mpr hm]; rfl
end
end Lk
set_option Elab.async false
set_option linter.all false
set_option maxRecDepth 100000
set_option maxHeartbeats 4000000
/-! < of tuples of numbers and tuples. -/
namespace Lk
open PySem PySem.Spec PyProof.Rows L2 GxR
open C8 (Cal Met Mak pe_c pe_mt pe_mk pe_mt0)
/-- tuples, item by item alike in kind -/
def Cmb : Nat → Dt → Dt → Prop
  | 0, d, e => ∃ i j : Int, d = .int i ∧ e = .int j
  | n + 1, d, e => (∃ i j : Int, d = .int i ∧ e = .int j) ∨ ∃ ds es : List Dt, d = .tup ds ∧ e = .tup es ∧ ∀ (j : Nat) (x y : Dt), ds[j]? = some x → es[j]? = some y → Cmb n x y
def ltI : Dt → Dt → Bool
  | .int i, .int j => decide (i < j)
  | _, _ => false
def ltD : Nat → Dt → Dt → Bool
  | 0, d, e => ltI d e
  | n + 1, d, e => match d, e with
    | .tup ds, .tup es => Ob.lexAt (fun j => PyData.eqv (toPy (ds.getD j .non)) (toPy (es.getD j .non))) (fun j => ltD n (ds.getD j .non) (es.getD j .non)) (decide (ds.length < es.length)) 0 (min ds.length es.length)
    | d, e => ltI d e
theorem depth_get {ds : List Dt} {d : Dt} {j : Nat} (h : ds[j]? = some d) : (toPy d).depth ≤ PyData.depthAll (toPy.toPyL ds) := by
  induction ds generalizing j with
  | nil => simp at h
  | cons a ds ih =>
    show _ ≤ PyData.depthAll (toPy a :: toPy.toPyL ds)
    unfold PyData.depthAll
    cases j with
    | zero => simp at h; subst h; exact Nat.le_max_left _ _
    | succ j => exact Nat.le_trans (ih (by simpa using h)) (Nat.le_max_right _ _)
theorem PurA.get {ds : List Dt} (h : PurA ds) {d : Dt} {j : Nat} (e : ds[j]? = some d) : Pur d := by
  induction ds generalizing j with
  | nil => simp at e
  | cons a ds ih =>
    have n : (noRef a && noRef.noRefL ds) = true := h.n
    have c : PyData.canLayAll0 (toPy a :: toPy.toPyL ds) = true := h.c
    rw [Bool.and_eq_true] at n
    unfold PyData.canLayAll0 at c
    rw [Bool.and_eq_true] at c
    cases j with
    | zero => simp at e; subst e; exact ⟨n.1, c.1⟩
    | succ j => exact ih ⟨n.2, c.2⟩ (by simpa using e)
theorem Pur.of_tup {ds : List Dt} (h : Pur (.tup ds)) : PurA ds := ⟨h.n, by have c : PyData.canLay0 (.tuple (toPy.toPyL ds)) = true := h.c; unfold PyData.canLay0 at c; exact c⟩
section
variable {X : Cx} {pins : List (Addr × Obj)} {σ : L2.St} {H : Hp} {s : Shared}
theorem getD_of {ds : List Dt} {d : Dt} {j : Nat} (h : ds[j]? = some d) : ds.getD j .non = d := by simp [List.getD, h]
theorem lt_run (I : Inv X pins σ H s) : ∀ (n : Nat) (A : Around), A.units + n + 70 < cLine → ∀ (d e : Dt) (x y : V) (v u : Value), Cmb n d e → Pur d → Pur e → (toPy d).depth ≤ 64 → Tp H x d → Tp H y e → RelV x v → RelV y u → Ob.RcOp .Lt A s v u (ltD n d e)
  | 0, A, hu, d, e, x, y, v, u, h, pd, pe, dp, tx, ty, rx, ry => by
    obtain ⟨i, j, rfl, rfl⟩ := h
    cases tx.int_eq
    cases ty.int_eq
    obtain ⟨t, rfl⟩ := rx
    obtain ⟨t', rfl⟩ := ry
    exact Ob.RcOp.lt_int i j t t'
  | n + 1, A, hu, d, e, x, y, v, u, h, pd, pe, dp, tx, ty, rx, ry => by
    rcases h with ⟨i, j, rfl, rfl⟩ | ⟨ds, es, rfl, rfl, hc⟩
    · cases tx.int_eq
      cases ty.int_eq
      obtain ⟨t, rfl⟩ := rx
      obtain ⟨t', rfl⟩ := ry
      exact Ob.RcOp.lt_int i j t t'
    · obtain ⟨a, xs, rfl, ha, ta⟩ := tx.tup_eq
      obtain ⟨b, ys, rfl, hb, tb⟩ := ty.tup_eq
      cases rx
      cases ry
      obtain ⟨its, r1, p1, _⟩ := I.tuple (SqT.of ha)
      obtain ⟨its2, r2, p2, _⟩ := I.tuple (SqT.of hb)
      have l1 : its.length = ds.length := r1.length.symm.trans ta.length
      have l2 : its2.length = es.length := r2.length.symm.trans tb.length
      have hu1 : A.units < cLine := by omega
      have hdp : PyData.depthAll (toPy.toPyL ds) + 1 ≤ 64 := by
        have q : (PyData.tuple (toPy.toPyL ds)).depth ≤ 64 := dp
        unfold PyData.depth at q
        exact q
      have at_ : ∀ j (h1 : j < its.toArray.size) (h2 : j < its2.toArray.size), ∃ x' y' d' e', ds[j]? = some d' ∧ es[j]? = some e' ∧ Tp H x' d' ∧ Tp H y' e' ∧ RelV x' its.toArray[j] ∧ RelV y' its2.toArray[j] := fun j h1 h2 => by
        have h1' : j < its.length := by simpa using h1
        have h2' : j < its2.length := by simpa using h2
        have e1 : ds[j]? = some (ds[j]'(by omega)) := List.getElem?_eq_getElem _
        have e2 : es[j]? = some (es[j]'(by omega)) := List.getElem?_eq_getElem _
        obtain ⟨x', hx', tx'⟩ := ta.get e1
        obtain ⟨y', hy', ty'⟩ := tb.get e2
        obtain ⟨v', hv', rv'⟩ := r1.get hx'
        obtain ⟨u', hu', ru'⟩ := r2.get hy'
        rw [List.getElem?_eq_getElem h1'] at hv'
        rw [List.getElem?_eq_getElem h2'] at hu'
        refine ⟨x', y', _, _, e1, e2, tx', ty', ?_, ?_⟩
        · have : its.toArray[j] = v' := by simpa using Option.some.inj hv'
          rw [this]; exact rv'
        · have : its2.toArray[j] = u' := by simpa using Option.some.inj hu'
          rw [this]; exact ru'
      have key := Ob.RcOp.tuples_lt (A := A) (s := s) (e := fun j => PyData.eqv (toPy (ds.getD j .non)) (toPy (es.getD j .non))) (r := fun j => ltD n (ds.getD j .non) (es.getD j .non)) p1 p2 hu1
        (fun j h1 h2 => by
          obtain ⟨x', y', d', e', hd, he, tx', ty', rx', ry'⟩ := at_ j h1 h2
          rw [getD_of hd, getD_of he]
          have q1 := (Pur.of_tup pd).get hd
          have q2 := (Pur.of_tup pe).get he
          obtain ⟨as, z1⟩ := Dp.reads I _ x' _ (tx'.dp q1.n) rx'
          obtain ⟨bs, z2⟩ := Dp.reads I _ y' _ (ty'.dp q2.n) ry'
          have hd' := depth_get hd
          exact SeqAt.eqAt_reads _ _ A.in1 s _ _ _ _ z1 z2 q1.c q2.c (by show A.units + 1 + _ < cLine; omega))
        (fun j h1 h2 _ => by
          obtain ⟨x', y', d', e', hd, he, tx', ty', rx', ry'⟩ := at_ j h1 h2
          rw [getD_of hd, getD_of he]
          have hd' := depth_get hd
          exact lt_run I n A.in1 (by show A.units + 1 + n + 70 < cLine; omega) d' e' x' y' _ _ (hc j d' e' hd he) ((Pur.of_tup pd).get hd) ((Pur.of_tup pe).get he) (by omega) tx' ty' rx' ry')
      have e1 : its.toArray.size = ds.length := by simpa using l1
      have e2 : its2.toArray.size = es.length := by simpa using l2
      rw [e1, e2] at key
      exact key
end
def rLtN : R2 := fun x y H Q => ∃ n d e, n ≤ 60 ∧ Tp H x d ∧ Tp H y e ∧ Cmb n d e ∧ Pur d ∧ Pur e ∧ (toPy d).depth ≤ 64 ∧ Q (.bl (ltD n d e)) H
theorem op_ltN {X : Cx} {k : Nat} (hr : Room k X.A) : OpR X (compareOp .Lt) rLtN := by
  intro pins s σ H x y v u Q I rx ry h
  obtain ⟨n, d, e, hn, tx, ty, hc, pd, pe, dp, q⟩ := h
  have := hr.un
  exact lt_run I n X.A (by omega) d e x y v u hc pd pe dp tx ty rx ry _ _ _ _ ⟨.bl _, H, I, rfl, q⟩
theorem co_ltN {X : Cx} {k : Nat} {H : Hp} {d e : Dt} (n : Nat) (hr : Room k X.A) (hc : Cmb n d e) (pd : Pur d) (pe : Pur e) (dp : (toPy d).depth ≤ 64) (hn : n ≤ 60 := by decide) : CO X .Lt d e H (ltD n d e) :=
  ⟨_, op_ltN hr, fun x y H2 Q g tx ty q => ⟨n, d, e, hn, tx, ty, hc, pd, pe, dp, q _ _ (Ge.refl _) (.bl _)⟩⟩
end Lk
set_option Elab.async false
set_option linter.all false
set_option maxRecDepth 100000
set_option maxHeartbeats 4000000
/-! marks_from. -/
namespace Lk
open PySem PySem.Spec PyProof.Rows L2 GxR
open C8 (Cal Met Mak pe_c pe_mt pe_mk pe_mt0)
structure MfIn where
  h : Habit
  o : Habit
  lot : List Nat
  P : Nat
def mfArgs (y : MfIn) : List Dt := [dH y.h, dH y.o, dNs y.lot]
def mfPre (y : MfIn) (_ : Hp) : Prop := Ok [y.h, y.o] y.lot [0, 1] y.P
def mfPost (y : MfIn) (H : Hp) (d : Dt) (H' : Hp) : Prop := Ge H H' ∧ ∃ f kvs, d = .ref f ∧ H f = none ∧ H' f = some (.dT kvs) ∧ DcR mdD H' kvs (marksOf [y.h, y.o] y.lot [0, 1])
abbrev N_mf : List Str := ["habit", "other", "lot", "found", "layer", "place", "pair", "later", "moved"]
theorem sc_marks_from : FnScope N_mf ["habit", "other", "lot"] (defScope s_marks_from) := ⟨rfl, rfl, rfl, by decide +kernel, rfl, by decide +kernel, by decide +kernel⟩
section
variable {P : Program} {w : World} {K : PySem.W.Frag} {mg : Str → Option Value} {base : Heap} {f : Addr} {fd : FuncData}
theorem ok_marks_from (g : Gb mg) (F : FnP K "marks_from" "marks_from" s_marks_from f fd) : FnOk P w K mg base CX0 1 f fd ["habit", "other", "lot"] (spP mfArgs mfPre mfPost) := by
  refine fn_P F sc_marks_from (fun y => rfl) fun cdv A outer s H E y _ hr h => ?_
  obtain ⟨h0, o0, lot, Pl⟩ := y
  obtain ⟨hs, ehs⟩ : ∃ hs, hs = [h0, o0] := ⟨_, rfl⟩
  obtain ⟨group, egr⟩ : ∃ group, group = [0, 1] := ⟨_, rfl⟩
  have ok : Ok hs lot group Pl := by rw [ehs, egr]; exact h
  have okh : HabOk Pl h0 := by have := ok.hab 0 (by rw [egr]; simp); rw [ehs] at this; exact this
  have oko : HabOk Pl o0 := by have := ok.hab 1 (by rw [egr]; simp); rw [ehs] at this; exact this
  refine sxs_cons (sx_parM (i := 3) (j := 4) (mx_dnew fun fo H1 g1 nf hf => fun σ m => lx_list ax_nil (Nat.zero_le _) σ H1 _ (Ge.refl _) m fun l vs H2 g2 nl hl t => ⟨.ref l, .ref l, m.ge g2, g2.t, ?_⟩) rfl sc_marks_from.nd)
  have hms0 : MS H H2 fo l ([], []) := ⟨g1.trans g2, nf, g1.free nl, ⟨_, g2.dT hf, .nil⟩, ⟨vs, hl, t⟩⟩
  refine sxs_cons (sx_for (src_tup (i := 5) (ex_var 2)) (pgn sc_marks_from.nd) (fun H3 g3 => ?_) PassesOwn.never rfl)
  refine ⟨fun k Γ' H' => LeT H3 H' ∧ (∃ x5 x6, Γ' = [some (dH h0), some (dH o0), some (dNs lot), some (.ref fo), some (.ref l), x5, x6, none, none]) ∧
    MS H H' fo l ((lot.take k).foldl (st0 hs group) ([], [])) ∧ Good hs lot group Pl ((lot.take k).foldl (st0 hs group) ([], [])).1 ∧ Tail [] ((lot.take k).foldl (st0 hs group) ([], [])),
    ⟨LeT.refl _, ⟨none, none, rfl⟩, hms0.mono g3, Good.nil, rfl⟩, fun k Γ' H' p => p.1, ?_, ?_⟩
  · rintro k Γ' H' H4 hk ⟨lt, ⟨x5, x6, rfl⟩, ms, gd, tl⟩ g4
    rw [List.length_map] at hk
    have e : (lot.map dN)[k]? = some (dN lot[k]) := by rw [List.getElem?_map, List.getElem?_eq_getElem hk]; rfl
    simp only [e]
    have hp : lot[k] ∈ lot := List.getElem_mem hk
    generalize hS : (lot.take k).foldl (st0 hs group) ([], []) = S at ms gd tl
    have ms := ms.mono g4
    refine sxs_cons (sx_asg (i := 6) (d := dNs (mStart hs group lot[k])) (ex_cast (ex_tup (ax_cons (ex_stp okh (ok.lt _ hp) (ok.lt _ hp) (ex_var 0) (ex_var 5) (ex_var 5)) (ax_cons (ex_stp oko (ok.lt _ hp) (ok.lt _ hp) (ex_var 1) (ex_var 5) (ex_var 5)) ax_nil))) ?_) ?_ sc_marks_from.nd)
    · rw [ehs, egr]; rfl
    · intro H5 g5
      have ms5 := ms.mono g5
      obtain ⟨kvs, hd, r⟩ := id ms5.d
      have nx : (lot.take (k + 1)).foldl (st0 hs group) ([], []) = st0 hs group S lot[k] := by
        rw [List.take_succ_eq_append_getElem hk, List.foldl_append, hS]
        rfl
      have gd' : Good hs lot group Pl (st0 hs group S lot[k]).1 := st0_good gd hp
      have tl' : Tail [] (st0 hs group S lot[k]) := st0_tail tl
      refine sxs_one (sx_if (tx_dnotin (ex_var 6) (ex_var 3) (.inl hd) r hr) (fun hb6 H6 g6 => ?_) fun hb6 H6 g6 => ?_)
      · have hn : lk S.1 (mStart hs group lot[k]) = none := by
          cases q : lk S.1 (mStart hs group lot[k]) with
          | none => rfl
          | some v => rw [q] at hb6; cases hb6
        have l1 := Good.len' ok gd
        have l2 : S.2.length ≤ S.1.length := by
          have := congrArg List.length (show S.1.map (·.1) = [] ++ S.2 from tl)
          simp at this
          omega
        refine sx_add (q := (lot[k], [])) (ms5.mono g6) hn (by omega) (by omega) hr (ex_tup (ax_cons (ex_var 5) (ax_cons ex_nil ax_nil))) (fun _ => ex_var 3) (fun _ => ex_var 6) (fun _ => ex_var 4) (fun _ => ex_var 6) fun H7 ms7 g7 => sxs_nil ?_
        rw [st0_none hn] at nx gd' tl'
        rw [nx]
        have lt7 : LeT H6 H7 := fun a xs h => g7.tup (by
          have m6 := ms5.mono g6
          obtain ⟨kvs, hd, r⟩ := m6.d
          obtain ⟨vs, hy, t⟩ := m6.y
          intro m
          rcases List.mem_cons.mp m with z | z
          · rw [z, hd] at h; cases h
          · rw [List.mem_singleton.mp z, hy] at h; cases h) h
        exact ⟨(((lt.trans g4.t).trans g5.t).trans g6.t).trans lt7, ⟨_, _, rfl⟩, ms7, gd', tl'⟩
      · obtain ⟨v, hv⟩ : ∃ v, lk S.1 (mStart hs group lot[k]) = some v := by
          cases q : lk S.1 (mStart hs group lot[k]) with
          | none => rw [q] at hb6; cases hb6
          | some v => exact ⟨v, rfl⟩
        rw [st0_some hv] at nx gd' tl'
        refine sxs_nil ?_
        rw [nx]
        exact ⟨(((lt.trans g4.t).trans g5.t).trans g6.t), ⟨_, _, rfl⟩, ms5.mono g6, gd', tl'⟩
  · rintro Γ' H4 ⟨lt, ⟨x5, x6, rfl⟩, ms, gd, tl⟩
    rw [List.length_map, List.take_length] at ms gd tl
    have b0 : BInv hs lot group Pl (marks0 hs lot group) := BInv.start
    refine sxs_cons (sx_while (fun n Γ' H' => ∃ s l', (∃ x5 x6 x7 x8, Γ' = [some (dH h0), some (dH o0), some (dNs lot), some (.ref fo), some (.ref l'), x5, x6, x7, x8]) ∧ MS H H' fo l' s ∧ BInv hs lot group Pl s ∧
      bfsF hs lot group n s = marksOf hs lot group ∧ (s.2 = [] ∨ 3200 < n + s.1.length)) ⟨fuel, marks0 hs lot group, l, ⟨_, _, _, _, rfl⟩, ms, b0, rfl, .inr (by show 3200 < 4000 + _; omega)⟩ ?_ PassesOwn.never)
    rintro n Γ' H' ⟨s, l', ⟨x5, x6, x7, x8, rfl⟩, ms, bi, hbf, hfu⟩
    obtain ⟨vs, hy, t⟩ := id ms.y
    refine ⟨_, tx_lstT (ex_var 4) hy, fun hk H5 g5 => ?_, fun hk H5 g5 => ?_⟩
    · have hne : s.2 ≠ [] := fun e => by rw [e] at t; cases t; cases hk
      have gdl := bi.good.len' ok
      obtain ⟨n', rfl⟩ : ∃ n', n = n' + 1 := by
        cases n with
        | zero =>
          rcases hfu with z | z
          · exact absurd z hne
          · omega
        | succ n => exact ⟨n, rfl⟩
      refine sxs_cons (sx_asgL (i := 7) (lx_list ax_nil (Nat.zero_le _)) (fun l2 vs2 H6 g6 n6 h6 t6 => ?_) sc_marks_from.nd)
      have ms6 := (ms.mono g5).mono g6
      have hl2 : l' ≠ l2 := fun e => by
        have := g5.lst hy
        rw [e, n6] at this
        cases this
      have hy6 := g6.lst (g5.lst hy)
      have hfl : fo ≠ l2 := fun e => by
        obtain ⟨kvs, hd, r⟩ := (ms.mono g5).d
        rw [e, n6] at hd
        cases hd
      have mt6 : MS H H6 fo l2 (s.1, []) := ⟨ms6.ge, ms6.fn, (ms.mono g5).ge.free n6, ms6.d, ⟨vs2, h6, by exact t6⟩⟩
      refine sxs_cons (sx_for (src_list (i := 6) (ex_var 4) hy6 ((t.ge g5).ge g6)) (pgn sc_marks_from.nd) (fun H7 g7 => ?_) PassesOwn.never rfl)
      refine ⟨fun k Γ' H' => (LeT H7 H' ∧ H' l' = some (.lst vs)) ∧ (∃ x5 x6 x8, Γ' = [some (dH h0), some (dH o0), some (dNs lot), some (.ref fo), some (.ref l'), x5, x6, some (.ref l2), x8]) ∧
        MS H H' fo l2 ((s.2.take k).foldl (stMid hs lot group) (s.1, [])) ∧ StepOk hs lot group Pl (s.1.map (·.1)) (s.1, []) ((s.2.take k).foldl (stMid hs lot group) (s.1, [])),
        ⟨⟨LeT.refl _, g7.lst hy6⟩, ⟨_, _, _, rfl⟩, mt6.mono g7, ⟨bi.good, tail_start s.1, fun k h => h⟩⟩, fun k Γ' H' p => ⟨p.1.1, p.1.2.trans (g7.lst hy6).symm⟩, ?_, ?_⟩
      · rintro k Γ' H' H8 hk ⟨lt, ⟨x5, x6, x8, rfl⟩, ms7, so⟩ g8
        rw [List.length_map] at hk
        have e : (s.2.map dNs)[k]? = some (dNs s.2[k]) := by rw [List.getElem?_map, List.getElem?_eq_getElem hk]; rfl
        simp only [e]
        generalize hS : (s.2.take k).foldl (stMid hs lot group) (s.1, []) = S at ms7 so
        generalize hM : s.2[k] = M
        have hMm : M ∈ s.2 := hM ▸ List.getElem_mem hk
        have hMk : M ∈ s.1.map (·.1) := bi.lay M hMm
        have hML := bi.good.lt ok hMk
        have nxm : (s.2.take (k + 1)).foldl (stMid hs lot group) (s.1, []) = stMid hs lot group S M := by
          rw [List.take_succ_eq_append_getElem hk, List.foldl_append, hS, hM]
          rfl
        refine sxs_one (sx_for (src_tup (i := 5) (ex_var 2)) (pgn sc_marks_from.nd) (fun H9 g9 => ?_) PassesOwn.never rfl)
        refine ⟨fun j Γ' H' => (LeT H9 H' ∧ H' l' = some (.lst vs)) ∧ (∃ x5 x8, Γ' = [some (dH h0), some (dH o0), some (dNs lot), some (.ref fo), some (.ref l'), x5, some (dNs M), some (.ref l2), x8]) ∧
          MS H H' fo l2 ((lot.take j).foldl (stIn hs group M) S) ∧ StepOk hs lot group Pl (s.1.map (·.1)) (s.1, []) ((lot.take j).foldl (stIn hs group M) S),
          ⟨⟨LeT.refl _, g9.lst (g8.lst lt.2)⟩, ⟨_, _, rfl⟩, (ms7.mono g8).mono g9, so⟩, fun k Γ' H' p => p.1.1, ?_, ?_⟩
        · rintro j Γ' H' H10 hj ⟨lt9, ⟨x5, x8, rfl⟩, ms9, so9⟩ g10
          rw [List.length_map] at hj
          have e : (lot.map dN)[j]? = some (dN lot[j]) := by rw [List.getElem?_map, List.getElem?_eq_getElem hj]; rfl
          simp only [e]
          have hp : lot[j] ∈ lot := List.getElem_mem hj
          have nxj : (lot.take (j + 1)).foldl (stIn hs group M) S = stIn hs group M ((lot.take j).foldl (stIn hs group M) S) lot[j] := by
            rw [List.take_succ_eq_append_getElem hj, List.foldl_append]
            rfl
          generalize hT : (lot.take j).foldl (stIn hs group M) S = T at ms9 so9 nxj
          generalize hp' : lot[j] = p at hp nxj
          have hMT : M ∈ T.1.map (·.1) := so9.sub _ hMk
          obtain ⟨⟨p0, w0⟩, hMv⟩ := lk_some_of_mem hMT
          have ms10 := ms9.mono g10
          obtain ⟨ma, mb, eM⟩ : ∃ ma mb, M = [ma, mb] := by
            have h2 : M.length = 2 := by rw [hML.1, egr]; rfl
            match M, h2 with
            | [a, b], _ => exact ⟨a, b, rfl⟩
          have hma : ma < Pl := hML.2 _ (by rw [eM]; simp)
          have hmb : mb < Pl := hML.2 _ (by rw [eM]; simp)
          have eMd : dNs M = .tup [dN ma, dN mb] := by rw [eM]; rfl
          refine sxs_cons (sx_asg (i := 8) (d := dNs (mMove hs group M p)) (ex_cast (ex_tup (ax_cons (ex_stp okh (ok.lt _ hp) hma (ex_var 0) (ex_var 5) (at0 (ex_cast (ex_var 6) eMd))) (ax_cons (ex_stp oko (ok.lt _ hp) hmb (ex_var 1) (ex_var 5) (at1 (ex_cast (ex_var 6) eMd))) ax_nil))) ?_) ?_ sc_marks_from.nd)
          · rw [ehs, egr, eM]; rfl
          · intro H11 g11
            have ms11 := ms10.mono g11
            obtain ⟨kvs, hd, r⟩ := id ms11.d
            obtain ⟨st1, _⟩ := stIn_ok (hs := hs) (lot := lot) (group := group) (P := Pl) (ks := s.1.map (·.1)) (s := T) (marks := M) (p := p) so9.good so9.tail hMT hp
            have so' : StepOk hs lot group Pl (s.1.map (·.1)) (s.1, []) (stIn hs group M T p) := ⟨st1.good, st1.tail, fun k h => st1.sub k (so9.sub k h)⟩
            refine sxs_one (sx_if (tx_dnotin (ex_var 8) (ex_var 3) (.inl hd) r hr) (fun hb12 H12 g12 => ?_) fun hb12 H12 g12 => ?_)
            · have hn : lk T.1 (mMove hs group M p) = none := by
                cases q : lk T.1 (mMove hs group M p) with
                | none => rfl
                | some v => rw [q] at hb12; cases hb12
              have l1 := Good.len' ok so9.good
              have l2' : T.2.length ≤ T.1.length := by
                have := congrArg List.length (show T.1.map (·.1) = s.1.map (·.1) ++ T.2 from so9.tail)
                rw [List.length_map, List.length_append] at this
                omega
              have wl : w0.length ≤ 3200 := Nat.le_of_lt (Nat.lt_of_lt_of_le (so9.good.wl _ (lk_mem hMv)) l1)
              have ms12 := ms11.mono g12
              obtain ⟨kvs12, hd12, r12⟩ := id ms12.d
              refine sx_add (q := (p0, w0 ++ [p])) ms12 hn (by omega) (by omega) hr (ex_cast (ex_tup (ax_cons (at0 (ex_dgM (ex_var 3) (ex_var 6) (.inl hd12) r12 hMv hr)) (ax_cons (ex_cat (at1 (ex_dgM (ex_var 3) (ex_var 6) (.inl hd12) r12 hMv hr)) (ex_tup (ax_cons (ex_var 5) ax_nil)) (by rw [List.length_map]; show w0.length + 1 ≤ sizeLine; exact Nat.le_of_lt (size4k (by omega)))) ax_nil))) ?_) (fun _ => ex_var 3) (fun _ => ex_var 8) (fun _ => ex_var 7) (fun _ => ex_var 8) fun H13 ms13 g13 => sxs_nil ?_
              · unfold mdD dNs
                rw [List.map_append]
                rfl
              rw [stIn_none hn hMv] at so'
              rw [nxj, stIn_none hn hMv]
              have lt13 : LeT H12 H13 := fun a xs h => g13.tup (by
                obtain ⟨vs', hy', _⟩ := ms12.y
                intro m
                rcases List.mem_cons.mp m with z | z
                · rw [z, hd12] at h; cases h
                · rw [List.mem_singleton.mp z, hy'] at h; cases h) h
              have hl12 : H12 l' = some (.lst vs) := g12.lst (g11.lst (g10.lst lt9.2))
              have hlf : l' ≠ fo := fun z => by rw [z, hd12] at hl12; cases hl12
              exact ⟨⟨(((lt9.1.trans g10.t).trans g11.t).trans g12.t).trans lt13, g13.at (by simp [hlf, hl2]) hl12 (fun _ e => nomatch e)⟩, ⟨_, _, rfl⟩, ms13, so'⟩
            · obtain ⟨v, hv⟩ : ∃ v, lk T.1 (mMove hs group M p) = some v := by
                cases q : lk T.1 (mMove hs group M p) with
                | none => rw [q] at hb12; cases hb12
                | some v => exact ⟨v, rfl⟩
              rw [stIn_some hv] at so'
              rw [nxj, stIn_some hv]
              exact sxs_nil ⟨⟨(((lt9.1.trans g10.t).trans g11.t).trans g12.t), g12.lst (g11.lst (g10.lst lt9.2))⟩, ⟨_, _, rfl⟩, ms11.mono g12, so'⟩
        · rintro Γ' H10 ⟨lt9, ⟨x5, x8, rfl⟩, ms9, so9⟩
          rw [List.length_map, List.take_length] at ms9 so9
          rw [nxm]
          exact ⟨⟨((lt.1.trans g8.t).trans g9.t).trans lt9.1, lt9.2⟩, ⟨_, _, _, rfl⟩, ms9, so9⟩
      · rintro Γ' H8 ⟨lt, ⟨x5, x6, x8, rfl⟩, ms7, so⟩
        rw [List.length_map, List.take_length] at ms7 so
        refine sxs_one (sx_asg (i := 4) (ex_var 7) (fun H9 g9 => ?_) sc_marks_from.nd)
        obtain ⟨bl, el⟩ := bi.layer
        refine ⟨n', Nat.lt_succ_self _, layerF hs lot group s.1 s.2, l2, ⟨_, _, _, _, rfl⟩, ms7.mono g9, bl, ?_, ?_⟩
        · rw [← bfs_go n' s.1 s.2 hne]
          exact hbf
        · rcases hfu with z | z
          · exact absurd z hne
          · cases e2 : (layerF hs lot group s.1 s.2).2 with
            | nil => exact .inl rfl
            | cons c r =>
              right
              rw [e2, List.length_cons] at el
              omega
    · have he : s.2 = [] := by
        cases q : s.2 with
        | nil => rfl
        | cons a r => rw [q] at t; cases t; cases hk
      obtain ⟨d, ly⟩ := s
      have he : ly = [] := he
      subst he
      rw [bfs_nil] at hbf
      subst hbf
      refine sxs_one (sx_ret (ex_var 3) fun H6 g6 => ?_)
      have ms6 := (ms.mono g5).mono g6
      obtain ⟨kvs, hd, r⟩ := ms6.d
      exact ⟨ms6.ge, fo, kvs, rfl, ms6.fn, hd, by rw [ehs, egr] at r; exact r⟩
end
end Lk
set_option Elab.async false
set_option linter.all false
set_option maxRecDepth 100000
set_option maxHeartbeats 4000000
/-! tells, shortest_test. -/
namespace Lk
open PySem PySem.Spec PyProof.Rows L2 GxR
open C8 (Cal Met Mak pe_c pe_mt pe_mk pe_mt0)
def tl (a b : Nat) (lot : List Nat) : Option Nat := lot.find? fun r => decide (a = r) != decide (b = r)
def optD : Option Nat → Dt
  | some r => dN r
  | none => .non
def R_tells : List Dt → Dt → Prop := fun ds d => ∃ (a b : Nat) (lot : List Nat), ds = [dNs [a, b], dNs lot] ∧ lot.length ≤ 4000 ∧ d = optD (tl a b lot)
abbrev N_te : List Str := ["pair", "lot", "found", "place"]
theorem sc_tells : FnScope N_te ["pair", "lot"] (defScope s_tells) := ⟨rfl, rfl, rfl, by decide +kernel, rfl, by decide +kernel, by decide +kernel⟩
section
variable {P : Program} {w : World} {K : PySem.W.Frag} {mg : Str → Option Value} {base : Heap} {f : Addr} {fd : FuncData}
theorem dec_cast (a r : Nat) : decide ((a : Int) = (r : Int)) = decide (a = r) := by
  rw [decide_eq_decide]
  exact Int.ofNat_inj
theorem ok_tells (F : FnP K "tells" "tells" s_tells f fd) : FnOk P w K mg base CX0 1 f fd ["pair", "lot"] (spF [] R_tells) := by
  refine fn_F F sc_tells (fun ds d h => ?_) fun cdv A outer s H E ds d _ hr h _ => ?_
  · obtain ⟨_, _, _, rfl, _⟩ := h
    rfl
  · obtain ⟨a, b, lot, rfl, hl, rfl⟩ := h
    refine sxs_cons (sx_setLc (i := 2) (own := [("place", 3)]) (f := fun k' => (lot[k']?.filter fun r => decide (a = r) != decide (b = r)).map dN) (src_tup (i := 3) (ex_var 1)) (fun _ _ g => g.t) ?_ (blkOk_by (by show blkC N_te (defScope s_tells) _ _ = true; decide +kernel)) (by decide)
      (fun _ _ _ _ _ => pgn sc_tells.nd) ?_ ?_ (fun l vs H1 g1 n1 h1 t1 => ?_) rfl sc_tells.nd)
    · rw [List.length_map]; exact Nat.le_of_lt (size4k hl)
    · intro s' H0 C cl fp k' H5 hk' g5
      rw [List.length_map] at hk'
      have e' : (lot.map dN)[k']? = some (dN lot[k']) := by rw [List.getElem?_map, List.getElem?_eq_getElem hk']; rfl
      simp only [e']
      refine txs_one (tx_cast (tx_cmp (ex_cmp (at0 (ex_var 0)) (ex_var 3) co_eq) (ex_cmp (at1 (ex_var 0)) (ex_var 3) co_eq) co_ne) ?_)
      rw [List.getElem?_eq_getElem hk', Option.isSome_map]
      show (!decide (decide ((a : Int) = (lot[k'] : Int)) = decide ((b : Int) = (lot[k'] : Int)))) = _
      rw [dec_cast, dec_cast]
      cases h1 : decide (a = lot[k']) <;> cases h2 : decide (b = lot[k']) <;> simp [Option.filter, h1, h2]
    · intro s' H0 C cl fp k' d H5 hk' hd g5
      rw [List.length_map] at hk'
      have e' : (lot.map dN)[k']? = some (dN lot[k']) := by rw [List.getElem?_map, List.getElem?_eq_getElem hk']; rfl
      simp only [e']
      rw [List.getElem?_eq_getElem hk'] at hd
      obtain ⟨q, hq, rfl⟩ := Option.map_eq_some_iff.mp hd
      have hq2 : lot[k'] = q := by
        rw [Option.filter_eq_some_iff] at hq
        exact Option.some.inj hq.1
      rw [← hq2]
      exact ex_var 3
    · rw [List.length_map, keepD_filter] at t1
      have hh : tl a b lot = (lot.filter fun r => decide (a = r) != decide (b = r)).head? := by unfold tl; rw [List.head?_filter]
      rw [hh]
      generalize (lot.filter fun r => decide (a = r) != decide (b = r)) = fl at t1
      have e2 : vs.isEmpty = fl.isEmpty := by
        have := t1.length
        cases vs <;> cases fl <;> simp_all
      refine sxs_one (sx_ret (ex_if (tx_cast (tx_lstT (ex_var 2) h1) (by rw [e2])) (fun z => ?_) (fun z => ?_)) fun H2 g2 => ⟨g1.trans g2, rfl⟩)
      · cases fl with
        | nil => cases z
        | cons r fl =>
          cases t1 with
          | cons p q => exact ex_ixL (n := 0) (ex_var 2) h1 rfl p ex_int
      · cases fl with
        | nil => exact ex_non
        | cons r fl => cases z
abbrev N_st : List Str := ["habit", "other", "lot", "best", "pair", "place", "word", "read"]
theorem sc_shortest_test : FnScope N_st ["habit", "other", "lot"] (defScope s_shortest_test) := ⟨rfl, rfl, rfl, by decide +kernel, rfl, by decide +kernel, by decide +kernel⟩
def stPre (y : MfIn) (H : Hp) : Prop := mfPre y H ∧ y.lot.length ≤ 4000
def stPost (y : MfIn) (H : Hp) (d : Dt) (H' : Hp) : Prop := Ge H H' ∧ ((d = .non ∧ alikeB y.h y.o y.lot = true) ∨ ((∃ ds, d = .tup ds) ∧ alikeB y.h y.o y.lot = false))
/-- the k first marks of md tell nothing / something -/
def BestOk (md : MD) (lot : List Nat) (k : Nat) (b : Dt) : Prop :=
  (b = .non ∧ ∀ (i : Nat), i < k → ∀ (x : List Nat × (Nat × List Nat)), md[i]? = some x → tl (x.1.getD 0 0) (x.1.getD 1 0) lot = none) ∨
  (∃ n p r : Nat, ∃ w : List Nat, b = .tup [dN n, dN p, dNs w, dN r] ∧ ∃ (i : Nat) (x : List Nat × (Nat × List Nat)), md[i]? = some x ∧ tl (x.1.getD 0 0) (x.1.getD 1 0) lot ≠ none)
theorem alike_tl (h o : Habit) (lot : List Nat) : alikeB h o lot = true ↔ ∀ (i : Nat) (x : List Nat × (Nat × List Nat)), (marksOf [h, o] lot [0, 1])[i]? = some x → tl (x.1.getD 0 0) (x.1.getD 1 0) lot = none := by
  unfold alikeB
  rw [List.all_eq_true]
  constructor
  · intro hA i x hx
    have := hA x (List.mem_of_getElem? hx)
    unfold tl
    rw [List.find?_eq_none]
    intro r hr
    have := List.all_eq_true.mp this r hr
    simp only [beq_iff_eq] at this
    show ¬ ((decide (x.1.getD 0 0 = r) != decide (x.1.getD 1 0 = r)) = true)
    rw [this]
    simp
  · intro hA x hx
    obtain ⟨i, hi⟩ := List.getElem?_of_mem hx
    have := hA i x hi
    unfold tl at this
    rw [List.find?_eq_none] at this
    refine List.all_eq_true.mpr fun r hr => ?_
    have this : ¬ ((decide (x.1.getD 0 0 = r) != decide (x.1.getD 1 0 = r)) = true) := this r hr
    show (decide (x.1.getD 0 0 = r) == decide (x.1.getD 1 0 = r)) = true
    generalize decide (x.1.getD 0 0 = r) = b1 at this
    generalize decide (x.1.getD 1 0 = r) = b2 at this
    cases b1 <;> cases b2 <;> simp_all
theorem cmb4 (n p r n' p' r' : Nat) (w w' : List Nat) : Cmb 2 (.tup [dN n, dN p, dNs w, dN r]) (.tup [dN n', dN p', dNs w', dN r']) := by
  refine .inr ⟨_, _, rfl, rfl, fun j x y hx hy => ?_⟩
  match j with
  | 0 => cases hx; cases hy; exact .inl ⟨_, _, rfl, rfl⟩
  | 1 => cases hx; cases hy; exact .inl ⟨_, _, rfl, rfl⟩
  | 2 =>
    cases hx; cases hy
    refine .inr ⟨_, _, rfl, rfl, fun j x y hx hy => ?_⟩
    rw [List.getElem?_map] at hx hy
    obtain ⟨a, _, rfl⟩ := Option.map_eq_some_iff.mp hx
    obtain ⟨b, _, rfl⟩ := Option.map_eq_some_iff.mp hy
    exact ⟨_, _, rfl, rfl⟩
  | 3 => cases hx; cases hy; exact .inl ⟨_, _, rfl, rfl⟩
  | j + 4 => cases hx
theorem pur4 (n p r : Nat) (w : List Nat) : Pur (.tup [dN n, dN p, dNs w, dN r]) := Pur.tup (.cons (Pur.int _) (.cons (Pur.int _) (.cons (Pur.dNs _) (.cons (Pur.int _) .nil))))
theorem dep4 (n p r : Nat) (w : List Nat) : (toPy (.tup [dN n, dN p, dNs w, dN r])).depth ≤ 64 := by
  have h1 : (toPy (dNs w)).depth ≤ 1 := depth_dNs w
  show PyData.depth (.tuple [.int n, .int p, toPy (dNs w), .int r]) ≤ 64
  simp only [PyData.depth, PyData.depthAll]
  omega
theorem ok_shortest_test (g : Gb mg) (cM : Cal P w K mg base 1 "marks_from" (spP mfArgs mfPre mfPost) []) (cT : Cal P w K mg base 1 "tells" (spF [] R_tells) []) (F : FnP K "shortest_test" "shortest_test" s_shortest_test f fd) :
    FnOk P w K mg base CX0 2 f fd ["habit", "other", "lot"] (spP mfArgs stPre stPost) := by
  refine fn_P F sc_shortest_test (fun y => rfl) fun cdv A outer s H E y _ hr h => ?_
  obtain ⟨h, o, lot, Pl⟩ := y
  obtain ⟨ok, hl⟩ := h
  have ok : Ok [h, o] lot [0, 1] Pl := ok
  have hl : lot.length ≤ 4000 := hl
  have b := marksOf_ok ok
  refine sxs_cons (sx_asg (i := 3) ex_non (fun H1 g1 => ?_) sc_shortest_test.nd)
  refine sxs_cons (sx_forS (src_items (i := 4) (j := 5) (l := 6) (m := marksOf [h, o] lot [0, 1]) (fα := mdD) (g1 := fun q => dN q.1) (g2 := fun q => dNs q.2) (fun _ => rfl)
    (fun H2 g2 => mx_call cM ⟨h, o, lot, Pl⟩ (ax_cons (ex_var 0) (ax_cons (ex_var 1) (ax_cons (ex_var 2) ax_nil))) (fun _ _ => ok) (fun _ _ _ p => p.1.t) (fun H3 d H4 g3 p => ?_) hr)) (fun _ _ g => g.keepF)
    (pg_items rfl sc_shortest_test.nd rfl rfl rfl (.inl rfl) (.inl rfl) (.inl rfl) (.inl rfl) (.inl rfl) (.inl rfl))
    (fun k Γ' => ∃ b x4 x5 x6 x7, Γ' = [some (dH h), some (dH o), some (dNs lot), some b, x4, x5, x6, x7] ∧ BestOk (marksOf [h, o] lot [0, 1]) lot k b) ⟨.non, _, _, _, _, rfl, .inl ⟨rfl, fun i hi => absurd hi (Nat.not_lt_zero i)⟩⟩ ?_ ?_ PassesOwn.never rfl)
  · obtain ⟨g4, f, kvs, rfl, nf, hf, r⟩ := p
    exact ⟨f, kvs, rfl, g3.trans g4, g3.free nf, hf, r⟩
  · rintro k Γ' H2 hk ⟨be, x4, x5, x6, x7, rfl, hb⟩ g2
    have ek : (marksOf [h, o] lot [0, 1])[k]? = some (marksOf [h, o] lot [0, 1])[k] := List.getElem?_eq_getElem hk
    simp only [ek, Option.map_some]
    generalize hx : (marksOf [h, o] lot [0, 1])[k] = x at ek
    have hL := b.good.lt ok (List.mem_map.mpr ⟨x, List.mem_of_getElem? ek, rfl⟩)
    obtain ⟨ma, mb, eM⟩ : ∃ ma mb, x.1 = [ma, mb] := by
      have h2 : x.1.length = 2 := hL.1
      match x.1, h2 with
      | [a, b], _ => exact ⟨a, b, rfl⟩
    refine sxs_cons (sx_asg (i := 7) (ex_call cT (ax_cons (ex_var 4) (ax_cons (ex_var 2) ax_nil)) ⟨ma, mb, lot, by rw [eM], hl, rfl⟩ hr) (fun H3 g3 => ?_) sc_shortest_test.nd)
    cases ht : tl ma mb lot with
    | none =>
      refine sxs_one (sx_if (k := false) (tx_wx (wx_and (k := false) (l := true) (tx_cast (tx_cmp (ex_var 7) ex_non co_isnt) (by rfl)) (fun z => by cases z))) (fun z => by cases z) fun _ H4 g4 => sxs_nil ⟨g3.trans g4, be, _, _, _, _, rfl, ?_⟩)
      rcases hb with ⟨hb1, hb2⟩ | hb
      · refine .inl ⟨hb1, fun i hi y hy => ?_⟩
        rcases Nat.lt_succ_iff_lt_or_eq.mp hi with hi | rfl
        · exact hb2 i hi y hy
        · rw [ek] at hy
          cases hy
          rw [eM]
          exact ht
      · exact .inr hb
    | some r =>
      have some_ : ∃ (i : Nat) (x : List Nat × (Nat × List Nat)), (marksOf [h, o] lot [0, 1])[i]? = some x ∧ tl (x.1.getD 0 0) (x.1.getD 1 0) lot ≠ none := ⟨k, x, ek, by rw [eM]; show tl ma mb lot ≠ none; rw [ht]; exact fun z => nomatch z⟩
      rcases hb with ⟨rfl, _⟩ | ⟨n', p', r', w', rfl, hsome⟩
      · refine sxs_one (sx_if (k := true) (tx_wx (wx_and (k := true) (l := true) (tx_cast (tx_cmp (ex_var 7) ex_non co_isnt) (by rfl)) fun _ => wx_one_and (tx_wx (wx_or (k := true) (l := true) (tx_cast (tx_cmp (ex_var 3) ex_non co_is) (by rfl)) fun z => by cases z)))) (fun _ H4 g4 => ?_) (fun z => by cases z))
        refine sxs_one (sx_asg (i := 3) (ex_cast (ex_tup (ax_cons (ex_len g.len (ex_var 6)) (ax_cons (ex_var 5) (ax_cons (ex_var 6) (ax_cons (ex_var 7) ax_nil))))) ?_) (fun H5 g5 => ⟨(g3.trans g4).trans g5, .tup [dN x.2.2.length, dN x.2.1, dNs x.2.2, dN r], _, _, _, _, rfl, .inr ⟨_, _, _, _, rfl, some_⟩⟩) sc_shortest_test.nd)
        rw [List.length_map]
        rfl
      · refine sxs_one (sx_if (tx_wx (wx_and (k := true) (tx_cast (tx_cmp (ex_var 7) ex_non co_isnt) (by rfl)) fun _ => wx_one_and (tx_wx (wx_or (k := false) (tx_cast (tx_cmp (ex_var 3) ex_non co_is) (by rfl)) fun _ => wx_one_or (tx_cmp (ex_cast (d' := .tup [dN x.2.2.length, dN x.2.1, dNs x.2.2, dN r]) (ex_tup (ax_cons (ex_len g.len (ex_var 6)) (ax_cons (ex_var 5) (ax_cons (ex_var 6) (ax_cons (ex_var 7) ax_nil))))) (by rw [List.length_map]; rfl)) (ex_var 3) (co_ltN 2 hr (cmb4 ..) (pur4 ..) (pur4 ..) (dep4 ..))))))) (fun _ H4 g4 => ?_) (fun _ H4 g4 => sxs_nil ⟨g3.trans g4, _, _, _, _, _, rfl, .inr ⟨_, _, _, _, rfl, hsome⟩⟩))
        refine sxs_one (sx_asg (i := 3) (ex_cast (ex_tup (ax_cons (ex_len g.len (ex_var 6)) (ax_cons (ex_var 5) (ax_cons (ex_var 6) (ax_cons (ex_var 7) ax_nil))))) ?_) (fun H5 g5 => ⟨(g3.trans g4).trans g5, .tup [dN x.2.2.length, dN x.2.1, dNs x.2.2, dN r], _, _, _, _, rfl, .inr ⟨_, _, _, _, rfl, some_⟩⟩) sc_shortest_test.nd)
        rw [List.length_map]
        rfl
  · rintro Γ' H2 ⟨be, x4, x5, x6, x7, rfl, hb⟩ g2
    rcases hb with ⟨rfl, hb⟩ | ⟨n', p', r', w', rfl, i, x, hx, hne⟩
    · refine sxs_one (sx_ret (ex_if (k := true) (d := .non) (tx_cast (tx_cmp (ex_var 3) ex_non co_is) (by rfl)) (fun _ => ex_non) (fun z => by cases z)) fun H3 g3 => ⟨(g1.trans g2).trans g3, .inl ⟨rfl, (alike_tl h o lot).mpr fun i x hx => hb i (List.getElem?_eq_some_iff.mp hx).1 x hx⟩⟩)
    · refine sxs_one (sx_ret (ex_if (k := false) (tx_cast (tx_cmp (ex_var 3) ex_non co_is) (by rfl)) (fun z => by cases z) (fun _ => ex_from (k := 1) (ex_var 3) ex_int)) fun H3 g3 => ⟨(g1.trans g2).trans g3, .inr ⟨⟨_, rfl⟩, ?_⟩⟩)
      cases e : alikeB h o lot with
      | false => rfl
      | true => exact absurd ((alike_tl h o lot).mp e i x hx) hne
end
end Lk
set_option Elab.async false
set_option linter.all false
set_option maxRecDepth 100000
set_option maxHeartbeats 2000000
/-! all(test for x in t), t a tuple of ints; all(test for x, y in zip(t, u)). -/
namespace Lk
open PySem PySem.Spec PyProof.Rows L2 GxR
section
variable {α : Type}
def trG (pb : α → Bool) (l : List α) (j : Nat) : Bool := match l[j]? with
  | some b => pb b
  | none => false
theorem trG_some {pb : α → Bool} {l : List α} {j : Nat} {b : α} (h : l[j]? = some b) : trG pb l j = pb b := by
  unfold trG
  rw [h]
theorem all_trG (l : List α) (pb : α → Bool) : (List.range l.length).all (trG pb l) = l.all pb := by
  rw [Bool.eq_iff_iff, List.all_eq_true, List.all_eq_true]
  constructor
  · intro h b hb
    obtain ⟨j, hj, e⟩ := List.getElem_of_mem hb
    have q := h j (List.mem_range.mpr hj)
    rw [trG_some (List.getElem?_eq_getElem hj), e] at q
    exact q
  · intro h j hj
    have hj' := List.mem_range.mp hj
    rw [trG_some (List.getElem?_eq_getElem hj')]
    exact h _ (List.getElem_mem hj')
end
/-- the generator g, ready to be walked, in the state s5; H1: what was held before -/
def ReadyG (X : Cx) (pins : List (Addr × Obj)) (σ : L2.St) (H1 : Hp) (P : Addr) (n : Nat) (tr : Nat → Bool) (g : Addr) (s5 : Shared) : Prop :=
  ∃ (fp wr : List Addr) (G : Array GenState → Array GenState → Prop) (F : Nat → Value → Prop) (St : Nat → Shared → Prop),
    WalksS X.prog X.w X.A.in1 g fp wr G n F St ∧ St 0 s5 ∧
    TruthOf X.prog X.w X.A.in1 F tr ∧
    ∀ s', Moved wr G s5 s' → ∃ H2, Tabbed P H1 H2 ∧ Inv X pins σ H2 s'
section
variable {X : Cx} {pins : List (Addr × Obj)} {σ : L2.St} {H : Hp} {s : Shared}
theorem gen_tup {c P : Addr} {elt iter : Expr} {x : Str} {px gpos : Pos} {scope : Scope} {pb : Int → Bool} {te : TE} {k : Nat} {Q' : Value → Shared → Prop} {R : List Int → Hp → Prop}
    (hr : Room k X.A) (TB : TabB X.base X.mg c P) (hcode : X.env.code = .ref c) (S : GenS X.env scope x) (hi : PE X iter te)
    (hs : ∀ v, genFold iter X.env v = pure v) (I : Inv X pins σ H s) (h : te σ H fun v H1 => ∃ (a : Addr) (ns : List Int), v = .ref a ∧ Rd H1 a (.tup (ns.map V.int)) ∧ TabG H1 P ∧ R ns H1)
    (hel : ∀ (s1 : Shared) (H1 : Hp) (ns : List Int), Inv X pins σ H1 s1 → R ns H1 → ∀ (C : Addr) (code : Value) (A' : Around) (E' : Value → Shared → Prop) (n : Int) (t : Tok) (s₂ : Shared) (m₂ : Str → Option Value), n ∈ ns →
      A'.handled = none → A'.depth ≤ X.A.depth + 1 → A'.units ≤ X.A.units + 8 → s₂.heap.Ns C m₂ → m₂ x = some (.int n t) → (∀ b o, b ≠ P → s1.heap.get? b = some o → s₂.heap.get? b = some o) →
      wpAny (model X.prog X.w) A' (eval elt (genEnv scope (cloFrom X.env.cells scope.names []) C code builtinsNs X.env)) (fun y s₃ => y = .bool (pb n) ∧ Keeps s₂ s₃) E' s₂)
    (hQ : ∀ ns H1 g s5, R ns H1 → ReadyG X pins σ H1 P ns.length (trG pb ns) g s5 → Q' (.ref g) s5) :
    wpAny (model X.prog X.w) X.A (eval (.GeneratorExp elt [⟨.Name x px, iter, [], 0⟩] scope gpos) X.env) Q' X.xe s := by
  refine wpAny_GeneratorExp_walksQD hr.hd S.co (closure_ok S.free) S.cell S.dot S.loc S.kind (by have := hr.dp; omega) ?_ hs
  refine thn (hi.run pins s σ H _ I h) fun xv s1 ⟨v, H1, I1, r1, q1⟩ => ?_
  obtain ⟨a, ns, rfl, hT, ⟨ps, hP, ht⟩, q1⟩ := q1
  cases r1
  obtain ⟨its, rv, htp, hz⟩ := I1.tuple (.inl hT)
  have htp : s1.heap.IsTuple a its.toArray := htp
  have hsz : its.toArray.size = ns.length := by rw [List.size_toArray, ← rv.length, List.length_map]
  have hPs : s1.heap.get? P = some { cls := .none, data := .fields ps } := I1.hok P _ hP
  have hPlt : P < s1.heap.objs.size := Heap.lt_size hPs
  have hlt : a < s1.heap.objs.size := by obtain ⟨_, e, _⟩ := htp; exact Heap.lt_size e
  have haP : a ≠ P := fun e => by
    rcases hT with hT | ⟨ob, hT⟩
    · rw [e, hP] at hT
      cases hT
    · rw [e, hP] at hT
      cases hT
  have hat : ∀ (i : Nat) (v : Value), its.toArray[i]? = some v → ∃ n t, ns[i]? = some n ∧ v = .int n t := fun i v hv => by
    have hv : its[i]? = some v := by simpa using hv
    cases e : ns[i]? with
    | none =>
      have h1 : (ns.map V.int)[i]? = none := by rw [List.getElem?_map, e]; rfl
      rw [rv.none_of h1] at hv
      cases hv
    | some n =>
      have h1 : (ns.map V.int)[i]? = some (V.int n) := by rw [List.getElem?_map, e]; rfl
      obtain ⟨u, hu, ru⟩ := rv.get h1
      rw [hv] at hu
      cases hu
      obtain ⟨t, rfl⟩ := _root_.id ru
      exact ⟨n, t, rfl, rfl⟩
  refine wpAny_pyIter_tuple htp ?_
  generalize eo : ({ cls := .type "tuple_iterator", data := .fields #[.ref a, .int 0 0] } : Obj) = o
  have hP2 : (s1.heap.push o).get? P = some { cls := .none, data := .fields ps } := Heap.get?_push_of_some _ hPs
  have cd : PySem.W.CodeHd (s1.heap.push o) c P := TB.code.keeps fun b u e => Heap.get?_push_of_some _ (I1.bk b u e)
  have lim2 : (s1.heap.push o).NoLimit := I1.nolimit.push o
  have sz2 : (s1.heap.push o).objs.size = s1.heap.objs.size + 1 := Heap.size_push ..
  have hst : (s1.heap.push o).IsTupleIter s1.heap.objs.size a 0 ∧ (s1.heap.push o).IsTuple a its.toArray := by
    refine ⟨⟨o, Heap.get?_push_size _ (by rw [← eo] <;> rfl), by rw [← eo], by rw [← eo] <;> rfl⟩, htp.push _⟩
  have W : ∀ A' : Around, A'.handled = none → Walks X.prog X.w A' s1.heap.objs.size [s1.heap.objs.size, a] [s1.heap.objs.size] its.toArray.size (fun i v => its.toArray[i]? = some v) (fun i h => h.IsTupleIter s1.heap.objs.size a i ∧ h.IsTuple a its.toArray) := fun A' hA => Walks.tuple hA _ _ (Nat.ne_of_lt hlt) its.toArray
  have cont : ∀ (code : Value) (h3 : Heap) (tk : Nat) (ps' : Array Value), Heap.ExtBut P (s1.heap.push o) h3 → (s1.heap.push o).objs.size ≤ h3.objs.size → h3.get? P = some { cls := .none, data := .fields ps' } → (∃ more, ps' = ps ++ more) → TriplesOk ps'.toList →
      wpAny (model X.prog X.w) X.A (builtinsFor X.env.globals X.env.builtins) (fun bi s₄ =>
        ∃ Ia fp wr n₀ Pf St₀ pz F, Value.ref s1.heap.objs.size = .ref Ia ∧ (∀ A' : Around, A'.handled = none → Walks X.prog X.w A' Ia fp wr n₀ Pf St₀) ∧ St₀ 0 s₄.heap ∧ (∀ b ∈ fp, b < s₄.heap.objs.size) ∧ s₄.heap.NoLimit ∧ cStatics ∉ wr ∧
          (∀ href : Heap, (∀ b o, s₄.heap.get? b = some o → href.get? b = some o) →
            QuietGenD X.prog X.w (genEnv scope (cloFrom X.env.cells scope.names []) s₄.heap.objs.size code bi X.env) x [] elt (List.range s₄.heap.objs.size) wr Pf pz F href (X.A.depth + 1) (X.A.units + 8)) ∧
          (∀ a h₅ tk gs, gs.bare = true → s₄.heap.objs.size < a → h₅.objs.size = a + 1 → (∀ b o, s₄.heap.get? b = some o → h₅.get? b = some o) →
            WalksS X.prog X.w X.A.in4 a (a :: s₄.heap.objs.size :: List.range s₄.heap.objs.size) (s₄.heap.objs.size :: wr) (GenOnlyQ s₄.gens.size) (passing pz n₀ 0).length
              (fun j y => ∃ i, (passing pz n₀ 0)[j]? = some i ∧ F i y) (GenAt X.prog X.w X.A.in4 a s₄.gens.size s₄.heap.objs.size (List.range s₄.heap.objs.size) wr pz n₀ F) →
            GenAt X.prog X.w X.A.in4 a s₄.gens.size s₄.heap.objs.size (List.range s₄.heap.objs.size) wr pz n₀ F 0 { s₄ with gens := s₄.gens.push gs, toks := tk, heap := h₅ } →
            Q' (.ref a) { s₄ with gens := s₄.gens.push gs, toks := tk, heap := h₅ })) X.xe { s1 with heap := h3, toks := tk } := by
    intro code h3 tk ps' hx hsz3 hP3 hmore ht3
    obtain ⟨bm, ob, e1, e2, e3, e4, e5, e6, e7, e8⟩ := TB.bm
    have hcP : cStatics ≠ P := fun e => by
      obtain ⟨_, hns, _⟩ := I1.nolimit
      obtain ⟨o', es, ep, ho, hd, _⟩ := hns
      rw [e, hPs] at ho
      cases ho
      cases hd
    have hcl : cStatics < s1.heap.objs.size := let ⟨_, hns, _⟩ := I1.nolimit; hns.lt
    have keep3 : ∀ b u, b ≠ P → s1.heap.get? b = some u → h3.get? b = some u := fun b u hb e => hx b u hb (Heap.get?_push_of_some _ e)
    refine wpAny_builtinsFor (m := X.mg) (by rw [I1.ok.glob]; exact ((I1.mod.glob.keeps I1.bk).push o).extBut hx TB.gP) e1 e2 (keep3 _ _ e4 (I1.bk _ _ e5)) e6 e7 e8 ?_
    refine ⟨s1.heap.objs.size, [s1.heap.objs.size, a], [s1.heap.objs.size], its.toArray.size, _, _, (fun _ => true), (fun i y => ∃ n, ns[i]? = some n ∧ y = .bool (pb n)), rfl, W, ?_, ?_, lim2.extBut hx hcP, ?_, ?_, ?_⟩
    · refine (W X.A hr.hd).frame _ _ _ hst fun b hb u e => hx b u (fun z => ?_) e
      rcases List.mem_cons.mp hb with z2 | z2
      · exact Nat.ne_of_lt hPlt (z.symm.trans z2)
      · exact haP ((List.mem_singleton.mp z2).symm.trans z)
    · intro b hb
      have h9 : b < s1.heap.objs.size + 1 := by
        rcases List.mem_cons.mp hb with z | z
        · rw [z]; exact Nat.lt_succ_self _
        · rw [List.mem_singleton.mp z]; exact Nat.lt_succ_of_lt hlt
      show b < h3.objs.size
      exact Nat.lt_of_lt_of_le h9 (by rw [← sz2]; exact hsz3)
    · intro z
      rcases List.mem_cons.mp z with z | z
      · exact Nat.ne_of_lt hcl z
      · cases z
    · intro href hhref
      refine ⟨fun A' E' i v s₂ m₂ hA hD hU hPv hn hm hk => ?_, fun A' E' i v s₂ m₂ hA hD hU hPv hp hn hm hk => ?_⟩
      · simp only [List.forIn_nil]
        exact wpAny_pure ⟨rfl, keeps_refl _⟩
      · obtain ⟨n, t, hn1, rfl⟩ := hat i v hPv
        refine wpAny_mono (hel s1 H1 ns I1 q1 _ code A' E' n t s₂ m₂ (List.mem_of_getElem? hn1) hA hD hU hn hm fun b u hb e => ?_) (fun y s3 r => ⟨⟨n, hn1, r.1⟩, r.2⟩) fun _ _ e => e
        have hb3 := keep3 b u hb e
        refine hk b (List.mem_range.mpr (Heap.lt_size hb3)) (fun z => ?_) u (hhref b u hb3)
        have z := List.mem_singleton.mp z
        have := Heap.lt_size e
        rw [z] at this
        exact Nat.lt_irrefl _ this
    · intro g h5 tk5 gs hgb hag hsz5 hk5 W5 hat5
      simp only [GxR.passing_true, List.length_range] at W5
      rw [hsz] at W5 hat5
      refine hQ ns H1 g _ q1 ⟨_, _, _, _, _, W5.in4_1, hat5, ?_, fun s' hm => ?_⟩
      · intro j y sj Qj Ej hy hQj
        obtain ⟨i, hij, n, hn1, rfl⟩ := hy
        obtain ⟨hj, ej⟩ := List.getElem?_eq_some_iff.mp hij
        rw [List.getElem_range] at ej
        subst ej
        have hQ2 : Qj (trG pb ns j) sj := hQj
        rw [trG_some hn1] at hQ2
        exact wpAny_truthy_bool hQ2
      · obtain ⟨more, em⟩ := hmore
        have nwr : ∀ b u, s1.heap.get? b = some u → b ∉ h3.objs.size :: [s1.heap.objs.size] := fun b u e hb => by
          have hl := Heap.lt_size e
          rcases List.mem_cons.mp hb with z | z
          · have h9 : (h3.objs.size : Nat) < s1.heap.objs.size := z ▸ hl
            omega
          · rw [List.mem_singleton.mp z] at hl
            exact Nat.lt_irrefl _ hl
        have J := inv_tab (more := more) (h' := s'.heap) (g' := s'.gens) (d' := s'.drawn) (t' := s'.toks) I1 hP (fun b u hb e => hm.heap b u (nwr b u e) (hk5 b u (keep3 b u hb e)))
          (by rw [← em]; exact hm.heap P _ (nwr P _ hPs) (hk5 P _ hP3)) (AllBare.movedS (I1.bare.push hgb) hm)
        rw [sh_eta s1 s' hm.os] at J
        refine ⟨upd H1 P (.tbl (ps ++ more)), ⟨⟨ps ++ more, upd_same, by rw [← em]; exact ht3⟩, fun b hb => upd_ne hb⟩, J⟩
  refine ⟨lim2, ?_⟩
  cases hf : codeAmong gpos ps.toList with
  | none =>
    refine wpAny_genexprCodeX hcode (cd.code hP2 ht) (cd.tab hP2) hf fun c' h' tk hx hge hlt2 hco' _ htab' _ => ?_
    obtain ⟨o1, vs, f1, tf, fl, tg, inF, tx, tt, op, _, _, _, _, _, _, _, _, _, htr, _⟩ := hco'
    exact cont _ h' tk _ hx (Nat.le_trans hge (Nat.le_of_lt hlt2)) htab'.2 ⟨_, rfl⟩ htr
  | some cv =>
    refine wpAny_genexprCode_hit hcode (cd.code hP2 ht) hf ?_
    exact cont cv (s1.heap.push o) s1.toks ps (Heap.ExtBut.refl _ _) (Nat.le_refl _) hP2 ⟨#[], by simp⟩ ht
/-- all(test for x in t); behind it the def's table may have grown -/
def tAllT (P : Addr) (pb : Int → Bool) (C : L2.St → Hp → List Int → Prop) (te : TE) : TE := fun σ H Q => te σ H fun v H1 => ∃ (a : Addr) (ns : List Int), v = .ref a ∧ Rd H1 a (.tup (ns.map V.int)) ∧ TabG H1 P ∧ C σ H1 ns ∧ ∀ H2, Tabbed P H1 H2 → Q (.bl (ns.all pb)) H2
theorem pe_allT {c P : Addr} {elt iter : Expr} {x : Str} {px p pos gpos : Pos} {scope : Scope} {pb : Int → Bool} {C : L2.St → Hp → List Int → Prop} {te : TE} {k : Nat}
    (hr : Room k X.A) (hg : Gl X "all") (hm : X.mg "all" = none) (hb : bootBuiltins "all" = some (.builtin "all")) (TB : TabB X.base X.mg c P) (hcode : X.env.code = .ref c) (S : GenS X.env scope x) (hi : PE X iter te)
    (hel : ∀ (pins : List (Addr × Obj)) (σ : L2.St) (s1 : Shared) (H1 : Hp) (ns : List Int), Inv X pins σ H1 s1 → C σ H1 ns → ∀ (C : Addr) (code : Value) (A' : Around) (E' : Value → Shared → Prop) (n : Int) (t : Tok) (s₂ : Shared) (m₂ : Str → Option Value), n ∈ ns →
      A'.handled = none → A'.depth ≤ X.A.depth + 1 → A'.units ≤ X.A.units + 8 → s₂.heap.Ns C m₂ → m₂ x = some (.int n t) → (∀ b o, b ≠ P → s1.heap.get? b = some o → s₂.heap.get? b = some o) →
      wpAny (model X.prog X.w) A' (eval elt (genEnv scope (cloFrom X.env.cells scope.names []) C code builtinsNs X.env)) (fun y s₃ => y = .bool (pb n) ∧ Keeps s₂ s₃) E' s₂)
    (hs : ∀ v, genFold iter X.env v = pure v)
    (he : starEach [.GeneratorExp elt [⟨.Name x px, iter, [], 0⟩] scope gpos] X.env = (false, eval (.GeneratorExp elt [⟨.Name x px, iter, [], 0⟩] scope gpos) X.env) :: starEach [] X.env := by rfl) :
    PE X (.Call (.Name "all" p) [.GeneratorExp elt [⟨.Name x px, iter, [], 0⟩] scope gpos] [] pos) (tAllT P pb C te) := by
  refine ⟨fun pins s σ H Q I h => ?_⟩
  refine wpAny_Call_Name_kw (ld_blt I hg hm hb ?_)
  refine PyProof.Rows.callWith_builtin1 ?_ he (by rfl)
  rw [he]
  show wpAny _ _ (spliced ((false, eval (.GeneratorExp elt [⟨.Name x px, iter, [], 0⟩] scope gpos) X.env) :: backTo pos (starEach [] X.env))) _ _ s
  refine Calls.spliced_cons (gen_tup (pb := pb) (R := fun ns H1 => C σ H1 ns ∧ ∀ H2, Tabbed P H1 H2 → Q (.bl (ns.all pb)) H2) hr TB hcode S hi hs I h (fun s1 H1 ns I1 r => hel pins σ s1 H1 ns I1 r.1) fun ns H1 g s5 hR hG => ?_)
  obtain ⟨fp, wr, G, F, St, W, hst, htr, hI⟩ := hG
  refine Calls.spliced_nil ?_
  refine call_all_walkS (W.self 0 _ _ _ hst ⟨g, fp, wr, G, _, F, St, _, rfl, W, hst, htr, fun s' hmv => ?_⟩)
  obtain ⟨H2, hT, J⟩ := hI s' hmv
  refine ⟨.bl _, H2, J, rfl, ?_⟩
  rw [all_trG ns pb]
  exact hR.2 H2 hT
end
end Lk
set_option Elab.async false
set_option linter.all false
set_option maxRecDepth 100000
set_option maxHeartbeats 2000000
/-! all(test for x, y in zip(t, u)), t and u tuples of ints. -/
namespace Lk
open PySem PySem.Spec PyProof.Rows L2 GxR
section
variable {prog : Program} {w : World} {A : Around}
theorem walks_zipT (hh : A.handled = none) (z TI TO i1 i2 l1 l2 : Addr) (D : ZipApart z TI TO i1 i2 l1 l2) (xs ys : Array Value) :
    WalksT prog w A z [z, TI, TO, i1, i2, l1, l2] [z, TO, i1, i2] (min xs.size ys.size)
      (fun i vals => ∃ x y, xs[i]? = some x ∧ ys[i]? = some y ∧ vals = #[x, y])
      (fun i h => IsZip h z TI TO .none ∧ IsPair h TI (.ref i1) (.ref i2) ∧ (∃ a b, IsPair h TO a b) ∧ h.IsTupleIter i1 l1 i ∧ h.IsTupleIter i2 l2 i ∧ h.IsTuple l1 xs ∧ h.IsTuple l2 ys)
      (fun i T h => IsZip h z TI TO (rawInt T) ∧ IsPair h TI (.ref i1) (.ref i2) ∧ (∃ a b, IsPair h TO a b) ∧ h.IsTupleIter i1 l1 (i + 1) ∧ h.IsTupleIter i2 l2 (i + 1) ∧ h.IsTuple l1 xs ∧ h.IsTuple l2 ys ∧
        T ≠ z ∧ T ≠ TO ∧ T ≠ i1 ∧ T ≠ i2) where
  sub := fun c hc => by simp at hc ⊢; rcases hc with rfl | rfl | rfl | rfl <;> simp
  frame := fun i h h' hst hk => by
    obtain ⟨hz, hTI, ⟨a, b, hTO⟩, h1, h2, hl1, hl2⟩ := hst
    exact ⟨hk z (by simp) _ hz, hk TI (by simp) _ hTI, ⟨a, b, hk TO (by simp) _ hTO⟩, h1.at fun o e => hk i1 (by simp) o e, h2.at fun o e => hk i2 (by simp) o e,
      hl1.at fun o e => hk l1 (by simp) o e, hl2.at fun o e => hk l2 (by simp) o e⟩
  item := fun i s Q E hi hst hQ => by
    obtain ⟨hz, hTI, ⟨a, b, hTO⟩, h1, h2, hl1, hl2⟩ := hst
    have hix : i < xs.size := Nat.lt_of_lt_of_le hi (Nat.min_le_left ..)
    have hiy : i < ys.size := Nat.lt_of_lt_of_le hi (Nat.min_le_right ..)
    refine RZ.pyNext_zipT_item D hz hTI hTO h1 h2 hl1 hl2 (Array.getElem?_eq_getElem hix) (Array.getElem?_eq_getElem hiy) fun h' a1 a2 a3 a4 a5 a6 hk => ?_
    have lt : ∀ {c o}, s.heap.get? c = some o → s.heap.objs.size ≠ c := fun e => Nat.ne_of_gt (Heap.lt_size e)
    exact hQ s.heap.objs.size #[xs[i], ys[i]] h' s.toks ⟨_, _, Array.getElem?_eq_getElem hix, Array.getElem?_eq_getElem hiy, rfl⟩ (Nat.le_refl _) ⟨_, a5, rfl, _, rfl⟩
      ⟨a1, hk _ _ D.TIz D.TITO D.TIi1 D.TIi2 hTI, ⟨_, _, a2⟩, a3, a4, hl1.at fun o e => hk _ o D.l1z D.l1TO D.l1i1 D.l1i2 e, hl2.at fun o e => hk _ o D.l2z D.l2TO D.l2i1 D.l2i2 e,
        lt hz, lt hTO, (by obtain ⟨_, e, _⟩ := h1; exact lt e), (by obtain ⟨_, e, _⟩ := h2; exact lt e)⟩
      fun c o hc e => hk c o (fun x => hc (by simp [x])) (fun x => hc (by simp [x])) (fun x => hc (by simp [x])) (fun x => hc (by simp [x])) e
  go := fun elts k pos i T s Q E hm hQ => by
    obtain ⟨hz, hTI, ⟨a, b, hTO⟩, h1, h2, hl1, hl2, _⟩ := hm
    refine wpAny_letOwnedTupleGo_zip hz fun h' hz' hs' => hQ h' ⟨hz', hs'.extBut _ _ D.TIz hTI, ⟨a, b, hs'.extBut _ _ D.TOz hTO⟩, h1.at fun o e => hs'.extBut _ o D.i1z e, h2.at fun o e => hs'.extBut _ o D.i2z e,
      hl1.at fun o e => hs'.extBut _ o D.l1z e, hl2.at fun o e => hs'.extBut _ o D.l2z e⟩ fun c o hc e => hs'.extBut _ _ (fun x => hc (by simp [x])) e
  apart := fun i T h hm hT => by
    obtain ⟨_, _, _, _, _, _, _, t1, t2, t3, t4⟩ := hm
    simp at hT
    rcases hT with rfl | rfl | rfl | rfl
    · exact t1 rfl
    · exact t2 rfl
    · exact t3 rfl
    · exact t4 rfl
  done := fun s Q E hst hQ => by
    obtain ⟨hz, hTI, ⟨a, b, hTO⟩, h1, h2, hl1, hl2⟩ := hst
    have hend : xs[min xs.size ys.size]? = none ∨ ys[min xs.size ys.size]? = none := by
      rcases Nat.le_total xs.size ys.size with h | h
      · exact .inl (by rw [Nat.min_eq_left h]; exact Array.getElem?_eq_none (Nat.le_refl _))
      · exact .inr (by rw [Nat.min_eq_right h]; exact Array.getElem?_eq_none (Nat.le_refl _))
    exact RZ.pyNext_zipT_end hh D hz hTI hTO h1 h2 hl1 hl2 hend fun h' hk => hQ h' s.toks fun c o hc e =>
      hk c o (fun x => hc (by simp [x])) (fun x => hc (by simp [x])) (fun x => hc (by simp [x])) (fun x => hc (by simp [x])) e
  self := fun i s Q E hst hQ => wpAny_pyIter_zip hst.1 hQ
end
theorem ints_at {ns : List Int} {its : List Value} (rv : Vals (ns.map V.int) its) : ∀ (i : Nat) (v : Value), its.toArray[i]? = some v → ∃ n t, ns[i]? = some n ∧ v = .int n t := fun i v hv => by
  have hv : its[i]? = some v := by simpa using hv
  cases e : ns[i]? with
  | none =>
    have h1 : (ns.map V.int)[i]? = none := by rw [List.getElem?_map, e]; rfl
    rw [rv.none_of h1] at hv
    cases hv
  | some n =>
    have h1 : (ns.map V.int)[i]? = some (V.int n) := by rw [List.getElem?_map, e]; rfl
    obtain ⟨u, hu, ru⟩ := rv.get h1
    rw [hv] at hu
    cases hu
    obtain ⟨t, rfl⟩ := _root_.id ru
    exact ⟨n, t, rfl, rfl⟩
section
variable {X : Cx} {pins : List (Addr × Obj)} {σ : L2.St} {H : Hp} {s : Shared}
theorem gen_zip {c P : Addr} {elt e1 e2 : Expr} {x y : Str} {px py pt gpos zp zpos : Pos} {kt : Nat} {scope : Scope} {pb : Int × Int → Bool} {ta : TA} {k : Nat} {Q' : Value → Shared → Prop} {R : List (Int × Int) → Hp → Prop}
    (hr : Room k X.A) (TB : TabB X.base X.mg c P) (hcode : X.env.code = .ref c) (S : GenS X.env scope x) (Sy : scope.names.lookup y = some .local) (hxy : x ≠ y) (hgz : Gl X "zip") (hmz : X.mg "zip" = none) (ha : PA X [e1, e2] ta)
    (hs : ∀ v, genFold (.Call (.Name "zip" zp) [e1, e2] [] zpos) X.env v = pure v) (I : Inv X pins σ H s)
    (h : ta σ H fun vs H1 => ∃ (a b : Addr) (ns ms : List Int), vs = [.ref a, .ref b] ∧ H1 a = some (.tup (ns.map V.int)) ∧ H1 b = some (.tup (ms.map V.int)) ∧ TabG H1 P ∧ R (ns.zip ms) H1)
    (hel : ∀ (C : Addr) (code : Value) (A' : Around) (E' : Value → Shared → Prop) (n m : Int) (t u : Tok) (s₂ : Shared) (m₂ : Str → Option Value),
      A'.handled = none → s₂.heap.Ns C m₂ → m₂ x = some (.int n t) → m₂ y = some (.int m u) →
      wpAny (model X.prog X.w) A' (eval elt (genEnv scope (cloFrom X.env.cells scope.names []) C code builtinsNs X.env)) (fun y s₃ => y = .bool (pb (n, m)) ∧ Keeps s₂ s₃) E' s₂)
    (hQ : ∀ zs H1 g s5, R zs H1 → ReadyG X pins σ H1 P zs.length (trG pb zs) g s5 → Q' (.ref g) s5)
    (hst : starEach [e1, e2] X.env = (false, eval e1 X.env) :: starEach [e2] X.env := by rfl) (hpl : (backTo zpos (starEach [e2] X.env)).any (·.1) = false := by rfl) :
    wpAny (model X.prog X.w) X.A (eval (.GeneratorExp elt [⟨.Tuple [.Name x px, .Name y py] kt pt, .Call (.Name "zip" zp) [e1, e2] [] zpos, [], 0⟩] scope gpos) X.env) Q' X.xe s := by
  refine wpAny_GeneratorExp_walksQTD hr.hd S.co (closure_ok S.free) S.cell S.dot S.loc Sy hxy S.kind (by have := hr.dp; omega) ?_ hs
  refine Call_ (ld_blt I hgz hmz PyProof.Rows.boot_zip (PyProof.Rows.callWith_type1 (thn (ha.run zpos pins s σ H _ I h) fun us s1 ⟨vs, H1, I1, r1, q1⟩ => ?_) hst hpl))
  obtain ⟨a, b, ns, ms, rfl, hTa, hTb, ⟨ps, hP, ht⟩, q1⟩ := q1
  cases r1 with
  | cons r rr =>
  cases rr with
  | cons r' rr =>
  cases rr
  cases r
  cases r'
  obtain ⟨its, rv, p1, _⟩ := I1.tuple (SqT.of hTa)
  obtain ⟨its2, rv2, p2, _⟩ := I1.tuple (SqT.of hTb)
  have p1 : s1.heap.IsTuple a its.toArray := p1
  have p2 : s1.heap.IsTuple b its2.toArray := p2
  have la : a < s1.heap.objs.size := by obtain ⟨_, e, _⟩ := p1; exact Heap.lt_size e
  have lb : b < s1.heap.objs.size := by obtain ⟨_, e, _⟩ := p2; exact Heap.lt_size e
  refine RZ.call_zipT p1 p2 fun h' hz hTI hTO h1 h2 hsz hk => wpAny_pyIter_zip hz ?_
  have D := PySem.W.ktu_apart s1.heap.objs.size a b la lb
  have I2 : Inv X pins σ H1 { s1 with heap := h' } := I1.kept (t' := s1.toks) hk
  have sz1 : its.toArray.size = ns.length := by rw [List.size_toArray, ← rv.length, List.length_map]
  have sz2 : its2.toArray.size = ms.length := by rw [List.size_toArray, ← rv2.length, List.length_map]
  have hPs : h'.get? P = some { cls := .none, data := .fields ps } := I2.hok P _ hP
  have hPs0 : s1.heap.get? P = some { cls := .none, data := .fields ps } := I1.hok P _ hP
  have hPlt : P < s1.heap.objs.size := Heap.lt_size hPs0
  have haP : a ≠ P := fun e => by
    rw [e, hP] at hTa
    cases hTa
  have hbP : b ≠ P := fun e => by
    rw [e, hP] at hTb
    cases hTb
  have hst0 : IsZip h' (s1.heap.objs.size + 4) (s1.heap.objs.size + 2) (s1.heap.objs.size + 3) .none ∧ IsPair h' (s1.heap.objs.size + 2) (.ref s1.heap.objs.size) (.ref (s1.heap.objs.size + 1)) ∧ (∃ a b, IsPair h' (s1.heap.objs.size + 3) a b) ∧
      h'.IsTupleIter s1.heap.objs.size a 0 ∧ h'.IsTupleIter (s1.heap.objs.size + 1) b 0 ∧ h'.IsTuple a its.toArray ∧ h'.IsTuple b its2.toArray :=
    ⟨hz, hTI, ⟨_, _, hTO⟩, h1, h2, p1.at fun o e => hk _ o e, p2.at fun o e => hk _ o e⟩
  have W := fun (A' : Around) (hA : A'.handled = none) => (walks_zipT (prog := X.prog) (w := X.w) hA _ _ _ _ _ _ _ D its.toArray its2.toArray).toU
  have cd : PySem.W.CodeHd h' c P := TB.code.keeps fun b u e => I2.bk b u e
  have lim2 : h'.NoLimit := I2.nolimit
  have fresh : ∀ q ∈ [s1.heap.objs.size + 4, s1.heap.objs.size + 3, s1.heap.objs.size, s1.heap.objs.size + 1], s1.heap.objs.size ≤ q := fun q hq => by
    have e' : q = s1.heap.objs.size + 4 ∨ q = s1.heap.objs.size + 3 ∨ q = s1.heap.objs.size ∨ q = s1.heap.objs.size + 1 := by simpa using hq
    rcases e' with z | z | z | z
    · rw [z]; exact Nat.le_add_right _ _
    · rw [z]; exact Nat.le_add_right _ _
    · rw [z]; exact Nat.le_refl _
    · rw [z]; exact Nat.le_add_right _ _
  have zat : ∀ (i : Nat) (va vb : Value), (∃ x y, its.toArray[i]? = some x ∧ its2.toArray[i]? = some y ∧ (#[va, vb] : Array Value) = #[x, y]) → ∃ n m t u, (ns.zip ms)[i]? = some (n, m) ∧ va = .int n t ∧ vb = .int m u := by
    rintro i va vb ⟨x1, y1, hx, hy, e⟩
    obtain ⟨e1, e2⟩ : va = x1 ∧ vb = y1 := by simpa using congrArg Array.toList e
    subst e1 e2
    obtain ⟨n, t, hn, rfl⟩ := ints_at rv i va hx
    obtain ⟨m, u, hm, rfl⟩ := ints_at rv2 i vb hy
    exact ⟨n, m, t, u, by simp [List.getElem?_zip_eq_some, hn, hm], rfl, rfl⟩
  have cont : ∀ (code : Value) (h3 : Heap) (tk : Nat) (ps' : Array Value), Heap.ExtBut P h' h3 → h'.objs.size ≤ h3.objs.size → h3.get? P = some { cls := .none, data := .fields ps' } → (∃ more, ps' = ps ++ more) → TriplesOk ps'.toList →
      wpAny (model X.prog X.w) X.A (builtinsFor X.env.globals X.env.builtins) (fun bi s₄ =>
        ∃ Ia fp wr n₀ Pt St₀ Mid pz F, Value.ref (s1.heap.objs.size + 4) = .ref Ia ∧ (∀ A' : Around, A'.handled = none → WalksU X.prog X.w A' Ia fp wr n₀ Pt St₀ Mid) ∧ (∀ i vals, Pt i vals → ∃ va vb, vals = #[va, vb]) ∧ St₀ 0 s₄.heap ∧ (∀ b ∈ fp, b < s₄.heap.objs.size) ∧ s₄.heap.NoLimit ∧ cStatics ∉ wr ∧
          (∀ href : Heap, (∀ b o, s₄.heap.get? b = some o → href.get? b = some o) →
            QuietGenTD X.prog X.w (genEnv scope (cloFrom X.env.cells scope.names []) s₄.heap.objs.size code bi X.env) x y [] elt (List.range s₄.heap.objs.size) wr Pt pz F href (X.A.depth + 1) (X.A.units + 8)) ∧
          (∀ a h₅ tk gs, gs.bare = true → s₄.heap.objs.size < a → h₅.objs.size = a + 1 → (∀ b o, s₄.heap.get? b = some o → h₅.get? b = some o) →
            WalksS X.prog X.w X.A.in4 a (a :: s₄.heap.objs.size :: List.range s₄.heap.objs.size) (s₄.heap.objs.size :: wr) (GenOnlyQ s₄.gens.size) (passing pz n₀ 0).length
              (fun j y => ∃ i, (passing pz n₀ 0)[j]? = some i ∧ F i y) (GenAt X.prog X.w X.A.in4 a s₄.gens.size s₄.heap.objs.size (List.range s₄.heap.objs.size) wr pz n₀ F) →
            GenAt X.prog X.w X.A.in4 a s₄.gens.size s₄.heap.objs.size (List.range s₄.heap.objs.size) wr pz n₀ F 0 { s₄ with gens := s₄.gens.push gs, toks := tk, heap := h₅ } →
            Q' (.ref a) { s₄ with gens := s₄.gens.push gs, toks := tk, heap := h₅ })) X.xe { s1 with heap := h3, toks := tk } := by
    intro code h3 tk ps' hx hsz3 hP3 hmore ht3
    obtain ⟨bm, ob, b1, b2, b3, b4, b5, b6, b7, b8⟩ := TB.bm
    have hcP : cStatics ≠ P := fun e => by
      obtain ⟨_, hns, _⟩ := I1.nolimit
      obtain ⟨o', es, ep, ho, hd, _⟩ := hns
      rw [e, hPs0] at ho
      cases ho
      cases hd
    have hcl : cStatics < s1.heap.objs.size := let ⟨_, hns, _⟩ := I1.nolimit; hns.lt
    have keep3 : ∀ b u, b ≠ P → s1.heap.get? b = some u → h3.get? b = some u := fun b u hb e => hx b u hb (hk b u e)
    refine wpAny_builtinsFor (m := X.mg) (by rw [I1.ok.glob]; exact (I2.mod.glob.keeps I2.bk).extBut hx TB.gP) b1 b2 (keep3 _ _ b4 (I1.bk _ _ b5)) b6 b7 b8 ?_
    refine ⟨_, _, _, _, _, _, _, (fun _ => true), (fun i y => ∃ q, (ns.zip ms)[i]? = some q ∧ y = .bool (pb q)), rfl, W, (fun i vals hv => by obtain ⟨x, y, _, _, e⟩ := hv; exact ⟨x, y, e⟩), ?_, ?_, lim2.extBut hx hcP, ?_, ?_, ?_⟩
    · refine (W X.A hr.hd).frame _ _ _ hst0 fun q hq u e => hx q u (fun z => ?_) e
      have e' : q = s1.heap.objs.size + 4 ∨ q = s1.heap.objs.size + 2 ∨ q = s1.heap.objs.size + 3 ∨ q = s1.heap.objs.size ∨ q = s1.heap.objs.size + 1 ∨ q = a ∨ q = b := by simpa using hq
      have big : ∀ j, P ≠ s1.heap.objs.size + j := fun j => Nat.ne_of_lt (Nat.lt_of_lt_of_le hPlt (Nat.le_add_right _ _))
      rcases e' with e' | e' | e' | e' | e' | e' | e'
      · exact big 4 (z.symm.trans e')
      · exact big 2 (z.symm.trans e')
      · exact big 3 (z.symm.trans e')
      · exact big 0 (z.symm.trans e')
      · exact big 1 (z.symm.trans e')
      · exact haP (e'.symm.trans z)
      · exact hbP (e'.symm.trans z)
    · intro q hq
      have e' : q = s1.heap.objs.size + 4 ∨ q = s1.heap.objs.size + 2 ∨ q = s1.heap.objs.size + 3 ∨ q = s1.heap.objs.size ∨ q = s1.heap.objs.size + 1 ∨ q = a ∨ q = b := by simpa using hq
      have h9 : q < s1.heap.objs.size + 5 := by
        rcases e' with e' | e' | e' | e' | e' | e' | e' <;> rw [e']
        · exact Nat.add_lt_add_left (by decide) _
        · exact Nat.add_lt_add_left (by decide) _
        · exact Nat.add_lt_add_left (by decide) _
        · exact Nat.lt_add_of_pos_right (by decide)
        · exact Nat.add_lt_add_left (by decide) _
        · exact Nat.lt_of_lt_of_le la (Nat.le_add_right _ _)
        · exact Nat.lt_of_lt_of_le lb (Nat.le_add_right _ _)
      show q < h3.objs.size
      exact Nat.lt_of_lt_of_le h9 (by rw [← hsz]; exact hsz3)
    · intro z
      exact absurd (Nat.lt_of_lt_of_le hcl (fresh _ z)) (Nat.lt_irrefl _)
    · intro href hhref
      refine ⟨fun A' E' i va vb s₂ m₂ hA hD hU hPv hn hma hmb hk2 => ?_, fun A' E' i va vb s₂ m₂ hA hD hU hPv hp hn hma hmb hk2 => ?_⟩
      · simp only [List.forIn_nil]
        exact wpAny_pure ⟨rfl, keeps_refl _⟩
      · obtain ⟨n, m, t, u, hq, rfl, rfl⟩ := zat i va vb hPv
        exact wpAny_mono (hel _ code A' E' n m t u s₂ m₂ hA hn hma hmb) (fun y s3 r => ⟨⟨(n, m), hq, r.1⟩, r.2⟩) fun _ _ e => e
    · intro g h5 tk5 gs hgb hag hsz5 hk5 W5 hat5
      simp only [GxR.passing_true, List.length_range] at W5
      have hmin : min its.toArray.size its2.toArray.size = (ns.zip ms).length := by rw [sz1, sz2, List.length_zip]
      rw [hmin] at W5 hat5
      refine hQ (ns.zip ms) H1 g _ q1 ⟨_, _, _, _, _, W5.in4_1, hat5, ?_, fun s' hm => ?_⟩
      · intro j y sj Qj Ej hy hQj
        obtain ⟨i, hij, q, hq, rfl⟩ := hy
        obtain ⟨hj, ej⟩ := List.getElem?_eq_some_iff.mp hij
        rw [List.getElem_range] at ej
        subst ej
        have hQ2 : Qj (trG pb (ns.zip ms) j) sj := hQj
        rw [trG_some hq] at hQ2
        exact wpAny_truthy_bool hQ2
      · obtain ⟨more, em⟩ := hmore
        have nwr : ∀ b u, s1.heap.get? b = some u → b ∉ h3.objs.size :: [s1.heap.objs.size + 4, s1.heap.objs.size + 3, s1.heap.objs.size, s1.heap.objs.size + 1] := fun b u e hb => by
          have hl := Heap.lt_size e
          rcases List.mem_cons.mp hb with z | z
          · have h9 : (h3.objs.size : Nat) < s1.heap.objs.size := z ▸ hl
            omega
          · exact absurd (Nat.lt_of_lt_of_le hl (fresh _ z)) (Nat.lt_irrefl _)
        have J := inv_tab (more := more) (h' := s'.heap) (g' := s'.gens) (d' := s'.drawn) (t' := s'.toks) I1 hP (fun b u hb e => hm.heap b u (nwr b u e) (hk5 b u (keep3 b u hb e)))
          (by rw [← em]; exact hm.heap P _ (nwr P _ hPs0) (hk5 P _ hP3)) (AllBare.movedS (I1.bare.push hgb) hm)
        rw [sh_eta s1 s' hm.os] at J
        refine ⟨upd H1 P (.tbl (ps ++ more)), ⟨⟨ps ++ more, upd_same, by rw [← em]; exact ht3⟩, fun b hb => upd_ne hb⟩, J⟩
  refine ⟨lim2, ?_⟩
  cases hf : codeAmong gpos ps.toList with
  | none =>
    refine wpAny_genexprCodeX hcode (cd.code hPs ht) (cd.tab hPs) hf fun c' h' tk hx hge hlt2 hco' _ htab' _ => ?_
    obtain ⟨o1, vs, f1, tf, fl, tg, inF, tx, tt, op, _, _, _, _, _, _, _, _, _, htr, _⟩ := hco'
    exact cont _ h' tk _ hx (Nat.le_trans hge (Nat.le_of_lt hlt2)) htab'.2 ⟨_, rfl⟩ htr
  | some cv =>
    refine wpAny_genexprCode_hit hcode (cd.code hPs ht) hf ?_
    exact cont cv h' s1.toks ps (Heap.ExtBut.refl _ _) (Nat.le_refl _) hPs ⟨#[], by simp⟩ ht
/-- all(test for x, y in zip(t, u)) -/
def tAllZ (P : Addr) (pb : Int × Int → Bool) (ta : TA) : TE := fun σ H Q => ta σ H fun vs H1 => ∃ (a b : Addr) (ns ms : List Int), vs = [.ref a, .ref b] ∧ H1 a = some (.tup (ns.map V.int)) ∧ H1 b = some (.tup (ms.map V.int)) ∧ TabG H1 P ∧ ∀ H2, Tabbed P H1 H2 → Q (.bl ((ns.zip ms).all pb)) H2
theorem pe_allZ {c P : Addr} {elt e1 e2 : Expr} {x y : Str} {px py pt p pos gpos zp zpos : Pos} {kt : Nat} {scope : Scope} {pb : Int × Int → Bool} {ta : TA} {k : Nat}
    (hr : Room k X.A) (hg : Gl X "all") (hm : X.mg "all" = none) (hb : bootBuiltins "all" = some (.builtin "all")) (TB : TabB X.base X.mg c P) (hcode : X.env.code = .ref c) (S : GenS X.env scope x) (Sy : scope.names.lookup y = some .local) (hxy : x ≠ y)
    (hgz : Gl X "zip") (hmz : X.mg "zip" = none) (ha : PA X [e1, e2] ta)
    (hel : ∀ (C : Addr) (code : Value) (A' : Around) (E' : Value → Shared → Prop) (n m : Int) (t u : Tok) (s₂ : Shared) (m₂ : Str → Option Value),
      A'.handled = none → s₂.heap.Ns C m₂ → m₂ x = some (.int n t) → m₂ y = some (.int m u) →
      wpAny (model X.prog X.w) A' (eval elt (genEnv scope (cloFrom X.env.cells scope.names []) C code builtinsNs X.env)) (fun y s₃ => y = .bool (pb (n, m)) ∧ Keeps s₂ s₃) E' s₂)
    (hs : ∀ v, genFold (.Call (.Name "zip" zp) [e1, e2] [] zpos) X.env v = pure v)
    (hst : starEach [e1, e2] X.env = (false, eval e1 X.env) :: starEach [e2] X.env := by rfl) (hpl : (backTo zpos (starEach [e2] X.env)).any (·.1) = false := by rfl)
    (he : starEach [.GeneratorExp elt [⟨.Tuple [.Name x px, .Name y py] kt pt, .Call (.Name "zip" zp) [e1, e2] [] zpos, [], 0⟩] scope gpos] X.env = (false, eval (.GeneratorExp elt [⟨.Tuple [.Name x px, .Name y py] kt pt, .Call (.Name "zip" zp) [e1, e2] [] zpos, [], 0⟩] scope gpos) X.env) :: starEach [] X.env := by rfl) :
    PE X (.Call (.Name "all" p) [.GeneratorExp elt [⟨.Tuple [.Name x px, .Name y py] kt pt, .Call (.Name "zip" zp) [e1, e2] [] zpos, [], 0⟩] scope gpos] [] pos) (tAllZ P pb ta) := by
  refine ⟨fun pins s σ H Q I h => ?_⟩
  refine wpAny_Call_Name_kw (ld_blt I hg hm hb ?_)
  refine PyProof.Rows.callWith_builtin1 ?_ he (by rfl)
  rw [he]
  show wpAny _ _ (spliced ((false, eval (.GeneratorExp elt [⟨.Tuple [.Name x px, .Name y py] kt pt, .Call (.Name "zip" zp) [e1, e2] [] zpos, [], 0⟩] scope gpos) X.env) :: backTo pos (starEach [] X.env))) _ _ s
  refine Calls.spliced_cons (gen_zip (pb := pb) (R := fun zs H1 => ∀ H2, Tabbed P H1 H2 → Q (.bl (zs.all pb)) H2) hr TB hcode S Sy hxy hgz hmz ha hs I h hel (fun zs H1 g s5 hR hG => ?_) hst hpl)
  obtain ⟨fp, wr, G, F, St, W, hst, htr, hI⟩ := hG
  refine Calls.spliced_nil ?_
  refine call_all_walkS (W.self 0 _ _ _ hst ⟨g, fp, wr, G, _, F, St, _, rfl, W, hst, htr, fun s' hmv => ?_⟩)
  obtain ⟨H2, hT, J⟩ := hI s' hmv
  refine ⟨.bl _, H2, J, rfl, ?_⟩
  rw [all_trG zs pb]
  exact hR H2 hT
end
end Lk
set_option Elab.async false
set_option linter.all false
set_option maxRecDepth 100000
set_option maxHeartbeats 4000000
/-! is_number called within a generator expression. -/
namespace Lk
open PySem PySem.Spec PyProof.Rows L2 GxR
open C8 (Cal Met Mak pe_c pe_mt pe_mk pe_mt0)
section
variable {P : Program} {w : World} {K : PySem.W.Frag} {mg : Str → Option Value} {base : Heap} {f : Addr} {fd : FuncData}
theorem keeps_trans {a b c : Shared} (h : Keeps a b) (h' : Keeps b c) : Keeps a c := by
  obtain ⟨h1, t1, rfl, k1⟩ := h
  obtain ⟨h2, t2, rfl, k2⟩ := h'
  exact ⟨h2, t2, rfl, fun b o e => k2 b o (k1 b o e)⟩
theorem isn_body (g : Gb mg) (M : Mod K mg base) {s0 s1 : Shared} {A : Around} {E : Value → Shared → Prop} {cdv : Value} {i lo hi : Int} {t t' t'' : Tok}
    (hb : ∀ b o, base.get? b = some o → s1.heap.get? b = some o)
    (x : InCallC s0 s0.heap.objs.size (bindL (envOfC "is_number" (defScope s_is_number) s0.heap.objs.size f cdv).kindOf ((["value", "low", "high"] : List Str).zip [.int i t, .int lo t', .int hi t'']) fun _ => none) (cellsFrom (s0.heap.objs.size + 1) (defScope s_is_number).names []) (bindC (envOfC "is_number" (defScope s_is_number) s0.heap.objs.size f cdv).kindOf ((["value", "low", "high"] : List Str).zip [.int i t, .int lo t', .int hi t'']) fun _ => none) s1) :
    wpAny (model P w) A (execs (defBody s_is_number) (envOfC "is_number" (defScope s_is_number) s0.heap.objs.size f cdv)) (fun fl s' => fl = .ret (.bool (decide (lo ≤ i) && decide (i ≤ hi))) ∧ Keeps s1 s') E s1 := by
  have nd : (["value", "low", "high"] : List Str).Nodup := by decide +kernel
  have ldv : ∀ (n : Str) (v : Value) (tk : Nat) (pos : Pos) (Q : Value → Shared → Prop), bindL (envOfC "is_number" (defScope s_is_number) s0.heap.objs.size f cdv).kindOf ((["value", "low", "high"] : List Str).zip [.int i t, .int lo t', .int hi t'']) (fun _ => none) n = some v → (envOfC "is_number" (defScope s_is_number) s0.heap.objs.size f cdv).kindOf n = some .local →
      (n == ("__debug__" : Str)) = false → Q v { s1 with toks := tk } → wpAny (model P w) A (eval (.Name n pos) (envOfC "is_number" (defScope s_is_number) s0.heap.objs.size f cdv)) Q E { s1 with toks := tk } := fun n v tk pos Q hv hl hd h =>
    wpAny_Name (ldLC (env := envOfC "is_number" (defScope s_is_number) s0.heap.objs.size f cdv) (x.tok tk) rfl hl hv h) hd
  have ldb : ∀ (n : Str) (v : Value) (tk : Nat) (pos : Pos) (Q : Value → Shared → Prop), mg n = none → bootBuiltins n = some v → n ≠ "__name__" → (envOfC "is_number" (defScope s_is_number) s0.heap.objs.size f cdv).kindOf n = some .globalImplicit →
      (n == ("__debug__" : Str)) = false → Q v { s1 with toks := tk } → wpAny (model P w) A (eval (.Name n pos) (envOfC "is_number" (defScope s_is_number) s0.heap.objs.size f cdv)) Q E { s1 with toks := tk } := fun n v tk pos Q hm hv hn hl hd h => by
    obtain ⟨mb, h1, h2⟩ := M.blt
    exact Calls.Name_function_global rfl hl (Calls.loadGlobal_builtin (s := { s1 with toks := tk }) (env := envOfC "is_number" (defScope s_is_number) s0.heap.objs.size f cdv) (M.glob.keeps hb) hm (h1.keeps hb) ((h2 n hn).trans hv) h) hd
  have vi : bindL (envOfC "is_number" (defScope s_is_number) s0.heap.objs.size f cdv).kindOf ((["value", "low", "high"] : List Str).zip [.int i t, .int lo t', .int hi t'']) (fun _ => none) "value" = some (.int i t) := bindL_get (i := 0) nd rfl rfl rfl
  have vl : bindL (envOfC "is_number" (defScope s_is_number) s0.heap.objs.size f cdv).kindOf ((["value", "low", "high"] : List Str).zip [.int i t, .int lo t', .int hi t'']) (fun _ => none) "low" = some (.int lo t') := bindL_get (i := 1) nd rfl rfl rfl
  have vh : bindL (envOfC "is_number" (defScope s_is_number) s0.heap.objs.size f cdv).kindOf ((["value", "low", "high"] : List Str).zip [.int i t, .int lo t', .int hi t'']) (fun _ => none) "high" = some (.int hi t'') := bindL_get (i := 2) nd rfl rfl rfl
  have isi : ∀ (T : String) (r : Bool) (tk : Nat) (p1 p2 p3 p4 : Pos) (Q : Value → Shared → Prop), (∀ tk' (Q : Value → Shared → Prop), (∀ tk, Q (.bool r) { s1 with toks := tk }) → wpAny (model P w) A (call (.builtin "isinstance") [.int i t, .type T]) Q E { s1 with toks := tk' }) → mg (T : String) = none → bootBuiltins (T : String) = some (.type T) → (T : Str) ≠ "__name__" →
      (envOfC "is_number" (defScope s_is_number) s0.heap.objs.size f cdv).kindOf (T : String) = some .globalImplicit → ((T : Str) == ("__debug__" : Str)) = false → (∀ tk, Q (.bool r) { s1 with toks := tk }) →
      wpAny (model P w) A (eval (.Call (.Name "isinstance" p1) [.Name "value" p2, .Name (T : String) p3] [] p4) (envOfC "is_number" (defScope s_is_number) s0.heap.objs.size f cdv)) Q E { s1 with toks := tk } := fun T r tk p1 p2 p3 p4 Q hc hm hv hn hk hd q => by
    refine wpAny_Call_Name_kw (ldb "isinstance" _ tk p1 _ g.isinstance boot_isinstance (by decide) rfl (by decide) ?_)
    refine PyProof.Rows.callWith_builtin1 ?_ rfl rfl
    refine Calls.spliced_cons (ldv "value" _ tk p2 _ vi rfl (by decide) ?_)
    refine Calls.spliced_cons (ldb (T : String) _ tk p3 _ hm hv hn hk hd ?_)
    exact Calls.spliced_nil (hc tk _ q)
  refine wpAny_execs_cons (wpAny_Return_some ?_)
  have start : s1 = { s1 with toks := s1.toks } := rfl
  rw [start]
  refine BoolOp_and (isi "int" true s1.toks _ _ _ _ _ (fun tk' Q q => PySem.W.isinstance_int_data (Reads.int i t) fun tk _ => q tk) g.int rfl (by decide) rfl (by decide) fun tk => wpAny_truthy_bool ?_)
  rw [if_pos rfl]
  refine BoolOp_and (wpAny_UnaryOp (isi "bool" false tk _ _ _ _ _ (fun tk' Q q => PySem.W.isinstance_bool_data (Reads.int i t) fun tk _ => q tk) g.bool rfl (by decide) rfl (by decide) fun tk2 => not_value (wpAny_truthy_bool (wpAny_truthy_bool ?_))))
  rw [show (!false) = true from rfl, if_pos rfl]
  refine BoolOp_one (Compare_chain (ldv "low" _ tk2 _ _ vl rfl (by decide) ?_))
  refine chain_link (ldv "value" _ tk2 _ _ vi rfl (by decide) (le_int (wpAny_truthy_bool ?_)))
  have kp : Keeps s1 { s1 with toks := tk2 } := ⟨_, tk2, rfl, fun _ _ e => e⟩
  cases h1 : decide (lo ≤ i) with
  | true =>
    rw [if_pos rfl]
    refine chain_last (ldv "high" _ tk2 _ _ vh rfl (by decide) (le_int ?_))
    exact ⟨by rw [Bool.true_and], kp⟩
  | false =>
    rw [if_neg (by decide)]
    exact ⟨by rw [Bool.false_and], kp⟩
theorem isn_call (g : Gb mg) (M : Mod K mg base) (F : FnP K "is_number" "is_number" s_is_number f fd) {s : Shared} {A : Around} {i lo hi : Int} {t t' t'' : Tok} (hroom : A.depth < recursionLimit) (hb : ∀ b o, base.get? b = some o → s.heap.get? b = some o) :
    codeAny (model P w) A (.call (.ref f) ⟨[.int i t, .int lo t', .int hi t''], []⟩) (fun r s' => r = .ok (.ret (.bool (decide (lo ≤ i) && decide (i ≤ hi)))) ∧ Keeps s s') s := by
  have S := sc_is_number
  have hbd := (F.bindsN (ps := ["value", "low", "high"]) fun _ _ _ _ _ _ us hl => match us, hl with | [_, _, _], _ => rfl) s [.int i t, .int lo t', .int hi t''] (M.kin.keeps hb) rfl
  obtain ⟨oc, od, dV, kV, doc, pm, an, cdv, ct, osl, rfl, lk, hcd, _, _⟩ := F.ex
  have KX : K.In s.heap := M.kin.keeps hb
  have lim : s.heap.NoLimit := M.nolimit.keeps hb
  have hkind : ∀ y ∈ (["value", "low", "high"] : List Str).zip ([.int i t, .int lo t', .int hi t''] : List Value), (defScope s_is_number).names.lookup y.1 = some .local ∨ ((defScope s_is_number).names.lookup y.1 = some .cell ∧ ((cellsFrom (s.heap.objs.size + 1) (defScope s_is_number).names []).lookup y.1).isSome = true) := fun ⟨n, v⟩ hy => by
    rcases S.par n (List.of_mem_zip hy).1 with q | q
    · exact .inl q
    · exact .inr ⟨q, PySem.W.cellsFrom_some _ _ _ (.inl q)⟩
  refine codeAny_call_function hroom (KX _ _ lk) rfl S.co S.gen rfl (PySem.W.codeRec_of KX hcd) (hbd _ _ _ _ ?_)
  refine wpAny_newFunctionEnv_cells S.kind hkind fun env he s1 x => ?_
  subst he
  refine ⟨lim.keeps x.toInCall.keep, codeAny_func ?_⟩
  refine wpAny_mono (isn_body (P := P) (w := w) (E := fun _ _ => False) g M (fun b o e => x.toInCall.keep b o (hb b o e)) x) (fun fl s' hq => ?_) fun _ _ z => z.elim
  obtain ⟨rfl, kp⟩ := hq
  obtain ⟨h', tk, e, k⟩ := x.toInCall.done
  exact ⟨rfl, keeps_trans ⟨h', tk, e, k⟩ kp⟩
/-- is_number(x, 0, e) within a generator expression -/
theorem isn_elt (g : Gb mg) (M : Mod K mg base) (F : FnP K "is_number" "is_number" s_is_number f fd) (hmg : mg "is_number" = some (.ref f)) {A' : Around} {E' : Value → Shared → Prop} {scope : Scope} {cl : List (Str × Addr)} {C : Addr} {code : Value} {env : Env} {x : Str} {p0 p1 p2 p4 : Pos} {kk : Nat} {e3 : Expr} {n hi : Int} {t : Tok} {s₂ : Shared} {m₂ : Str → Option Value}
    (hglob : env.globals = mainGlobals) (hkind : scope.kind = .function) (hx : scope.names.lookup x = some .local) (hisn : scope.names.lookup ("is_number" : Str) = some NameKind.globalImplicit) (hd : (x == ("__debug__" : Str)) = false)
    (hdep : A'.depth < recursionLimit) (hb : ∀ b o, base.get? b = some o → s₂.heap.get? b = some o) (hn : s₂.heap.Ns C m₂) (hm : m₂ x = some (.int n t))
    (h3 : ∀ s3, Keeps s₂ s3 → wpAny (model P w) A' (eval e3 (genEnv scope cl C code builtinsNs env)) (fun v s4 => (∃ t, v = .int hi t) ∧ Keeps s3 s4) E' s3)
    (st : starEach [.Name x p1, .Constant (.int 0) kk p2, e3] (genEnv scope cl C code builtinsNs env) = (false, eval (.Name x p1) (genEnv scope cl C code builtinsNs env)) :: starEach [.Constant (.int 0) kk p2, e3] (genEnv scope cl C code builtinsNs env) := by rfl)
    (st2 : starEach [.Constant (.int 0) kk p2, e3] (genEnv scope cl C code builtinsNs env) = (false, eval (.Constant (.int 0) kk p2) (genEnv scope cl C code builtinsNs env)) :: starEach [e3] (genEnv scope cl C code builtinsNs env) := by rfl)
    (st3 : starEach [e3] (genEnv scope cl C code builtinsNs env) = (false, eval e3 (genEnv scope cl C code builtinsNs env)) :: starEach [] (genEnv scope cl C code builtinsNs env) := by rfl)
    (hpl : (backTo p4 (starEach [.Constant (.int 0) kk p2, e3] (genEnv scope cl C code builtinsNs env))).any (·.1) = false := by rfl) :
    wpAny (model P w) A' (eval (.Call (.Name "is_number" p0) [.Name x p1, .Constant (.int 0) kk p2, e3] [] p4) (genEnv scope cl C code builtinsNs env)) (fun y s₃ => y = .bool (decide (0 ≤ n) && decide (n ≤ hi)) ∧ Keeps s₂ s₃) E' s₂ := by
  refine wpAny_Call_Name_kw (Calls.Name_function_global hkind hisn (Calls.loadGlobal_global (env := genEnv scope cl C code builtinsNs env) (by show s₂.heap.Ns env.globals mg; rw [hglob]; exact M.glob.keeps hb) hmg ?_) (by decide))
  refine PySem.W.callWith_K (h₀ := base) M.kin F.kp ?_ st hpl
  rw [st]
  show wpAny _ _ (spliced ((false, eval (.Name x p1) (genEnv scope cl C code builtinsNs env)) :: backTo p4 (starEach [.Constant (.int 0) kk p2, e3] (genEnv scope cl C code builtinsNs env)))) _ _ _
  refine Calls.spliced_cons (wpAny_Name (wpAny_loadName_local hkind hx hn hm ?_) hd)
  rw [st2]
  show wpAny _ _ (spliced ((false, eval (.Constant (.int 0) kk p2) (genEnv scope cl C code builtinsNs env)) :: backTo p4 (starEach [e3] (genEnv scope cl C code builtinsNs env)))) _ _ _
  refine Calls.spliced_cons (wpAny_Constant_int ?_)
  rw [st3]
  show wpAny _ _ (spliced ((false, eval e3 (genEnv scope cl C code builtinsNs env)) :: backTo p4 (starEach [] (genEnv scope cl C code builtinsNs env)))) _ _ _
  refine Calls.spliced_cons (thn (h3 _ ⟨_, _, rfl, fun _ _ e => e⟩) fun v s4 ⟨⟨t3, ev⟩, k4⟩ => ?_)
  subst ev
  have k24 : Keeps s₂ s4 := keeps_trans ⟨_, _, rfl, fun _ _ e => e⟩ k4
  have hb4 : ∀ b o, base.get? b = some o → s4.heap.get? b = some o := fun b o e => by
    obtain ⟨h', tk, e2, k⟩ := k24
    rw [e2]
    exact k b o (hb b o e)
  refine Calls.spliced_nil ⟨M.kin.keeps hb4, ?_⟩
  refine wpAny_call (codeAny_mono (isn_call (P := P) (w := w) g M F hdep hb4) fun r s' hq => ?_)
  obtain ⟨rfl, k5⟩ := hq
  exact ⟨rfl, keeps_trans k24 k5⟩
end
section
variable {X : Cx} {a : Expr} {Γ : Gam} {H : Hp}
def tLenSetT (ta : TE) : TE := fun σ H Q => ta σ H fun x H1 => ∃ (l : Addr) (ns : List Int), x = .ref l ∧ Rd H1 l (.tup (ns.map V.int)) ∧ ns.Nodup ∧ ns.length ≤ 4000 ∧ Q (.int (ns.length : Nat)) H1
theorem pe_lenSetT {ta : TE} {p p2 q pos : Pos} (hg : Gl X "len") (hm : X.mg "len" = none) (hg2 : Gl X "set") (hm2 : X.mg "set" = none) (ha : PE X a ta) (hc : X.calm = true)
    (na : starEach [a] X.env = (false, eval a X.env) :: starEach [] X.env := by rfl) : PE X (.Call (.Name "len" p) [.Call (.Name "set" p2) [a] [] q] [] pos) (tLenSetT ta) := by
  refine ⟨fun pins s σ H Q I h => ?_⟩
  refine Call_ (ld_blt I hg hm boot_len ?_)
  refine PyProof.Rows.callWith_builtin1 (PyProof.Rows.args_cons ?_ rfl) rfl rfl
  refine Call_ (ld_blt I hg2 hm2 boot_set ?_)
  refine PyProof.Rows.callWith_type1 (PyProof.Rows.args_cons (thn (ha.run pins s σ H _ I h) fun v s1 ⟨x, H1, I1, r1, q1⟩ => PyProof.Rows.args_nil ?_) na) na rfl
  obtain ⟨l, ns, rfl, hq, hnd, hl, q1⟩ := q1
  cases r1
  obtain ⟨its, r, pl, hz⟩ := I1.tuple (.inl hq)
  have hi : IntsAre its.toArray.toList ns := by simpa using intsAre_of r
  refine call_set_tupI ns (I1.ok.hd hc) pl hi (by unfold scanBound; omega) fun h' tk c R1 hcn k => ?_
  refine PyProof.Rows.args_nil ?_
  obtain ⟨o, es, ep, t, ho, hex, hdt, gd, nd, hm2, hb, hf, hn, hr, hl2⟩ := R1
  have hcl : c = ns.length := by
    have h1 : (es.toList.map keyOf).length = c := by rw [List.length_map, Array.length_toList, hn]
    have h2 : ns.length ≤ (es.toList.map keyOf).length := len_le_of_sub hnd fun x hx => (hm2 x).mp (by simpa using hx)
    omega
  have I2 : Inv X pins σ H1 { s1 with heap := h', toks := tk } := I1.kept k
  exact call_len_set ho hex hdt hf (by rw [hn] <;> omega) ⟨.int ns.length, H1, I2.tok _, ⟨_, by rw [hn, hcl]⟩, q1⟩
theorem ex_lenSetT {p p2 q pos : Pos} {ns : List Int} (hm : X.mg "len" = none) (hm2 : X.mg "set" = none) (ha : EX X a Γ H (.tup (ns.map Dt.int))) (hnd : ns.Nodup) (hl : ns.length ≤ 4000) (hc : X.calm = true) (hg : Gl X "len" := by rfl) (hg2 : Gl X "set" := by rfl)
    (na : starEach [a] X.env = (false, eval a X.env) :: starEach [] X.env := by rfl) : EX X (.Call (.Name "len" p) [.Call (.Name "set" p2) [a] [] q] [] pos) Γ H (.int ns.length) := fun σ H1 Q g m q =>
  RE.of (pe_lenSetT hg hm hg2 hm2 re hc na) (ha σ H1 _ g m fun v H2 g2 tv => by
    obtain ⟨l, xs, rfl, hp, t⟩ := tv.tup_eq
    cases t.ints_eq
    exact ⟨l, ns, rfl, .inl hp, hnd, hl, q _ H2 g2 (.int _)⟩)
end
end Lk
set_option Elab.async false
set_option linter.all false
set_option maxRecDepth 100000
set_option maxHeartbeats 4000000
/-! Tuples that are known to the object: made frozen, they have no dict, so that .index may be asked of them. -/
namespace Lk
open PySem PySem.Spec PyProof.Rows L2 GxR
open C8 (Cal Met Mak)
/-- a tuple that is read -/
def TQ (X : Cx) (e : Expr) (Γ : Gam) (H : Hp) (ds : List Dt) : Prop := ∀ (σ : L2.St) (H1 : Hp) (Q : VK), Ge H H1 → Gm H1 σ Γ → (∀ p xs H2, Ge H1 H2 → Rd H2 p (.tup xs) → TpA H2 xs ds → Q (.ref p) H2) → RE X e σ H1 Q
def Fz (H : Hp) (d : Dt) (ns : List Nat) : Prop := ∃ a o, d = .ref a ∧ H a = some (.frz o (.tup ((zs ns).map V.int))) ∧ o.dict = none
/-- a tuple of numbers, frozen or not -/
def FzD (H : Hp) (d : Dt) (ns : List Nat) : Prop := d = dNs ns ∨ Fz H d ns
theorem Ge.frz {H H' : Hp} (g : Ge H H') {a : Addr} {o : Obj} {u : HO} (h : H a = some (.frz o u)) : H' a = some (.frz o u) := g.at h fun _ z => by cases z
theorem Fz.ge {H H' : Hp} {d : Dt} {ns : List Nat} (z : Fz H d ns) (g : Ge H H') : Fz H' d ns := by
  obtain ⟨a, o, e, h, n⟩ := z
  exact ⟨a, o, e, g.frz h, n⟩
theorem FzD.ge {H H' : Hp} {d : Dt} {ns : List Nat} (z : FzD H d ns) (g : Ge H H') : FzD H' d ns := z.imp (fun e => e) fun z => z.ge g
section
variable {X : Cx} {e a b c iter : Expr} {es : List Expr} {Γ : Gam} {H H1 : Hp} {d da db : Dt} {pos : Pos}
theorem EX.tq {ds : List Dt} (h : EX X e Γ H (.tup ds)) : TQ X e Γ H ds := fun σ H1 Q g m q => h σ H1 Q g m fun v H2 g2 tv => by
  obtain ⟨p, xs, rfl, hp, t⟩ := tv.tup_eq
  exact q p xs H2 g2 (.inl hp) t
theorem zs_dN (ns : List Nat) : ns.map dN = (zs ns).map Dt.int := by unfold zs; rw [List.map_map]; rfl
theorem tq_fz {ns : List Nat} (h : EX X e Γ H d) (z : Fz H d ns) : TQ X e Γ H (ns.map dN) := by
  obtain ⟨a, o, rfl, hz, n⟩ := z
  exact fun σ H1 Q g m q => h σ H1 Q g m fun v H2 g2 tv => by
    rw [tv.ref_eq]
    exact q a _ H2 g2 (.inr ⟨o, (g.trans g2).frz hz⟩) (by rw [zs_dN]; exact Tp.ints _)
theorem tq_D {ns : List Nat} (h : EX X e Γ H d) (z : FzD H d ns) : TQ X e Γ H (ns.map dN) := by
  rcases z with rfl | z
  · exact EX.tq h
  · exact tq_fz h z
theorem TQ.cast {ds es : List Dt} (h : TQ X e Γ H ds) (q : ds = es) : TQ X e Γ H es := q ▸ h
theorem ex_callBQ {x : Str} {p : Pos} {id : String} {r : List V → Hp → VK → Prop} {ds : List Dt} (hc : CallR X (.builtin id) r) (hm : X.mg x = none) (hv : bootBuiltins x = some (.builtin id)) (ha : TQ X e Γ H ds)
    (hr : ∀ p xs H2 (Q : VK), Ge H H2 → Rd H2 p (.tup xs) → TpA H2 xs ds → (∀ v H3, Ge H2 H3 → Tp H3 v d → Q v H3) → r [.ref p] H2 Q) (hg : Gl X x := by rfl) (hn : x ≠ "__name__" := by decide) (hdb : (x == ("__debug__" : Str)) = false := by decide)
    (he : starEach [e] X.env = (false, eval e X.env) :: starEach [] X.env := by rfl) (hpl : (backTo pos (starEach [] X.env)).any (·.1) = false := by rfl) : EX X (.Call (.Name x p) [e] [] pos) Γ H d := fun σ H1 Q g m q =>
  RE.of (pe_callB hc hg hm hv (pa_cons re pa_nil he) hn hdb he hpl) (ha σ H1 _ g m fun p xs H2 g2 hp t => hr p xs H2 Q (g.trans g2) hp t fun v H3 g3 tv => q v H3 (g2.trans g3) tv)
theorem ex_lenQ {ds : List Dt} {p : Pos} (hm : X.mg "len" = none) (ha : TQ X a Γ H ds) (hg : Gl X "len" := by rfl) (he : starEach [a] X.env = (false, eval a X.env) :: starEach [] X.env := by rfl) (hpl : (backTo pos (starEach [] X.env)).any (·.1) = false := by rfl) :
    EX X (.Call (.Name "len" p) [a] [] pos) Γ H (.int ds.length) :=
  ex_callBQ call_len_seq hm boot_len ha (fun p xs H2 Q g hp t q => ⟨p, xs, rfl, .inr (.inl hp), by rw [t.length]; exact q _ _ (Ge.refl _) (.int _)⟩) hg (by decide) (by decide) he hpl
theorem ex_isiQ {p p2 : Pos} {ds : List Dt} (hm : X.mg "isinstance" = none) (hmx : X.mg "tuple" = none) (ha : TQ X a Γ H ds)
    (hg : Gl X "isinstance" := by rfl) (hgx : Gl X "tuple" := by rfl)
    (he : starEach [a, .Name "tuple" p2] X.env = (false, eval a X.env) :: starEach [.Name "tuple" p2] X.env := by rfl) (he2 : starEach [.Name "tuple" p2] X.env = (false, eval (.Name "tuple" p2) X.env) :: starEach [] X.env := by rfl)
    (hpl : (backTo pos (starEach [.Name "tuple" p2] X.env)).any (·.1) = false := by rfl) :
    EX X (.Call (.Name "isinstance" p) [a, .Name "tuple" p2] [] pos) Γ H (.bl true) := fun σ H1 Q g m q =>
  RE.of (pe_callB call_isi hg hm boot_isinstance (pa_cons re (pa_cons (pe_bltn hgx hmx (boot_tuple : bootBuiltins "tuple" = some (.type "tuple")) (v := .ty "tuple") rfl (by decide) (by decide)) pa_nil he2) he) (by decide) (by decide) he hpl) (ha σ H1 _ g m fun a xs H2 g2 hp t =>
    ⟨.ref a, .ty "tuple", .type "tuple", .type "tuple", true, rfl, .ty "tuple", by rcases hp with hp | ⟨o, hp⟩; exact .base (.tup hp); exact .fTuple hp, kit_ty (by decide +kernel), q _ H2 g2 (.bl true)⟩)
theorem src_tupQ {i : Nat} {x : Str} {px : Pos} {ds : List Dt} (he : TQ X iter Γ H ds) : SRC X (.Name x px) iter (gName i) Γ H ds.length [i] (fun k Γ => Γ.set i ds[k]?) keepF := by
  refine ⟨_, pi_tup re, fun σ H1 R g m q => he σ H1 _ g m fun p xs H2 g2 hp t => ?_⟩
  refine ⟨p, rfl, ⟨xs, .inl hp⟩, q _ H2 g2 ⟨_, _, t.length ▸ walk_tup (xs := xs), fun H3 lt => .inl (hp.imp (fun h => lt.1 _ _ h) fun ⟨o, h⟩ => ⟨o, lt.2 _ _ _ h⟩), ?_⟩⟩
  rintro k x H3 H4 σ' Γ' Q hk lt m' ⟨rfl, hx⟩ q
  obtain ⟨d, hd, td⟩ := t.get' hx
  simp only [hd] at q
  exact q _ _ (Ge.refl _) (m'.set (td.mono lt.1) i) wipe_name
theorem ex_lenSetQ {p p2 q pos : Pos} {ns : List Int} (hm : X.mg "len" = none) (hm2 : X.mg "set" = none) (ha : TQ X a Γ H (ns.map Dt.int)) (hnd : ns.Nodup) (hl : ns.length ≤ 4000) (hc : X.calm = true) (hg : Gl X "len" := by rfl) (hg2 : Gl X "set" := by rfl)
    (na : starEach [a] X.env = (false, eval a X.env) :: starEach [] X.env := by rfl) : EX X (.Call (.Name "len" p) [.Call (.Name "set" p2) [a] [] q] [] pos) Γ H (.int ns.length) := fun σ H1 Q g m q =>
  RE.of (pe_lenSetT hg hm hg2 hm2 re hc na) (ha σ H1 _ g m fun l xs H2 g2 hp t => by
    cases t.ints_eq
    exact ⟨l, ns, rfl, hp, hnd, hl, q _ H2 g2 (.int _)⟩)
/-- a call that only adds, and tells one thing -/
theorem ex_callG {ι : Type} {args : ι → List Dt} {pre : ι → Hp → Prop} {post : ι → Hp → Dt → Hp → Prop} {k j : Nat} {x : Str} {p : Pos} (c : Cal X.prog X.w X.K X.mg X.base k x (spP args pre post) []) (y : ι) (ha : AX X (e :: es) Γ H (args y)) (r : ∀ H1, Ge H H1 → pre y H1)
    (q : ∀ H1 d' H2, post y H1 d' H2 → Ge H1 H2 ∧ d' = d) (hr : Room j X.A) (hk : k ≤ j := by omega) (hg : Gl X x := by rfl)
    (hdb : (x == ("__debug__" : Str)) = false := by decide) (he : starEach (e :: es) X.env = (false, eval e X.env) :: starEach es X.env := by rfl) (hpl : (backTo pos (starEach es X.env)).any (·.1) = false := by rfl) :
    EX X (.Call (.Name x p) (e :: es) [] pos) Γ H d := fun σ H1 Q g m k =>
  RE.of (C8.pe_c c hr hk hg ra hdb he hpl) (ha σ H1 _ g m fun vs H2 g2 t => by
    show spP args pre post (vs ++ []) H2 _ _
    rw [List.append_nil]
    refine ⟨y, t, r H2 (g.trans g2), fun d' v H3 t3 p3 => ?_⟩
    obtain ⟨g3, rfl⟩ := q _ _ _ p3
    exact k v H3 (g2.trans g3) t3)
theorem LX.cast {ds es : List Dt} (h : LX X e Γ H ds) (q : ds = es) : LX X e Γ H es := q ▸ h
/-! ### .index -/
theorem flat_intsV (ys : List Int) : (ys.map V.int).all flatV = true := by
  rw [List.all_map]
  exact List.all_eq_true.mpr fun _ _ => rfl
theorem mt_tup_indexI : MtR X "tuple.index" (fun x xs H Q => ∃ p, ∃ ys : List Int, ∃ z j, x = .ref p ∧ xs = [.int z] ∧ SqT X.K H p (ys.map V.int) ∧ ys[j]? = some z ∧ (∀ m, m < j → ys[m]? ≠ some z) ∧ Q (.int (j : Nat)) H) := by
  intro pins s σ H x xs v us Q I rx rs h
  obtain ⟨p, ys, z, j, rfl, rfl, hq, hy, hno, q⟩ := h
  cases rx
  obtain ⟨u, rfl, t, rfl⟩ := vals1 rs
  obtain ⟨its, r, pl, hz⟩ := I.tuple hq
  obtain ⟨⟨cls, dd, dt, sl⟩, ho, hc, n, hd⟩ := pl
  simp only at hc hd
  subst hc
  subst hd
  have hl : its.toArray.size = ys.length := by rw [List.size_toArray, ← r.length, List.length_map]
  have hj : j < its.toArray.size := by rw [hl]; exact (List.getElem?_eq_some_iff.mp hy).1
  have at' : ∀ (m : Nat) (hm : m < its.toArray.size), ∃ y t', ys[m]? = some y ∧ its.toArray[m] = Value.int y t' := fun m hm => by
    have hm' : m < ys.length := by rw [← hl]; exact hm
    obtain ⟨w, hw, t', hw'⟩ := r.get (i := m) (x := .int ys[m]) (by simp [hm'])
    refine ⟨ys[m], t', List.getElem?_eq_getElem hm', ?_⟩
    have e := (List.getElem?_eq_some_iff.mp hw).2
    rw [← hw', ← e]
    simp
  refine call_meets PySem.F.slot_tuple_index ⟨_, ho, rfl⟩ PySem.F.entry_tuple_index (PySem.F.args_tuple_index_2 _ _) (TI.tuple_indexAt p its.toArray n dd sl (.int z t) (eqU (.int z)) j hj ?_ ?_)
    ⟨ho, fun w hw => mem_eqAt (x := .int z) ⟨t, rfl⟩ rfl r (flat_intsV ys) w (by simpa using hw), ⟨.int (j : Nat), H, I.tok _, ⟨_, rfl⟩, q⟩⟩
  · obtain ⟨y, t', h1, h2⟩ := at' j hj
    rw [hy] at h1
    cases h1
    rw [h2]
    show decide (z = z) = true
    exact decide_eq_true rfl
  · intro m hm hmj
    obtain ⟨y, t', h1, h2⟩ := at' m hm
    rw [h2]
    show decide (y = z) = false
    refine decide_eq_false fun e => hno m hmj ?_
    rw [h1, e]
theorem idx_first : ∀ (l : List Nat) (y m : Nat), m < l.idxOf y → l[m]? ≠ some y
  | [], _, m, h => by simp at h
  | a :: l, y, m, h => by
    rw [List.idxOf_cons] at h
    by_cases e : a = y
    · rw [beq_iff_eq.mpr e] at h
      exact absurd h (Nat.not_lt_zero m)
    · rw [beq_eq_false_iff_ne.mpr e] at h
      cases m with
      | zero =>
        intro z
        exact e (Option.some.inj z)
      | succ m =>
        rw [List.getElem?_cons_succ]
        exact idx_first l y m (by simpa using h)
def tyFz (x : V) (H : Hp) : Prop := ∃ a o xs, x = .ref a ∧ H a = some (.frz o (.tup xs)) ∧ o.dict = none
theorem ty_fz : TyOk X "tuple" tyFz := by
  intro pins σ H s x v I r h
  obtain ⟨a, o, xs, rfl, hz, n⟩ := h
  cases r
  obtain ⟨h1, _, its, _, ht⟩ := I.hok a _ hz
  exact ⟨ht.typeIs, fun b e => by cases e; exact ⟨o, h1, n⟩⟩
theorem ex_idx {ns : List Nat} {p : Nat} {apos cpos : Pos} (ha : EX X a Γ H d) (z : Fz H d ns) (he : EX X e Γ H (dN p)) (hp : p ∈ ns)
    (hbase : attributeBase a "index" X.env (eval a X.env) = eval a X.env := by rfl)
    (hfew : ((backTo cpos (starEach [e] X.env)).all (fun x => !x.1) && (backToKw cpos (keywordEach [] X.env)).all (fun x => x.1.isSome)
      && decide ([e].length + ([] : List Keyword).length + (if ([] : List Keyword).isEmpty then 0 else 1) < 30)) = true := by rfl)
    (hline : (apos.endLine == cpos.line) = true := by rfl) (hs : starEach [e] X.env = (false, eval e X.env) :: starEach [] X.env := by rfl) (hplain : (backTo cpos (starEach [] X.env)).any (·.1) = false := by rfl) :
    EX X (.Call (.Attribute a "index" apos) [e] [] cpos) Γ H (dN (ns.idxOf p)) := by
  obtain ⟨ad, o, rfl, hz, n⟩ := z
  exact fun σ H1 Q g m q =>
  RE.of (pe_mG ty_fz PySem.F.plainAttrs_tuple PySem.F.slot_tuple_index PySem.F.type_tuple_index mt_tup_indexI re (pa_cons re pa_nil hs) hbase hfew hline hs hplain) (ha σ H1 _ g m fun v H2 g2 tv => by
    cases tv.ref_eq
    refine ⟨⟨ad, o, _, rfl, (g.trans g2).frz hz, n⟩, he σ H2 _ (g.trans g2) (m.ge g2) fun u H3 g3 tu => ?_⟩
    have hi : ns.idxOf p < ns.length := List.idxOf_lt_length_of_mem hp
    refine ⟨ad, zs ns, p, ns.idxOf p, rfl, by rw [tu.int_eq], .inl (.inr ⟨o, ((g.trans g2).trans g3).frz hz⟩), ?_, ?_, q _ _ (g2.trans g3) (.int _)⟩
    · unfold zs
      rw [List.getElem?_map, List.getElem?_eq_getElem hi, List.getElem_idxOf]
      rfl
    · intro k hk e
      unfold zs at e
      rw [List.getElem?_map] at e
      obtain ⟨y, hy, ey⟩ := Option.map_eq_some_iff.mp e
      have ey : y = p := Int.ofNat_inj.mp ey
      subst ey
      exact idx_first ns _ _ hk hy)
/-! ### tuples made frozen -/
def kTupZ (K : PySem.W.Frag) (x : V) (H : Hp) (Q : VK) : Prop := ∃ p xs, x = .ref p ∧ SqL K H p xs ∧ ∀ q o, H q = none → o.dict = none → Q (.ref q) (upd H q (.frz o (.tup xs)))
theorem rl_tupleZ (pins : List (Addr × Obj)) (s : Shared) (σ : L2.St) (H : Hp) (x : V) (v : Value) (Q : VK) (I : Inv X pins σ H s) (r : RelV x v) (h : kTupZ X.K x H Q) :
    wpAny (model X.prog X.w) X.A (call (.type "tuple") [v]) (EP X pins σ Q) X.xe s := by
  obtain ⟨p, xs, rfl, hs, q⟩ := h
  obtain rfl : v = .ref p := r
  obtain ⟨its, rv, pl, hz⟩ := I.list hs
  refine call_tuple_list pl.isList (fun h' hk => ?_) (by rw [List.size_toArray, ← rv.length]; exact hz)
  have I1 : Inv X pins σ H { s with heap := h' } := I.kept (t' := s.toks) hk
  have I2 : Inv X pins σ (upd H h'.objs.size (.frz { cls := .type "tuple", data := .seq its.toArray } (.tup xs))) { s with heap := h'.push { cls := .type "tuple", data := .seq its.toArray } } :=
    I1.laid (t' := s.toks) (fun b o e => Heap.get?_push_of_some _ e) (Nat.le_refl _) (show ObjOk X.prog X.w _ _ _ (.frz _ (.tup xs)) from ⟨Heap.get?_push_size _ rfl, hz, its, rv, IsTup.new _ _⟩)
  exact ⟨.ref h'.objs.size, _, I2, rfl, q _ _ (I1.hok.fresh (Nat.le_refl _)) rfl⟩
theorem pe_tupleZ {ta : TE} {p pos : Pos} (hg : Gl X "tuple") (hm : X.mg "tuple" = none) (ha : PE X a ta) (na : starEach [a] X.env = (false, eval a X.env) :: starEach [] X.env := by rfl) :
    PE X (.Call (.Name "tuple" p) [a] [] pos) (tThen ta (kTupZ X.K)) := by
  refine ⟨fun pins s σ H Q I h => ?_⟩
  exact Call_ (ld_blt I hg hm boot_tuple (PyProof.Rows.callWith_type1 (one_arg ha I h (fun v s2 x H2 I2 r q => rl_tupleZ pins s2 σ H2 x v Q I2 r q) na) na))
def FX (X : Cx) (e : Expr) (Γ : Gam) (H : Hp) (ns : List Nat) : Prop := ∀ (σ : L2.St) (H1 : Hp) (Q : VK), Ge H H1 → Gm H1 σ Γ → (∀ a H2, Ge H1 H2 → Fz H2 (.ref a) ns → Q (.ref a) H2) → RE X e σ H1 Q
theorem fx_tupD {ns : List Nat} {p : Pos} (h : LD X a Γ H (ns.map dN)) (hm : X.mg "tuple" = none) (hg : Gl X "tuple" := by rfl) (na : starEach [a] X.env = (false, eval a X.env) :: starEach [] X.env := by rfl) : FX X (.Call (.Name "tuple" p) [a] [] pos) Γ H ns := fun σ H1 Q g m q =>
  RE.of (pe_tupleZ hg hm re na) (h σ H1 _ g m fun l vs H2 g2 hl t => by
    rw [zs_dN] at t
    cases t.ints_eq
    exact ⟨l, _, rfl, SqL.of hl, fun a o na no => q a _ (g2.trans (Ge.new na)) ⟨a, o, rfl, upd_same, no⟩⟩)
theorem mx_fx {ns : List Nat} {K : Dt → Hp → Prop} (h : FX X e Γ H ns) (k : ∀ a H1, Ge H H1 → Fz H1 (.ref a) ns → K (.ref a) H1) : MX X e Γ H K := fun σ m =>
  h σ H _ (Ge.refl _) m fun a H2 g2 z => ⟨.ref a, .ref a, m.ge g2, k a H2 g2 z⟩
end
end Lk
set_option Elab.async false
set_option linter.all false
set_option maxRecDepth 100000
set_option maxHeartbeats 4000000
/-! is_permutation, the needs. -/
namespace Lk
open PySem PySem.Spec PyProof.Rows L2 GxR
open C8 (Cal Met Mak pe_c pe_mt pe_mk pe_mt0)
section
variable {X : Cx} {pins : List (Addr × Obj)} {σ : L2.St} {H : Hp} {s : Shared} {Γ : Gam}
/-- what a cell of the def holds -/
theorem cell_at (I : Inv X pins σ H s) (m : Gm H σ Γ) {i : Nat} {x : Str} {d : Dt} (hG : Γ[i]? = some (some d)) (hN : X.N[i]? = some x) (hk : X.env.scope.names.lookup x = some .cell) :
    ∃ c v u, X.env.cells.lookup x = some c ∧ s.heap.IsCell c (some u) ∧ H c = none ∧ RelV v u ∧ Tp H v d := by
  obtain ⟨v, e, tv⟩ := m.get i d hG
  obtain ⟨mm, hn, hl⟩ := I.loc
  obtain ⟨u, r, l⟩ := hl i x v hN e (.inr (.inl hk))
  rcases l with ⟨hk2, _⟩ | ⟨_, c, hc, hcell⟩
  · have : X.env.scope.names.lookup x = some .local := hk2
    rw [hk] at this
    cases this
  · exact ⟨c, v, u, hc, hcell, I.freeC x c hc, r, tv⟩
theorem ex_all {c P : Addr} {elt iter : Expr} {x : Str} {px p pos gpos : Pos} {scope : Scope} {pb : Int → Bool} {k : Nat} {ns : List Int}
    (hr : Room k X.A) (hm : X.mg "all" = none) (TB : TabB X.base X.mg c P) (hcode : X.env.code = .ref c) (S : GenS X.env scope x) (hi : TQ X iter Γ H (ns.map Dt.int)) (tg : TabG H P)
    (hel : ∀ (pins : List (Addr × Obj)) (σ : L2.St) (s1 : Shared) (H1 : Hp), Inv X pins σ H1 s1 → Gm H1 σ Γ → TabG H1 P → Ge H H1 → ∀ (C : Addr) (code : Value) (A' : Around) (E' : Value → Shared → Prop) (n : Int) (t : Tok) (s₂ : Shared) (m₂ : Str → Option Value), n ∈ ns →
      A'.handled = none → A'.depth ≤ X.A.depth + 1 → A'.units ≤ X.A.units + 8 → s₂.heap.Ns C m₂ → m₂ x = some (.int n t) → (∀ b o, b ≠ P → s1.heap.get? b = some o → s₂.heap.get? b = some o) →
      wpAny (model X.prog X.w) A' (eval elt (genEnv scope (cloFrom X.env.cells scope.names []) C code builtinsNs X.env)) (fun y s₃ => y = .bool (pb n) ∧ Keeps s₂ s₃) E' s₂)
    (hs : ∀ v, genFold iter X.env v = pure v) (hg : Gl X "all" := by rfl)
    (he : starEach [.GeneratorExp elt [⟨.Name x px, iter, [], 0⟩] scope gpos] X.env = (false, eval (.GeneratorExp elt [⟨.Name x px, iter, [], 0⟩] scope gpos) X.env) :: starEach [] X.env := by rfl) :
    EX X (.Call (.Name "all" p) [.GeneratorExp elt [⟨.Name x px, iter, [], 0⟩] scope gpos] [] pos) Γ H (.bl (ns.all pb)) := fun σ H1 Q g m q =>
  RE.of (pe_allT (pb := pb) (C := fun σ' H2 ns' => Gm H2 σ' Γ ∧ TabG H2 P ∧ Ge H H2 ∧ ns' = ns) hr hg hm PyProof.Rows.boot_all TB hcode S re (fun pins σ s1 H2 ns' I ⟨h1, h2, h3, h4⟩ => by subst h4; exact hel pins σ s1 H2 I h1 h2 h3) hs he) (hi σ H1 _ g m fun a xs H2 g2 ha t => by
    cases t.ints_eq
    have tg2 := (g.trans g2).tab tg
    exact ⟨a, ns, rfl, ha, tg2, ⟨m.ge g2, tg2, g.trans g2, rfl⟩, fun H3 tb => q _ H3 (g2.trans (Ge.tabbed tg2 tb)) (.bl _)⟩)
theorem ex_allZ {c P : Addr} {elt e1 e2 : Expr} {x y : Str} {px py pt p pos gpos zp zpos : Pos} {kt : Nat} {scope : Scope} {pb : Int × Int → Bool} {k : Nat} {ns ms : List Int}
    (hr : Room k X.A) (hm : X.mg "all" = none) (TB : TabB X.base X.mg c P) (hcode : X.env.code = .ref c) (S : GenS X.env scope x) (Sy : scope.names.lookup y = some .local) (hxy : x ≠ y)
    (hmz : X.mg "zip" = none) (h1 : EX X e1 Γ H (.tup (ns.map Dt.int))) (h2 : EX X e2 Γ H (.tup (ms.map Dt.int))) (tg : TabG H P)
    (hel : ∀ (C : Addr) (code : Value) (A' : Around) (E' : Value → Shared → Prop) (n m : Int) (t u : Tok) (s₂ : Shared) (m₂ : Str → Option Value),
      A'.handled = none → s₂.heap.Ns C m₂ → m₂ x = some (.int n t) → m₂ y = some (.int m u) →
      wpAny (model X.prog X.w) A' (eval elt (genEnv scope (cloFrom X.env.cells scope.names []) C code builtinsNs X.env)) (fun y s₃ => y = .bool (pb (n, m)) ∧ Keeps s₂ s₃) E' s₂)
    (hs : ∀ v, genFold (.Call (.Name "zip" zp) [e1, e2] [] zpos) X.env v = pure v) (hg : Gl X "all" := by rfl) (hgz : Gl X "zip" := by rfl)
    (hst : starEach [e1, e2] X.env = (false, eval e1 X.env) :: starEach [e2] X.env := by rfl) (hst2 : starEach [e2] X.env = (false, eval e2 X.env) :: starEach [] X.env := by rfl) (hpl : (backTo zpos (starEach [e2] X.env)).any (·.1) = false := by rfl)
    (he : starEach [.GeneratorExp elt [⟨.Tuple [.Name x px, .Name y py] kt pt, .Call (.Name "zip" zp) [e1, e2] [] zpos, [], 0⟩] scope gpos] X.env = (false, eval (.GeneratorExp elt [⟨.Tuple [.Name x px, .Name y py] kt pt, .Call (.Name "zip" zp) [e1, e2] [] zpos, [], 0⟩] scope gpos) X.env) :: starEach [] X.env := by rfl) :
    EX X (.Call (.Name "all" p) [.GeneratorExp elt [⟨.Tuple [.Name x px, .Name y py] kt pt, .Call (.Name "zip" zp) [e1, e2] [] zpos, [], 0⟩] scope gpos] [] pos) Γ H (.bl ((ns.zip ms).all pb)) := fun σ H1 Q g m q =>
  RE.of (pe_allZ (pb := pb) hr hg hm PyProof.Rows.boot_all TB hcode S Sy hxy hgz hmz (pa_cons re (pa_cons re pa_nil hst2) hst) hel hs hst hpl he) (h1 σ H1 _ g m fun v H2 g2 tv => h2 σ H2 _ (g.trans g2) (m.ge g2) fun u H3 g3 tu => by
    obtain ⟨a, xs, rfl, ha, t⟩ := tv.tup_eq
    obtain ⟨b, ys, rfl, hb, t'⟩ := tu.tup_eq
    cases t.ints_eq
    cases t'.ints_eq
    have tg2 := ((g.trans g2).trans g3).tab tg
    exact ⟨a, b, ns, ms, rfl, g3.tup ha, hb, tg2, fun H4 tb => q _ H4 ((g2.trans g3).trans (Ge.tabbed tg2 tb)) (.bl _)⟩)
end
theorem gen_base {X : Cx} {pins : List (Addr × Obj)} {σ : L2.St} {H1 : Hp} {s1 s₂ : Shared} {P : Addr} (I : Inv X pins σ H1 s1) (tg : TabG H1 P) (hk : ∀ b o, b ≠ P → s1.heap.get? b = some o → s₂.heap.get? b = some o) : ∀ b o, X.base.get? b = some o → s₂.heap.get? b = some o := fun b o e => by
  obtain ⟨h1, h2⟩ := I.bs b o e
  refine hk b o (fun z => ?_) h1
  obtain ⟨ps, hp, _⟩ := tg
  rw [z, hp] at h2
  cases h2
theorem cell_there {H1 : Hp} {s1 s₂ : Shared} {P c : Addr} {v : Option Value} (hc : s1.heap.IsCell c v) (hn : H1 c = none) (tg : TabG H1 P) (hk : ∀ b o, b ≠ P → s1.heap.get? b = some o → s₂.heap.get? b = some o) : s₂.heap.IsCell c v := by
  obtain ⟨o, ho, hd⟩ := hc
  refine ⟨o, hk c o (fun z => ?_) ho, hd⟩
  obtain ⟨ps, hp, _⟩ := tg
  rw [z, hp] at hn
  cases hn
theorem dep_lt {k : Nat} {A A' : Around} (hr : Room k A) (h : A'.depth ≤ A.depth + 1) : A'.depth < recursionLimit := by
  have := hr.dp
  omega
theorem IsCell.kp {s s' : Shared} {c : Addr} {v : Option Value} (h : s.heap.IsCell c v) (k : Keeps s s') : s'.heap.IsCell c v := by
  obtain ⟨h', tk, e, kk⟩ := k
  rw [e]
  exact h.keeps kk
section
variable {P : Program} {w : World} {K : PySem.W.Frag} {mg : Str → Option Value} {base : Heap} {f fN c1 P1 : Addr} {fd fdN : FuncData}
def R_is_perm : List Dt → Dt → Prop := fun ds d => ∃ (row : List Nat) (Q : Nat), ds = [dNs row, dN Q] ∧ row.length = Q ∧ (∀ x, x ∈ row → x < Q) ∧ row.Nodup ∧ Q ≤ 4000 ∧ d = .bl true
theorem sc_is_permutation : FnScope ["value", "many"] ["value", "many"] (defScope s_is_permutation) := ⟨rfl, rfl, rfl, by decide +kernel, rfl, by decide +kernel, by decide +kernel⟩
theorem all_num {row : List Nat} {Q : Nat} (h : ∀ x, x ∈ row → x < Q) : (zs row).all (fun n => decide (0 ≤ n) && decide (n ≤ (Q : Int) - 1)) = true := by
  rw [List.all_eq_true]
  intro n hn
  obtain ⟨m, hm, rfl⟩ := List.mem_map.mp hn
  have := h m hm
  rw [Bool.and_eq_true, decide_eq_true_iff, decide_eq_true_iff]
  have e : Int.ofNat m = (m : Int) := rfl
  rw [e]
  omega
theorem zs_nodup {row : List Nat} (h : row.Nodup) : (zs row).Nodup := h.map (f := Int.ofNat) fun a b h e => h (Int.ofNat_inj.mp e)
theorem zs_len (row : List Nat) : (zs row).length = row.length := List.length_map ..
structure IpIn where
  d : Dt
  row : List Nat
  Q : Nat
def ipArgs (y : IpIn) : List Dt := [y.d, dN y.Q]
def ipPre (P1 : Addr) (y : IpIn) (H : Hp) : Prop := FzD H y.d y.row ∧ y.row.length = y.Q ∧ (∀ x, x ∈ y.row → x < y.Q) ∧ y.row.Nodup ∧ y.Q ≤ 4000 ∧ TabG H P1
def ipPost (_ : IpIn) (H : Hp) (d : Dt) (H' : Hp) : Prop := Ge H H' ∧ d = .bl true
theorem ok_is_permutationZ (g : Gb mg) (M : Mod K mg base) (FN : FnP K "is_number" "is_number" s_is_number fN fdN) (hN : mg "is_number" = some (.ref fN)) (TB : TabB base mg c1 P1) (F : FnP K "is_permutation" "is_permutation" s_is_permutation f fd) (hcode : fd.code = .ref c1) :
    FnOk P w K mg base CX0 2 f fd ["value", "many"] (spP ipArgs (ipPre P1) ipPost) := by
  refine fn_P F sc_is_permutation (fun y => rfl) fun cdv A outer s H E y hcd hr h => ?_
  obtain ⟨d0, row, Q⟩ := y
  obtain ⟨z, hl, hlt, hnd, hQ, tg⟩ := h
  have z : FzD H d0 row := z
  have hl : row.length = Q := hl
  have hlt : ∀ x, x ∈ row → x < Q := hlt
  have hnd : row.Nodup := hnd
  have hQ : Q ≤ 4000 := hQ
  have hcd1 : cdv = .ref c1 := hcd.1.symm.trans hcode
  subst hcd1
  show SXs _ _ [some d0, some (dN Q)] H _ _
  refine sxs_cons (sx_if (k := false) (tx_wx (wx_or (k := false) (l := false) (tx_not (k := true) (tx_ex (ex_isiQ g.isinstance g.tuple (tq_D (ex_var 0) z)))) fun _ =>
    wx_one_or (tx_cast (tx_cmp (ex_lenQ g.len (tq_D (ex_var 0) z)) (ex_var 1) co_ne) ?_))) (fun z => absurd z (by decide)) fun _ H1 g1 => sxs_nil ?_)
  · rw [List.length_map, hl]
    show (!decide ((Q : Int) = (Q : Int))) = false
    simp
  refine sxs_one (sx_ret (d := .bl true) (ex_cast (ex_and (k := true) (l := true) (ex_cast (ex_all (c := c1) (P := P1) (ns := zs row) (pb := fun n => decide (0 ≤ n) && decide (n ≤ (Q : Int) - 1)) hr g.all TB rfl ⟨rfl, rfl, by decide +kernel, rfl, rfl, ?_⟩ ((tq_D (ex_var 0) (z.ge g1)).cast (zs_dN row)) (g1.tab tg) ?_ (fun _ => rfl)) (by rw [all_num hlt])) fun _ => ex_one (ex_cast (ex_cmp (ex_lenSetQ g.len g.set ((tq_D (ex_var 0) (z.ge g1)).cast (zs_dN row)) (zs_nodup hnd) (by rw [zs_len]; omega) rfl) (ex_var 1) co_eq) ?_)) rfl) fun H2 g2 => ⟨g1.trans g2, rfl⟩)
  · intro y hy hf
    have : y.1 = "many" := by
      simp only [List.mem_cons, List.not_mem_nil, or_false] at hy
      rcases hy with rfl | rfl | rfl | rfl
      · cases hf
      · cases hf
      · rfl
      · cases hf
    rw [this]
    exact cell_has rfl
  · intro pins σ s1 H2 I m tg2 g2 C code A' E' n t s₂ m₂ hn hh hdep hu hns hm hk
    obtain ⟨c, v, u, hc, hcell, hcn, rv, tv⟩ := cell_at (i := 1) I m rfl rfl rfl
    cases tv.int_eq
    obtain ⟨t2, rfl⟩ := rv
    have hb := gen_base I tg2 hk
    refine isn_elt (K := K) (base := base) g M FN hN rfl rfl rfl rfl (by decide) ?_ hb hns hm fun s3 k3 => ?_
    · exact dep_lt hr hdep
    · refine wpAny_BinOp (ldFreeG (c := c) ?_ (IsCell.kp (cell_there hcell hcn tg2 hk) k3) ?_)
      · show some ((_ : Option Addr).getD 0) = some c
        rw [hc]
        rfl
      · refine wpAny_Constant_int (sub_int ?_)
        exact ⟨⟨_, rfl⟩, _, _, rfl, fun _ _ e => e⟩
  · rw [zs_len, hl]
    show Dt.bl (decide ((Q : Int) = (Q : Int))) = .bl true
    simp
theorem ok_is_permutation (h : FnOk P w K mg base CX0 2 f fd ["value", "many"] (spP ipArgs (ipPre P1) ipPost)) : FnOk P w K mg base CX0 2 f fd ["value", "many"] (spF [P1] R_is_perm) :=
  h.imp fun vs H Q E ⟨ds, d, t, ⟨row, q, e, hl, hlt, hnd, hq, ed⟩, tg, k⟩ => ⟨⟨dNs row, row, q⟩, by rw [e] at t; exact t, ⟨.inl rfl, hl, hlt, hnd, hq, tg P1 List.mem_cons_self⟩, fun d' v H2 tv ⟨g, e'⟩ => k v H2 g (by rw [ed, ← e']; exact tv)⟩
def LotOk (P : Nat) (lot : List Nat) : Prop := lot ≠ [] ∧ (∀ p, p ∈ lot → p < P) ∧ lot.Pairwise (· < ·) ∧ lot.length ≤ 100
theorem zip_lt : ∀ {lot : List Nat}, lot.Pairwise (· < ·) → ((zs lot).zip ((zs lot).drop 1)).all (fun q => decide (q.1 < q.2)) = true
  | [], _ => rfl
  | [a], _ => rfl
  | a :: b :: l, h => by
    have ih := zip_lt (lot := b :: l) (List.pairwise_cons.mp h).2
    have hab : a < b := (List.pairwise_cons.mp h).1 b List.mem_cons_self
    show (decide ((a : Int) < (b : Int)) && _) = true
    rw [Bool.and_eq_true]
    exact ⟨decide_eq_true (by omega), ih⟩
def R_need_lot : List Dt → Dt → Prop := fun ds d => ∃ (h : Habit) (lot : List Nat), ds = [dH h, dNs lot] ∧ LotOk h.length lot ∧ d = .non
theorem sc_need_lot : FnScope ["habit", "value"] ["habit", "value"] (defScope s_need_lot) := ⟨rfl, rfl, rfl, by decide +kernel, rfl, by decide +kernel, by decide +kernel⟩
theorem ok_need_lot (g : Gb mg) (M : Mod K mg base) (FN : FnP K "is_number" "is_number" s_is_number fN fdN) (hN : mg "is_number" = some (.ref fN)) (TB : TabB base mg c1 P1) (F : FnP K "need_lot" "need_lot" s_need_lot f fd) (hcode : fd.code = .ref c1) :
    FnOk P w K mg base CX0 2 f fd ["habit", "value"] (spF [P1] R_need_lot) := by
  refine fn_F F sc_need_lot (fun ds d h => ?_) fun cdv A outer s H E ds d hcd hr h hT => ?_
  · obtain ⟨_, _, rfl, _⟩ := h
    rfl
  · obtain ⟨h, lot, rfl, ⟨hne, hlt, hpw, hl100⟩, rfl⟩ := h
    have hcd1 : cdv = .ref c1 := hcd.1.symm.trans hcode
    subst hcd1
    have tg := hT P1 (by simp)
    have hem : (!(lot.map dN).isEmpty) = true := by cases lot with
      | nil => exact absurd rfl hne
      | cons a l => rfl
    refine sxs_cons (sx_if (k := false) (tx_wx (wx_or (k := false) (l := false) (tx_not (k := true) (tx_ex (ex_isi (x := "tuple") (k := true) g.isinstance g.tuple rfl (ex_var 1) (.tup _) (by decide +kernel)))) fun _ =>
      wx_or (k := false) (l := false) (tx_not (k := true) (tx_cast (tx_tupT (ex_var 1)) hem)) fun _ =>
      wx_one_or (tx_not (k := true) (tx_ex (ex_cast (ex_all (c := c1) (P := P1) (ns := zs lot) (pb := fun n => decide (0 ≤ n) && decide (n ≤ (h.length : Int) - 1)) hr g.all TB rfl ⟨rfl, rfl, by decide +kernel, rfl, rfl, ?_⟩ (EX.tq (ex_cast (ex_var 1) (dNs_zs lot))) tg ?_ (fun _ => rfl)) (by rw [all_num hlt])))))) (fun z => absurd z (by decide)) fun _ H1 g1 => sxs_nil ?_)
    · intro y hy hf
      have : y.1 = "habit" := by
        simp only [List.mem_cons, List.not_mem_nil, or_false] at hy
        rcases hy with rfl | rfl | rfl | rfl | rfl
        · cases hf
        · cases hf
        · rfl
        · cases hf
        · cases hf
      rw [this]
      exact cell_has rfl
    · intro pins σ s1 H2 I m tg2 g2 C code A' E' n t s₂ m₂ hn hh hdep hu hns hm hk
      obtain ⟨c, v, u, hc, hcell, hcn, rv, tv⟩ := cell_at (i := 0) I m rfl rfl rfl
      obtain ⟨a, xs, rfl, ha, ta⟩ := tv.tup_eq
      cases rv
      obtain ⟨its, r, pl, hz⟩ := I.tuple (SqT.of ha)
      have hb := gen_base I tg2 hk
      refine isn_elt (K := K) (base := base) g M FN hN rfl rfl rfl rfl (by decide) ?_ hb hns hm fun s3 k3 => ?_
      · exact dep_lt hr hdep
      · have hb3 : ∀ b o, base.get? b = some o → s3.heap.get? b = some o := fun b o e => by
          obtain ⟨h', tk, e2, k⟩ := k3
          rw [e2]
          exact k b o (hb b o e)
        have pl3 : IsTup s3.heap a its.toArray := by
          obtain ⟨o, ho, hcc⟩ := pl
          obtain ⟨h', tk, e2, k⟩ := k3
          rw [e2]
          refine ⟨o, k a o (hk a o (fun z => ?_) ho), hcc⟩
          obtain ⟨ps, hp, _⟩ := tg2
          rw [z, hp] at ha
          cases ha
        have hlen : its.length = h.length := by rw [← r.length, ta.length, List.length_map]
        refine wpAny_BinOp ?_
        obtain ⟨mb, hm1, hm2⟩ := M.blt
        refine wpAny_Call_Name_kw (Calls.Name_function_global rfl rfl (Calls.loadGlobal_builtin (M.glob.keeps hb3) g.len (hm1.keeps hb3) ((hm2 "len" (by decide)).trans boot_len) ?_) (by decide))
        refine PyProof.Rows.callWith_builtin1 ?_ rfl rfl
        refine Calls.spliced_cons (ldFreeG (c := c) ?_ (IsCell.kp (cell_there hcell hcn tg2 hk) k3) ?_)
        · show some ((_ : Option Addr).getD 0) = some c
          rw [hc]
          rfl
        · refine Calls.spliced_nil (len_tuple pl3 ?_ ?_)
          · have := line63
            rw [List.size_toArray, hlen]
            rw [ta.length, List.length_map] at hz
            omega
          · refine wpAny_Constant_int (sub_int ?_)
            have esz : its.toArray.size = h.length := by rw [List.size_toArray, hlen]
            rw [esz]
            exact ⟨⟨_, rfl⟩, _, _, rfl, fun _ _ e => e⟩
    refine sxs_one (sx_if (k := false) (tx_not (k := true) (tx_ex (ex_cast (ex_allZ (c := c1) (P := P1) (ns := zs lot) (ms := (zs lot).drop 1) (pb := fun q => decide (q.1 < q.2)) hr g.all TB rfl ⟨rfl, rfl, by decide +kernel, rfl, rfl, ?_⟩ rfl (by decide) g.zip (ex_cast (ex_var 1) (dNs_zs lot)) (ex_cast (ex_from (k := 1) (ex_cast (ex_var 1) (dNs_zs lot)) ex_int) ?_) (g1.tab tg) ?_ (fun _ => rfl)) (by rw [zip_lt hpw])))) (fun z => absurd z (by decide)) fun _ H2 g2 => sxs_nil ⟨g1.trans g2, rfl⟩)
    · intro y hy hf
      simp only [List.mem_cons, List.not_mem_nil, or_false] at hy
      rcases hy with rfl | rfl | rfl <;> cases hf
    · rw [List.map_drop]
    · intro C code A' E' n m t u s₂ m₂ hh hns hm1 hm2
      refine wpAny_Compare1 (wpAny_Name (wpAny_loadName_local rfl rfl hns hm1 ?_) (by decide))
      refine wpAny_Name (wpAny_loadName_local rfl rfl hns hm2 ?_) (by decide)
      exact PyProof.Rows.lt_int ⟨rfl, keeps_refl _⟩
end
end Lk
set_option Elab.async false
set_option linter.all false
set_option maxRecDepth 100000
set_option maxHeartbeats 4000000
/-! need_habit and its kin. -/
namespace Lk
open PySem PySem.Spec PyProof.Rows L2 GxR
open C8 (Cal Met Mak pe_c pe_mt pe_mk pe_mt0)
theorem sx_try {X : Cx} {body : List Stmt} {h₀ : ExceptHandler} {hs : List ExceptHandler} {pos : Pos} {Γ : Gam} {H : Hp} {nx : Gam → Hp → Prop} {rt : Dt → Hp → Prop} (h : SXs X.nox body Γ H nx rt) : SX X (.Try body (h₀ :: hs) [] [] pos) Γ H nx rt := fun σ m =>
  RS.of (ps_try_thru0 rss) (h σ m)
theorem list_getD {α β : Type} {l : List α} (g : α → β) {k : Nat} (h : k < l.length) : (l.map g)[k]? = some (g l[k]) := by rw [List.getElem?_map, List.getElem?_eq_getElem h]; rfl
section
variable {P : Program} {w : World} {K : PySem.W.Frag} {mg : Str → Option Value} {base : Heap} {f P1 : Addr} {fd : FuncData}
def R_need_habit : List Dt → Dt → Prop := fun ds d => ∃ (Q : Nat) (h : Habit), ds = [dH h] ∧ HabOk Q h ∧ 2 ≤ Q ∧ Q ≤ 5 ∧ d = .non
abbrev N_nh : List Str := ["value", "place", "moved"]
theorem sc_need_habit : FnScope N_nh ["value"] (defScope s_need_habit) := ⟨rfl, rfl, rfl, by decide +kernel, rfl, by decide +kernel, by decide +kernel⟩
theorem ok_need_habit (g : Gb mg) (cP : Cal P w K mg base 2 "is_permutation" (spF [P1] R_is_perm) []) (F : FnP K "need_habit" "need_habit" s_need_habit f fd) : FnOk P w K mg base CX0 3 f fd ["value"] (spF [P1] R_need_habit) := by
  refine fn_F F sc_need_habit (fun ds d h => ?_) fun cdv A outer s H E ds d hcd hr h hT => ?_
  · obtain ⟨_, _, rfl, _⟩ := h
    rfl
  · obtain ⟨Q, h, rfl, o, h2, h5, rfl⟩ := h
    have tg := hT P1 (by simp)
    refine sxs_cons (sx_if (k := false) (tx_wx (wx_or (k := false) (l := false) (tx_not (k := true) (tx_ex (ex_isi (x := "tuple") (k := true) g.isinstance g.tuple rfl (ex_var 0) (.tup _) (by decide +kernel)))) fun _ =>
      wx_one_or (tx_not (k := true) (tx_cast (tx_chain op_le op_le (gi g.LEAST_PLACES) (ex_len g.len (ex_var 0)) (gi g.MOST_PLACES)) ?_)))) (fun z => absurd z (by decide)) fun _ H1 g1 => sxs_nil ?_)
    · rw [List.length_map, o.len, Bool.and_eq_true, decide_eq_true_iff, decide_eq_true_iff]
      omega
    refine sxs_one (sx_forS (src_enum (i := 1) (j := 2) (ex_var 0) g.enumerate) (fun _ _ g => g.t) (pg_pair rfl sc_need_habit.nd) (fun k Γ' => ∃ x1 x2, Γ' = [some (dH h), x1, x2]) ⟨_, _, rfl⟩ ?_ (fun Γ' H2 _ g2 => ⟨g1.trans g2, rfl⟩) PassesOwn.never rfl)
    rintro k Γ' H2 hk ⟨x1, x2, rfl⟩ g2
    rw [List.length_map] at hk
    simp only [list_getD dNs hk]
    have hm := o.row _ (List.getElem_mem hk)
    refine sxs_one (sx_if (k := false) (tx_not (k := true) (tx_ex (ex_call cP (ax_cons (ex_var 2) (ax_cons (ex_len g.len (ex_var 0)) ax_nil)) ⟨h[k], Q, by rw [List.length_map, o.len], hm.1, hm.2.1, hm.2.2, by omega, rfl⟩ hr (fun P hP => by rw [List.mem_singleton.mp hP]; exact (g1.trans g2).tab tg)))) (fun z => absurd z (by decide)) fun _ H3 g3 => sxs_nil ⟨g3, _, _, rfl⟩)
structure NlIn where
  h : Habit
  d : Dt
  st : List Nat
def nlArgs (y : NlIn) : List Dt := [dH y.h, y.d]
def nlPre (P1 : Addr) (y : NlIn) (H : Hp) : Prop := FzD H y.d y.st ∧ y.st.length = y.h.length ∧ (∀ x, x ∈ y.st → x < y.h.length) ∧ y.st.Nodup ∧ y.h.length ≤ 4000 ∧ TabG H P1
def nlPost (_ : NlIn) (H : Hp) (d : Dt) (H' : Hp) : Prop := Ge H H' ∧ d = .non
theorem sc_need_layout : FnScope ["habit", "value"] ["habit", "value"] (defScope s_need_layout) := ⟨rfl, rfl, rfl, by decide +kernel, rfl, by decide +kernel, by decide +kernel⟩
theorem ok_need_layout (g : Gb mg) (cP : Cal P w K mg base 2 "is_permutation" (spP ipArgs (ipPre P1) ipPost) []) (F : FnP K "need_layout" "need_layout" s_need_layout f fd) : FnOk P w K mg base CX0 3 f fd ["habit", "value"] (spP nlArgs (nlPre P1) nlPost) := by
  refine fn_P F sc_need_layout (fun y => rfl) fun cdv A outer s H E y hcd hr h => ?_
  obtain ⟨h, d0, st⟩ := y
  obtain ⟨z, hl, hlt, hnd, hP, tg⟩ := h
  have z : FzD H d0 st := z
  show SXs _ _ [some (dH h), some d0] H _ _
  refine sxs_one (sx_if (k := false) (tx_not (k := true) (tx_ex (ex_callG cP ⟨d0, st, h.length⟩ (ax_cons (ex_var 1) (ax_cons (ex_cast (ex_len g.len (ex_var 0)) (by rw [List.length_map])) ax_nil)) (fun H1 g1 => ⟨z.ge g1, hl, hlt, hnd, hP, g1.tab tg⟩) (fun _ _ _ p => p) hr))) (fun z => absurd z (by decide)) fun _ H3 g3 => sxs_nil ⟨g3, rfl⟩)
def nsPre (P1 : Addr) (y : NlIn) (H : Hp) : Prop := (∃ Q, HabOk Q y.h ∧ 2 ≤ Q ∧ Q ≤ 5 ∧ y.st.length = Q ∧ (∀ x, x ∈ y.st → x < Q)) ∧ FzD H y.d y.st ∧ y.st.Nodup ∧ TabG H P1
theorem sc_need_shelf : FnScope ["habit", "layout"] ["habit", "layout"] (defScope s_need_shelf) := ⟨rfl, rfl, rfl, by decide +kernel, rfl, by decide +kernel, by decide +kernel⟩
theorem ok_need_shelf (cH : Cal P w K mg base 3 "need_habit" (spF [P1] R_need_habit) []) (cL : Cal P w K mg base 3 "need_layout" (spP nlArgs (nlPre P1) nlPost) []) (F : FnP K "need_shelf" "need_shelf" s_need_shelf f fd) : FnOk P w K mg base CX0 4 f fd ["habit", "layout"] (spP nlArgs (nsPre P1) nlPost) := by
  refine fn_P F sc_need_shelf (fun y => rfl) fun cdv A outer s H E y hcd hr h => ?_
  obtain ⟨h, d0, st⟩ := y
  obtain ⟨⟨Q, o, h2, h5, hl, hlt⟩, z, hnd, tg⟩ := h
  have z : FzD H d0 st := z
  have o : HabOk Q h := o
  show SXs _ _ [some (dH h), some d0] H _ _
  refine sxs_cons (sx_expr (ex_call cH (ax_cons (ex_var 0) ax_nil) ⟨Q, h, rfl, o, h2, h5, rfl⟩ hr (fun P hP => by rw [List.mem_singleton.mp hP]; exact tg)) fun H1 g1 => ?_)
  exact sxs_one (sx_expr (ex_callG cL ⟨h, d0, st⟩ (ax_cons (ex_var 0) (ax_cons (ex_var 1) ax_nil)) (fun H2 g2 => ⟨z.ge (g1.trans g2), by rw [o.len]; exact hl, by rw [o.len]; exact hlt, hnd, by show h.length ≤ 4000; rw [o.len]; omega, (g1.trans g2).tab tg⟩) (fun _ _ _ p => p) hr) fun H2 g2 => ⟨g1.trans g2, rfl⟩)
/-! behind_touch, of tuples that are frozen -/
structure BhIn where
  h : Habit
  d : Dt
  st : List Nat
  p : Nat
  Q : Nat
def bhArgs (y : BhIn) : List Dt := [dH y.h, y.d, dN y.p]
def bhPre (y : BhIn) (H : Hp) : Prop := FzD H y.d y.st ∧ HabOk y.Q y.h ∧ y.p < y.Q ∧ (∀ x, x ∈ y.st → x < y.Q) ∧ y.st.length ≤ 100
def bhPost (y : BhIn) (H : Hp) (d : Dt) (H' : Hp) : Prop := Ge H H' ∧ Fz H' d (y.st.map (stp y.h y.p))
theorem ok_behind_touchZ (g : Gb mg) (F : FnP K "behind_touch" "behind_touch" s_behind_touch f fd) : FnOk P w K mg base CX0 1 f fd ["habit", "layout", "place"] (spP bhArgs bhPre bhPost) := by
  refine fn_P F sc_behind_touch (fun y => rfl) fun cdv A outer s H E y hcd hr h => ?_
  obtain ⟨h, d0, st, p, Q⟩ := y
  obtain ⟨z, o, hp, hst, hl⟩ := h
  have z : FzD H d0 st := z
  have o : HabOk Q h := o
  have hp : p < Q := hp
  have hst : ∀ x, x ∈ st → x < Q := hst
  have hl : st.length ≤ 100 := hl
  show SXs _ _ [some (dH h), some d0, some (dN p), none] H _ _
  refine sxs_one (sx_retM (mx_fx (ns := st.map (stp h p)) (fx_tupD (LX.ld (LX.cast (lx_lc (own := [("stands", 3)]) (f := fun k' => st[k']?.map fun x => dN (stp h p x)) (src_tupQ (i := 3) (tq_D (ex_var 1) z)) (fun _ _ g => g.keepF) ?_ (blkOk_by (by show blkC N_bt (defScope s_behind_touch) _ _ = true; decide +kernel)) (by decide)
      (fun _ _ _ _ _ => pgn sc_behind_touch.nd) ?_ ?_ rfl sc_behind_touch.nd) ?_)) g.tuple) fun a H1 g1 z1 => ⟨g1, z1⟩))
  · rw [List.length_map]; exact Nat.le_of_lt (size4k (by omega))
  · intro s' H0 C cl fp k' H5 hk' g5
    rw [List.length_map] at hk'
    rw [List.getElem?_eq_getElem hk']
    exact txs_nil
  · intro s' H0 C cl fp k' d H5 hk' hd g5
    rw [List.length_map] at hk'
    rw [List.getElem?_eq_getElem hk'] at hd
    cases hd
    have e' : (st.map dN)[k']? = some (dN st[k']) := by rw [List.getElem?_map, List.getElem?_eq_getElem hk']; rfl
    simp only [e']
    exact ex_stp o hp (hst _ (List.getElem_mem hk')) (ex_var 0) (ex_var 2) (ex_var 3)
  · rw [List.length_map, keepD_all, List.map_map]
    rfl
def R_needs (n : Nat) : List Dt → Dt → Prop := fun ds d => ∃ (Q : Nat) (h : Habit) (hs : List Habit), ds = [dHs (h :: hs)] ∧ (∀ x, x ∈ h :: hs → HabOk Q x) ∧ 2 ≤ Q ∧ Q ≤ 5 ∧ (h :: hs).length ≤ n ∧ d = .non
abbrev N_ns : List Str := ["value", "index", "habit"]
theorem sc_need_habits : FnScope N_ns ["value"] (defScope s_need_habits) := ⟨rfl, rfl, rfl, by decide +kernel, rfl, by decide +kernel, by decide +kernel⟩
theorem ok_need_habits (g : Gb mg) (cH : Cal P w K mg base 3 "need_habit" (spF [P1] R_need_habit) []) (F : FnP K "need_habits" "need_habits" s_need_habits f fd) : FnOk P w K mg base CX0 4 f fd ["value"] (spF [P1] (R_needs 3)) := by
  refine fn_F F sc_need_habits (fun ds d h => ?_) fun cdv A outer s H E ds d hcd hr h hT => ?_
  · obtain ⟨_, _, _, rfl, _⟩ := h
    rfl
  · obtain ⟨Q, h, hs, rfl, o, h2, h5, hn, rfl⟩ := h
    refine sxs_cons (sx_if (k := false) (tx_wx (wx_or (k := false) (l := false) (tx_not (k := true) (tx_ex (ex_isi (x := "tuple") (k := true) g.isinstance g.tuple rfl (ex_var 0) (.tup _) (by decide +kernel)))) fun _ =>
      wx_one_or (tx_not (k := true) (tx_cast (tx_chain op_le op_le ex_int (ex_len g.len (ex_var 0)) (gi g.MOST_HABITS)) ?_)))) (fun z => absurd z (by decide)) fun _ H1 g1 => sxs_nil ?_)
    · rw [List.length_map, Bool.and_eq_true, decide_eq_true_iff, decide_eq_true_iff]
      rw [List.length_cons] at hn ⊢
      omega
    refine sxs_one (sx_forS (src_enum (i := 1) (j := 2) (ex_var 0) g.enumerate) (fun _ _ g => g.t) (pg_pair rfl sc_need_habits.nd) (fun k Γ' => ∃ x1 x2, Γ' = [some (dHs (h :: hs)), x1, x2]) ⟨_, _, rfl⟩ ?_ (fun Γ' H2 _ g2 => ⟨g1.trans g2, rfl⟩) PassesOwn.never rfl)
    rintro k Γ' H2 hk ⟨x1, x2, rfl⟩ g2
    rw [List.length_map] at hk
    simp only [list_getD dH hk]
    have hm := o _ (List.getElem_mem hk)
    refine sxs_cons (sx_try (sxs_one (sx_expr (ex_call cH (ax_cons (ex_var 2) ax_nil) ⟨Q, _, rfl, hm, h2, h5, rfl⟩ hr (fun P hP => (g1.trans g2).tab (hT P hP))) fun H3 g3 => ?_)))
    refine sxs_one (sx_if (k := false) (tx_cast (tx_cmp (ex_len g.len (ex_var 2)) (ex_len g.len (at0 (ex_var 0))) co_ne) ?_) (fun z => absurd z (by decide)) fun _ H4 g4 => sxs_nil ⟨g3.trans g4, _, _, rfl⟩)
    rw [List.length_map, List.length_map, hm.len, (o h List.mem_cons_self).len]
    show (!decide ((Q : Int) = (Q : Int))) = false
    simp
theorem sc_need_many : FnScope N_ns ["value"] (defScope s_need_many) := ⟨rfl, rfl, rfl, by decide +kernel, rfl, by decide +kernel, by decide +kernel⟩
theorem ok_need_many (g : Gb mg) (cH : Cal P w K mg base 3 "need_habit" (spF [P1] R_need_habit) []) (F : FnP K "need_many" "need_many" s_need_many f fd) : FnOk P w K mg base CX0 4 f fd ["value"] (spF [P1] (R_needs 5)) := by
  refine fn_F F sc_need_many (fun ds d h => ?_) fun cdv A outer s H E ds d hcd hr h hT => ?_
  · obtain ⟨_, _, _, rfl, _⟩ := h
    rfl
  · obtain ⟨Q, h, hs, rfl, o, h2, h5, hn, rfl⟩ := h
    refine sxs_cons (sx_if (k := false) (tx_wx (wx_or (k := false) (l := false) (tx_not (k := true) (tx_ex (ex_isi (x := "tuple") (k := true) g.isinstance g.tuple rfl (ex_var 0) (.tup _) (by decide +kernel)))) fun _ =>
      wx_one_or (tx_not (k := true) (tx_cast (tx_chain op_le op_le ex_int (ex_len g.len (ex_var 0)) (gi g.MOST_MANY)) ?_)))) (fun z => absurd z (by decide)) fun _ H1 g1 => sxs_nil ?_)
    · rw [List.length_map, Bool.and_eq_true, decide_eq_true_iff, decide_eq_true_iff]
      rw [List.length_cons] at hn ⊢
      omega
    refine sxs_one (sx_forS (src_enum (i := 1) (j := 2) (ex_var 0) g.enumerate) (fun _ _ g => g.t) (pg_pair rfl sc_need_many.nd) (fun k Γ' => ∃ x1 x2, Γ' = [some (dHs (h :: hs)), x1, x2]) ⟨_, _, rfl⟩ ?_ (fun Γ' H2 _ g2 => ⟨g1.trans g2, rfl⟩) PassesOwn.never rfl)
    rintro k Γ' H2 hk ⟨x1, x2, rfl⟩ g2
    rw [List.length_map] at hk
    simp only [list_getD dH hk]
    have hm := o _ (List.getElem_mem hk)
    refine sxs_cons (sx_try (sxs_one (sx_expr (ex_call cH (ax_cons (ex_var 2) ax_nil) ⟨Q, _, rfl, hm, h2, h5, rfl⟩ hr (fun P hP => (g1.trans g2).tab (hT P hP))) fun H3 g3 => ?_)))
    refine sxs_one (sx_if (k := false) (tx_cast (tx_cmp (ex_len g.len (ex_var 2)) (ex_len g.len (at0 (ex_var 0))) co_ne) ?_) (fun z => absurd z (by decide)) fun _ H4 g4 => sxs_nil ⟨g3.trans g4, _, _, rfl⟩)
    rw [List.length_map, List.length_map, hm.len, (o h List.mem_cons_self).len]
    show (!decide ((Q : Int) = (Q : Int))) = false
    simp
def R_need_two : List Dt → Dt → Prop := fun ds d => ∃ (Q : Nat) (h o : Habit), ds = [dH h, dH o] ∧ HabOk Q h ∧ HabOk Q o ∧ 2 ≤ Q ∧ Q ≤ 5 ∧ d = .non
theorem sc_need_two : FnScope ["habit", "other"] ["habit", "other"] (defScope s_need_two) := ⟨rfl, rfl, rfl, by decide +kernel, rfl, by decide +kernel, by decide +kernel⟩
theorem ok_need_two (cH : Cal P w K mg base 4 "need_habits" (spF [P1] (R_needs 3)) []) (F : FnP K "need_two" "need_two" s_need_two f fd) : FnOk P w K mg base CX0 5 f fd ["habit", "other"] (spF [P1] R_need_two) := by
  refine fn_F F sc_need_two (fun ds d h => ?_) fun cdv A outer s H E ds d hcd hr h hT => ?_
  · obtain ⟨_, _, _, rfl, _⟩ := h
    rfl
  · obtain ⟨Q, h, o, rfl, hh, ho, h2, h5, rfl⟩ := h
    refine sxs_one (sx_expr (ex_call cH (ax_cons (ex_tup (ax_cons (ex_var 0) (ax_cons (ex_var 1) ax_nil))) ax_nil) ⟨Q, h, [o], rfl, fun x hx => ?_, h2, h5, Nat.le_of_ble_eq_true rfl, rfl⟩ hr hT) fun H1 g1 => ⟨g1, rfl⟩)
    rcases List.mem_cons.mp hx with rfl | hx
    · exact hh
    · rw [List.mem_singleton.mp hx]; exact ho
end
end Lk
set_option Elab.async false
set_option linter.all false
set_option maxRecDepth 100000
set_option maxHeartbeats 4000000
/-! alike_paper. -/
namespace Lk
open PySem PySem.Spec PyProof.Rows L2 GxR
open C8 (Cal Met Mak pe_c pe_mt pe_mk pe_mt0)
section
variable {X : Cx} {e a b c : Expr} {es : List Expr} {Γ : Gam} {H H1 : Hp} {d da db : Dt} {pos : Pos}
theorem mt_notN {K : Bool → Hp → Prop} {j : Nat} {pos' : Pos} (ha : MX X a Γ H fun d H1 => K (!isN d) H1) (hm : behindInMarks .IsNot (.Constant .none j pos') = false := by rfl) : MT X (.Compare a [.IsNot] [.Constant .none j pos'] pos) Γ H K := fun σ m =>
  RT.of (pt_cmpR op_notN re pe_non hm) ((ha σ m).mono fun v H1 ⟨d, tv, m1, k⟩ => ⟨rfl, _, rfl, m1, by rw [isN_of tv]; exact k⟩)
theorem mx_notN {K : Dt → Hp → Prop} {j : Nat} {pos' : Pos} (ha : MX X a Γ H fun d H1 => K (.bl (!isN d)) H1) (hm : behindInMarks .IsNot (.Constant .none j pos') = false := by rfl) : MX X (.Compare a [.IsNot] [.Constant .none j pos'] pos) Γ H K := fun σ m =>
  RE.of (pe_cmpR op_notN re pe_non hm) ((ha σ m).mono fun v H1 ⟨d, tv, m1, k⟩ => ⟨rfl, _, .bl _, m1, by rw [isN_of tv]; exact k⟩)
theorem mx_tupM {p : Pos} {K : Dt → Hp → Prop} (ha : MX X a Γ H fun d H1 => ∃ l vs ds, d = .ref l ∧ H1 l = some (.lst vs) ∧ TpA H1 vs ds ∧ ∀ H2, Ge H1 H2 → K (.tup ds) H2) (hm : X.mg "tuple" = none) (hg : Gl X "tuple" := by rfl) (na : starEach [a] X.env = (false, eval a X.env) :: starEach [] X.env := by rfl) :
    MX X (.Call (.Name "tuple" p) [a] [] pos) Γ H K := fun σ m =>
  RE.of (pe_tupleOf hg hm re na) ((ha σ m).mono fun v H1 ⟨d, tv, m1, l, vs, ds, ed, hl, t, k⟩ => by
    subst ed
    exact .inl ⟨l, vs, tv.ref_eq, SqL.of hl, fun r hr => ⟨.tup ds, .tup upd_same (t.ge (Ge.new hr)), m1.ge (Ge.new hr), k _ (Ge.new hr)⟩⟩)
end
section
variable {P : Program} {w : World} {K : PySem.W.Frag} {mg : Str → Option Value} {base : Heap} {f P1 P2 : Addr} {fd : FuncData}
abbrev N_ap : List Str := ["habit", "other", "lot"]
theorem sc_alike_paper : FnScope N_ap ["habit", "other", "lot"] (defScope s_alike_paper) := ⟨rfl, rfl, rfl, by decide +kernel, rfl, by decide +kernel, by decide +kernel⟩
def apPre (P1 P2 : Addr) (y : MfIn) (H : Hp) : Prop := Ok [y.h, y.o] y.lot [0, 1] y.P ∧ LotOk y.P y.lot ∧ 2 ≤ y.P ∧ y.P ≤ 5 ∧ TabG H P1 ∧ TabG H P2
def apPost (y : MfIn) (H : Hp) (d : Dt) (H' : Hp) : Prop := Ge H H' ∧ isN d = !alikeB y.h y.o y.lot
theorem ok_alike_paper (g : Gb mg) (cT : Cal P w K mg base 5 "need_two" (spF [P1] R_need_two) []) (cL : Cal P w K mg base 2 "need_lot" (spF [P2] R_need_lot) []) (cS : Cal P w K mg base 2 "shortest_test" (spP mfArgs stPre stPost) []) (cM : Cal P w K mg base 1 "marks_from" (spP mfArgs mfPre mfPost) [])
    (F : FnP K "alike_paper" "alike_paper" s_alike_paper f fd) : FnOk P w K mg base CX0 6 f fd ["habit", "other", "lot"] (spP mfArgs (apPre P1 P2) apPost) := by
  refine fn_P F sc_alike_paper (fun y => rfl) fun cdv A outer s H E y _ hr h => ?_
  obtain ⟨h, o, lot, Q⟩ := y
  obtain ⟨ok, hlot, h2, h5, t1, t2⟩ := h
  have ok : Ok [h, o] lot [0, 1] Q := ok
  have hh : HabOk Q h := ok.hab 0 (by simp)
  have ho : HabOk Q o := ok.hab 1 (by simp)
  have hlot : LotOk Q lot := hlot
  refine sxs_cons (sx_expr (ex_call cT (ax_cons (ex_var 0) (ax_cons (ex_var 1) ax_nil)) ⟨Q, h, o, rfl, hh, ho, h2, h5, rfl⟩ hr (fun P hP => by rw [List.mem_singleton.mp hP]; exact t1)) fun H1 g1 => ?_)
  refine sxs_cons (sx_expr (ex_call cL (ax_cons (ex_var 0) (ax_cons (ex_var 2) ax_nil)) ⟨h, lot, rfl, by rw [hh.len]; exact hlot, rfl⟩ hr (fun P hP => by rw [List.mem_singleton.mp hP]; exact g1.tab t2)) fun H2 g2 => ?_)
  refine sxs_cons (sx_ifM (mt_notN (mx_call cS ⟨h, o, lot, Q⟩ (ax_cons (ex_var 0) (ax_cons (ex_var 1) (ax_cons (ex_var 2) ax_nil))) (fun _ _ => ⟨ok, Nat.le_trans hlot.2.2.2 (by decide)⟩) (fun _ _ _ p => p.1.t) (fun H3 d H4 g3 p => ?_) hr)))
  obtain ⟨g4, p⟩ := p
  have gg : Ge H H4 := ((g1.trans g2).trans g3).trans g4
  rcases p with ⟨rfl, ha⟩ | ⟨⟨ds, rfl⟩, ha⟩
  · rw [show (!isN .non) = false from rfl, if_neg (by decide)]
    refine sxs_nil ?_
    refine sxs_one (sx_retM (mx_tupM (mx_sortD (fα := mdD) (m := marksOf [h, o] lot [0, 1]) g.sorted rfl (mx_call cM ⟨h, o, lot, Q⟩ (ax_cons (ex_var 0) (ax_cons (ex_var 1) (ax_cons (ex_var 2) ax_nil))) (fun _ _ => ok) (fun _ _ _ p => p.1.t) (fun H5 d H6 g5 p => ?_) hr) (fun q hq => ?_) ?_ fun l H5 sk => ?_) g.tuple))
    · obtain ⟨g6, f, kvs, rfl, nf, hf, r⟩ := p
      exact ⟨f, kvs, rfl, g5.trans g6, .inl hf, r⟩
    · have := (marksOf_ok ok).good.lt ok (List.mem_map.mpr ⟨q, hq, rfl⟩)
      intro e
      rw [e] at this
      exact absurd this.1 (by decide)
    · have := (marksOf_ok ok).good.len' ok
      have this : (marksOf [h, o] lot [0, 1]).length ≤ 3200 := this
      omega
    · obtain ⟨g5, nl, ks, vs, hp, hl, t⟩ := sk
      refine ⟨l, vs, _, rfl, hl, t, fun H6 g6 => ⟨(gg.trans g5).trans g6, ?_⟩⟩
      rw [ha]
      rfl
  · rw [show (!isN (.tup ds)) = true from rfl, if_pos rfl]
    refine sxs_one (sx_ret ex_non fun H5 g5 => ⟨gg.trans g5, ?_⟩)
    rw [ha]
    rfl
end
end Lk
set_option Elab.async false
set_option linter.all false
set_option maxRecDepth 100000
set_option maxHeartbeats 4000000
/-! Best: the least trees. -/
namespace Lk
open PySem PySem.Spec PyProof.Rows L2 GxR
open C8 (Cal Met Mak)
/-- for x in a list that is made, its walk known then -/
theorem sx_forLM {X : Cx} {iter : Expr} {body : List Stmt} {Γ : Gam} {H : Hp} {pos : Pos} {nx : Gam → Hp → Prop} {rt : Dt → Hp → Prop} {i : Nat} {x : Str} {px : Pos}
    (he : MX X iter Γ H fun d H1 => ∃ l vs ds, d = .ref l ∧ H1 l = some (.lst vs) ∧ TpA H1 vs ds ∧ ∃ P : Nat → Gam → Hp → Prop, P 0 Γ H1 ∧ (∀ k Γ' H', P k Γ' H' → LeT H1 H' ∧ H' l = some (.lst vs)) ∧ (∀ k d Γ' H', ds[k]? = some d → P k Γ' H' → SXs X body (Γ'.set i (some d)) H' (P (k + 1)) rt) ∧ ∀ Γ' H', P ds.length Γ' H' → nx Γ' H')
    (hp : PassesOwn (model X.prog X.w) X.A X.env X.xe) (hc : X.calm = true) (hN : X.N.Nodup) (hi : X.N[i]? = some x := by rfl) (hx : Loc X.env.scope x := by first | exact Or.inl rfl | exact Or.inr rfl)
    (hf : X.fn x = true ∨ X.env.scope.names.lookup x = some .local := by first | exact .inl rfl | exact .inr rfl | assumption)
    (hs : ∀ x, foldedSetIterable iter X.env x = pure x := by intro _; rfl) : SX X (.For (.Name x px) iter body [] pos) Γ H nx rt := fun σ m =>
  RS.of (ps_for hp hc (pi_list re) (pg_name hN hi hx hf) rss hs) ((he σ m).mono fun v H1 ⟨d, tv, m1, l, vs, ds, ed, hl, t, P, p0, pl, ps, pe⟩ => by
    subst ed
    refine ⟨l, tv.ref_eq, ⟨vs, SqL.of hl⟩, ?_⟩
    refine for_it (walk_list (xs := vs)) (fun k σ' H' => ∃ Γ', Gm H' σ' Γ' ∧ P k Γ' H') ⟨Γ, m1, p0⟩ (fun k σ' H' _ ⟨Γ', m', pk⟩ => SqL.of (pl k Γ' H' pk).2) ?_ ?_
    · rintro k y σ' H' H2 hk ⟨Γ', m', pk⟩ ⟨rfl, hy⟩
      obtain ⟨d, hd, td⟩ := t.get' hy
      have td' := td.mono (pl k Γ' _ pk).1
      exact (ps k d Γ' _ hd pk _ (m'.set td' i)).mono (fun _ _ z => z) (fun _ _ z => z) (fun _ _ z => z.elim) (fun _ _ z => z.elim)
    · rintro σ' H' ⟨Γ', m', pk⟩
      rw [t.length] at pk
      exact ⟨Γ', m', pe Γ' H' pk⟩)
/-- what stands of Best at b -/
def BestAt (H : Hp) (b C dx kd : Addr) (hs : List Habit) (lot : List Nat) : Prop := ∃ fs vh vl, H b = some (.ins C dx fs) ∧ fs.lookup ("habits" : Str) = some vh ∧ Tp H vh (dHs hs) ∧ fs.lookup ("lot" : Str) = some vl ∧ Tp H vl (dNs lot) ∧ fs.lookup ("known" : Str) = some (.ref kd) ∧ fs.lookup ("tree" : Str) = none
def fT : Nat × Tree → Dt := fun x => .tup [dN x.1, dTree x.2]
structure KOk (hs : List Habit) (lot : List Nat) (m : List (List Nat × (Nat × Tree))) : Prop where
  nd : (m.map (·.1)).Nodup
  ent : ∀ q, q ∈ m → (q.1.length ≤ 5 ∧ ∀ x, x ∈ q.1 → x < 5) ∧ VT hs lot q.1 q.2.2 q.2.1 ∧ q.2.1 = bW hs lot q.1
theorem KOk.len {hs : List Habit} {lot : List Nat} {m : List (List Nat × (Nat × Tree))} (k : KOk hs lot m) : m.length < sizeLine := by
  have h := few k.nd fun x hx => by
    obtain ⟨q, hq, rfl⟩ := List.mem_map.mp hx
    exact (k.ent q hq).1
  rw [List.length_map] at h
  exact size4k (by omega)
def KD (H : Hp) (kd : Addr) (hs : List Habit) (lot : List Nat) : Prop := ∃ kvs m, H kd = some (.dT kvs) ∧ DcR fT H kvs m ∧ KOk hs lot m
structure TIn where
  hs : List Habit
  lot : List Nat
  group : List Nat
  P : Nat
  b : Addr
  C : Addr
  dx : Addr
  kd : Addr
def tiArgs (y : TIn) : List Dt := [.ref y.b, dNs y.group]
def tiPre (C : Addr) (n : Nat) (y : TIn) (H : Hp) : Prop := y.C = C ∧ BestAt H y.b y.C y.dx y.kd y.hs y.lot ∧ KD H y.kd y.hs y.lot ∧ Ok y.hs y.lot y.group y.P ∧ 0 < y.P ∧ (∀ i, i ∈ y.group → i < y.hs.length) ∧ y.hs.length ≤ 5 ∧ y.lot.length ≤ 100 ∧ y.group.length ≤ n ∧ y.group.length ≤ 5
def tiPost (y : TIn) (H : Hp) (d : Dt) (H' : Hp) : Prop := GeX [y.kd] H H' ∧ LeT H H' ∧ KD H' y.kd y.hs y.lot ∧ ∃ t, VT y.hs y.lot y.group t (bW y.hs y.lot y.group) ∧ d = fT (bW y.hs y.lot y.group, t)
theorem BestAt.x {H H' : Hp} {b C dx kd : Addr} {hs : List Habit} {lot : List Nat} (a : BestAt H b C dx kd hs lot) (k : KD H kd hs lot) (g : GeX [kd] H H') : BestAt H' b C dx kd hs lot := by
  obtain ⟨fs, vh, vl, hb, l1, t1, l2, t2, l3, l4⟩ := a
  obtain ⟨kvs, m, hk, _⟩ := k
  have ne : b ≠ kd := fun e => by rw [e, hk] at hb; cases hb
  have lt : LeT H H' := g.t fun xs z => by rw [hk] at z; cases z
  exact ⟨fs, vh, vl, g.one ne hb (fun _ z => by cases z), l1, t1.mono lt, l2, t2.mono lt, l3, l4⟩
theorem BestAt.ge {H H' : Hp} {b C dx kd : Addr} {hs : List Habit} {lot : List Nat} (a : BestAt H b C dx kd hs lot) (k : KD H kd hs lot) (g : Ge H H') : BestAt H' b C dx kd hs lot := a.x k (g.x [kd])
theorem KD.ge {H H' : Hp} {kd : Addr} {hs : List Habit} {lot : List Nat} (k : KD H kd hs lot) (g : Ge H H') : KD H' kd hs lot := by
  obtain ⟨kvs, m, hk, r, o⟩ := k
  exact ⟨kvs, m, g.dT hk, r.mono g.t, o⟩
theorem KD.t {H : Hp} {kd : Addr} {hs : List Habit} {lot : List Nat} (k : KD H kd hs lot) : ∀ xs, H kd ≠ some (.tup xs) := by
  obtain ⟨kvs, m, hk, r, o⟩ := k
  intro xs z
  rw [hk] at z
  cases z
section
variable {X : Cx} {o : Expr} {Γ : Gam} {H : Hp} {pos : Pos} {b C dx kd : Addr} {hs : List Habit} {lot : List Nat}
theorem ex_known (cl : Cls X.K C) (n : NoAttr X.K C "known") (ba : BestAt H b C dx kd hs lot) (he : EX X o Γ H (.ref b)) (hab : attributeBase o "known" X.env (eval o X.env) = eval o X.env := by rfl) : EX X (.Attribute o "known" pos) Γ H (.ref kd) := by
  obtain ⟨fs, vh, vl, hb, l1, t1, l2, t2, l3, l4⟩ := ba
  exact ex_fld he hb cl n l3 (.ref kd) hab
theorem ex_habits (cl : Cls X.K C) (n : NoAttr X.K C "habits") (ba : BestAt H b C dx kd hs lot) (he : EX X o Γ H (.ref b)) (hab : attributeBase o "habits" X.env (eval o X.env) = eval o X.env := by rfl) : EX X (.Attribute o "habits" pos) Γ H (dHs hs) := by
  obtain ⟨fs, vh, vl, hb, l1, t1, l2, t2, l3, l4⟩ := ba
  exact ex_fld he hb cl n l1 t1 hab
theorem ex_lotA (cl : Cls X.K C) (n : NoAttr X.K C "lot") (ba : BestAt H b C dx kd hs lot) (he : EX X o Γ H (.ref b)) (hab : attributeBase o "lot" X.env (eval o X.env) = eval o X.env := by rfl) : EX X (.Attribute o "lot" pos) Γ H (dNs lot) := by
  obtain ⟨fs, vh, vl, hb, l1, t1, l2, t2, l3, l4⟩ := ba
  exact ex_fld he hb cl n l2 t2 hab
end
abbrev N_tr : List Str := ["self", "group", "parted", "found", "marked", "rest", "one", "two", "worst", "index"]
theorem sc_tree : FnScope N_tr ["self", "group"] (defScope s_Best_tree) := ⟨rfl, rfl, rfl, by decide +kernel, rfl, by decide +kernel, by decide +kernel⟩
theorem sc_binit : FnScope ["self", "habits", "lot"] ["self", "habits", "lot"] (defScope s_Best_init) := ⟨rfl, rfl, rfl, by decide +kernel, rfl, by decide +kernel, by decide +kernel⟩
/-- what is found among the k first keys -/
def FoundOk (hs : List Habit) (lot group : List Nat) (ks : List (List Nat)) (k : Nat) (b : Dt) : Prop :=
  (partings hs lot group = [] ∧ b = fT (0, .left group)) ∨ (partings hs lot group ≠ [] ∧ k = 0 ∧ b = .non) ∨
  (0 < k ∧ ∃ t, b = fT (minL ((ks.take k).map (kW hs lot group)), t) ∧ VT hs lot group t (minL ((ks.take k).map (kW hs lot group))))
section
variable {P : Program} {w : World} {K : PySem.W.Frag} {mg : Str → Option Value} {base : Heap} {f : Addr} {fd : FuncData} {C : Addr}
structure BIn where
  hs : List Habit
  lot : List Nat
  b : Addr
  C : Addr
  dx : Addr
def biArgs (y : BIn) : List Dt := [.ref y.b, dHs y.hs, dNs y.lot]
def biPre (C : Addr) (y : BIn) (H : Hp) : Prop := y.C = C ∧ H y.b = some (.ins y.C y.dx [])
def biPost (y : BIn) (H : Hp) (d : Dt) (H' : Hp) : Prop := d = .non ∧ GeX [y.b] H H' ∧ LeT H H' ∧ ∃ kd, H kd = none ∧ BestAt H' y.b y.C y.dx kd y.hs y.lot ∧ H' kd = some (.dT [])
theorem ok_Best_init (cl : Cls K C) (n1 : NoAttr K C "habits") (n2 : NoAttr K C "lot") (n3 : NoAttr K C "known") (F : FnP K "__init__" "Best.__init__" s_Best_init f fd) : FnOk P w K mg base CX0 1 f fd ["self", "habits", "lot"] (spP biArgs (biPre C) biPost) := by
  refine fn_P F sc_binit (fun y => rfl) fun cdv A outer s H E y _ hr h => ?_
  obtain ⟨hs, lot, b, C', dx⟩ := y
  obtain ⟨eC, hb⟩ := h
  have eC : C' = C := eC
  subst eC
  have hb : H b = some (.ins C' dx []) := hb
  have nt : ∀ {H' : Hp} {fs : List (Str × V)}, H' b = some (.ins C' dx fs) → ∀ xs, H' b ≠ some (.tup xs) := fun h xs z => by rw [h] at z; cases z
  refine sxs_cons (sx_fld (ex_var 1) (ex_var 0) hb cl n1 (by decide) fun H1 v1 g1 t1 hb1 => ?_)
  refine sxs_cons (sx_fld (ex_var 2) (ex_var 0) hb1 cl n2 (show 1 < 1000 by decide) fun H2 v2 g2 t2 hb2 => ?_)
  refine sxs_one (sx_fldM (mx_dnew fun kd H3 g3 nk hk => ?_))
  have hb3 := g3.ins hb2
  refine ⟨b, C', dx, _, ex_var 0, hb3, cl, n3, show 2 < 1000 by decide, fun H4 v4 g4 t4 hb4 => ?_⟩
  have l1 := g1.t (nt hb)
  have l2 := g2.t (nt hb1)
  have l4 := g4.t (nt hb3)
  have nkb : kd ≠ b := fun e => by rw [e, hb2] at nk; cases nk
  have k0 : H kd = none := by
    cases q : H kd with
    | none => rfl
    | some o =>
      obtain ⟨u, hu⟩ := (g1 kd o (by simpa using nkb) q).some
      obtain ⟨u', hu'⟩ := (g2 kd u (by simpa using nkb) hu).some
      rw [nk] at hu'
      cases hu'
  refine ⟨rfl, g1.trans (g2.trans ((g3.x [b]).trans g4)), l1.trans (l2.trans (g3.t.trans l4)), kd, k0, ⟨_, v1, v2, hb4, rfl, ((t1.mono l2).mono g3.t).mono l4, rfl, (t2.mono g3.t).mono l4, ?_, rfl⟩, g4.one nkb hk (fun _ z => by cases z)⟩
  rw [t4.ref_eq]
  rfl
theorem ok_tree (g : Gb mg) (cl : Cls K C) (n1 : NoAttr K C "habits") (n2 : NoAttr K C "lot") (n3 : NoAttr K C "known") (cP : Cal P w K mg base 2 "partings" (spP moArgs paPre paPost) []) (cT : Cal P w K mg base 1 "touches_of" (spF [] R_touches_of) []) (F : FnP K "tree" "Best.tree" s_Best_tree f fd) (n : Nat)
    (hm : ∀ n', n = n' + 1 → Met P w K mg base (3 + n') C "tree" (spP tiArgs (tiPre C n') tiPost) []) : FnOk P w K mg base CX0 (2 + n + 1) f fd ["self", "group"] (spP tiArgs (tiPre C n) tiPost) := by
  refine fn_P F sc_tree (fun y => rfl) fun cdv A outer s H E y _ hr h => ?_
  obtain ⟨hs, lot, group, Q, b, C', dx, kd⟩ := y
  obtain ⟨eC, ba, k0, ok, hQ, hlt, h5, hl, hgn, hg5⟩ := h
  have eC : C' = C := eC
  subst eC
  have ba : BestAt H b C' dx kd hs lot := ba
  have k0 : KD H kd hs lot := k0
  have ok : Ok hs lot group Q := ok
  have hQ : 0 < Q := hQ
  have hlt : ∀ i, i ∈ group → i < hs.length := hlt
  have h5 : hs.length ≤ 5 := h5
  have hl : lot.length ≤ 100 := hl
  have hgn : group.length ≤ n := hgn
  have hg5 : group.length ≤ 5 := hg5
  have hi5 : ∀ x, x ∈ group → x < 5 := fun x hx => Nat.lt_of_lt_of_le (hlt x hx) h5
  have kt := k0.t
  show SXs _ _ [some (.ref b), some (dNs group), none, none, none, none, none, none, none, none] H _ _
  -- the end: what is known of the group is told
  have fin : ∀ (Γ' : Gam) (H' : Hp), (∃ x2 x3 x4 x5 x6 x7 x8 x9, Γ' = [some (.ref b), some (dNs group), x2, x3, x4, x5, x6, x7, x8, x9]) → GeX [kd] H H' → (∃ kvs m, H' kd = some (.dT kvs) ∧ DcR fT H' kvs m ∧ KOk hs lot m ∧ ∃ x, lk m group = some x) →
      SXs (cxOf CX0 P w K mg base N_tr "Best.tree" (defScope s_Best_tree) f cdv A outer s H E).nox (defBody s_Best_tree).tail Γ' H' (fun _ H' => tiPost ⟨hs, lot, group, Q, b, C', dx, kd⟩ H .non H') (tiPost ⟨hs, lot, group, Q, b, C', dx, kd⟩ H) := by
    rintro Γ' H' ⟨x2, x3, x4, x5, x6, x7, x8, x9, rfl⟩ gx ⟨kvs, m, hk, r, o, ⟨bw, t⟩, hx⟩
    refine sxs_one (sx_ret (ex_dget (ex_known cl n3 (ba.x k0 gx) (ex_var 0)) (ex_var 1) (.inl hk) r hx hr) fun H1 g1 => ?_)
    have hq := o.ent _ (lk_mem hx)
    obtain ⟨_, hv, hw⟩ := hq
    have hw : bw = bW hs lot group := hw
    subst hw
    exact ⟨gx.trans (g1.x _), (gx.t kt).trans g1.t, KD.ge ⟨kvs, m, hk, r, o⟩ g1, t, hv, rfl⟩
  obtain ⟨kvs, m, hk, r, o⟩ := id k0
  refine sxs_cons (sx_if (tx_dnotin (ex_var 1) (ex_known cl n3 ba (ex_var 0)) (.inl hk) r hr) (fun hn H1 g1 => ?_) fun hn H1 g1 => sxs_nil (fin _ H1 ⟨_, _, _, _, _, _, _, _, rfl⟩ (g1.x _) ⟨kvs, m, g1.dT hk, r.mono g1.t, o, by
    cases q : lk m group with
    | none => rw [q] at hn; cases hn
    | some x => exact ⟨x, rfl⟩⟩))
  have hn0 : lk m group = none := by
    cases q : lk m group with
    | none => rfl
    | some x => rw [q] at hn; cases hn
  have ba1 := ba.ge k0 g1
  have ks1 := k0.ge g1
  refine sxs_cons (sx_asgM (i := 2) (mx_call cP ⟨hs, lot, group, Q⟩ (ax_cons (ex_habits cl n1 ba1 (ex_var 0)) (ax_cons (ex_lotA cl n2 ba1 (ex_var 0)) (ax_cons (ex_var 1) ax_nil))) (fun _ _ => ⟨ok, hlt, by show group.length ≤ 4000; omega, hl⟩) (fun _ _ _ p => p.1.t) (fun H2 d H3 g2 p => ?_) hr (by omega)) sc_tree.nd)
  obtain ⟨g3, pf, kvsP, rfl, npf, hpf, rP⟩ := p
  have g13 := g2.trans g3
  have ge3 := g1.trans g13
  show SXs _ _ [some (.ref b), some (dNs group), some (.ref pf), none, none, none, none, none, none, none] H3 _ _
  have pok := part_ok ok
  generalize hPP : partings hs lot group = PP at rP
  refine sxs_cons (sx_asg (i := 3) (d := if PP.isEmpty then fT (0, .left group) else .non) (ex_if (tx_neDN hr (ex_var 2) (.inl hpf) rP) (fun he => ?_) fun he => ?_) (fun H4 g4 => ?_) sc_tree.nd)
  · rw [if_neg (by cases q : PP.isEmpty <;> simp_all)]
    exact ex_non
  · rw [if_pos (by cases q : PP.isEmpty <;> simp_all)]
    exact ex_tup (ax_cons ex_int (ax_cons (ex_tup (ax_cons (gs g.LEFT) (ax_cons (ex_var 1) ax_nil))) ax_nil))
  show SXs _ _ [some (.ref b), some (dNs group), some (.ref pf), some _, none, none, none, none, none, none] H4 _ _
  have few' : PP.length ≤ 4000 := by
    have hf := few pok.nd fun k hk' => by
      obtain ⟨q, hq, rfl⟩ := List.mem_map.mp hk'
      obtain ⟨_, e, _, h2⟩ := pok.ent q hq
      refine ⟨by omega, fun x hx => ?_⟩
      rw [e] at hx
      exact hi5 x (List.mem_filter.mp hx).1
    rw [List.length_map, hPP] at hf
    omega
  have ne' : ∀ q ∈ PP, q.1 ≠ [] := fun q hq e => by
    obtain ⟨_, _, h1, _⟩ := pok.ent q (by rw [hPP]; exact hq)
    rw [e] at h1
    exact absurd h1 (by simp)
  refine sxs_cons (sx_forLM (i := 4) (mx_sortK (fα := dT) g.sorted rfl (ex_var 2) (.inl (g4.dT hpf)) (rP.mono g4.t) ne' few' (fun l H5 sk => ?_)) PassesOwn.never rfl sc_tree.nd)
  obtain ⟨g5, nl, ks, vs, perm, hlst, tks⟩ := sk
  have perm' : ks.Perm ((partings hs lot group).map (·.1)) := by rw [hPP]; exact perm
  have ge4 := ge3.trans g4
  have ge5 := ge4.trans g5
  have k5 := k0.ge ge5
  have ba5 := ba.ge k0 ge5
  have hpf5 := g5.dT (g4.dT hpf)
  have rP5 := (rP.mono g4.t).mono g5.t
  have npf0 : H pf = none := (g1.trans g2).free npf
  have nl0 : H l = none := ge4.free nl
  have npk : pf ≠ kd := fun e => by rw [e, hk] at npf0; cases npf0
  have nlk : l ≠ kd := fun e => by rw [e, hk] at nl0; cases nl0
  have k5t := k5.t
  refine ⟨l, vs, ks.map dNs, rfl, hlst, tks, fun k Γ' H' => GeX [kd] H5 H' ∧ KD H' kd hs lot ∧ ∃ bf x4 x5 x6 x7 x8 x9, Γ' = [some (.ref b), some (dNs group), some (.ref pf), some bf, x4, x5, x6, x7, x8, x9] ∧ FoundOk hs lot group ks k bf,
    ⟨GeX.refl _ _, k5, _, _, _, _, _, _, _, rfl, ?_⟩, fun k Γ' H' p => ⟨p.1.t k5t, p.1.one nlk hlst (fun _ z => by cases z)⟩, ?_, ?_⟩
  · rw [← hPP]
    cases q : partings hs lot group with
    | nil => exact .inl ⟨q, rfl⟩
    | cons a l => exact .inr (.inl ⟨(by rw [q]; exact fun z => nomatch z), rfl, rfl⟩)
  · rintro k d Γ' H6 hd ⟨gx6, k6, bf, x4, x5, x6, x7, x8, x9, rfl, hb⟩
    rw [List.getElem?_map] at hd
    obtain ⟨mk, hmk, rfl⟩ := Option.map_eq_some_iff.mp hd
    obtain ⟨t, ht, hmem⟩ := key_of ok perm' (List.mem_of_getElem? hmk)
    obtain ⟨tof, emk, l1, l2⟩ := part_ent ok hmem
    obtain ⟨l3, l4⟩ := rest_len ok hmem
    have ok1 := ok.part hQ hmem
    have ok2 := ok.rest hQ hmem
    have emk : mk = readsOf hs group t := emk
    have l1 : 0 < mk.length := l1
    have l2 : mk.length < group.length := l2
    have l3 : 0 < (restOf group mk).length := l3
    have l4 : (restOf group mk).length < group.length := l4
    have ok1 : Ok hs lot mk Q := ok1
    have ok2 : Ok hs lot (restOf group mk) Q := ok2
    have msub : ∀ i, i ∈ mk → i ∈ group := fun i hi => by rw [emk] at hi; exact (List.mem_filter.mp hi).1
    have rsub : ∀ i, i ∈ restOf group mk → i ∈ group := fun i hi => (List.mem_filter.mp hi).1
    obtain ⟨n', rfl⟩ : ∃ n', n = n' + 1 := ⟨n - 1, by omega⟩
    have M := hm n' rfl
    show SXs _ _ [some (.ref b), some (dNs group), some (.ref pf), some bf, some (dNs mk), x5, x6, x7, x8, x9] H6 _ _
    refine sxs_cons (sx_asg (i := 5) (d := dNs (restOf group mk)) (ex_cast (ex_tupL (lx_lc (own := [("index", 9)]) (f := fun k' => ((group[k']?).filter fun i => !mk.contains i).map dN) (src_tup (i := 9) (ex_var 1)) (fun _ _ g => g.t) ?_
      (blkOk_by (by show blkC N_tr (defScope s_Best_tree) _ _ = true; decide +kernel)) (by decide) (fun _ _ _ _ _ => pgn sc_tree.nd) ?_ ?_ rfl sc_tree.nd) g.tuple) ?_) (fun H7 g7 => ?_) sc_tree.nd)
    · rw [List.length_map]; exact Nat.le_of_lt (size4k (by omega))
    · intro s' H0 C cl fp k' H9 hk' g9
      rw [List.length_map] at hk'
      have e1 : (group.map dN)[k']? = some (dN group[k']) := by rw [List.getElem?_map, List.getElem?_eq_getElem hk']; rfl
      simp only [e1]
      refine txs_one (tx_cast (tx_cmp (ex_var 9) (ex_var 4) co_notinN) ?_)
      rw [List.getElem?_eq_getElem hk', Option.isSome_map]
      cases q : mk.contains group[k'] <;> simp only [Option.filter, q] <;> rfl
    · intro s' H0 C cl fp k' d H9 hk' hd g9
      rw [List.length_map] at hk'
      have e1 : (group.map dN)[k']? = some (dN group[k']) := by rw [List.getElem?_map, List.getElem?_eq_getElem hk']; rfl
      rw [List.getElem?_eq_getElem hk'] at hd
      obtain ⟨q, hq, rfl⟩ := Option.map_eq_some_iff.mp hd
      have hq2 : group[k'] = q := by
        rw [Option.filter_eq_some_iff] at hq
        exact Option.some.inj hq.1
      simp only [e1]
      rw [← hq2]
      exact ex_var 9
    · rw [List.length_map, keepD_filter]
      rfl
    show SXs _ _ [some (.ref b), some (dNs group), some (.ref pf), some bf, some (dNs mk), some (dNs (restOf group mk)), x6, x7, x8, x9] H7 _ _
    have k7 := k6.ge g7
    have ba6 := ba5.x k5 gx6
    have ba7 := ba6.ge k6 g7
    refine sxs_cons (sx_parM (i := 6) (j := 7) (mx_meth M hr (by omega) (mx_ex (ex_var 0) fun H8 g8 => ?_)) rfl sc_tree.nd (by decide))
    have k8 := k7.ge g8
    have ba8 := ba7.ge k7 g8
    obtain ⟨fs, vh, vl, hb8, q1, q2, q3, q4, q5, q6⟩ := id ba8
    refine ⟨b, dx, fs, [dNs mk], ⟨hs, lot, mk, Q, b, C', dx, kd⟩, rfl, hb8, q6, ax_cons (ex_var 4) ax_nil, rfl, fun H9 g9 => ?_, fun H9 d H10 g9 p => ?_⟩
    · exact ⟨rfl, ba8.ge k8 g9, k8.ge g9, ok1, hQ, fun i hi => hlt i (msub i hi), h5, hl, by show mk.length ≤ n'; omega, by show mk.length ≤ 5; omega⟩
    obtain ⟨gx10, lt10, k10, ta, va, rfl⟩ := p
    have gx10 : GeX [kd] H9 H10 := gx10
    have k10 : KD H10 kd hs lot := k10
    have va : VT hs lot mk ta (bW hs lot mk) := va
    refine ⟨lt10, ?_⟩
    have k9 := k8.ge g9
    have ba10 : BestAt H10 b C' dx kd hs lot := (ba8.ge k8 g9).x k9 gx10
    refine mx_meth M hr (by omega) (mx_ex (ex_var 0) fun H11 g11 => ?_)
    have k11 := k10.ge g11
    have ba11 := ba10.ge k10 g11
    obtain ⟨fs', vh', vl', hb11, q1', q2', q3', q4', q5', q6'⟩ := id ba11
    refine ⟨b, dx, fs', [dNs (restOf group mk)], ⟨hs, lot, restOf group mk, Q, b, C', dx, kd⟩, rfl, hb11, q6', ax_cons (ex_var 5) ax_nil, rfl, fun H12 g12 => ?_, fun H12 d H13 g12 p => ?_⟩
    · exact ⟨rfl, ba11.ge k11 g12, k11.ge g12, ok2, hQ, fun i hi => hlt i (rsub i hi), h5, hl, by show (restOf group mk).length ≤ n'; omega, by show (restOf group mk).length ≤ 5; omega⟩
    obtain ⟨gx13, lt13, k13, tb, vb, rfl⟩ := p
    have gx13 : GeX [kd] H12 H13 := gx13
    have k13 : KD H13 kd hs lot := k13
    have vb : VT hs lot (restOf group mk) tb (bW hs lot (restOf group mk)) := vb
    refine ⟨lt13, (g11.t.trans g12.t).trans lt13, ?_⟩
    have gx : GeX [kd] H5 H13 := gx6.trans ((g7.trans (g8.trans g9)).x [kd] |>.trans (gx10.trans ((g11.trans g12).x [kd] |>.trans gx13)))
    have hpf13 := gx.one npk hpf5 (fun _ z => by cases z)
    have rP13 : DcR dT H13 kvsP PP := rP5.mono (gx.t k5t)
    have ht' : lk PP mk = some t := by rw [← hPP]; exact ht
    show SXs _ _ [some (.ref b), some (dNs group), some (.ref pf), some bf, some (dNs mk), some (dNs (restOf group mk)), some (fT (bW hs lot mk, ta)), some (fT (bW hs lot (restOf group mk), tb)), x8, x9] H13 _ _
    have ekw : kW hs lot group mk = t.w.length + 2 + max (bW hs lot mk) (bW hs lot (restOf group mk)) := by
      unfold kW
      rw [ht]
      rfl
    refine sxs_cons (sx_asg (i := 8) (d := dN (kW hs lot group mk)) (ex_cast (ex_add (ex_call cT (d := dN (t.w.length + 2)) (ax_cons (ex_dget (fα := dT) (ex_var 2) (ex_var 4) (.inl hpf13) rP13 ht' hr) ax_nil) ⟨t, rfl, rfl⟩ hr (fun _ z => absurd z (by simp)) (by omega)) (ex_max rfl g.max rfl (at0 (ex_var 6)) (at0 (ex_var 7)))) ?_) (fun H14 g14 => ?_) sc_tree.nd)
    · rw [ekw]
      show Dt.int _ = Dt.int _
      congr 1
      omega
    show SXs _ _ [some (.ref b), some (dNs group), some (.ref pf), some bf, some (dNs mk), some (dNs (restOf group mk)), some (fT (bW hs lot mk, ta)), some (fT (bW hs lot (restOf group mk), tb)), some (dN (kW hs lot group mk)), x9] H14 _ _
    have k14 := k13.ge g14
    have gx14 := gx.trans (g14.x [kd])
    have hpf14 := g14.dT hpf13
    have rP14 := rP13.mono g14.t
    have tk : (ks.take (k + 1)).map (kW hs lot group) = (ks.take k).map (kW hs lot group) ++ [kW hs lot group mk] := by
      rw [List.take_succ, hmk, List.map_append]
      rfl
    have vn : VT hs lot group (.test t ta tb) (kW hs lot group mk) := by
      rw [ekw]
      rw [emk] at va vb l1 l3 ⊢
      exact .test tof (fun z => by rw [z] at l1; exact absurd l1 (by simp)) (fun z => by rw [z] at l3; exact absurd l3 (by simp)) va vb
    rcases hb with ⟨z, _⟩ | ⟨hne, rfl, rfl⟩ | ⟨hk0, t0, rfl, v0⟩
    · rw [z] at hmem
      exact absurd hmem (by simp)
    · refine sxs_one (sx_if (k := true) (tx_wx (wx_or (k := true) (l := true) (tx_cast (tx_cmp (ex_var 3) ex_non co_is) (by rfl)) fun z => by cases z)) (fun _ H15 g15 => ?_) (fun z => by cases z))
      refine sxs_one (sx_asg (i := 3) (d := fT (kW hs lot group mk, .test t ta tb)) (ex_tup (ax_cons (ex_var 8) (ax_cons (ex_tup (ax_cons (gs g.TEST) (ax_cons (ex_dget (fα := dT) (ex_var 2) (ex_var 4) (.inl (g15.dT hpf14)) (rP14.mono g15.t) ht' hr) (ax_cons (at1 (ex_var 6)) (ax_cons (at1 (ex_var 7)) ax_nil))))) ax_nil))) (fun H16 g16 => ⟨gx14.trans ((g15.trans g16).x _), (k14.ge g15).ge g16, _, _, _, _, _, _, _, rfl, .inr (.inr ⟨Nat.succ_pos _, .test t ta tb, ?_, ?_⟩)⟩) sc_tree.nd)
      · rw [tk]; rfl
      · rw [tk]; exact vn
    · have hne : (ks.take k).map (kW hs lot group) ≠ [] := fun z => by
        have := congrArg List.length z
        rw [List.length_map, List.length_take] at this
        have hkl := (List.getElem?_eq_some_iff.mp hmk).1
        simp only [List.length_nil] at this
        omega
      have em : minL ((ks.take (k + 1)).map (kW hs lot group)) = min (minL ((ks.take k).map (kW hs lot group))) (kW hs lot group mk) := by
        rw [tk, minL_snoc hne]
      generalize minL ((ks.take k).map (kW hs lot group)) = m0 at em v0
      refine sxs_one (sx_if (k := decide (kW hs lot group mk < m0)) (tx_cast (tx_wx (wx_or (k := false) (tx_cast (tx_cmp (ex_var 3) ex_non co_is) (by rfl)) fun _ => wx_one_or (tx_cmp (ex_var 8) (at0 (ex_var 3)) co_lt))) ?_) (fun hlt' H15 g15 => ?_) (fun hge H15 g15 => sxs_nil ⟨gx14.trans (g15.x _), k14.ge g15, _, _, _, _, _, _, _, rfl, .inr (.inr ⟨Nat.succ_pos _, t0, ?_, ?_⟩)⟩))
      · rw [Bool.false_or]
        exact decide_eq_decide.mpr Int.ofNat_lt
      · have hlt2 := of_decide_eq_true hlt'
        refine sxs_one (sx_asg (i := 3) (d := fT (kW hs lot group mk, .test t ta tb)) (ex_tup (ax_cons (ex_var 8) (ax_cons (ex_tup (ax_cons (gs g.TEST) (ax_cons (ex_dget (fα := dT) (ex_var 2) (ex_var 4) (.inl (g15.dT hpf14)) (rP14.mono g15.t) ht' hr) (ax_cons (at1 (ex_var 6)) (ax_cons (at1 (ex_var 7)) ax_nil))))) ax_nil))) (fun H16 g16 => ⟨gx14.trans ((g15.trans g16).x _), (k14.ge g15).ge g16, _, _, _, _, _, _, _, rfl, .inr (.inr ⟨Nat.succ_pos _, .test t ta tb, ?_, ?_⟩)⟩) sc_tree.nd)
        · rw [em, show min m0 (kW hs lot group mk) = kW hs lot group mk by omega]
        · rw [em, show min m0 (kW hs lot group mk) = kW hs lot group mk by omega]
          exact vn
      · have := of_decide_eq_false hge
        rw [em, show min m0 (kW hs lot group mk) = m0 by omega]
      · have := of_decide_eq_false hge
        rw [em, show min m0 (kW hs lot group mk) = m0 by omega]
        exact v0
  · rintro Γ' H6 ⟨gx6, k6, bf, x4, x5, x6, x7, x8, x9, rfl, hb⟩
    have hbw := bW_eq hQ ok
    rw [BB_keys ok perm'] at hbw
    have hb' : ∃ t, bf = fT (bW hs lot group, t) ∧ VT hs lot group t (bW hs lot group) := by
      rcases hb with ⟨z, rfl⟩ | ⟨hne, hk0, _⟩ | ⟨_, t0, rfl, v0⟩
      · have e : ks = [] := by
          rw [z] at perm'
          exact List.perm_nil.mp perm'
        rw [hbw, e]
        exact ⟨_, rfl, .left z⟩
      · exfalso
        rw [List.length_map] at hk0
        have e : ks = [] := List.length_eq_zero_iff.mp hk0
        rw [e] at perm'
        exact hne (List.map_eq_nil_iff.mp (List.nil_perm.mp perm'))
      · rw [List.length_map, List.take_length] at *
        rw [hbw]
        exact ⟨t0, rfl, v0⟩
    obtain ⟨t, rfl, vt⟩ := hb'
    obtain ⟨kvs6, m6, hk6, r6, o6⟩ := id k6
    have ba6 := ba5.x k5 gx6
    refine sxs_one (sx_dput (fα := fT) (x := (bW hs lot group, t)) (ex_var 3) (ex_known cl n3 ba6 (ex_var 0)) (ex_var 1) hk6 r6 o6.len (fun H7 kvs7 g7 hk7 r7 => ?_) hr)
    have gxA : GeX [kd] H H7 := (ge5.x [kd]).trans (gx6.trans g7)
    refine fin _ H7 ⟨_, _, _, _, _, _, _, _, rfl⟩ gxA ⟨kvs7, _, hk7, r7, ⟨put_nodup o6.nd, fun q hq => ?_⟩, ?_⟩
    · rcases put_mem hq with rfl | hq
      · exact ⟨⟨hg5, hi5⟩, vt, rfl⟩
      · exact o6.ent q hq
    · exact lk_some_of_mem put_key
end
end Lk
set_option Elab.async false
set_option linter.all false
set_option maxRecDepth 100000
set_option maxHeartbeats 4000000
/-! best_tree, least_worst, least_tree. -/
namespace Lk
open PySem PySem.Spec PyProof.Rows L2 GxR
open C8 (Cal Met Mak)
section
variable {X : Cx} {e a b c : Expr} {es : List Expr} {Γ : Gam} {H H1 : Hp} {d da db : Dt} {pos : Pos}
theorem rgV_dN (n : Nat) (H : Hp) : TpA H (rgV 0 n) ((List.range n).map dN) := by
  have e : rgV 0 n = ((List.range n).map Int.ofNat).map V.int := by
    unfold rgV
    rw [show ((n : Int) - 0).toNat = n by omega, List.map_map]
    apply List.map_congr_left
    intro i _
    show V.int (0 + (i : Int)) = V.int (i : Int)
    rw [Int.zero_add]
  rw [e, show (List.range n).map dN = ((List.range n).map Int.ofNat).map Dt.int by rw [List.map_map]; rfl]
  exact Tp.ints _
/-- tuple(range(n)) -/
theorem ex_tupRg {n : Nat} {p p2 pos2 : Pos} (ha : EX X a Γ H (dN n)) (hn : n ≤ 4000) (hc : X.calm = true) (hm : X.mg "tuple" = none) (hm2 : X.mg "range" = none) (hg : Gl X "tuple" := by rfl) (hg2 : Gl X "range" := by rfl)
    (na : starEach [a] X.env = (false, eval a X.env) :: starEach [] X.env := by rfl) (na2 : starEach [.Call (.Name "range" p2) [a] [] pos2] X.env = (false, eval (.Call (.Name "range" p2) [a] [] pos2) X.env) :: starEach [] X.env := by rfl) :
    EX X (.Call (.Name "tuple" p) [.Call (.Name "range" p2) [a] [] pos2] [] pos) Γ H (dNs (List.range n)) := fun σ H1 Q g m q =>
  RE.of (pe_tupRg hc hg hm (prg_1 hg2 hm2 re na) na2) (ha σ H1 _ g m fun v H2 g2 tv => ⟨n, tv.int_eq, RgOk.of_le (by omega) (by omega) (by omega) (by omega), fun q' hq' => q _ _ (g2.trans (Ge.new hq')) (.tup upd_same (rgV_dN n _))⟩)
/-- list(range(n)) -/
theorem lx_lstRg {n : Nat} {p p2 pos2 : Pos} (ha : EX X a Γ H (dN n)) (hn : n ≤ 4000) (hc : X.calm = true) (hm : X.mg "list" = none) (hm2 : X.mg "range" = none) (hg : Gl X "list" := by rfl) (hg2 : Gl X "range" := by rfl)
    (na : starEach [a] X.env = (false, eval a X.env) :: starEach [] X.env := by rfl) (na2 : starEach [.Call (.Name "range" p2) [a] [] pos2] X.env = (false, eval (.Call (.Name "range" p2) [a] [] pos2) X.env) :: starEach [] X.env := by rfl) :
    LX X (.Call (.Name "list" p) [.Call (.Name "range" p2) [a] [] pos2] [] pos) Γ H ((List.range n).map dN) := fun σ H1 Q g m q =>
  RE.of (pe_listRg hc hg hm (prg_1 hg2 hm2 re na) na2) (ha σ H1 _ g m fun v H2 g2 tv => ⟨n, tv.int_eq, RgOk.of_le (by omega) (by omega) (by omega) (by omega), fun q' hq' => q _ _ _ (g2.trans (Ge.new hq')) (g2.free hq') upd_same (rgV_dN n _)⟩)
/-- e[i] of a tuple, e may change things -/
theorem mx_at {K : Dt → Hp → Prop} {i : Int} {k : Nat} {pb : Pos} (ha : MX X a Γ H fun d H1 => ∃ ds j d', d = .tup ds ∧ ixN ds.length i = some j ∧ ds[j]? = some d' ∧ ∀ H2, Ge H1 H2 → K d' H2) : MX X (.Subscript a (.Constant (.int i) k pb) pos) Γ H K := fun σ m =>
  RE.of (pe_ix ix_tup re re (by intro _ _; rfl)) ((ha σ m).mono fun v H1 ⟨d, tv, m1, ds, j, d', ed, hi, hd, q⟩ => by
    subst ed
    refine ex_int (X := X) σ H1 _ (Ge.refl _) m1 fun y H2 g2 ty => ?_
    obtain ⟨p, xs, rfl, hp, t⟩ := tv.tup_eq
    obtain ⟨v', hv, tv'⟩ := t.get hd
    exact ⟨p, xs, i, v', rfl, ty.int_eq, SqT.of (g2.tup hp), by unfold atI; rw [t.length, hi]; exact hv, d', tv'.ge g2, m1.ge g2, q H2 g2⟩)
theorem mx_at0 {K : Dt → Hp → Prop} {k : Nat} {pb : Pos} (ha : MX X a Γ H fun d H1 => ∃ d0 ds, d = .tup (d0 :: ds) ∧ ∀ H2, Ge H1 H2 → K d0 H2) : MX X (.Subscript a (.Constant (.int 0) k pb) pos) Γ H K :=
  mx_at (ha.mono fun d H1 ⟨d0, ds, e, q⟩ => ⟨_, 0, d0, e, by show ixN _ ((0 : Nat) : Int) = some 0; unfold ixN; simp, rfl, q⟩)
theorem mx_at1 {K : Dt → Hp → Prop} {k : Nat} {pb : Pos} (ha : MX X a Γ H fun d H1 => ∃ d0 d1 ds, d = .tup (d0 :: d1 :: ds) ∧ ∀ H2, Ge H1 H2 → K d1 H2) : MX X (.Subscript a (.Constant (.int 1) k pb) pos) Γ H K :=
  mx_at (ha.mono fun d H1 ⟨d0, d1, ds, e, q⟩ => ⟨_, 1, d1, e, by show ixN _ ((1 : Nat) : Int) = some 1; unfold ixN; rw [if_pos (by omega), if_pos (by simp only [List.length_cons]; omega)]; rfl, rfl, q⟩)
end
/-- habits and a lot that all the needs let through -/
structure Whole (hs : List Habit) (lot : List Nat) (Q : Nat) : Prop where
  ne : hs ≠ []
  hab : ∀ x, x ∈ hs → HabOk Q x
  lo : 2 ≤ Q
  hi : Q ≤ 5
  len : hs.length ≤ 5
  lot : LotOk Q lot
  size : Q ^ hs.length ≤ 3200
def allI (hs : List Habit) : List Nat := List.range hs.length
theorem Whole.hb {hs : List Habit} {lot : List Nat} {Q : Nat} (w : Whole hs lot Q) {i : Nat} (h : i < hs.length) : HabOk Q (hb hs i) ∧ hb hs i ∈ hs := by
  have e : Lk.hb hs i ∈ hs := by
    unfold Lk.hb
    rw [List.getD_eq_getElem?_getD, List.getElem?_eq_getElem h]
    exact List.getElem_mem h
  exact ⟨w.hab _ e, e⟩
theorem Whole.ok {hs : List Habit} {lot : List Nat} {Q : Nat} (w : Whole hs lot Q) : Ok hs lot (allI hs) Q :=
  ⟨fun i hi => (w.hb (List.mem_range.mp hi)).1, w.lot.2.1, by unfold allI; rw [List.length_range]; exact w.size⟩
theorem Whole.needs {hs : List Habit} {lot : List Nat} {Q : Nat} (w : Whole hs lot Q) : R_needs 5 [dHs hs] .non := by
  cases hs with
  | nil => exact absurd rfl w.ne
  | cons h r => exact ⟨Q, h, r, rfl, w.hab, w.lo, w.hi, w.len, rfl⟩
structure BtIn where
  hs : List Habit
  lot : List Nat
  Q : Nat
def btArgs (y : BtIn) : List Dt := [dHs y.hs, dNs y.lot]
def btPre (y : BtIn) (_ : Hp) : Prop := Whole y.hs y.lot y.Q
def btPost (y : BtIn) (H : Hp) (d : Dt) (H' : Hp) : Prop := Ge H H' ∧ ∃ t, VT y.hs y.lot (allI y.hs) t (bW y.hs y.lot (allI y.hs)) ∧ d = fT (bW y.hs y.lot (allI y.hs), t)
def lePre (P1 P2 : Addr) (y : BtIn) (H : Hp) : Prop := Whole y.hs y.lot y.Q ∧ TabG H P1 ∧ TabG H P2
def lwPost (y : BtIn) (H : Hp) (d : Dt) (H' : Hp) : Prop := Ge H H' ∧ d = dN (bW y.hs y.lot (allI y.hs))
def ltPost (y : BtIn) (H : Hp) (d : Dt) (H' : Hp) : Prop := Ge H H' ∧ ∃ t, VT y.hs y.lot (allI y.hs) t (bW y.hs y.lot (allI y.hs)) ∧ d = dTree t
theorem sc_best_tree : FnScope ["habits", "lot"] ["habits", "lot"] (defScope s_best_tree) := ⟨rfl, rfl, rfl, by decide +kernel, rfl, by decide +kernel, by decide +kernel⟩
theorem sc_least_worst : FnScope ["habits", "lot"] ["habits", "lot"] (defScope s_least_worst) := ⟨rfl, rfl, rfl, by decide +kernel, rfl, by decide +kernel, by decide +kernel⟩
theorem sc_least_tree : FnScope ["habits", "lot"] ["habits", "lot"] (defScope s_least_tree) := ⟨rfl, rfl, rfl, by decide +kernel, rfl, by decide +kernel, by decide +kernel⟩
section
variable {P : Program} {w : World} {K : PySem.W.Frag} {mg : Str → Option Value} {base : Heap} {f : Addr} {fd : FuncData} {C P1 P2 : Addr}
theorem ok_best_tree (g : Gb mg) (cB : Mak P w K mg base 1 "Best" C (spP biArgs (biPre C) biPost) []) (cT : Met P w K mg base 8 C "tree" (spP tiArgs (tiPre C 5) tiPost) []) (F : FnP K "best_tree" "best_tree" s_best_tree f fd) : FnOk P w K mg base CX0 9 f fd ["habits", "lot"] (spP btArgs btPre btPost) := by
  refine fn_P F sc_best_tree (fun y => rfl) fun cdv A outer s H E y _ hr W => ?_
  obtain ⟨hs, lot, Q⟩ := y
  have W : Whole hs lot Q := W
  show SXs _ _ [some (dHs hs), some (dNs lot)] H _ _
  refine sxs_one (sx_retM (mx_meth cT hr (by omega) (mx_make cB hr (by omega) (ax_cons (ex_var 0) (ax_cons (ex_var 1) ax_nil)) fun H1 b dx g1 nb nd ne => ?_)))
  refine ⟨⟨hs, lot, b, C, dx⟩, rfl, ⟨rfl, upd_same⟩, fun d H3 p => ?_⟩
  have g2 : Ge H1 (upd (upd H1 dx (.own b)) b (.ins C dx [])) := (Ge.new nd).trans (Ge.new (by rw [upd_ne ne.symm]; exact nb))
  obtain ⟨rfl, gx, lt, kd, nk, ba, hk⟩ := p
  have gx : GeX [b] _ H3 := gx
  have ba : BestAt H3 b C dx kd hs lot := ba
  refine ⟨rfl, g2.t.trans lt, ?_⟩
  have nk1 : H1 kd = none := g2.free nk
  have g3 : Ge H1 H3 := ge_of g2 gx fun a m => by rw [List.mem_singleton.mp m]; exact nb
  have k3 : KD H3 kd hs lot := ⟨[], [], hk, .nil, List.nodup_nil, fun q m => absurd m (by simp)⟩
  obtain ⟨fs, vh, vl, hb, l1, t1, l2, t2, l3, l4⟩ := id ba
  refine ⟨b, dx, fs, [dNs (allI hs)], ⟨hs, lot, allI hs, Q, b, C, dx, kd⟩, rfl, hb, l4, ax_cons (ex_tupRg (n := hs.length) (ex_cast (ex_len g.len (ex_var 0)) (by rw [List.length_map])) (by have := W.len; omega) rfl g.tuple g.range) ax_nil, rfl, fun H4 g4 => ?_, fun H4 d H5 g4 p => ?_⟩
  · exact ⟨rfl, ba.ge k3 g4, k3.ge g4, W.ok, by have := W.lo; show 0 < Q; omega, fun i hi => List.mem_range.mp hi, W.len, W.lot.2.2.2, by show (allI hs).length ≤ 5; unfold allI; rw [List.length_range]; exact W.len, by show (allI hs).length ≤ 5; unfold allI; rw [List.length_range]; exact W.len⟩
  · obtain ⟨gx5, lt5, k5, t, vt, rfl⟩ := p
    have gx5 : GeX [kd] H4 H5 := gx5
    exact ⟨lt5, g1.trans (ge_of (g3.trans g4) gx5 fun a m => by rw [List.mem_singleton.mp m]; exact nk1), t, vt, rfl⟩
theorem ok_least_worst (g : Gb mg) (cM : Cal P w K mg base 4 "need_many" (spF [P1] (R_needs 5)) []) (cL : Cal P w K mg base 2 "need_lot" (spF [P2] R_need_lot) []) (cB : Cal P w K mg base 9 "best_tree" (spP btArgs btPre btPost) []) (F : FnP K "least_worst" "least_worst" s_least_worst f fd) :
    FnOk P w K mg base CX0 10 f fd ["habits", "lot"] (spP btArgs (lePre P1 P2) lwPost) := by
  refine fn_P F sc_least_worst (fun y => rfl) fun cdv A outer s H E y _ hr h => ?_
  obtain ⟨hs, lot, Q⟩ := y
  obtain ⟨W, T1, T2⟩ := h
  have W : Whole hs lot Q := W
  have l0 : 0 < hs.length := List.length_pos_iff.mpr W.ne
  have o0 : HabOk Q (hs.getD 0 []) := (W.hb l0).1
  show SXs _ _ [some (dHs hs), some (dNs lot)] H _ _
  refine sxs_cons (sx_expr (ex_call cM (d := .non) (ax_cons (ex_var 0) ax_nil) W.needs hr (fun P hP => by rw [List.mem_singleton.mp hP]; exact T1) (by omega)) fun H1 g1 => ?_)
  refine sxs_cons (sx_expr (ex_call cL (d := .non) (ax_cons (ex_ixHs (n := 0) (ex_var 0) ex_int l0) (ax_cons (ex_var 1) ax_nil)) ⟨hs.getD 0 [], lot, rfl, by rw [o0.len]; exact W.lot, rfl⟩ hr (fun P hP => by rw [List.mem_singleton.mp hP]; exact g1.tab T2) (by omega)) fun H2 g2 => ?_)
  refine sxs_one (sx_retM (mx_at0 (mx_call cB ⟨hs, lot, Q⟩ (ax_cons (ex_var 0) (ax_cons (ex_var 1) ax_nil)) (fun _ _ => W) (fun _ _ _ p => p.1.t) (fun H3 d H4 g3 p => ?_) hr)))
  obtain ⟨g4, t, vt, rfl⟩ := p
  exact ⟨_, _, rfl, fun H5 g5 => ⟨(((g1.trans g2).trans g3).trans g4).trans g5, rfl⟩⟩
theorem ok_least_tree (g : Gb mg) (cM : Cal P w K mg base 4 "need_many" (spF [P1] (R_needs 5)) []) (cL : Cal P w K mg base 2 "need_lot" (spF [P2] R_need_lot) []) (cB : Cal P w K mg base 9 "best_tree" (spP btArgs btPre btPost) []) (F : FnP K "least_tree" "least_tree" s_least_tree f fd) :
    FnOk P w K mg base CX0 10 f fd ["habits", "lot"] (spP btArgs (lePre P1 P2) ltPost) := by
  refine fn_P F sc_least_tree (fun y => rfl) fun cdv A outer s H E y _ hr h => ?_
  obtain ⟨hs, lot, Q⟩ := y
  obtain ⟨W, T1, T2⟩ := h
  have W : Whole hs lot Q := W
  have l0 : 0 < hs.length := List.length_pos_iff.mpr W.ne
  have o0 : HabOk Q (hs.getD 0 []) := (W.hb l0).1
  show SXs _ _ [some (dHs hs), some (dNs lot)] H _ _
  refine sxs_cons (sx_expr (ex_call cM (d := .non) (ax_cons (ex_var 0) ax_nil) W.needs hr (fun P hP => by rw [List.mem_singleton.mp hP]; exact T1) (by omega)) fun H1 g1 => ?_)
  refine sxs_cons (sx_expr (ex_call cL (d := .non) (ax_cons (ex_ixHs (n := 0) (ex_var 0) ex_int l0) (ax_cons (ex_var 1) ax_nil)) ⟨hs.getD 0 [], lot, rfl, by rw [o0.len]; exact W.lot, rfl⟩ hr (fun P hP => by rw [List.mem_singleton.mp hP]; exact g1.tab T2) (by omega)) fun H2 g2 => ?_)
  refine sxs_one (sx_retM (mx_at1 (mx_call cB ⟨hs, lot, Q⟩ (ax_cons (ex_var 0) (ax_cons (ex_var 1) ax_nil)) (fun _ _ => W) (fun _ _ _ p => p.1.t) (fun H3 d H4 g3 p => ?_) hr)))
  obtain ⟨g4, t, vt, rfl⟩ := p
  exact ⟨_, _, _, rfl, fun H5 g5 => ⟨(((g1.trans g2).trans g3).trans g4).trans g5, t, vt, rfl⟩⟩
end
end Lk
set_option Elab.async false
set_option linter.all false
set_option maxRecDepth 100000
set_option maxHeartbeats 4000000
/-! worst_of, worst. -/
namespace Lk
open PySem PySem.Spec PyProof.Rows L2 GxR
open C8 (Cal Met Mak)
section
variable {X : Cx} {e a b c : Expr} {es : List Expr} {Γ : Gam} {H H1 : Hp} {d da db : Dt} {pos : Pos}
theorem mx_ifExp {K : Dt → Hp → Prop} (hc : MT X c Γ H fun k H1 => if k = true then MX X a Γ H1 K else MX X b Γ H1 K) : MX X (.IfExp c a b pos) Γ H K := fun σ m =>
  RE.of (pe_ifExp rt re re) ((hc σ m).mono fun k H1 ⟨m1, h⟩ => by
    cases k with
    | true => rw [if_pos rfl] at h ⊢; exact h σ m1
    | false => rw [if_neg (by decide)] at h ⊢; exact h σ m1)
end
theorem pur_left (g : List Nat) : Pur (.tup [.str "left", dNs g]) := Pur.dTree (.left g)
theorem eqv_tree_nil (t : Tree) : PyData.eqv (toPy (dTree t)) (toPy (dNs [])) = false := by
  cases t <;> rfl
theorem dep_nil : (toPy (dNs [])).depth ≤ 64 := Nat.le_trans (depth_dNs []) (by omega)
theorem dep_left (g : List Nat) : (toPy (dTree (.left g))).depth ≤ 64 := by
  have h1 : (toPy (dNs g)).depth ≤ 1 := depth_dNs g
  show PyData.depth (.tuple [.str "left", toPy (dNs g)]) ≤ 64
  simp only [PyData.depth, PyData.depthAll]
  omega
theorem eqv_left (g : List Nat) : PyData.eqv (toPy (dTree (.left g))) (toPy (dTree (.left g))) = true := by
  have h : PyData.eqv (toPy (dNs g)) (toPy (dNs g)) = true := by rw [eqv_dNs]; simp
  show PyData.eqv (.tuple [.str "left", toPy (dNs g)]) (.tuple [.str "left", toPy (dNs g)]) = true
  simp only [PyData.eqv, PyData.eqvAll, h]
  decide +kernel
structure WoIn where
  hs : List Habit
  lot : List Nat
  group : List Nat
  Q : Nat
  t : Tree
  wt : Nat
def woArgs (y : WoIn) : List Dt := [dHs y.hs, dNs y.lot, dNs y.group, dTree y.t]
def woPre (n : Nat) (y : WoIn) (_ : Hp) : Prop := Whole y.hs y.lot y.Q ∧ Ok y.hs y.lot y.group y.Q ∧ (∀ i, i ∈ y.group → i < y.hs.length) ∧ VT y.hs y.lot y.group y.t y.wt ∧ y.group.length ≤ n ∧ y.group.length ≤ 5
def woPost (y : WoIn) (H : Hp) (d : Dt) (H' : Hp) : Prop := Ge H H' ∧ d = dN y.wt
abbrev N_wo : List Str := ["habits", "lot", "group", "value", "marked", "rest", "one", "two", "index"]
theorem sc_worst_of : FnScope N_wo ["habits", "lot", "group", "value"] (defScope s_worst_of) := ⟨rfl, rfl, rfl, by decide +kernel, rfl, by decide +kernel, by decide +kernel⟩
section
variable {P : Program} {w : World} {K : PySem.W.Frag} {mg : Str → Option Value} {base : Heap} {f : Addr} {fd : FuncData} {P1 P2 : Addr}
theorem ok_worst_of (g : Gb mg) (cP : Cal P w K mg base 2 "partings" (spP moArgs paPre paPost) []) (cT : Cal P w K mg base 1 "touches_of" (spF [] R_touches_of) []) (cI : Cal P w K mg base 2 "is_test_of" (spF [] R_is_test_of) []) (cR : Cal P w K mg base 1 "reads_mark" (spF [] R_reads_mark) [])
    (F : FnP K "worst_of" "worst_of" s_worst_of f fd) (n : Nat) (hm : ∀ n', n = n' + 1 → Cal P w K mg base (3 + n') "worst_of" (spP woArgs (woPre n') woPost) []) : FnOk P w K mg base CX0 (2 + n + 1) f fd ["habits", "lot", "group", "value"] (spP woArgs (woPre n) woPost) := by
  refine fn_P F sc_worst_of (fun y => rfl) fun cdv A outer s H E y _ hr h => ?_
  obtain ⟨hs, lot, group, Q, t, wt⟩ := y
  obtain ⟨W, ok, hlt, v, hgn, hg5⟩ := h
  have W : Whole hs lot Q := W
  have ok : Ok hs lot group Q := ok
  have hlt : ∀ i, i ∈ group → i < hs.length := hlt
  have v : VT hs lot group t wt := v
  have hgn : group.length ≤ n := hgn
  have hg5 : group.length ≤ 5 := hg5
  have hQ : 0 < Q := by have := W.lo; omega
  show SXs _ _ [some (dHs hs), some (dNs lot), some (dNs group), some (dTree t), none, none, none, none, none] H _ _
  have first : ∃ x ds, dTree t = .tup (.str x :: ds) := by cases t <;> exact ⟨_, _, rfl⟩
  obtain ⟨x0, ds0, et⟩ := first
  refine sxs_cons (sx_if (k := false) (tx_wx (wx_or (k := false) (l := false) (tx_not (k := true) (tx_ex (ex_isi (x := "tuple") (k := true) g.isinstance g.tuple rfl (ex_cast (d := dTree t) (ex_var 3) et) (.tup _) (by decide +kernel)))) fun _ =>
    wx_or (k := false) (l := false) (tx_cast (tx_cmp (ex_var 3) ex_nil (co_eqM hr (Pur.dTree t) (Pur.dNs []) (Nat.le_trans (Nat.min_le_right _ _) dep_nil))) (eqv_tree_nil t)) fun _ =>
    wx_one_or (tx_not (k := true) (tx_ex (ex_isi (x := "str") (k := true) g.isinstance g.str rfl (at0 (ex_cast (d := dTree t) (ex_var 3) et)) (.str _) (by decide +kernel)))))) (fun z => by cases z) fun _ H1 g1 => sxs_nil ?_)
  cases v with
  | left hp =>
    refine sxs_cons (sx_if (k := true) (tx_cast (tx_cmp (at0 (ex_var 3)) (gs g.LEFT) co_eq) (by decide +kernel)) (fun _ H2 g2 => ?_) (fun z => by cases z))
    refine sxs_cons (sx_if (k := false) (tx_wx (wx_or (k := false) (l := false) (tx_cast (tx_cmp (ex_var 3) (ex_tup (ax_cons (gs g.LEFT) (ax_cons (ex_var 2) ax_nil))) (co_neM hr (Pur.dTree (.left group)) (pur_left group) (Nat.le_trans (Nat.min_le_left _ _) (dep_left group)))) (by
      show (!PyData.eqv (toPy (dTree (.left group))) (toPy (dTree (.left group)))) = false
      rw [eqv_left]; rfl)) fun _ => wx_one_or (tx_cast (tx_neL hr (LX.ld (lx_lc (own := [("index", 8)]) (f := fun _ => none) (src_tup (i := 8) (at1 (ex_var 3))) (fun _ _ g => g.t) ?_
        (blkOk_by (by show blkC N_wo (defScope s_worst_of) _ _ = true; decide +kernel)) (by decide) (fun _ _ _ _ _ => pgn sc_worst_of.nd) ?_ (fun _ _ _ _ _ _ _ _ _ hd _ => nomatch hd) rfl sc_worst_of.nd)) (by rw [keepD_none (α := Nat) _ _ fun _ _ => rfl]; exact PurA.nil)) (by rw [keepD_none (α := Nat) _ _ fun _ _ => rfl]; rfl)))) (fun z => by cases z) fun _ H3 g3 => sxs_nil ?_)
    · rw [List.length_map]; exact Nat.le_of_lt (size4k (by omega))
    · intro s' H0 C cl fp k' H9 hk' g9
      rw [List.length_map] at hk'
      have e1 : (group.map dN)[k']? = some (dN group[k']) := by rw [List.getElem?_map, List.getElem?_eq_getElem hk']; rfl
      simp only [e1]
      exact txs_one (tx_ex (ex_isi (x := "bool") (k := false) g.isinstance g.bool rfl (ex_var 8) (.int _) (by decide +kernel)))
    · refine sxs_one (sx_retM (mx_ifExp (mt_eqDN hr (mx_call cP ⟨hs, lot, group, Q⟩ (ax_cons (ex_var 0) (ax_cons (ex_var 1) (ax_cons (ex_var 2) ax_nil))) (fun _ _ => ⟨ok, hlt, by show group.length ≤ 4000; omega, W.lot.2.2.2⟩) (fun _ _ _ p => p.1.t) (fun H4 d H5 g4 p => ?_) hr))))
      obtain ⟨g5, pf, kvsP, rfl, npf, hpf, rP⟩ := p
      refine ⟨pf, kvsP, rfl, .inl hpf, fun H6 g6 => ?_⟩
      have e : kvsP.isEmpty = true := by rw [rP.emp]; show (partings hs lot group).isEmpty = true; rw [hp]; rfl
      rw [if_pos e]
      exact mx_ex ex_int fun H7 g7 => ⟨((((g1.trans g2).trans g3).trans g4).trans g5).trans (g6.trans g7), rfl⟩
  | test ht h1 h2 va vb =>
    rename_i t a b wa wb
    have htp : ∀ p, p ∈ lot → p < Q := W.lot.2.1
    refine sxs_cons (sx_if (k := false) (tx_cast (tx_cmp (at0 (ex_var 3)) (gs g.LEFT) co_eq) (by decide +kernel)) (fun z => by cases z) fun _ H2 g2 => sxs_nil ?_)
    refine sxs_cons (sx_if (k := false) (tx_wx (wx_or (k := false) (l := false) (tx_cast (tx_cmp (at0 (ex_var 3)) (gs g.TEST) co_ne) (by decide +kernel)) fun _ =>
      wx_or (k := false) (l := false) (tx_cast (tx_cmp (ex_len g.len (ds := [.str "test", dT t, dTree a, dTree b]) (ex_var 3)) ex_int co_ne) (by rfl)) fun _ =>
      wx_one_or (tx_not (k := true) (tx_ex (ex_call cI (ax_cons (ex_var 0) (ax_cons (ex_var 1) (ax_cons (at1 (ex_var 3)) ax_nil))) ?_ hr (fun _ z => absurd z (by simp))))))) (fun z => by cases z) fun _ H3 g3 => sxs_nil ?_)
    · have hab := W.hab
      cases hs with
      | nil => exact absurd rfl W.ne
      | cons h r => exact ⟨Q, h, r, lot, t, rfl, (hab h List.mem_cons_self).len, htp, ht, rfl⟩
    refine sxs_cons (sx_asg (i := 4) (d := dNs (readsOf hs group t)) (ex_cast (ex_tupL (lx_lc (own := [("index", 8)]) (f := fun k' => ((group[k']?).filter fun i => reads (hb hs i) t).map dN) (src_tup (i := 8) (ex_var 2)) (fun _ _ g => g.t) ?_
      (blkOk_by (by show blkC N_wo (defScope s_worst_of) _ _ = true; decide +kernel)) (by decide) (fun _ _ _ _ _ => pgn sc_worst_of.nd) ?_ ?_ rfl sc_worst_of.nd) g.tuple) ?_) (fun H4 g4 => ?_) sc_worst_of.nd)
    · rw [List.length_map]; exact Nat.le_of_lt (size4k (by omega))
    · intro s' H0 C cl fp k' H9 hk' g9
      rw [List.length_map] at hk'
      have e1 : (group.map dN)[k']? = some (dN group[k']) := by rw [List.getElem?_map, List.getElem?_eq_getElem hk']; rfl
      simp only [e1]
      have hik := hlt _ (List.getElem_mem hk')
      refine txs_one (tx_cast (tx_ex (ex_call cR (d := .bl (reads (hb hs group[k']) t)) (ax_cons (ex_ixHs (ex_var 0) (ex_var 8) hik) (ax_cons (at1 (d0 := .str "test") (ds := [dTree a, dTree b]) (ex_var 3)) ax_nil)) ⟨Q, hb hs group[k'], t, rfl, (W.hb hik).1, htp _ ht.1, fun x hx => htp x (ht.2.1 x hx), rfl⟩ hr (fun _ z => absurd z (by simp)))) ?_)
      rw [List.getElem?_eq_getElem hk', Option.isSome_map]
      cases q : reads (hb hs group[k']) t <;> simp only [Option.filter, q] <;> rfl
    · intro s' H0 C cl fp k' d H9 hk' hd g9
      rw [List.length_map] at hk'
      have e1 : (group.map dN)[k']? = some (dN group[k']) := by rw [List.getElem?_map, List.getElem?_eq_getElem hk']; rfl
      rw [List.getElem?_eq_getElem hk'] at hd
      obtain ⟨q, hq, rfl⟩ := Option.map_eq_some_iff.mp hd
      have hq2 : group[k'] = q := by
        rw [Option.filter_eq_some_iff] at hq
        exact Option.some.inj hq.1
      simp only [e1]
      rw [← hq2]
      exact ex_var 8
    · rw [List.length_map, keepD_filter]
      rfl
    generalize hmk : readsOf hs group t = mk at va vb h1 h2
    refine sxs_cons (sx_asg (i := 5) (d := dNs (restOf group mk)) (ex_cast (ex_tupL (lx_lc (own := [("index", 8)]) (f := fun k' => ((group[k']?).filter fun i => !mk.contains i).map dN) (src_tup (i := 8) (ex_var 2)) (fun _ _ g => g.t) ?_
      (blkOk_by (by show blkC N_wo (defScope s_worst_of) _ _ = true; decide +kernel)) (by decide) (fun _ _ _ _ _ => pgn sc_worst_of.nd) ?_ ?_ rfl sc_worst_of.nd) g.tuple) ?_) (fun H5 g5 => ?_) sc_worst_of.nd)
    · rw [List.length_map]; exact Nat.le_of_lt (size4k (by omega))
    · intro s' H0 C cl fp k' H9 hk' g9
      rw [List.length_map] at hk'
      have e1 : (group.map dN)[k']? = some (dN group[k']) := by rw [List.getElem?_map, List.getElem?_eq_getElem hk']; rfl
      simp only [e1]
      refine txs_one (tx_cast (tx_cmp (ex_var 8) (ex_var 4) co_notinN) ?_)
      rw [List.getElem?_eq_getElem hk', Option.isSome_map]
      cases q : mk.contains group[k'] <;> simp only [Option.filter, q] <;> rfl
    · intro s' H0 C cl fp k' d H9 hk' hd g9
      rw [List.length_map] at hk'
      have e1 : (group.map dN)[k']? = some (dN group[k']) := by rw [List.getElem?_map, List.getElem?_eq_getElem hk']; rfl
      rw [List.getElem?_eq_getElem hk'] at hd
      obtain ⟨q, hq, rfl⟩ := Option.map_eq_some_iff.mp hd
      have hq2 : group[k'] = q := by
        rw [Option.filter_eq_some_iff] at hq
        exact Option.some.inj hq.1
      simp only [e1]
      rw [← hq2]
      exact ex_var 8
    · rw [List.length_map, keepD_filter]
      rfl
    show SXs _ _ [some (dHs hs), some (dNs lot), some (dNs group), some (dTree (.test t a b)), some (dNs mk), some (dNs (restOf group mk)), none, none, none] H5 _ _
    refine sxs_cons (sx_if (k := false) (tx_wx (wx_or (k := false) (l := false) (tx_cast (tx_cmp (ex_var 4) ex_nil (co_eqNs hr)) (decide_eq_false h1)) fun _ => wx_one_or (tx_cast (tx_cmp (ex_var 5) ex_nil (co_eqNs hr)) (decide_eq_false h2)))) (fun z => by cases z) fun _ H6 g6 => sxs_nil ?_)
    have fl := filter_len (fun i => reads (hb hs i) t) group
    have er : restOf group mk = group.filter fun i => !reads (hb hs i) t := by rw [← hmk]; exact rest_of
    have em : mk = group.filter fun i => reads (hb hs i) t := hmk.symm
    rw [← er, ← em] at fl
    have l1 : 0 < mk.length := List.length_pos_iff.mpr h1
    have l2 : 0 < (restOf group mk).length := List.length_pos_iff.mpr h2
    have msub : ∀ i, i ∈ mk → i ∈ group := fun i hi => by rw [em] at hi; exact (List.mem_filter.mp hi).1
    have rsub : ∀ i, i ∈ restOf group mk → i ∈ group := fun i hi => (List.mem_filter.mp hi).1
    obtain ⟨n', rfl⟩ : ∃ n', n = n' + 1 := ⟨n - 1, by omega⟩
    have cW := hm n' rfl
    have ok1 : Ok hs lot mk Q := ok.sub msub (by show mk.length ≤ group.length; omega) hQ
    have ok2 : Ok hs lot (restOf group mk) Q := ok.sub rsub (by show (restOf group mk).length ≤ group.length; omega) hQ
    refine sxs_cons (sx_par (i := 6) (j := 7) (da := dN wa) (db := dN wb) (ex_callG cW ⟨hs, lot, mk, Q, a, wa⟩ (ax_cons (ex_var 0) (ax_cons (ex_var 1) (ax_cons (ex_var 4) (ax_cons (at2 (d0 := .str "test") (d1 := dT t) (ds := [dTree b]) (ex_var 3)) ax_nil)))) (fun _ _ => ⟨W, ok1, fun i hi => hlt i (msub i hi), va, by show mk.length ≤ n'; omega, by show mk.length ≤ 5; omega⟩) (fun _ _ _ p => p) hr)
      (ex_callG cW ⟨hs, lot, restOf group mk, Q, b, wb⟩ (ax_cons (ex_var 0) (ax_cons (ex_var 1) (ax_cons (ex_var 5) (ax_cons (at3 (d0 := .str "test") (d1 := dT t) (d2 := dTree a) (ds := []) (ex_var 3)) ax_nil)))) (fun _ _ => ⟨W, ok2, fun i hi => hlt i (rsub i hi), vb, by show (restOf group mk).length ≤ n'; omega, by show (restOf group mk).length ≤ 5; omega⟩) (fun _ _ _ p => p) hr) (fun H7 g7 => ?_) rfl sc_worst_of.nd (by decide))
    refine sxs_one (sx_ret (d := dN (t.w.length + 2 + max wa wb)) (ex_if (k := false) (tx_wx (wx_or (k := false) (l := false) (tx_cast (tx_cmp (ex_var 6) ex_non co_is) (by rfl)) fun _ => wx_one_or (tx_cast (tx_cmp (ex_var 7) ex_non co_is) (by rfl)))) (fun z => by cases z) fun _ =>
      ex_cast (ex_add (ex_call cT (d := dN (t.w.length + 2)) (ax_cons (at1 (d0 := .str "test") (ds := [dTree a, dTree b]) (ex_var 3)) ax_nil) ⟨t, rfl, rfl⟩ hr (fun _ z => absurd z (by simp)) (by omega)) (ex_max rfl g.max rfl (ex_var 6) (ex_var 7))) ?_) fun H8 g8 => ⟨((((((g1.trans g2).trans g3).trans g4).trans g5).trans g6).trans g7).trans g8, rfl⟩)
    show Dt.int _ = Dt.int _
    congr 1
    omega
structure WtIn where
  hs : List Habit
  lot : List Nat
  Q : Nat
  t : Tree
  wt : Nat
def wtArgs (y : WtIn) : List Dt := [dHs y.hs, dNs y.lot, dTree y.t]
def wtPre (P1 P2 : Addr) (y : WtIn) (H : Hp) : Prop := Whole y.hs y.lot y.Q ∧ VT y.hs y.lot (allI y.hs) y.t y.wt ∧ TabG H P1 ∧ TabG H P2
def wtPost (y : WtIn) (H : Hp) (d : Dt) (H' : Hp) : Prop := Ge H H' ∧ d = dN y.wt
abbrev N_w : List Str := ["habits", "lot", "tree", "found"]
theorem sc_worst : FnScope N_w ["habits", "lot", "tree"] (defScope s_worst) := ⟨rfl, rfl, rfl, by decide +kernel, rfl, by decide +kernel, by decide +kernel⟩
theorem ok_worst (g : Gb mg) (cM : Cal P w K mg base 4 "need_many" (spF [P1] (R_needs 5)) []) (cL : Cal P w K mg base 2 "need_lot" (spF [P2] R_need_lot) []) (cW : Cal P w K mg base 8 "worst_of" (spP woArgs (woPre 5) woPost) []) (F : FnP K "worst" "worst" s_worst f fd) :
    FnOk P w K mg base CX0 9 f fd ["habits", "lot", "tree"] (spP wtArgs (wtPre P1 P2) wtPost) := by
  refine fn_P F sc_worst (fun y => rfl) fun cdv A outer s H E y _ hr h => ?_
  obtain ⟨hs, lot, Q, t, wt⟩ := y
  obtain ⟨W, v, T1, T2⟩ := h
  have W : Whole hs lot Q := W
  have v : VT hs lot (allI hs) t wt := v
  have l0 : 0 < hs.length := List.length_pos_iff.mpr W.ne
  have o0 : HabOk Q (hs.getD 0 []) := (W.hb l0).1
  have la : (allI hs).length ≤ 5 := by unfold allI; rw [List.length_range]; exact W.len
  show SXs _ _ [some (dHs hs), some (dNs lot), some (dTree t), none] H _ _
  refine sxs_cons (sx_expr (ex_call cM (d := .non) (ax_cons (ex_var 0) ax_nil) W.needs hr (fun P hP => by rw [List.mem_singleton.mp hP]; exact T1) (by omega)) fun H1 g1 => ?_)
  refine sxs_cons (sx_expr (ex_call cL (d := .non) (ax_cons (ex_ixHs (n := 0) (ex_var 0) ex_int l0) (ax_cons (ex_var 1) ax_nil)) ⟨hs.getD 0 [], lot, rfl, by rw [o0.len]; exact W.lot, rfl⟩ hr (fun P hP => by rw [List.mem_singleton.mp hP]; exact g1.tab T2) (by omega)) fun H2 g2 => ?_)
  refine sxs_cons (sx_asg (i := 3) (d := dN wt) (ex_callG cW ⟨hs, lot, allI hs, Q, t, wt⟩ (ax_cons (ex_var 0) (ax_cons (ex_var 1) (ax_cons (ex_tupRg (n := hs.length) (ex_cast (ex_len g.len (ex_var 0)) (by rw [List.length_map])) (by have := W.len; omega) rfl g.tuple g.range) (ax_cons (ex_var 2) ax_nil)))) (fun _ _ => ⟨W, W.ok, fun i hi => List.mem_range.mp hi, v, la, la⟩) (fun _ _ _ p => p) hr) (fun H3 g3 => ?_) sc_worst.nd)
  refine sxs_cons (sx_if (k := false) (tx_cast (tx_cmp (ex_var 3) ex_non co_is) (by rfl)) (fun z => by cases z) fun _ H4 g4 => sxs_nil ?_)
  exact sxs_one (sx_ret (ex_var 3) fun H5 g5 => ⟨(((g1.trans g2).trans g3).trans g4).trans g5, rfl⟩)
end
end Lk
set_option Elab.async false
set_option linter.all false
set_option maxRecDepth 100000
set_option maxHeartbeats 4000000
/-! learned. -/
namespace Lk
open PySem PySem.Spec PyProof.Rows L2 GxR
open C8 (Cal Met Mak)
section
variable {X : Cx} {e a b c : Expr} {es : List Expr} {Γ : Gam} {H H1 : Hp} {d da db : Dt} {pos : Pos} {nx : Gam → Hp → Prop} {rt : Dt → Hp → Prop}
/-- x += e, ints -/
theorem sx_augI {i : Nat} {x : Str} {pos' : Pos} {m n : Int} (h : EX X e Γ H (.int n)) (hG : Γ[i]? = some (some (.int m))) (k : ∀ H1, Ge H H1 → nx (Γ.set i (some (.int (m + n)))) H1) (hN : X.N.Nodup) (hi : X.N[i]? = some x := by rfl) (hx : Loc X.env.scope x := by first | exact Or.inl rfl | exact Or.inr rfl)
    (hf : X.fn x = true ∨ X.env.scope.names.lookup x = some .local := by first | exact .inl rfl | exact .inr rfl | assumption) : SX X (.AugAssign (.Name x pos') .Add e pos) Γ H nx rt := fun σ mm =>
  RS.of (ps_aug hN hi hx re ip_add hf) (by
    obtain ⟨v, hv, tv⟩ := mm.get i _ hG
    exact ⟨v, hv, h σ H _ (Ge.refl _) mm fun y H2 g2 ty => ⟨m, n, tv.int_eq, ty.int_eq, _, (mm.ge g2).set (.int _) i, k H2 g2⟩⟩)
end
structure LdIn where
  hs : List Habit
  lot : List Nat
  Q : Nat
  t : Tree
  wt : Nat
  i : Nat
def ldArgs (y : LdIn) : List Dt := [dHs y.hs, dNs y.lot, dTree y.t, dN y.i]
def ldPre (P1 P2 : Addr) (y : LdIn) (H : Hp) : Prop := Whole y.hs y.lot y.Q ∧ VT y.hs y.lot (allI y.hs) y.t y.wt ∧ TabG H P1 ∧ TabG H P2 ∧ y.i < y.hs.length
def ldPost (y : LdIn) (H : Hp) (d : Dt) (H' : Hp) : Prop := Ge H H' ∧ d = .tup [dNs (leaf (hb y.hs y.i) y.t).1, dN (leaf (hb y.hs y.i) y.t).2]
abbrev N_ld : List Str := ["habits", "lot", "tree", "index", "many"]
theorem sc_learned : FnScope N_ld ["habits", "lot", "tree", "index"] (defScope s_learned) := ⟨rfl, rfl, rfl, by decide +kernel, rfl, by decide +kernel, by decide +kernel⟩
/-- the number of the tests under a tree at most -/
def hgt : Tree → Nat
  | .left _ => 0
  | .test _ a b => 1 + hgt a + hgt b
section
variable {P : Program} {w : World} {K : PySem.W.Frag} {mg : Str → Option Value} {base : Heap} {f : Addr} {fd : FuncData} {P1 P2 : Addr}
theorem ok_learned (g : Gb mg) (cW : Cal P w K mg base 9 "worst" (spP wtArgs (wtPre P1 P2) wtPost) []) (cN : Cal P w K mg base 1 "is_number" (spF [] R_is_number) []) (cT : Cal P w K mg base 1 "touches_of" (spF [] R_touches_of) []) (cR : Cal P w K mg base 1 "reads_mark" (spF [] R_reads_mark) [])
    (F : FnP K "learned" "learned" s_learned f fd) : FnOk P w K mg base CX0 10 f fd ["habits", "lot", "tree", "index"] (spP ldArgs (ldPre P1 P2) ldPost) := by
  refine fn_P F sc_learned (fun y => rfl) fun cdv A outer s H E y _ hr h => ?_
  obtain ⟨hs, lot, Q, t, wt, i⟩ := y
  obtain ⟨W, v, T1, T2, hi⟩ := h
  have W : Whole hs lot Q := W
  have v : VT hs lot (allI hs) t wt := v
  have hi : i < hs.length := hi
  have htp : ∀ p, p ∈ lot → p < Q := W.lot.2.1
  have o := (W.hb hi).1
  show SXs _ _ [some (dHs hs), some (dNs lot), some (dTree t), some (dN i), none] H _ _
  refine sxs_cons (sx_expr (ex_callG cW (d := dN wt) ⟨hs, lot, Q, t, wt⟩ (ax_cons (ex_var 0) (ax_cons (ex_var 1) (ax_cons (ex_var 2) ax_nil))) (fun H1 g1 => ⟨W, v, g1.tab T1, g1.tab T2⟩) (fun _ _ _ p => p) hr) fun H1 g1 => ?_)
  refine sxs_cons (sx_if (k := false) (tx_not (k := true) (tx_cast (tx_ex (ex_call cN (ax_cons (ex_var 3) (ax_cons ex_int (ax_cons (ex_sub (ex_len g.len (ex_var 0)) ex_int) ax_nil))) ⟨_, _, _, rfl, rfl⟩ hr (fun _ z => absurd z (by simp)))) ?_)) (fun z => by cases z) fun _ H2 g2 => sxs_nil ?_)
  · rw [List.length_map, Bool.and_eq_true, decide_eq_true_iff, decide_eq_true_iff]
    omega
  refine sxs_cons (sx_asg (i := 4) ex_int (fun H3 g3 => ?_) sc_learned.nd)
  refine sxs_cons (sx_while (fun n Γ' H' => Ge H H' ∧ ∃ (u : Tree) (g' : List Nat) (wu k : Nat), n = hgt u ∧ VT hs lot g' u wu ∧ Γ' = [some (dHs hs), some (dNs lot), some (dTree u), some (dN i), some (dN k)] ∧ (leaf (hb hs i) u).1 = (leaf (hb hs i) t).1 ∧ k + (leaf (hb hs i) u).2 = (leaf (hb hs i) t).2)
    ⟨_, (g1.trans g2).trans g3, t, _, wt, 0, rfl, v, rfl, rfl, Nat.zero_add _⟩ ?_ PassesOwn.never)
  rintro n Γ' H' ⟨gg, u, g', wu, k, rfl, vu, rfl, e1, e2⟩
  cases vu with
  | left hp =>
    refine ⟨false, tx_cast (tx_cmp (at0 (ex_var 2)) (gs g.TEST) co_eq) (by decide +kernel), (fun z => by cases z), fun _ H4 g4 => ?_⟩
    refine sxs_one (sx_ret (ex_tup (ax_cons (at1 (ex_var 2)) (ax_cons (ex_var 4) ax_nil))) fun H5 g5 => ⟨(gg.trans g4).trans g5, ?_⟩)
    have e1 : g' = (leaf (hb hs i) t).1 := e1
    have e2 : k + 0 = (leaf (hb hs i) t).2 := e2
    show Dt.tup [dNs g', dN k] = _
    rw [← e1, ← e2]
    rfl
  | test ht h1 h2 va vb =>
    rename_i q a b wa wb
    refine ⟨true, tx_cast (tx_cmp (at0 (ex_var 2)) (gs g.TEST) co_eq) (by decide +kernel), fun _ H4 g4 => ?_, fun z => by cases z⟩
    refine sxs_cons (sx_augI (i := 4) (ex_call cT (d := dN (q.w.length + 2)) (ax_cons (at1 (d0 := .str "test") (ds := [dTree a, dTree b]) (ex_var 2)) ax_nil) ⟨q, rfl, rfl⟩ hr (fun _ z => absurd z (by simp)) (by omega)) rfl (fun H5 g5 => ?_) sc_learned.nd)
    refine sxs_one (sx_asg (i := 2) (d := dTree (if reads (hb hs i) q then a else b)) (ex_if (k := reads (hb hs i) q) (tx_ex (ex_call cR (d := .bl (reads (hb hs i) q)) (ax_cons (ex_ixHs (ex_var 0) (ex_var 3) hi) (ax_cons (at1 (d0 := .str "test") (ds := [dTree a, dTree b]) (ex_var 2)) ax_nil)) ⟨Q, hb hs i, q, rfl, o, htp _ ht.1, fun x hx => htp x (ht.2.1 x hx), rfl⟩ hr (fun _ z => absurd z (by simp)) (by omega)))
      (fun hb' => by rw [if_pos hb']; exact at2 (d0 := .str "test") (d1 := dT q) (ds := [dTree b]) (ex_var 2)) (fun hb' => by rw [if_neg (by rw [hb']; decide)]; exact at3 (d0 := .str "test") (d1 := dT q) (d2 := dTree a) (ds := []) (ex_var 2))) (fun H6 g6 => ?_) sc_learned.nd)
    have el : leaf (hb hs i) (.test q a b) = if reads (hb hs i) q then ((leaf (hb hs i) a).1, (leaf (hb hs i) a).2 + (q.w.length + 2)) else ((leaf (hb hs i) b).1, (leaf (hb hs i) b).2 + (q.w.length + 2)) := rfl
    rw [el] at e1 e2
    cases hq : reads (hb hs i) q with
    | true =>
      rw [hq, if_pos rfl] at e1 e2
      refine ⟨hgt a, by show hgt a < 1 + hgt a + hgt b; omega, ((gg.trans g4).trans g5).trans g6, a, _, wa, k + (q.w.length + 2), rfl, va, rfl, e1, ?_⟩
      have e2 : k + ((leaf (hb hs i) a).2 + (q.w.length + 2)) = (leaf (hb hs i) t).2 := e2
      omega
    | false =>
      rw [hq, if_neg (by decide)] at e1 e2
      refine ⟨hgt b, by show hgt b < 1 + hgt a + hgt b; omega, ((gg.trans g4).trans g5).trans g6, b, _, wb, k + (q.w.length + 2), rfl, vb, rfl, e1, ?_⟩
      have e2 : k + ((leaf (hb hs i) b).2 + (q.w.length + 2)) = (leaf (hb hs i) t).2 := e2
      omega
end
end Lk
set_option Elab.async false
set_option linter.all false
set_option maxRecDepth 100000
set_option maxHeartbeats 4000000
/-! Rules the shelf wants; its methods. -/
namespace Lk
open PySem PySem.Spec PyProof.Rows L2 GxR
open C8 (Cal Met Mak)
section
variable {X : Cx} {e a b c o : Expr} {es : List Expr} {Γ : Gam} {H H1 : Hp} {d da db : Dt} {pos : Pos} {nx : Gam → Hp → Prop} {rt : Dt → Hp → Prop}
def sPut (t : TSet) (td ty tv : TE) : TS := fun D σ H => tv σ H fun v H1 => td σ H1 fun x H2 => ty σ H2 fun y H3 => t x y v H3 fun H4 => D.nx σ H4
theorem ps_put {t : TSet} {td ty tv : TE} {o i value : Expr} {pos' : Pos} (hst : PSet X t) (ho : PE X o td) (hi : PE X i ty) (hv : PE X value tv) (hs : swapsWith value (some (.Subscript o i pos')) pos.line X.env = pure false) : L2.PS X (.Assign [.Subscript o i pos'] value pos) (sPut t td ty tv) := by
  refine ⟨fun pins s σ H D I h => ?_⟩
  refine wpAny_Assign_Subscript (thn (hv.run pins s σ H _ I h) fun r s1 ⟨v, H1, I1, rv, q1⟩ => thn (ho.run pins s1 σ H1 _ I1 q1) fun u s2 ⟨x, H2, I2, rx, q2⟩ => thn (hi.run pins s2 σ H2 _ I2 q2) fun iv s3 ⟨y, H3, I3, ry, q3⟩ => ?_) hs
  exact thn (hst pins s3 σ H3 x y v u iv r _ I3 rx ry rv q3) fun _ s4 ⟨H4, I4, q4⟩ => ⟨σ, H4, I4, q4⟩
theorem ixN_nat {n i : Nat} (h : i < n) : ixN n (i : Int) = some i := by
  unfold ixN
  rw [if_pos (Int.natCast_nonneg _), if_pos (Int.ofNat_lt.mpr h)]
  simp
/-- l[i] = e -/
theorem sx_lput {l : Addr} {vs : List V} {i : Expr} {n : Nat} {pos' : Pos} (hv : EX X e Γ H d) (ha : EX X a Γ H (.ref l)) (hb : EX X i Γ H (dN n)) (hl : H l = some (.lst vs)) (hn : n < vs.length)
    (q : ∀ H1 v, GeX [l] H H1 → Tp H1 v d → H1 l = some (.lst (vs.set n v)) → nx Γ H1) (hs : swapsWith e (some (.Subscript a i pos')) pos.line X.env = pure false := by rfl) : SX X (.Assign [.Subscript a i pos'] e pos) Γ H nx rt := fun σ mm =>
  RS.of (ps_put set_list re re re hs) (hv σ H _ (Ge.refl _) mm fun v H1 g1 tv => ha σ H1 _ g1 (mm.ge g1) fun o H2 g2 to => hb σ H2 _ (g1.trans g2) ((mm.ge g1).ge g2) fun i H3 g3 ti => by
    have g := (g1.trans g2).trans g3
    have hl3 := g.lst hl
    have lt : LeT H3 (upd H3 l (.lst (vs.set n v))) := LeT.upd fun xs h => by rw [hl3] at h; cases h
    exact ⟨l, vs, n, n, to.ref_eq, ti.int_eq, hl3, ixN_nat hn, Γ, (mm.ge g).mono lt, q _ v ((g.x [l]).trans GeX.set) ((tv.ge (g2.trans g3)).mono lt) upd_same⟩)
/-- l[i] of a list, the number got by the way -/
theorem ex_ixLs {l : Addr} {vs : List V} {v : V} {n : Nat} (ha : EX X a Γ H (.ref l)) (hl : H l = some (.lst vs)) (hv : vs[n]? = some v) (tv : Tp H v d) (hb : EX X b Γ H (dN n)) (hs : PlainIx b := by intro _ _; rfl) : EX X (.Subscript a b pos) Γ H d := ex_ixL ha hl hv tv hb hs
theorem rep_flat : ∀ n : Nat, (List.replicate n [V.int 0]).flatten = (List.replicate n (0 : Int)).map V.int
  | 0 => rfl
  | n + 1 => by rw [List.replicate_succ, List.replicate_succ, List.flatten_cons, rep_flat n]; rfl
/-- [0] * n -/
theorem lx_rep {n : Nat} (ha : LX X a Γ H [.int 0]) (hb : EX X b Γ H (dN n)) (hn : n ≤ 4000) : LX X (.BinOp a .Mult b pos) Γ H ((List.replicate n (0 : Int)).map Dt.int) := fun σ H1 Q g m q =>
  RE.of (pe_op op_rep re re) (ha σ H1 _ g m fun l vs H2 g2 nl hl t => hb σ H2 _ (g.trans g2) (m.ge g2) fun y H3 g3 ty => by
    have e : vs = [.int 0] := TpA.ints_eq (ns := [0]) t
    subst e
    refine ⟨l, n, _, rfl, ty.int_eq, g3.lst hl, by omega, by omega, ?_, fun p hp => q p _ _ ((g2.trans g3).trans (Ge.new hp)) ((g2.trans g3).free hp) upd_same ?_⟩
    · rw [Int.toNat_natCast]
      have := size4k hn
      show 1 * n ≤ sizeLine
      omega
    · rw [Int.toNat_natCast]
      rw [rep_flat]
      exact Tp.ints _)
/-- a method that only adds, and tells one thing -/
theorem ex_methG {ι : Type} {args : ι → List Dt} {pre : ι → Hp → Prop} {post : ι → Hp → Dt → Hp → Prop} {k j : Nat} {C bb dx : Addr} {fs : List (Str × V)} {m : Str} {apos : Pos} {pl : Sem Bool} {ds : List Dt} (c : Met X.prog X.w X.K X.mg X.base k C m (spP args pre post) []) (hr : Room j X.A) (hk : k ≤ j)
    (ho : EX X o Γ H (.ref bb)) (hb : H bb = some (.ins C dx fs)) (hl : fs.lookup m = none) (y : ι) (ey : args y = .ref bb :: ds) (ha : AX X (e :: es) Γ H ds) (hp : ∀ H1, Ge H H1 → pre y H1) (q : ∀ H1 d' H2, post y H1 d' H2 → Ge H1 H2 ∧ d' = d)
    (hst : starEach (e :: es) X.env = (false, eval e X.env) :: starEach es X.env := by rfl) (hpl : (backTo pos (starEach es X.env)).any (·.1) = false := by rfl)
    (ht : eval (.Call (.Attribute o m apos) (e :: es) [] pos) X.env = (do
      let ov ← eval o X.env
      standAt apos.atName
      let (f, first) ← holding [ov] (getMethod ov m pl)
      callWith pos f first (backTo pos (starEach (e :: es) X.env)) (backToKw pos (keywordEach [] X.env))) := by rfl) :
    EX X (.Call (.Attribute o m apos) (e :: es) [] pos) Γ H d := fun σ H1 Q g mm k' =>
  RE.of (C8.pe_mt (pl := pl) c hr hk re ra hst hpl ht) (ho σ H1 _ g mm fun v H2 g2 tv => by
    cases tv.ref_eq
    refine ⟨bb, dx, fs, rfl, (g.trans g2).ins hb, hl, ha σ H2 _ (g.trans g2) (mm.ge g2) fun vs H3 g3 t => ?_⟩
    show spP args pre post (.ref bb :: (vs ++ [])) H3 _ _
    rw [List.append_nil]
    refine ⟨y, by rw [ey]; exact .cons (.ref bb) t, hp H3 ((g.trans g2).trans g3), fun d' v H4 tv p4 => ?_⟩
    obtain ⟨g4, rfl⟩ := q _ _ _ p4
    exact k' v H4 ((g2.trans g3).trans g4) tv)
end
/-! the shelf at b -/
def shF (vh : V) (a lb lt : Addr) : List (Str × V) := [("_habit", vh), ("_stands", .ref a), ("_books", .ref lb), ("_touches", .ref lt)]
structure ShAd where
  b : Addr
  C : Addr
  dx : Addr
  lb : Addr
  lt : Addr
def ShAd.xs (y : ShAd) : List Addr := [y.b, y.lb, y.lt]
def ShAt (H : Hp) (y : ShAd) (h : Habit) (s : Sh) : Prop := ∃ vh a, H y.b = some (.ins y.C y.dx (shF vh a y.lb y.lt)) ∧ Tp H vh (dH h) ∧ Fz H (.ref a) s.st ∧ H y.lb = some (.lst (s.bk.map V.int)) ∧ H y.lt = some (.lst ((zs s.pa).map V.int)) ∧ y.lb ≠ y.lt
theorem ShAt.ge {H H' : Hp} {y : ShAd} {h : Habit} {s : Sh} (a : ShAt H y h s) (g : Ge H H') : ShAt H' y h s := by
  obtain ⟨vh, a, hb, tv, z, h1, h2, ne⟩ := a
  exact ⟨vh, a, g.ins hb, tv.ge g, z.ge g, g.lst h1, g.lst h2, ne⟩
theorem ShAt.nt {H : Hp} {y : ShAd} {h : Habit} {s : Sh} (a : ShAt H y h s) : ∀ x ∈ y.xs, ∀ xs, H x ≠ some (.tup xs) := by
  obtain ⟨vh, a, hb, tv, z, h1, h2, ne⟩ := a
  intro x hx xs e
  simp only [ShAd.xs, List.mem_cons, List.not_mem_nil, or_false] at hx
  rcases hx with rfl | rfl | rfl
  · rw [hb] at e; cases e
  · rw [h1] at e; cases e
  · rw [h2] at e; cases e
theorem GeX.tn {zs : List Addr} {H H' : Hp} (g : GeX zs H H') (hf : ∀ x ∈ zs, ∀ xs, H x ≠ some (.tup xs)) : LeT H H' := fun a xs h =>
  g.at (fun m => hf a m xs h) h fun _ z => by cases z
theorem Fz.x {H H' : Hp} {d : Dt} {ns : List Nat} {zs : List Addr} (z : Fz H d ns) (g : GeX zs H H') (n : ∀ x ∈ zs, ∀ o u, H x ≠ some (.frz o u)) : Fz H' d ns := by
  obtain ⟨a, o, e, h, nd⟩ := z
  exact ⟨a, o, e, g.at (fun m => n a m _ _ h) h (fun _ z => by cases z), nd⟩
/-- the class of the shelf -/
structure ShC (K : PySem.W.Frag) (C : Addr) : Prop where
  cl : Cls K C
  n1 : NoAttr K C "_habit"
  n2 : NoAttr K C "_stands"
  n3 : NoAttr K C "_books"
  n4 : NoAttr K C "_touches"
section
variable {X : Cx} {o : Expr} {Γ : Gam} {H : Hp} {pos : Pos} {y : ShAd} {h : Habit} {s : Sh}
theorem ex_sHabit (c : ShC X.K y.C) (a : ShAt H y h s) (he : EX X o Γ H (.ref y.b)) (hab : attributeBase o "_habit" X.env (eval o X.env) = eval o X.env := by rfl) : EX X (.Attribute o "_habit" pos) Γ H (dH h) := by
  obtain ⟨vh, a, hb, tv, z, h1, h2, ne⟩ := a
  exact ex_fld he hb c.cl c.n1 rfl tv hab
theorem ex_sBooks (c : ShC X.K y.C) (a : ShAt H y h s) (he : EX X o Γ H (.ref y.b)) (hab : attributeBase o "_books" X.env (eval o X.env) = eval o X.env := by rfl) : EX X (.Attribute o "_books" pos) Γ H (.ref y.lb) := by
  obtain ⟨vh, a, hb, tv, z, h1, h2, ne⟩ := a
  exact ex_fld he hb c.cl c.n3 rfl (.ref _) hab
theorem ex_sTouches (c : ShC X.K y.C) (a : ShAt H y h s) (he : EX X o Γ H (.ref y.b)) (hab : attributeBase o "_touches" X.env (eval o X.env) = eval o X.env := by rfl) : EX X (.Attribute o "_touches" pos) Γ H (.ref y.lt) := by
  obtain ⟨vh, a, hb, tv, z, h1, h2, ne⟩ := a
  exact ex_fld he hb c.cl c.n4 rfl (.ref _) hab
theorem ex_sStands (c : ShC X.K y.C) (a : ShAt H y h s) (he : EX X o Γ H (.ref y.b)) (hab : attributeBase o "_stands" X.env (eval o X.env) = eval o X.env := by rfl) : ∃ ad, Fz H (.ref ad) s.st ∧ EX X (.Attribute o "_stands" pos) Γ H (.ref ad) := by
  obtain ⟨vh, a, hb, tv, z, h1, h2, ne⟩ := a
  exact ⟨a, z, ex_fld he hb c.cl c.n2 rfl (.ref _) hab⟩
end
structure SmIn where
  y : ShAd
  h : Habit
  s : Sh
  Q : Nat
  p : Nat
  v : Int
def smArgs (i : SmIn) : List Dt := [.ref i.y.b, dN i.p]
def swArgs (i : SmIn) : List Dt := [.ref i.y.b, dN i.p, .int i.v]
/-- what every method asks -/
def smPre (C : Addr) (i : SmIn) (H : Hp) : Prop := i.y.C = C ∧ ShAt H i.y i.h i.s ∧ HabOk i.Q i.h ∧ (∃ k, ShOk i.Q i.s k) ∧ i.p < i.Q ∧ i.Q ≤ 5 ∧ i.s.pa.length ≤ 400000
def naPost (i : SmIn) (H : Hp) (d : Dt) (H' : Hp) : Prop := Ge H H' ∧ d = dN (i.s.st.idxOf i.p)
def mvPost (i : SmIn) (H : Hp) (d : Dt) (H' : Hp) : Prop := GeX i.y.xs H H' ∧ LeT H H' ∧ ShAt H' i.y i.h (i.s.mv i.h i.p) ∧ d = .non
def rdPost (i : SmIn) (H : Hp) (d : Dt) (H' : Hp) : Prop := GeX i.y.xs H H' ∧ LeT H H' ∧ ShAt H' i.y i.h (i.s.mv i.h i.p) ∧ d = .int (i.s.rd i.p)
def wrPost (i : SmIn) (H : Hp) (d : Dt) (H' : Hp) : Prop := GeX i.y.xs H H' ∧ LeT H H' ∧ ShAt H' i.y i.h (i.s.wr i.h i.p i.v) ∧ d = .non
theorem sc_name_at : FnScope ["self", "place"] ["self", "place"] (defScope s_Shelf_name_at) := ⟨rfl, rfl, rfl, by decide +kernel, rfl, by decide +kernel, by decide +kernel⟩
theorem sc_move : FnScope ["self", "place"] ["self", "place"] (defScope s_Shelf_move) := ⟨rfl, rfl, rfl, by decide +kernel, rfl, by decide +kernel, by decide +kernel⟩
theorem sc_read : FnScope ["self", "place", "found"] ["self", "place"] (defScope s_Shelf_read) := ⟨rfl, rfl, rfl, by decide +kernel, rfl, by decide +kernel, by decide +kernel⟩
theorem sc_write : FnScope ["self", "place", "value", "name"] ["self", "place", "value"] (defScope s_Shelf_write) := ⟨rfl, rfl, rfl, by decide +kernel, rfl, by decide +kernel, by decide +kernel⟩
theorem sc_touch : FnScope ["self", "place"] ["self", "place"] (defScope s_Shelf_touch) := ⟨rfl, rfl, rfl, by decide +kernel, rfl, by decide +kernel, by decide +kernel⟩
section
variable {P : Program} {w : World} {K : PySem.W.Frag} {mg : Str → Option Value} {base : Heap} {f C P1 P2 : Addr} {fd : FuncData}
theorem ok_name_at (c : ShC K C) (cN : Cal P w K mg base 2 "need_place" (spF [] R_need_place) []) (F : FnP K "_name_at" "Shelf._name_at" s_Shelf_name_at f fd) : FnOk P w K mg base CX0 3 f fd ["self", "place"] (spP smArgs (smPre C) naPost) := by
  refine fn_P F sc_name_at (fun y => rfl) fun cdv A outer s0 H E i _ hr h => ?_
  obtain ⟨y, h, s, Q, p, v⟩ := i
  obtain ⟨eC, sa, ho, ⟨k, so⟩, hp, hQ5, hpa⟩ := h
  have eC : y.C = C := eC
  subst eC
  have sa : ShAt H y h s := sa
  have ho : HabOk Q h := ho
  have so : ShOk Q s k := so
  have hp : p < Q := hp
  show SXs _ _ [some (.ref y.b), some (dN p)] H _ _
  refine sxs_cons (sx_expr (ex_call cN (d := .non) (ax_cons (ex_sHabit c sa (ex_var 0)) (ax_cons (ex_var 1) ax_nil)) ⟨h.map dNs, p, rfl, by omega, by rw [List.length_map, ho.len]; omega, rfl⟩ hr (fun _ z => absurd z (by simp))) fun H1 g1 => ?_)
  obtain ⟨ad, z, es⟩ := ex_sStands (X := (cxOf CX0 P w K mg base ["self", "place"] "Shelf._name_at" (defScope s_Shelf_name_at) f cdv A outer s0 H E).nox) (Γ := [some (.ref y.b), some (dN p)]) (pos := ⟨114, 15, 114, 27⟩) (o := .Name "self" ⟨114, 15, 114, 19⟩) c (sa.ge g1) (ex_var 0)
  exact sxs_one (sx_ret (ex_idx es z (ex_var 1) (so.mem hp)) fun H2 g2 => ⟨g1.trans g2, rfl⟩)
theorem ok_move (c : ShC K C) (cB : Cal P w K mg base 1 "behind_touch" (spP bhArgs bhPre bhPost) []) (F : FnP K "_move" "Shelf._move" s_Shelf_move f fd) : FnOk P w K mg base CX0 2 f fd ["self", "place"] (spP smArgs (smPre C) mvPost) := by
  refine fn_P F sc_move (fun y => rfl) fun cdv A outer s0 H E i _ hr h => ?_
  obtain ⟨y, h, s, Q, p, v⟩ := i
  obtain ⟨eC, sa, ho, ⟨k, so⟩, hp, hQ5, hpa⟩ := h
  have eC : y.C = C := eC
  subst eC
  have sa : ShAt H y h s := sa
  have ho : HabOk Q h := ho
  have so : ShOk Q s k := so
  have hp : p < Q := hp
  have hpa : s.pa.length ≤ 400000 := hpa
  have hQ5 : Q ≤ 5 := hQ5
  show SXs _ _ [some (.ref y.b), some (dN p)] H _ _
  obtain ⟨vh, a, hb, tv, z, h1, h2, ne⟩ := id sa
  refine sxs_cons (sx_exprM (mx_append (ex_sTouches c sa (ex_var 0)) h2 (by rw [List.length_map, zs_len]; exact Nat.lt_of_le_of_lt hpa (by decide)) (ex_var 1) fun H1 v1 g1 tv1 hl1 => ?_))
  cases tv1.int_eq
  have nlb : y.lt ≠ y.b := fun e => by rw [e, hb] at h2; cases h2
  have nbb : y.lb ≠ y.b := fun e => by rw [e, hb] at h1; cases h1
  have lt1 := g1.t (fun xs e => by rw [h2] at e; cases e)
  have z1 := z.x g1 (fun x hx o u e => by rw [List.mem_singleton.mp hx, h2] at e; cases e)
  have hb1 := g1.one nlb.symm hb (fun _ z => by cases z)
  have hl1' : H1 y.lt = some (.lst ((zs (s.pa ++ [p])).map V.int)) := by
    rw [hl1]
    unfold zs
    rw [List.map_append, List.map_append]
    rfl
  have sa1 : ShAt H1 y h ⟨s.st, s.bk, s.pa ++ [p]⟩ := ⟨vh, a, hb1, tv.mono lt1, z1, g1.one ne h1 (fun _ z => by cases z), hl1', ne⟩
  obtain ⟨ad, z2, es⟩ := ex_sStands (X := (cxOf CX0 P w K mg base ["self", "place"] "Shelf._move" (defScope s_Shelf_move) f cdv A outer s0 H E).nox) (Γ := [some (.ref y.b), some (dN p)]) (pos := ⟨118, 49, 118, 61⟩) (o := .Name "self" ⟨118, 49, 118, 53⟩) c sa1 (ex_var 0)
  refine sxs_one (sx_fldM (mx_call cB ⟨h, .ref ad, s.st, p, Q⟩ (ax_cons (ex_sHabit c sa1 (ex_var 0)) (ax_cons es (ax_cons (ex_var 1) ax_nil))) (fun H2 g2 => ⟨.inr (z2.ge g2), ho, hp, so.lt, by show s.st.length ≤ 100; rw [so.len]; omega⟩) (fun _ _ _ p => p.1.t) (fun H2 d H3 g2 p2 => ?_) hr))
  obtain ⟨g3, z3⟩ := p2
  have gg := g2.trans g3
  have sa3 := sa1.ge gg
  obtain ⟨vh3, a3, hb3, tv3, z33, h13, h23, _⟩ := id sa3
  refine ⟨y.b, y.C, y.dx, _, ex_var 0, hb3, c.cl, c.n2, by show 4 < 1000; decide, fun H4 v4 g4 t4 hb4 => ?_⟩
  have lt4 := g4.t (fun xs e => by rw [hb3] at e; cases e)
  have nfb : ∀ x ∈ [y.b], ∀ o u, H3 x ≠ some (.frz o u) := fun x hx o u e => by rw [List.mem_singleton.mp hx, hb3] at e; cases e
  have z4 := z3.x g4 nfb
  have GX : GeX y.xs H H4 := (g1.mono (by intro x hx; rw [List.mem_singleton.mp hx]; simp [ShAd.xs])).trans ((gg.x _).trans (g4.mono (by intro x hx; rw [List.mem_singleton.mp hx]; simp [ShAd.xs])))
  refine ⟨GX, lt1.trans (gg.t.trans lt4), ?_, rfl⟩
  obtain ⟨ad4, o4, e4, hz4, n4⟩ := z4
  subst e4
  refine ⟨vh3, ad4, ?_, tv3.mono lt4, ⟨ad4, o4, rfl, hz4, n4⟩, g4.one nbb h13 (fun _ z => by cases z), g4.one nlb h23 (fun _ z => by cases z), ne⟩
  rw [hb4, t4.ref_eq]
  rfl
theorem ok_touch (c : ShC K C) (cN : Cal P w K mg base 2 "need_place" (spF [] R_need_place) []) (cM : Met P w K mg base 2 C "_move" (spP smArgs (smPre C) mvPost) []) (F : FnP K "touch" "Shelf.touch" s_Shelf_touch f fd) : FnOk P w K mg base CX0 3 f fd ["self", "place"] (spP smArgs (smPre C) mvPost) := by
  refine fn_P F sc_touch (fun y => rfl) fun cdv A outer s0 H E i _ hr h => ?_
  obtain ⟨y, h, s, Q, p, v⟩ := i
  obtain ⟨eC, sa, ho, so, hp, hQ5, hpa⟩ := h
  have eC : y.C = C := eC
  subst eC
  have sa : ShAt H y h s := sa
  have ho : HabOk Q h := ho
  have hp : p < Q := hp
  show SXs _ _ [some (.ref y.b), some (dN p)] H _ _
  refine sxs_cons (sx_expr (ex_call cN (d := .non) (ax_cons (ex_sHabit c sa (ex_var 0)) (ax_cons (ex_var 1) ax_nil)) ⟨h.map dNs, p, rfl, by omega, by rw [List.length_map, ho.len]; omega, rfl⟩ hr (fun _ z => absurd z (by simp))) fun H1 g1 => ?_)
  refine sxs_one (sx_exprM (mx_meth cM hr (by omega) (mx_ex (ex_var 0) fun H2 g2 => ?_)))
  have sa2 := (sa.ge g1).ge g2
  obtain ⟨vh, a, hb, _⟩ := id sa2
  refine ⟨y.b, y.dx, _, [dN p], ⟨y, h, s, Q, p, v⟩, rfl, hb, rfl, ax_cons (ex_var 1) ax_nil, rfl, fun H3 g3 => ⟨rfl, sa2.ge g3, ho, so, hp, hQ5, hpa⟩, fun H3 d H4 g3 p4 => ?_⟩
  obtain ⟨gx, lt, sa4, rfl⟩ := p4
  exact ⟨lt, (((g1.trans g2).trans g3).x _).trans gx, (((g1.trans g2).trans g3).t).trans lt, sa4, rfl⟩
theorem ok_read (c : ShC K C) (cA : Met P w K mg base 3 C "_name_at" (spP smArgs (smPre C) naPost) []) (cM : Met P w K mg base 2 C "_move" (spP smArgs (smPre C) mvPost) []) (F : FnP K "read" "Shelf.read" s_Shelf_read f fd) : FnOk P w K mg base CX0 4 f fd ["self", "place"] (spP smArgs (smPre C) rdPost) := by
  refine fn_P F sc_read (fun y => rfl) fun cdv A outer s0 H E i _ hr h => ?_
  obtain ⟨y, h, s, Q, p, v⟩ := i
  obtain ⟨eC, sa, ho, so, hp, hQ5, hpa⟩ := h
  have eC : y.C = C := eC
  subst eC
  have sa : ShAt H y h s := sa
  have ho : HabOk Q h := ho
  have hp : p < Q := hp
  obtain ⟨k, so⟩ := so
  have so : ShOk Q s k := so
  show SXs _ _ [some (.ref y.b), some (dN p), none] H _ _
  obtain ⟨vh, a, hb, tv, z, h1, h2, ne⟩ := id sa
  have hix : s.st.idxOf p < s.bk.length := by rw [so.bl]; exact so.idx hp
  refine sxs_cons (sx_asg (i := 2) (d := .int (s.rd p)) (ex_ixLs (n := s.st.idxOf p) (v := .int (s.rd p)) (ex_sBooks c sa (ex_var 0)) h1 ?_ (.int _) (ex_methG cA hr (by omega) (ex_var 0) hb rfl ⟨y, h, s, Q, p, v⟩ rfl (ax_cons (ex_var 1) ax_nil) (fun H1 g1 => ⟨rfl, sa.ge g1, ho, ⟨k, so⟩, hp, hQ5, hpa⟩) (fun _ _ _ p => p))) (fun H1 g1 => ?_) sc_read.nd)
  · unfold Sh.rd
    rw [List.getElem?_map, List.getD_eq_getElem?_getD, List.getElem?_eq_getElem hix]
    rfl
  refine sxs_cons (sx_exprM (mx_meth cM hr (by omega) (mx_ex (ex_var 0) fun H2 g2 => ?_)))
  have sa2 := (sa.ge g1).ge g2
  obtain ⟨vh, a, hb, _⟩ := id sa2
  refine ⟨y.b, y.dx, _, [dN p], ⟨y, h, s, Q, p, v⟩, rfl, hb, rfl, ax_cons (ex_var 1) ax_nil, rfl, fun H3 g3 => ⟨rfl, sa2.ge g3, ho, ⟨k, so⟩, hp, hQ5, hpa⟩, fun H3 d H4 g3 p4 => ?_⟩
  obtain ⟨gx, lt, sa4, rfl⟩ := p4
  refine ⟨lt, sxs_one (sx_ret (ex_var 2) fun H5 g5 => ⟨(((g1.trans g2).trans g3).x _).trans (gx.trans (g5.x _)), (((g1.trans g2).trans g3).t).trans (lt.trans g5.t), sa4.ge g5, rfl⟩)⟩
theorem ok_write (g : Gb mg) (c : ShC K C) (cA : Met P w K mg base 3 C "_name_at" (spP smArgs (smPre C) naPost) []) (cM : Met P w K mg base 2 C "_move" (spP smArgs (smPre C) mvPost) []) (F : FnP K "write" "Shelf.write" s_Shelf_write f fd) : FnOk P w K mg base CX0 4 f fd ["self", "place", "value"] (spP swArgs (smPre C) wrPost) := by
  refine fn_P F sc_write (fun y => rfl) fun cdv A outer s0 H E i _ hr h => ?_
  obtain ⟨y, h, s, Q, p, v⟩ := i
  obtain ⟨eC, sa, ho, so, hp, hQ5, hpa⟩ := h
  have eC : y.C = C := eC
  subst eC
  have sa : ShAt H y h s := sa
  have ho : HabOk Q h := ho
  have hp : p < Q := hp
  obtain ⟨k, so⟩ := so
  have so : ShOk Q s k := so
  show SXs _ _ [some (.ref y.b), some (dN p), some (.int v), none] H _ _
  obtain ⟨vh, a, hb, tv, z, h1, h2, ne⟩ := id sa
  have hix : s.st.idxOf p < s.bk.length := by rw [so.bl]; exact so.idx hp
  refine sxs_cons (sx_asg (i := 3) (d := dN (s.st.idxOf p)) (ex_methG cA hr (by omega) (ex_var 0) hb rfl ⟨y, h, s, Q, p, v⟩ rfl (ax_cons (ex_var 1) ax_nil) (fun H1 g1 => ⟨rfl, sa.ge g1, ho, ⟨k, so⟩, hp, hQ5, hpa⟩) (fun _ _ _ p => p)) (fun H1 g1 => ?_) sc_write.nd)
  refine sxs_cons (sx_if (k := false) (tx_wx (wx_or (k := false) (l := false) (tx_not (k := true) (tx_ex (ex_isi (x := "int") (k := true) g.isinstance g.int rfl (ex_var 2) (.int _) (by decide +kernel)))) fun _ =>
    wx_one_or (tx_ex (ex_isi (x := "bool") (k := false) g.isinstance g.bool rfl (ex_var 2) (.int _) (by decide +kernel))))) (fun z => by cases z) fun _ H2 g2 => sxs_nil ?_)
  have sa2 := (sa.ge g1).ge g2
  obtain ⟨vh, a, hb, tv, z, h1, h2, ne⟩ := id sa2
  refine sxs_cons (sx_lput (n := s.st.idxOf p) (ex_var 2) (ex_sBooks c sa2 (ex_var 0)) (ex_var 3) h1 (by rw [List.length_map]; exact hix) fun H3 v3 g3 t3 hl3 => ?_)
  cases t3.int_eq
  have nlb : y.lt ≠ y.b := fun e => by rw [e, hb] at h2; cases h2
  have nbb : y.lb ≠ y.b := fun e => by rw [e, hb] at h1; cases h1
  have lt3 := g3.t (fun xs e => by rw [h1] at e; cases e)
  have z3 := z.x g3 (fun x hx o u e => by rw [List.mem_singleton.mp hx, h1] at e; cases e)
  have hl3' : H3 y.lb = some (.lst ((s.bk.set (s.st.idxOf p) v).map V.int)) := by rw [hl3, List.map_set]
  have sa3 : ShAt H3 y h ⟨s.st, s.bk.set (s.st.idxOf p) v, s.pa⟩ := ⟨vh, a, g3.one nbb.symm hb (fun _ z => by cases z), tv.mono lt3, z3, hl3', g3.one ne.symm h2 (fun _ z => by cases z), ne⟩
  have so3 : ∃ k, ShOk Q ⟨s.st, s.bk.set (s.st.idxOf p) v, s.pa⟩ k := ⟨max k v, so.len, so.nd, so.lt, by rw [List.length_set]; exact so.bl, fun u hu => by
    rcases List.mem_or_eq_of_mem_set hu with hu | rfl
    · have := so.le u hu; omega
    · omega⟩
  refine sxs_one (sx_exprM (mx_meth cM hr (by omega) (mx_ex (ex_var 0) fun H4 g4 => ?_)))
  have sa4 := sa3.ge g4
  obtain ⟨vh4, a4, hb4, _⟩ := id sa4
  refine ⟨y.b, y.dx, _, [dN p], ⟨y, h, _, Q, p, v⟩, rfl, hb4, rfl, ax_cons (ex_var 1) ax_nil, rfl, fun H5 g5 => ⟨rfl, sa4.ge g5, ho, so3, hp, hQ5, hpa⟩, fun H5 d H6 g5 p6 => ?_⟩
  obtain ⟨gx, lt, sa6, rfl⟩ := p6
  have gx3 : GeX y.xs H2 H3 := g3.mono (by intro x hx; rw [List.mem_singleton.mp hx]; simp [ShAd.xs])
  exact ⟨lt, ((g1.trans g2).x _).trans (gx3.trans (((g4.trans g5).x _).trans gx)), (g1.trans g2).t.trans (lt3.trans ((g4.trans g5).t.trans lt)), sa6, rfl⟩
end
end Lk
set_option Elab.async false
set_option linter.all false
set_option maxRecDepth 100000
set_option maxHeartbeats 4000000
/-! Making a shelf, its path, learn. -/
namespace Lk
open PySem PySem.Spec PyProof.Rows L2 GxR
open C8 (Cal Met Mak InsC)
section
variable {X : Cx} {e a b c o : Expr} {es : List Expr} {Γ : Gam} {H H1 : Hp} {d da db : Dt} {pos : Pos} {nx : Gam → Hp → Prop} {rt : Dt → Hp → Prop}
theorem mx_lx {ds : List Dt} {K : Dt → Hp → Prop} (h : LX X e Γ H ds) (k : ∀ l vs H1, Ge H H1 → H l = none → H1 l = some (.lst vs) → TpA H1 vs ds → K (.ref l) H1) : MX X e Γ H K := fun σ m =>
  h σ H _ (Ge.refl _) m fun l vs H2 g2 nl hl t => ⟨.ref l, .ref l, m.ge g2, k l vs H2 g2 nl hl t⟩
/-- a compare whose left side changes things -/
theorem mt_cmp {op : CmpOp} {K : Bool → Hp → Prop} (ha : MX X a Γ H fun d H1 => ∃ db k, EX X b Γ H1 db ∧ CO X op d db H1 k ∧ ∀ H2, Ge H1 H2 → K k H2) (hr : ∃ r, OpR X (compareOp op) r ∧ ∀ d db H1 k, CO X op d db H1 k → ∀ x y H2 (Q : VK), Ge H1 H2 → Tp H2 x d → Tp H2 y db → (∀ v H3, Ge H2 H3 → Tp H3 v (.bl k) → Q v H3) → r x y H2 Q)
    (hm : behindInMarks op b = false := by rfl) : MT X (.Compare a [op] [b] pos) Γ H K := fun σ m => by
  obtain ⟨r, ho, hr⟩ := hr
  refine RT.of (pt_cmpR ho re re hm) ((ha σ m).mono fun x H2 ⟨d, tx, m1, db, k, hb, co, q⟩ => hb σ H2 _ (Ge.refl _) m1 fun y H3 g3 ty => ?_)
  exact hr d db H2 k co x y H3 _ g3 (tx.ge g3) ty fun v H4 g4 tv => ⟨k, tv.bl_eq, m1.ge (g3.trans g4), q H4 (g3.trans g4)⟩
/-- e == j, ints, e may change things -/
theorem mt_eqI {K : Bool → Hp → Prop} {j : Int} (ha : MX X a Γ H fun d H1 => ∃ i, d = .int i ∧ EX X b Γ H1 (.int j) ∧ ∀ H2, Ge H1 H2 → K (decide (i = j)) H2) (hm : behindInMarks .Eq b = false := by rfl) : MT X (.Compare a [.Eq] [b] pos) Γ H K := fun σ m => by
  refine RT.of (pt_cmpR op_eq re re hm) ((ha σ m).mono fun x H2 ⟨d, tx, m1, i, ed, hb, q⟩ => hb σ H2 _ (Ge.refl _) m1 fun y H3 g3 ty => ?_)
  subst ed
  obtain ⟨h1, h2⟩ := eqD_of (tx.ge g3) ty rfl
  exact ⟨h1, _, by rw [h2]; rfl, m1.ge g3, q H3 g3⟩
/-- isinstance(e, C), C a class of the module -/
theorem ex_isC {p p2 : Pos} {x : Str} {bb C dx : Addr} {fs : List (Str × V)} (c : InsC X.K C) (hm : X.mg "isinstance" = none) (hx : X.mg x = some (.ref C)) (ha : EX X a Γ H (.ref bb)) (hb : H bb = some (.ins C dx fs)) (hgx : Gl X x := by rfl) (hd : (x == ("__debug__" : Str)) = false := by decide) (hg : Gl X "isinstance" := by rfl)
    (he : starEach [a, .Name x p2] X.env = (false, eval a X.env) :: starEach [.Name x p2] X.env := by rfl) (he2 : starEach [.Name x p2] X.env = (false, eval (.Name x p2) X.env) :: starEach [] X.env := by rfl) (hpl : (backTo pos (starEach [.Name x p2] X.env)).any (·.1) = false := by rfl) :
    EX X (.Call (.Name "isinstance" p) [a, .Name x p2] [] pos) Γ H (.bl true) :=
  ex_callB (C8.call_isC c) hm boot_isinstance (ax_cons ha (ax_cons (ex_glob hx (v := .ref C) rfl (fun _ => .ref C) hgx hd) ax_nil he2) he) (fun vs H2 Q g t q => by
    obtain ⟨v, u, rfl, tv, tu⟩ := tpa2 t
    exact ⟨bb, dx, fs, by rw [tv.ref_eq, tu.ref_eq], g.ins hb, q _ _ (Ge.refl _) (.bl _)⟩) hg (by decide) (by decide) he hpl
/-- a property whose getter only adds, and tells one thing -/
theorem ex_prop {ι : Type} {args : ι → List Dt} {pre : ι → Hp → Prop} {post : ι → Hp → Dt → Hp → Prop} {k : Nat} {C p g bb dx : Addr} {fs : List (Str × V)} {f : Str} {fd : FuncData} {ps : List Str} (cl : Cls X.K C) (hp : PropOf X.K C f p g) (F : FnOk X.prog X.w X.K X.mg X.base CX0 k g fd ps (spP args pre post)) (hr : Room (k + 1) X.A) (hb : Binds X.K fd ps [])
    (he : EX X e Γ H (.ref bb)) (hbb : H bb = some (.ins C dx fs)) (y : ι) (ey : args y = [.ref bb]) (hpre : ∀ H1, Ge H H1 → pre y H1) (q : ∀ H1 d' H2, post y H1 d' H2 → Ge H1 H2 ∧ d' = d)
    (hab : attributeBase e f X.env (eval e X.env) = eval e X.env := by rfl) : EX X (.Attribute e f pos) Γ H d := fun σ H1 Q gg m k' =>
  RE.of (pe_prop re cl hp F hr hb .nil (C8.pass0 (E := C8.E0)) hab) (he σ H1 _ gg m fun v H2 g2 tv => by
    cases tv.ref_eq
    refine ⟨bb, dx, fs, rfl, (gg.trans g2).ins hbb, ?_⟩
    show spP args pre post [.ref bb] H2 Q C8.E0
    refine ⟨y, by rw [ey]; exact .cons (.ref bb) .nil, hpre H2 (gg.trans g2), fun d' v H3 tv3 p3 => ?_⟩
    obtain ⟨g3, rfl⟩ := q _ _ _ p3
    exact k' v H3 (g2.trans g3) tv3)
end
structure SiIn where
  b : Addr
  C : Addr
  dx : Addr
  h : Habit
  d : Dt
  st : List Nat
def siArgs (i : SiIn) : List Dt := [.ref i.b, dH i.h, i.d]
def siPre (C P1 : Addr) (i : SiIn) (H : Hp) : Prop := i.C = C ∧ H i.b = some (.ins i.C i.dx []) ∧ (∃ Q, HabOk Q i.h ∧ 2 ≤ Q ∧ Q ≤ 5 ∧ i.st.length = Q ∧ (∀ x, x ∈ i.st → x < Q)) ∧ Fz H i.d i.st ∧ i.st.Nodup ∧ TabG H P1
def siPost (i : SiIn) (H : Hp) (d : Dt) (H' : Hp) : Prop := d = .non ∧ GeX [i.b] H H' ∧ LeT H H' ∧ ∃ lb lt, H lb = none ∧ H lt = none ∧ ShAt H' ⟨i.b, i.C, i.dx, lb, lt⟩ i.h ⟨i.st, List.replicate i.h.length 0, []⟩
theorem sc_shinit : FnScope ["self", "habit", "layout"] ["self", "habit", "layout"] (defScope s_Shelf_init) := ⟨rfl, rfl, rfl, by decide +kernel, rfl, by decide +kernel, by decide +kernel⟩
theorem sc_path : FnScope ["self"] ["self"] (defScope (inClass (top 30) 10)) := ⟨rfl, rfl, rfl, by decide +kernel, rfl, by decide +kernel, by decide +kernel⟩
theorem GeX.free {zs : List Addr} {H H' : Hp} {a : Addr} (g : GeX zs H H') (h : H' a = none) (n : a ∉ zs) : H a = none := by
  cases q : H a with
  | none => rfl
  | some o =>
    obtain ⟨u, hu⟩ := (g a o n q).some
    rw [h] at hu
    cases hu
structure PtIn where
  y : ShAd
  h : Habit
  s : Sh
def ptArgs (i : PtIn) : List Dt := [.ref i.y.b]
def ptPre (C : Addr) (i : PtIn) (H : Hp) : Prop := i.y.C = C ∧ ShAt H i.y i.h i.s
def ptPost (i : PtIn) (H : Hp) (d : Dt) (H' : Hp) : Prop := Ge H H' ∧ d = dNs i.s.pa
section
variable {P : Program} {w : World} {K : PySem.W.Frag} {mg : Str → Option Value} {base : Heap} {f C P1 P2 : Addr} {fd : FuncData}
theorem ok_path (g : Gb mg) (c : ShC K C) (F : FnP K "path" "Shelf.path" (inClass (top 30) 10) f fd) : FnOk P w K mg base CX0 1 f fd ["self"] (spP ptArgs (ptPre C) ptPost) := by
  refine fn_P F sc_path (fun y => rfl) fun cdv A outer s0 H E i _ hr h => ?_
  obtain ⟨y, h, s⟩ := i
  obtain ⟨eC, sa⟩ := h
  have eC : y.C = C := eC
  subst eC
  have sa : ShAt H y h s := sa
  show SXs _ _ [some (.ref y.b)] H _ _
  obtain ⟨vh, a, hb, tv, z, h1, h2, ne⟩ := id sa
  refine sxs_one (sx_retM (mx_tupM (mx_ex (ex_sTouches c sa (ex_var 0)) fun H1 g1 => ⟨y.lt, _, s.pa.map dN, rfl, g1.lst h2, by rw [zs_dN]; exact Tp.ints _, fun H2 g2 => ⟨g1.trans g2, rfl⟩⟩) g.tuple))
theorem ok_Shelf_init (g : Gb mg) (c : ShC K C) (cN : Cal P w K mg base 4 "need_shelf" (spP nlArgs (nsPre P1) nlPost) []) (F : FnP K "__init__" "Shelf.__init__" s_Shelf_init f fd) : FnOk P w K mg base CX0 5 f fd ["self", "habit", "layout"] (spP siArgs (siPre C P1) siPost) := by
  refine fn_P F sc_shinit (fun y => rfl) fun cdv A outer s0 H E i _ hr h => ?_
  obtain ⟨b, C', dx, h, d0, st⟩ := i
  obtain ⟨eC, hb, hh, z, hnd, tg⟩ := h
  have eC : C' = C := eC
  subst eC
  have hb : H b = some (.ins C' dx []) := hb
  have z : Fz H d0 st := z
  show SXs _ _ [some (.ref b), some (dH h), some d0] H _ _
  refine sxs_cons (sx_expr (ex_callG cN (d := .non) ⟨h, d0, st⟩ (ax_cons (ex_var 1) (ax_cons (ex_var 2) ax_nil)) (fun H1 g1 => ⟨hh, .inr (z.ge g1), hnd, g1.tab tg⟩) (fun _ _ _ p => p) hr) fun H1 g1 => ?_)
  have nt : ∀ {H' : Hp} {fs : List (Str × V)}, H' b = some (.ins C' dx fs) → ∀ xs, H' b ≠ some (.tup xs) := fun h xs z => by rw [h] at z; cases z
  have nf : ∀ {H' : Hp} {fs : List (Str × V)}, H' b = some (.ins C' dx fs) → ∀ x ∈ [b], ∀ o u, H' x ≠ some (.frz o u) := fun h x hx o u z => by rw [List.mem_singleton.mp hx, h] at z; cases z
  have hb1 := g1.ins hb
  have z1 := z.ge g1
  refine sxs_cons (sx_fld (ex_var 1) (ex_var 0) hb1 c.cl c.n1 (by decide) fun H2 v2 g2 t2 hb2 => ?_)
  have z2 := z1.x g2 (nf hb1)
  refine sxs_cons (sx_fld (ex_var 2) (ex_var 0) hb2 c.cl c.n2 (show 1 < 1000 by decide) fun H3 v3 g3 t3 hb3 => ?_)
  have z3 := z2.x g3 (nf hb2)
  have hQ : h.length ≤ 5 := by
    obtain ⟨Q, o, _, h5, _⟩ := hh
    have o : HabOk Q h := o
    rw [o.len]; exact h5
  refine sxs_cons (sx_fldM (mx_lx (lx_rep (n := h.length) (lx_list (ax_cons ex_int ax_nil)) (ex_cast (ex_len g.len (ex_var 1)) (by rw [List.length_map])) (by omega)) fun lb vs H4 g4 nb4 hlb t4 => ?_))
  have hb4 := g4.ins hb3
  refine ⟨b, C', dx, _, ex_var 0, hb4, c.cl, c.n3, show 2 < 1000 by decide, fun H5 v5 g5 t5 hb5 => ?_⟩
  have nlb : lb ≠ b := fun e => by rw [e, hb3] at nb4; cases nb4
  have hlb5 := g5.one nlb hlb (fun _ z => by cases z)
  refine sxs_one (sx_fldM (mx_lx (lx_list ax_nil) fun lt vs' H6 g6 nb6 hlt t6 => ?_))
  have hb6 := g6.ins hb5
  refine ⟨b, C', dx, _, ex_var 0, hb6, c.cl, c.n4, show 3 < 1000 by decide, fun H7 v7 g7 t7 hb7 => ?_⟩
  have nlt : lt ≠ b := fun e => by rw [e, hb5] at nb6; cases nb6
  have l2 := g2.t (nt hb1)
  have l3 := g3.t (nt hb2)
  have l5 := g5.t (nt hb4)
  have l7 := g7.t (nt hb6)
  have z7 := ((((z3.ge g4).x g5 (nf hb4)).ge g6).x g7 (nf hb6))
  have GX3 : GeX [b] H H3 := (g1.x _).trans (g2.trans g3)
  have GX5 : GeX [b] H H5 := GX3.trans ((g4.x _).trans g5)
  have nb0 : H lb = none := GX3.free nb4 (by simpa using nlb)
  have nt0 : H lt = none := GX5.free nb6 (by simpa using nlt)
  have nlbt : lb ≠ lt := fun e => by rw [← e, hlb5] at nb6; cases nb6
  cases t4.ints_eq
  cases t6
  obtain ⟨ad, o, e0, hz, no⟩ := z7
  subst e0
  refine ⟨rfl, GX5.trans ((g6.x _).trans g7), g1.t.trans (l2.trans (l3.trans (g4.t.trans (l5.trans (g6.t.trans l7))))), lb, lt, nb0, nt0, v2, ad, ?_, ?_, ⟨ad, o, rfl, hz, no⟩, g7.one nlb (g6.lst hlb5) (fun _ z => by cases z), g7.one nlt hlt (fun _ z => by cases z), nlbt⟩
  · rw [hb7, t3.ref_eq, t5.ref_eq, t7.ref_eq]
    rfl
  · exact ((t2.mono l3).mono g4.t |>.mono l5 |>.mono g6.t).mono l7
end
/-! ### learn -/
theorem VT.le {hs : List Habit} {lot g : List Nat} {t : Tree} {w : Nat} (v : VT hs lot g t w) : w ≤ 3202 * g.length := by
  induction v with
  | left _ => omega
  | @test g t a b wa wb ht h1 h2 va vb iha ihb =>
    have fl := filter_len (fun i => reads (hb hs i) t) g
    have er : restOf g (readsOf hs g t) = g.filter fun i => !reads (hb hs i) t := rest_of
    have em : readsOf hs g t = g.filter fun i => reads (hb hs i) t := rfl
    rw [← er, ← em] at fl
    have l1 := List.length_pos_iff.mpr h1
    have l2 := List.length_pos_iff.mpr h2
    have := ht.2.2.2
    have l3 : (readsOf hs g t).length ≤ g.length - 1 := by omega
    have l4 : (restOf g (readsOf hs g t)).length ≤ g.length - 1 := by omega
    have l5 : 1 ≤ g.length := by omega
    omega
structure LnIn where
  hs : List Habit
  lot : List Nat
  Q : Nat
  t : Tree
  wt : Nat
  i : Nat
  y : ShAd
  s : Sh
def lnArgs (i : LnIn) : List Dt := [dHs i.hs, dNs i.lot, dTree i.t, .ref i.y.b]
def lnPre (C P1 P2 : Addr) (i : LnIn) (H : Hp) : Prop := Whole i.hs i.lot i.Q ∧ VT i.hs i.lot (allI i.hs) i.t i.wt ∧ TabG H P1 ∧ TabG H P2 ∧ i.i < i.hs.length ∧ i.y.C = C ∧ ShAt H i.y (hb i.hs i.i) i.s ∧ ShOk i.Q i.s 0 ∧ i.s.pa.length ≤ 100000
def lnPost (i : LnIn) (H : Hp) (d : Dt) (H' : Hp) : Prop := GeX i.y.xs H H' ∧ LeT H H' ∧ ShAt H' i.y (hb i.hs i.i) (lrn (hb i.hs i.i) i.t i.s 0).2 ∧ d = dNs (lrn (hb i.hs i.i) i.t i.s 0).1
abbrev N_ln : List Str := ["habits", "lot", "tree", "shelf", "mark", "place"]
theorem sc_learn : FnScope N_ln ["habits", "lot", "tree", "shelf"] (defScope s_learn) := ⟨rfl, rfl, rfl, by decide +kernel, rfl, by decide +kernel, by decide +kernel⟩
section
variable {P : Program} {w : World} {K : PySem.W.Frag} {mg : Str → Option Value} {base : Heap} {f C P1 P2 : Addr} {fd : FuncData}
theorem ok_learn (g : Gb mg) (ic : InsC K C) (hS : mg "Shelf" = some (.ref C)) (cW : Cal P w K mg base 9 "worst" (spP wtArgs (wtPre P1 P2) wtPost) []) (cR : Met P w K mg base 4 C "read" (spP smArgs (smPre C) rdPost) []) (cWr : Met P w K mg base 4 C "write" (spP swArgs (smPre C) wrPost) []) (cT : Met P w K mg base 3 C "touch" (spP smArgs (smPre C) mvPost) [])
    (F : FnP K "learn" "learn" s_learn f fd) : FnOk P w K mg base CX0 10 f fd ["habits", "lot", "tree", "shelf"] (spP lnArgs (lnPre C P1 P2) lnPost) := by
  refine fn_P F sc_learn (fun y => rfl) fun cdv A outer s0 H E i _ hr h => ?_
  obtain ⟨hs, lot, Q, t, wt, i, y, s⟩ := i
  obtain ⟨W, v, T1, T2, hi, eC, sa, so, hpa⟩ := h
  have W : Whole hs lot Q := W
  have v : VT hs lot (allI hs) t wt := v
  have hi : i < hs.length := hi
  have eC : y.C = C := eC
  subst eC
  have sa : ShAt H y (hb hs i) s := sa
  have so : ShOk Q s 0 := so
  have hpa : s.pa.length ≤ 100000 := hpa
  have htp : ∀ p, p ∈ lot → p < Q := W.lot.2.1
  have ho := (W.hb hi).1
  have hQ5 := W.hi
  show SXs _ _ [some (dHs hs), some (dNs lot), some (dTree t), some (.ref y.b), none, none] H _ _
  have sn := sa.nt
  refine sxs_cons (sx_expr (ex_callG cW (d := dN wt) ⟨hs, lot, Q, t, wt⟩ (ax_cons (ex_var 0) (ax_cons (ex_var 1) (ax_cons (ex_var 2) ax_nil))) (fun H1 g1 => ⟨W, v, g1.tab T1, g1.tab T2⟩) (fun _ _ _ p => p) hr) fun H1 g1 => ?_)
  have sa1 := sa.ge g1
  obtain ⟨vh, ad, hb1, _⟩ := id sa1
  refine sxs_cons (sx_if (k := false) (tx_not (k := true) (tx_ex (ex_isC ic g.isinstance hS (ex_var 3) hb1))) (fun z => by cases z) fun _ H2 g2 => sxs_nil ?_)
  have sa2 := sa1.ge g2
  refine sxs_cons (sx_asg (i := 4) ex_int (fun H3 g3 => ?_) sc_learn.nd)
  have hwl : (leaf (hb hs i) t).2 ≤ 16010 := by
    have h1 := (leaf_ok v i (List.mem_range.mpr hi)).2.2.2.2
    have h2 := v.le
    have h3 : (allI hs).length ≤ 5 := by unfold allI; rw [List.length_range]; exact W.len
    omega
  refine sxs_cons (sx_while (fun n Γ' H' => GeX y.xs H H' ∧ LeT H H' ∧ ∃ (u : Tree) (g' : List Nat) (wu j : Nat) (s' : Sh) (x5 : Option Dt), n = hgt u ∧ VT hs lot g' u wu ∧ Γ' = [some (dHs hs), some (dNs lot), some (dTree u), some (.ref y.b), some (dN j), x5] ∧ ShOk Q s' j ∧ ShAt H' y (hb hs i) s' ∧ lrn (hb hs i) u s' j = lrn (hb hs i) t s 0 ∧ s'.pa.length + (leaf (hb hs i) u).2 ≤ 200000)
    ⟨_, ((g1.trans g2).trans g3).x _, ((g1.trans g2).trans g3).t, t, _, wt, 0, s, none, rfl, v, rfl, so, sa2.ge g3, rfl, by omega⟩ ?_ PassesOwn.never)
  rintro n Γ' H' ⟨gx, lt, u, g', wu, j, s', x5, rfl, vu, rfl, so', sa', el, hp'⟩
  cases vu with
  | left hp =>
    refine ⟨false, tx_cast (tx_cmp (at0 (ex_var 2)) (gs g.TEST) co_eq) (by decide +kernel), (fun z => by cases z), fun _ H4 g4 => ?_⟩
    refine sxs_one (sx_ret (at1 (ex_var 2)) fun H5 g5 => ⟨gx.trans ((g4.trans g5).x _), lt.trans (g4.trans g5).t, ?_, ?_⟩)
    · show ShAt H5 y (hb hs i) (lrn (hb hs i) t s 0).2
      rw [← el]
      exact sa'.ge (g4.trans g5)
    · show dNs g' = dNs (lrn (hb hs i) t s 0).1
      rw [← el]
      rfl
  | test ht h1 h2 va vb =>
    rename_i q a b wa wb
    have hqp : q.p < Q := htp _ ht.1
    have hqw : ∀ x, x ∈ q.w → x < Q := fun x hx => htp x (ht.2.1 x hx)
    have hqr : q.r < Q := htp _ ht.2.2.1
    have hlf : (leaf (hb hs i) (.test q a b)).2 = (leaf (hb hs i) (if reads (hb hs i) q then a else b)).2 + (q.w.length + 2) := by
      show (if reads (hb hs i) q then ((leaf (hb hs i) a).1, (leaf (hb hs i) a).2 + (q.w.length + 2)) else ((leaf (hb hs i) b).1, (leaf (hb hs i) b).2 + (q.w.length + 2))).2 = _
      cases reads (hb hs i) q <;> rfl
    refine ⟨true, tx_cast (tx_cmp (at0 (ex_var 2)) (gs g.TEST) co_eq) (by decide +kernel), fun _ H4 g4 => ?_, (fun z => by cases z)⟩
    refine sxs_cons (sx_augI (i := 4) (n := 1) ex_int rfl (fun H5 g5 => ?_) sc_learn.nd)
    show SXs _ _ [some (dHs hs), some (dNs lot), some (dTree (.test q a b)), some (.ref y.b), some (dN (j + 1)), x5] H5 _ _
    have sa5 := (sa'.ge g4).ge g5
    have sn5 := sa5.nt
    -- write
    refine sxs_cons (sx_exprM (mx_meth cWr hr (by omega) (mx_ex (ex_var 3) fun H6 g6 => ?_)))
    have sa6 := sa5.ge g6
    obtain ⟨vh6, ad6, hb6, _⟩ := id sa6
    refine ⟨y.b, y.dx, _, [dN q.p, dN (j + 1)], ⟨y, hb hs i, s', Q, q.p, ((j + 1 : Nat) : Int)⟩, rfl, hb6, rfl, ax_cons (at0 (at1 (d0 := .str "test") (d1 := dT q) (ds := [dTree a, dTree b]) (ex_var 2))) (ax_cons (ex_var 4) ax_nil), rfl, fun H7 g7 => ⟨rfl, sa6.ge g7, ho, ⟨_, so'⟩, hqp, hQ5, by show s'.pa.length ≤ 400000; omega⟩, fun H7 d H8 g7 p8 => ?_⟩
    obtain ⟨gx8, lt8, sa8, _⟩ := p8
    have gx8 : GeX y.xs H7 H8 := gx8
    have sa8 : ShAt H8 y (hb hs i) (s'.wr (hb hs i) q.p ((j + 1 : Nat) : Int)) := sa8
    refine ⟨lt8, ?_⟩
    have so8 : ShOk Q (s'.wr (hb hs i) q.p ((j + 1 : Nat) : Int)) ((j + 1 : Nat) : Int) := so'.wr ho hqp (by omega)
    have hpa8 : (s'.wr (hb hs i) q.p ((j + 1 : Nat) : Int)).pa.length = s'.pa.length + 1 := by
      show (s'.pa ++ [q.p]).length = _
      rw [List.length_append]
      rfl
    generalize hs8 : s'.wr (hb hs i) q.p ((j + 1 : Nat) : Int) = s8 at sa8 so8 hpa8
    have GX8 : GeX y.xs H H8 := gx.trans ((((g4.trans g5).trans (g6.trans g7)).x _).trans gx8)
    have LT8 : LeT H H8 := lt.trans (((g4.trans g5).trans (g6.trans g7)).t.trans lt8)
    -- touches
    refine sxs_cons (sx_forT (i := 5) (ds := q.w.map dN) (at1 (d0 := dN q.p) (d1 := dNs q.w) (ds := [dN q.r]) (at1 (d0 := .str "test") (d1 := dT q) (ds := [dTree a, dTree b]) (ex_var 2))) (fun H9 g9 => ?_) PassesOwn.never rfl sc_learn.nd)
    have sa9 := sa8.ge g9
    have sn9 := sa9.nt
    refine ⟨fun k Γ' H' => GeX y.xs H9 H' ∧ (∃ x5, Γ' = [some (dHs hs), some (dNs lot), some (dTree (.test q a b)), some (.ref y.b), some (dN (j + 1)), x5]) ∧ ShAt H' y (hb hs i) (s8.run (hb hs i) (q.w.take k)),
      ⟨GeX.refl _ _, ⟨_, rfl⟩, sa9⟩, fun k Γ' H' p => p.1.tn sn9, ?_, ?_⟩
    · rintro k d Γ' H10 hd ⟨gx10, ⟨x5', rfl⟩, sa10⟩
      rw [List.getElem?_map] at hd
      obtain ⟨p, hp, rfl⟩ := Option.map_eq_some_iff.mp hd
      have hpw : p ∈ q.w := List.mem_of_getElem? hp
      refine sxs_one (sx_exprM (mx_meth cT hr (by omega) (mx_ex (ex_var 3) fun H11 g11 => ?_)))
      have sa11 := sa10.ge g11
      obtain ⟨vh11, ad11, hb11, _⟩ := id sa11
      have hk : k < q.w.length := (List.getElem?_eq_some_iff.mp hp).1
      have hlp : (s8.run (hb hs i) (q.w.take k)).pa.length ≤ 400000 := by
        rw [run_pa, List.length_append, List.length_take]
        have := ht.2.2.2
        omega
      refine ⟨y.b, y.dx, _, [dN p], ⟨y, hb hs i, s8.run (hb hs i) (q.w.take k), Q, p, 0⟩, rfl, hb11, rfl, ax_cons (ex_var 5) ax_nil, rfl, fun H12 g12 => ⟨rfl, sa11.ge g12, ho, ⟨_, ShOk.run ho _ so8 fun x hx => hqw x (List.mem_of_mem_take hx)⟩, hqw p hpw, hQ5, hlp⟩, fun H12 d H13 g12 p13 => ?_⟩
      obtain ⟨gx13, lt13, sa13, _⟩ := p13
      have gx13 : GeX y.xs H12 H13 := gx13
      have sa13 : ShAt H13 y (hb hs i) ((s8.run (hb hs i) (q.w.take k)).mv (hb hs i) p) := sa13
      refine ⟨lt13, gx10.trans (((g11.trans g12).x _).trans gx13), ⟨_, rfl⟩, ?_⟩
      have e : s8.run (hb hs i) (q.w.take (k + 1)) = (s8.run (hb hs i) (q.w.take k)).mv (hb hs i) p := by
        unfold Sh.run
        rw [List.take_succ, hp, List.foldl_append]
        rfl
      rw [e]
      exact sa13
    · rintro Γ' H10 ⟨gx10, ⟨x5', rfl⟩, sa10⟩
      rw [List.length_map, List.take_length] at sa10
      have so10 : ShOk Q (s8.run (hb hs i) q.w) ((j + 1 : Nat) : Int) := ShOk.run ho _ so8 hqw
      have hlp : (s8.run (hb hs i) q.w).pa.length = s'.pa.length + 1 + q.w.length := by rw [run_pa, List.length_append, hpa8]
      have hlp4 : (s8.run (hb hs i) q.w).pa.length ≤ 400000 := by omega
      have etst := tst_reads so' ho (t := q) (v := ((j + 1 : Nat) : Int)) (by omega) hqp hqw hqr
      have elr := lrn_test (a := a) (b := b) so' ho hqp hqw hqr
      have enx := next_ok so' ho hqp hqw hqr
      rw [hs8] at etst elr enx
      generalize s8.run (hb hs i) q.w = s10 at sa10 so10 hlp hlp4 etst elr enx
      -- read
      refine sxs_one (sx_asgM (i := 2) (mx_ifExp (mt_eqI (j := ((j + 1 : Nat) : Int)) (mx_meth cR hr (by omega) (mx_ex (ex_var 3) fun H11 g11 => ?_)))) sc_learn.nd)
      have sa11 := sa10.ge g11
      obtain ⟨vh11, ad11, hb11, _⟩ := id sa11
      refine ⟨y.b, y.dx, _, [dN q.r], ⟨y, hb hs i, s10, Q, q.r, 0⟩, rfl, hb11, rfl, ax_cons (at2 (d0 := dN q.p) (d1 := dNs q.w) (d2 := dN q.r) (ds := []) (at1 (d0 := .str "test") (d1 := dT q) (ds := [dTree a, dTree b]) (ex_var 2))) ax_nil, rfl, fun H12 g12 => ⟨rfl, sa11.ge g12, ho, ⟨_, so10⟩, hqr, hQ5, hlp4⟩, fun H12 d H13 g12 p13 => ?_⟩
      obtain ⟨gx13, lt13, sa13, ed⟩ := p13
      have gx13 : GeX y.xs H12 H13 := gx13
      have sa13 : ShAt H13 y (hb hs i) (s10.mv (hb hs i) q.r) := sa13
      refine ⟨lt13, s10.rd q.r, ed, ex_var 4, fun H14 g14 => ?_⟩
      rw [etst]
      have GX : GeX y.xs H H14 := GX8.trans ((g9.x _).trans (gx10.trans (((g11.trans g12).x _).trans (gx13.trans (g14.x _)))))
      have LT : LeT H H14 := LT8.trans (g9.t.trans ((gx10.tn sn9).trans ((g11.trans g12).t.trans (lt13.trans g14.t))))
      have sa14 := sa13.ge g14
      cases hq : reads (hb hs i) q with
      | true =>
        rw [hq, if_pos rfl] at hlf elr
        rw [if_pos rfl]
        refine mx_ex (at2 (d0 := .str "test") (d1 := dT q) (ds := [dTree b]) (ex_var 2)) fun H15 g15 => ⟨hgt a, by show hgt a < 1 + hgt a + hgt b; omega, GX.trans (g15.x _), LT.trans g15.t, a, _, wa, j + 1, _, _, rfl, va, rfl, enx, sa14.ge g15, elr.symm.trans el, ?_⟩
        show (s10.pa ++ [q.r]).length + _ ≤ _
        rw [List.length_append]
        have : [q.r].length = 1 := rfl
        omega
      | false =>
        rw [hq, if_neg (by decide)] at hlf elr
        rw [if_neg (by decide)]
        refine mx_ex (at3 (d0 := .str "test") (d1 := dT q) (d2 := dTree a) (ds := []) (ex_var 2)) fun H15 g15 => ⟨hgt b, by show hgt b < 1 + hgt a + hgt b; omega, GX.trans (g15.x _), LT.trans g15.t, b, _, wb, j + 1, _, _, rfl, vb, rfl, enx, sa14.ge g15, elr.symm.trans el, ?_⟩
        show (s10.pa ++ [q.r]).length + _ ≤ _
        rw [List.length_append]
        have : [q.r].length = 1 := rfl
        omega
end
end Lk
set_option Elab.async false
set_option linter.all false
set_option maxRecDepth 100000
set_option maxHeartbeats 4000000
/-! Rules for the law's own defs: arguments that change things, lists of turns that change things. -/
namespace Lk
open PySem PySem.Spec PyProof.Rows L2 GxR
open C8 (Cal Met Mak)
section
variable {X : Cx} {e a b c o iter : Expr} {es : List Expr} {Γ : Gam} {H H1 : Hp} {d da db : Dt} {pos : Pos} {nx : Gam → Hp → Prop} {rt : Dt → Hp → Prop}
/-- arguments that may change things -/
def AM (X : Cx) (es : List Expr) (Γ : Gam) (H : Hp) (K : List Dt → Hp → Prop) : Prop := ∀ σ, Gm H σ Γ → RA X es σ H fun vs H' => ∃ ds, TpA H' vs ds ∧ Gm H' σ Γ ∧ K ds H'
theorem am_ax {ds : List Dt} {K : List Dt → Hp → Prop} (h : AX X es Γ H ds) (k : ∀ H1, Ge H H1 → K ds H1) : AM X es Γ H K := fun σ m => h σ H _ (Ge.refl _) m fun vs H2 g2 t => ⟨ds, t, m.ge g2, k H2 g2⟩
theorem am_cons {K : List Dt → Hp → Prop} (h : MX X e Γ H fun d H1 => AM X es Γ H1 fun ds H2 => LeT H1 H2 ∧ K (d :: ds) H2) (hs : starEach (e :: es) X.env = (false, eval e X.env) :: starEach es X.env := by rfl) : AM X (e :: es) Γ H K := fun σ m =>
  RA.of (pa_cons re ra hs) ((h σ m).mono fun v H1 ⟨d, tv, m1, k1⟩ => (k1 σ m1).mono fun vs H2 ⟨ds, t, m2, lt, k2⟩ => ⟨d :: ds, .cons (tv.mono lt) t, m2, k2⟩)
theorem mx_callA {ι : Type} {args : ι → List Dt} {pre : ι → Hp → Prop} {post : ι → Hp → Dt → Hp → Prop} {k j : Nat} {x : Str} {p : Pos} {K : Dt → Hp → Prop} (c : Cal X.prog X.w X.K X.mg X.base k x (spP args pre post) [])
    (ha : AM X (e :: es) Γ H fun ds H1 => ∃ y, args y = ds ∧ pre y H1 ∧ ∀ d H2, post y H1 d H2 → LeT H1 H2 ∧ K d H2) (hr : Room j X.A) (hk : k ≤ j := by omega) (hg : Gl X x := by rfl)
    (hdb : (x == ("__debug__" : Str)) = false := by decide) (he : starEach (e :: es) X.env = (false, eval e X.env) :: starEach es X.env := by rfl) (hpl : (backTo pos (starEach es X.env)).any (·.1) = false := by rfl) :
    MX X (.Call (.Name x p) (e :: es) [] pos) Γ H K := fun σ m =>
  RE.of (C8.pe_c c hr hk hg ra hdb he hpl) ((ha σ m).mono fun vs H2 ⟨ds, t, m2, y, ey, hp, q⟩ => by
    show spP args pre post (vs ++ []) H2 _ _
    rw [List.append_nil]
    refine ⟨y, by rw [ey]; exact t, hp, fun d v H3 t3 p3 => ?_⟩
    obtain ⟨lt, k⟩ := q d H3 p3
    exact ⟨d, t3, m2.mono lt, k⟩)
theorem mx_makeA {ι : Type} {args : ι → List Dt} {pre : ι → Hp → Prop} {post : ι → Hp → Dt → Hp → Prop} {k j : Nat} {x : Str} {C : Addr} {p : Pos} {K : Dt → Hp → Prop} (c : Mak X.prog X.w X.K X.mg X.base k x C (spP args pre post) []) (hr : Room j X.A) (hk : k + 1 ≤ j)
    (ha : AM X (e :: es) Γ H fun ds H1 => ∀ b dx, H1 b = none → H1 dx = none → dx ≠ b → ∃ y, args y = .ref b :: ds ∧ pre y (upd (upd H1 dx (.own b)) b (.ins C dx [])) ∧ ∀ d H3, post y (upd (upd H1 dx (.own b)) b (.ins C dx [])) d H3 → d = .non ∧ LeT H1 H3 ∧ K (.ref b) H3)
    (hg : Gl X x := by rfl) (hdb : (x == ("__debug__" : Str)) = false := by decide) (he : starEach (e :: es) X.env = (false, eval e X.env) :: starEach es X.env := by rfl) (hpl : (backTo pos (starEach es X.env)).any (·.1) = false := by rfl) :
    MX X (.Call (.Name x p) (e :: es) [] pos) Γ H K := fun σ mm =>
  RE.of (C8.pe_mk c hr hk hg ra hdb he hpl) ((ha σ mm).mono fun vs H1 ⟨ds, t, m1, h⟩ => fun b dx nb nd ne => by
    obtain ⟨y, ey, hp, hq⟩ := h b dx nb nd ne
    show spP args pre post (.ref b :: (vs ++ [])) _ _ _
    rw [List.append_nil]
    have g2 : Ge H1 (upd (upd H1 dx (.own b)) b (.ins C dx [])) := (Ge.new nd).trans (Ge.new (by rw [upd_ne ne.symm]; exact nb))
    refine ⟨y, by rw [ey]; exact .cons (.ref b) (t.ge g2), hp, fun d v H3 tv p3 => ?_⟩
    obtain ⟨rfl, lt, k⟩ := hq d H3 p3
    exact ⟨tv.non_eq, .ref b, .ref b, m1.mono lt, k⟩)
/-- l.append(e), e may change things -/
theorem mx_appendM {l : Addr} {vs0 : List V} {apos cpos : Pos} {K : Dt → Hp → Prop} (ha : EX X a Γ H (.ref l)) (hl : H l = some (.lst vs0))
    (he : ∀ H1, Ge H H1 → MX X e Γ H1 fun d H2 => ∃ vs, H2 l = some (.lst vs) ∧ vs.length < sizeLine ∧ ∀ H3 v, GeX [l] H2 H3 → LeT H2 H3 → Tp H3 v d → H3 l = some (.lst (vs ++ [v])) → K .non H3)
    (hbase : attributeBase a "append" X.env (eval a X.env) = eval a X.env := by rfl)
    (hfew : ((backTo cpos (starEach [e] X.env)).all (fun x => !x.1) && (backToKw cpos (keywordEach [] X.env)).all (fun x => x.1.isSome)
      && decide ([e].length + ([] : List Keyword).length + (if ([] : List Keyword).isEmpty then 0 else 1) < 30)) = true := by rfl)
    (hline : (apos.endLine == cpos.line) = true := by rfl) (hs : starEach [e] X.env = (false, eval e X.env) :: starEach [] X.env := by rfl) (hplain : (backTo cpos (starEach [] X.env)).any (·.1) = false := by rfl) :
    MX X (.Call (.Attribute a "append" apos) [e] [] cpos) Γ H K := fun σ m =>
  RE.of (pe_bm PySem.F.plainAttrs_list PySem.F.slot_list_append PySem.F.type_list_append mt_append re (pa_cons re pa_nil hs) hbase hfew hline hs hplain) (ha σ H _ (Ge.refl _) m fun v H1 g1 tv => by
    cases tv.ref_eq
    refine ⟨.inl ⟨rfl, vs0, SqL.of (g1.lst hl)⟩, (he H1 g1 σ (m.ge g1)).mono fun u H2 ⟨d, tu, m2, vs, hl2, hn, k⟩ => ?_⟩
    have lt : LeT H2 (upd H2 l (.lst (vs ++ [u]))) := LeT.upd fun xs h => by rw [hl2] at h; cases h
    exact ⟨l, vs, u, rfl, rfl, hl2, hn, .non, .non, m2.mono lt, k _ u GeX.set lt (tu.mono lt) upd_same⟩)
/-- l.pop(e), e may change things -/
theorem mx_popM {l : Addr} {vs0 : List V} {apos cpos : Pos} {K : Dt → Hp → Prop} (ha : EX X a Γ H (.ref l)) (hl : H l = some (.lst vs0))
    (he : ∀ H1, Ge H H1 → MX X e Γ H1 fun d H2 => ∃ (n : Nat) (vs : List V) (v : V) (d' : Dt), d = dN n ∧ n < 4000 ∧ H2 l = some (.lst vs) ∧ vs[n]? = some v ∧ Tp H2 v d' ∧ ∀ H3, GeX [l] H2 H3 → LeT H2 H3 → H3 l = some (.lst (vs.eraseIdx n)) → K d' H3)
    (hbase : attributeBase a "pop" X.env (eval a X.env) = eval a X.env := by rfl)
    (hfew : ((backTo cpos (starEach [e] X.env)).all (fun x => !x.1) && (backToKw cpos (keywordEach [] X.env)).all (fun x => x.1.isSome)
      && decide ([e].length + ([] : List Keyword).length + (if ([] : List Keyword).isEmpty then 0 else 1) < 30)) = true := by rfl)
    (hline : (apos.endLine == cpos.line) = true := by rfl) (hs : starEach [e] X.env = (false, eval e X.env) :: starEach [] X.env := by rfl) (hplain : (backTo cpos (starEach [] X.env)).any (·.1) = false := by rfl) :
    MX X (.Call (.Attribute a "pop" apos) [e] [] cpos) Γ H K := fun σ m =>
  RE.of (pe_bm PySem.F.plainAttrs_list PySem.F.slot_list_pop PySem.F.type_list_pop mt_popAt re (pa_cons re pa_nil hs) hbase hfew hline hs hplain) (ha σ H _ (Ge.refl _) m fun v H1 g1 tv => by
    cases tv.ref_eq
    refine ⟨.inl ⟨rfl, vs0, SqL.of (g1.lst hl)⟩, (he H1 g1 σ (m.ge g1)).mono fun u H2 ⟨d, tu, m2, n, vs, w, d', ed, hn, hl2, hw, tw, k⟩ => ?_⟩
    subst ed
    have lt : LeT H2 (upd H2 l (.lst (vs.eraseIdx n))) := LeT.upd fun xs h => by rw [hl2] at h; cases h
    have hlen := (List.getElem?_eq_some_iff.mp hw).1
    refine ⟨l, vs, n, n, w, rfl, by rw [tu.int_eq], hl2, by omega, by omega, ?_, hw, d', tw.mono lt, m2.mono lt, k _ GeX.set lt upd_same⟩
    unfold seqIndex?
    have h1 : ¬ ((n : Int) < 0) := by omega
    have h2 : (n : Int) < (vs.length : Int) := by omega
    simp [h1, h2])
/-- a list of turns over a range, the turns may change things; xs: what they may change -/
theorem mx_lcR {i : Nat} {x : Str} {px p p2 : Pos} {e1 elt : Expr} {ifs : List Expr} {scope : Scope} {own : List (Str × Nat)} {K : Dt → Hp → Prop}
    (he : MX X e1 Γ H fun d H1 => ∃ (n : Nat) (xs : List Addr) (P : Nat → List Dt → Hp → Prop), d = dN n ∧ n ≤ 4000 ∧ (∀ a ∈ xs, H1 a ≠ none) ∧ (∀ k acc H' D H2, H1 D = none → P k acc H' → GeX [D] H' H2 → LeT H' H2 → P k acc H2) ∧ P 0 [] H1 ∧ (∀ k acc H', P k acc H' → LeT H1 H' ∧ acc.length ≤ k) ∧
      (∀ (s : Shared) (H0 : Hp) (C : Addr) (cl : List (Str × Addr)) (fp : List Addr) (k : Nat) (acc : List Dt) (H5 : Hp), k < n → P k acc H5 → ∀ σ, Gm H5 σ ((wipeG Γ (own.map (·.2))).set i (some (dN k))) →
        RTs (X.blk s H0 scope (compEnvC scope cl C X.env) fp) ifs σ H5 fun b H6 => Gm H6 σ ((wipeG Γ (own.map (·.2))).set i (some (dN k))) ∧ GeX xs H5 H6 ∧ LeT H5 H6 ∧ (b = false → P (k + 1) acc H6) ∧
          (b = true → ∀ (s : Shared) (H0 : Hp) (C : Addr) (cl : List (Str × Addr)) (fp : List Addr), MX (X.blk s H0 scope (compEnvC scope cl C X.env) fp) elt ((wipeG Γ (own.map (·.2))).set i (some (dN k))) H6 fun d H7 => GeX xs H6 H7 ∧ LeT H6 H7 ∧ P (k + 1) (acc ++ [d]) H7)) ∧
      ∀ acc H', P n acc H' → ∀ l vs, H1 l = none → H' l = some (.lst vs) → TpA H' vs acc → K (.ref l) H')
    (ok : BlkOk X.N X.env.scope scope own) (hsub : i ∈ own.map (·.2)) (pg : ∀ (s : Shared) (H : Hp) (C : Addr) (cl : List (Str × Addr)) (fp : List Addr), PG (X.blk s H scope (compEnvC scope cl C X.env) fp) (.Name x px) (gName i))
    (hc : X.calm = true) (hN : X.N.Nodup) (hm : X.mg "range" = none) (hg : Gl X "range" := by rfl) (he1 : starEach [e1] X.env = [(false, eval e1 X.env)] := by rfl)
    (hs : ∀ y, foldedSetIterable (.Call (.Name "range" p) [e1] [] p2) X.env y = pure y := by intro _; rfl) : MX X (.ListComp elt [⟨.Name x px, .Call (.Name "range" p) [e1] [] p2, ifs, 0⟩] scope pos) Γ H K := fun σ m => by
  refine RE.of (pe_lc hc hN (pi_range1 hg hm (pa_cons re pa_nil he1) he1) ok pg (ht_b (ifs := ifs)) (he_b (elt := elt)) hs) ((he σ m).mono fun v H1 ⟨d, tv, m1, n, xs, P, ed, hn, hxs, stab, p0, pl, step, fin⟩ => ?_)
  subst ed
  refine ⟨n, by rw [tv.int_eq], by omega, by omega, ?_⟩
  rw [Int.toNat_natCast]
  intro D hD
  have gD : Ge H1 (upd H1 D (.lst [])) := Ge.new hD
  have nD : D ∉ xs := fun h => hxs D h hD
  refine lc_it walk_range (fun k H' => ∃ acc vs, P k acc H' ∧ H' D = some (.lst vs) ∧ TpA H' vs acc) ⟨[], [], stab 0 [] H1 D _ hD p0 (gD.x _) gD.t, upd_same, .nil⟩ (fun _ _ _ _ => trivial) ?_ ?_
  · rintro k y H' H3 hkn ⟨acc, vs, pk, hvs, tvs⟩ ⟨rfl, hy⟩
    have hy : y = V.int (k : Int) := by rw [hy]; show V.int (0 + (k : Int)) = _; rw [Int.zero_add]
    subst hy
    obtain ⟨lt0, hal⟩ := pl _ _ _ pk
    have mw : Gm H3 (wipe σ (own.map (·.2))) (wipeG Γ (own.map (·.2))) := (m1.mono lt0).wipe _
    have m5 := mw.set (.int (k : Int)) i
    refine ⟨by rw [wipe_set hsub]; exact wipe_wipe _ _ _ fun _ h => h, ?_⟩
    intro s H0 C cl fp
    refine fun pins sh I => thn (step s H0 C cl fp k acc H3 hkn pk _ m5 pins sh I) fun r sh' ⟨H6, I6, m6, gx6, lt6, hf, ht⟩ => ⟨H6, I6, ?_⟩
    have hvs6 : H6 D = some (.lst vs) := gx6.at nD hvs (fun _ z => by cases z)
    cases r with
    | false =>
      show ∃ acc vs, P (k + 1) acc H6 ∧ H6 D = some (.lst vs) ∧ TpA H6 vs acc
      exact ⟨acc, vs, hf rfl, hvs6, tvs.mono lt6⟩
    | true =>
      show teB X scope elt _ H6 _
      intro s H0 C cl fp
      refine (ht rfl s H0 C cl fp _ m6).mono fun w H7 ⟨d, tw, m7, gx7, lt7, p7⟩ => ?_
      have hvs7 : H7 D = some (.lst vs) := gx7.at nD hvs6 (fun _ z => by cases z)
      have tvs7 := (tvs.mono lt6).mono lt7
      have hlen : vs.length ≤ k := by rw [tvs.length]; exact hal
      have gU : LeT H7 (upd H7 D (.lst (vs ++ [w]))) := LeT.upd fun xs h => by rw [hvs7] at h; cases h
      exact ⟨vs, hvs7, Nat.lt_of_le_of_lt hlen (size4k (by omega)), acc ++ [d], vs ++ [w], stab _ _ _ D _ hD p7 GeX.set gU, upd_same, (tvs7.append (.cons tw .nil)).mono gU⟩
  · rintro H' ⟨acc, vs, pn, hvs, tvs⟩
    exact ⟨.ref D, .ref D, m1.mono (pl _ _ _ pn).1, fin acc H' pn D vs hD hvs tvs⟩
/-- int(e) -/
theorem ex_int1 {i : Int} {p : Pos} (hm : X.mg "int" = none) (ha : EX X a Γ H (.int i)) (hg : Gl X "int" := by rfl) (he : starEach [a] X.env = (false, eval a X.env) :: starEach [] X.env := by rfl) (hpl : (backTo pos (starEach [] X.env)).any (·.1) = false := by rfl) : EX X (.Call (.Name "int" p) [a] [] pos) Γ H (.int i) := fun σ H1 Q g m q =>
  RE.of (pe_callTy call_int1 hg hm (boot_int : bootBuiltins "int" = some (.type "int")) (pa_cons re pa_nil he) (by decide) (by decide) he hpl) (ha σ H1 _ g m fun v H2 g2 tv => .inl ⟨i, by rw [tv.int_eq], q _ H2 g2 (.int i)⟩)
theorem Ge.sqL {H H' : Hp} {K : PySem.W.Frag} (g : Ge H H') {a : Addr} {xs : List V} (h : SqL K H a xs) : SqL K H' a xs := h.imp (fun r => r.imp (fun h => g.lst h) fun ⟨o, h⟩ => ⟨o, g.frz h⟩) fun h => h
theorem GeX.sqL {H H' : Hp} {K : PySem.W.Frag} {zs : List Addr} (g : GeX zs H H') {a : Addr} (n : a ∉ zs) {xs : List V} (h : SqL K H a xs) : SqL K H' a xs := h.imp (fun r => r.imp (fun h => g.at n h fun _ z => by cases z) fun ⟨o, h⟩ => ⟨o, g.at n h fun _ z => by cases z⟩) fun h => h
theorem ex_lenS {l : Addr} {vs : List V} {p : Pos} (hm : X.mg "len" = none) (ha : EX X a Γ H (.ref l)) (hl : SqL X.K H l vs) (hg : Gl X "len" := by rfl) (he : starEach [a] X.env = (false, eval a X.env) :: starEach [] X.env := by rfl) (hpl : (backTo pos (starEach [] X.env)).any (·.1) = false := by rfl) :
    EX X (.Call (.Name "len" p) [a] [] pos) Γ H (.int vs.length) :=
  ex_callB call_len_seq hm boot_len (ax_cons ha ax_nil he) (fun us H2 Q g t q => by
    obtain ⟨v, rfl, tv⟩ := tpa1 t
    exact ⟨l, vs, by rw [tv.ref_eq], .inl (g.sqL hl), q _ _ (Ge.refl _) (.int _)⟩) hg (by decide) (by decide) he hpl
theorem ex_ixS {l : Addr} {vs : List V} {v : V} {n : Nat} (ha : EX X a Γ H (.ref l)) (hl : SqL X.K H l vs) (hv : vs[n]? = some v) (tv : Tp H v d) (hb : EX X b Γ H (.int n)) (hs : PlainIx b := by intro _ _; rfl) : EX X (.Subscript a b pos) Γ H d :=
  ex_bin (fun h1 h2 => pe_ix ix_list h1 h2 hs) ha hb fun x y H2 Q g tx ty q => by
    refine ⟨l, vs, n, v, tx.ref_eq, ty.int_eq, g.sqL hl, ?_, q v H2 (Ge.refl _) (tv.ge g)⟩
    exact atI_nat hv
/-- e > j, ints, e may change things -/
theorem mt_gtI {K : Bool → Hp → Prop} {j : Int} (ha : MX X a Γ H fun d H1 => ∃ i, d = .int i ∧ EX X b Γ H1 (.int j) ∧ ∀ H2, Ge H1 H2 → K (decide (j < i)) H2) (hm : behindInMarks .Gt b = false := by rfl) : MT X (.Compare a [.Gt] [b] pos) Γ H K := fun σ m => by
  refine RT.of (pt_cmpR op_gt re re hm) ((ha σ m).mono fun x H2 ⟨d, tx, m1, i, ed, hb, q⟩ => hb σ H2 _ (Ge.refl _) m1 fun y H3 g3 ty => ?_)
  subst ed
  exact ⟨i, j, (tx.ge g3).int_eq, ty.int_eq, _, rfl, m1.ge g3, q H3 g3⟩
end
end Lk
set_option Elab.async false
set_option linter.all false
set_option maxRecDepth 100000
set_option maxHeartbeats 4000000
/-! The law's own defs. -/
namespace Lk
open PySem PySem.Spec PyProof.Rows L2 GxR
open C8 (Cal Met Mak)
structure RwIn where
  r : Addr
  sc : Addr
  ns : List Int
  n : Nat
/-- the script is read -/
def ScOk (K : PySem.W.Frag) (y : RwIn) (H : Hp) : Prop := SqL K (fun _ => none) y.sc (y.ns.map V.int) ∨ (y.sc ≠ y.r ∧ Rd H y.sc (.lst (y.ns.map V.int)))
def RowIn (y : RwIn) (H : Hp) : Prop := ∃ (c : Nat) (k l : Int), H y.r = some (.lst [.ref y.sc, .int c, .int k, .int l])
def RowOk (K : PySem.W.Frag) (y : RwIn) (H : Hp) : Prop := ScOk K y H ∧ RowIn y H
theorem ScOk.sq {K : PySem.W.Frag} {y : RwIn} {H : Hp} (h : ScOk K y H) : SqL K H y.sc (y.ns.map V.int) := by
  rcases h with h | ⟨_, h⟩
  · rcases h with h | h
    · rcases h with h | ⟨_, h⟩ <;> cases h
    · exact .inr h
  · exact .inl h
theorem ScOk.x {K : PySem.W.Frag} {y : RwIn} {H H' : Hp} (h : ScOk K y H) (g : GeX [y.r] H H') : ScOk K y H' := by
  rcases h with h | ⟨n, h⟩
  · exact .inl h
  · exact .inr ⟨n, h.imp (fun h => g.at (by simpa using n) h fun _ z => by cases z) fun ⟨o, h⟩ => ⟨o, g.at (by simpa using n) h fun _ z => by cases z⟩⟩
theorem ScOk.ge {K : PySem.W.Frag} {y : RwIn} {H H' : Hp} (h : ScOk K y H) (g : Ge H H') : ScOk K y H' := h.x (g.x _)
def rwArgs (y : RwIn) : List Dt := [.ref y.r, dN y.n]
def tkPre (K : PySem.W.Frag) (y : RwIn) (H : Hp) : Prop := RowOk K y H ∧ 0 < y.n ∧ y.n ≤ 1000
def tkPost (K : PySem.W.Frag) (y : RwIn) (H : Hp) (d : Dt) (H' : Hp) : Prop := GeX [y.r] H H' ∧ LeT H H' ∧ RowOk K y H' ∧ ∃ m, m < y.n ∧ d = dN m
theorem RowIn.ge {y : RwIn} {H H' : Hp} (o : RowIn y H) (g : Ge H H') : RowIn y H' := let ⟨c, k, l, h⟩ := o; ⟨c, k, l, g.lst h⟩
theorem RowOk.ge {K : PySem.W.Frag} {y : RwIn} {H H' : Hp} (o : RowOk K y H) (g : Ge H H') : RowOk K y H' := ⟨o.1.ge g, o.2.ge g⟩
theorem RowOk.x {K : PySem.W.Frag} {y : RwIn} {H H' : Hp} (o : RowOk K y H) (g : GeX [y.r] H H') (i : RowIn y H') : RowOk K y H' := ⟨o.1.x g, i⟩
theorem RowIn.x {y : RwIn} {H H' : Hp} {zs : List Addr} (o : RowIn y H) (g : GeX zs H H') (n1 : y.r ∉ zs) : RowIn y H' := let ⟨c, k, l, h⟩ := o; ⟨c, k, l, g.at n1 h fun _ z => by cases z⟩
/-- what is new may change too -/
theorem GeX.cut {xs ys : List Addr} {H H1 H2 : Hp} (g : GeX xs H H1) (x : GeX ys H1 H2) (n : ∀ a ∈ ys, a ∈ xs ∨ H a = none) : GeX xs H H2 := fun a o ha ho => by
  have na : a ∉ ys := fun m => by
    rcases n a m with h | h
    · exact ha h
    · rw [ho] at h; cases h
  exact (g a o ha ho).trans fun u hu => x a u na hu
theorem RowOk.nt {K : PySem.W.Frag} {y : RwIn} {H : Hp} (o : RowOk K y H) : ∀ xs, H y.r ≠ some (.tup xs) := fun xs e => by
  obtain ⟨_, _, _, _, h⟩ := o
  rw [h] at e
  cases e
theorem RowOk.rn {K : PySem.W.Frag} {y : RwIn} {H : Hp} (o : RowOk K y H) : H y.r ≠ none := fun e => by
  obtain ⟨_, _, _, _, h⟩ := o
  rw [h] at e
  cases e
theorem mod_nat (i : Int) {n : Nat} (h : 0 < n) : ∃ m, m < n ∧ Dt.int (i % (n : Int)) = dN m := by
  have h1 := Int.emod_nonneg i (show (n : Int) ≠ 0 by omega)
  have h2 := Int.emod_lt_of_pos i (show (0 : Int) < n by omega)
  refine ⟨(i % (n : Int)).toNat, by omega, ?_⟩
  show Dt.int _ = Dt.int _
  congr 1
  omega
abbrev N_tk : List Str := ["_law_row", "_law_many", "_law_found", "_law_cell"]
theorem sc_law_taken : FnScope N_tk ["_law_row", "_law_many"] (defScope s_law_taken) := ⟨rfl, rfl, rfl, by decide +kernel, rfl, by decide +kernel, by decide +kernel⟩
section
variable {P : Program} {w : World} {K : PySem.W.Frag} {mg : Str → Option Value} {base : Heap} {f : Addr} {fd : FuncData}
theorem ok_law_taken (g : Gb mg) (F : FnP K "_law_taken" "_law_taken" s_law_taken f fd) : FnOk P w K mg base CX0 1 f fd ["_law_row", "_law_many"] (spP rwArgs (tkPre K) (tkPost K)) := by
  refine fn_P F sc_law_taken (fun y => rfl) fun cdv A outer s0 H E y _ hr h => ?_
  obtain ⟨r, sc, ns, n⟩ := y
  obtain ⟨ro, hn0, hn⟩ := h
  have ro0 : RowOk K ⟨r, sc, ns, n⟩ H := ro
  obtain ⟨hs, c, k, l, hrow⟩ := ro
  have hs : ScOk K ⟨r, sc, ns, n⟩ H := hs
  have hrow : H r = some (.lst [.ref sc, .int c, .int k, .int l]) := hrow
  have hn0 : 0 < n := hn0
  have hn : n ≤ 1000 := hn
  have hn0' : (0 : Int) < n := by omega
  have nt : ∀ {H' : Hp} {vs : List V}, H' r = some (.lst vs) → ∀ xs, H' r ≠ some (.tup xs) := fun h xs z => by rw [h] at z; cases z
  show SXs _ _ [some (.ref r), some (dN n), none, none] H _ _
  refine sxs_cons (sx_if (tx_cmp (ex_ixL (n := 3) (ex_var 0) hrow rfl (.int _) ex_int) ex_int co_gt) (fun _ H1 g1 => ?_) fun _ H1 g1 => sxs_nil ?_)
  · have hr1 := g1.lst hrow
    obtain ⟨m, hm, em⟩ := mod_nat l hn0
    refine sxs_cons (sx_asg (i := 2) (d := dN m) (ex_cast (ex_biC op_mod (ex_int1 g.int (ex_ixL (n := 3) (ex_var 0) hr1 rfl (.int _) ex_int)) (ex_var 1) hn0' rfl) em) (fun H2 g2 => ?_) sc_law_taken.nd)
    have hr2 := g2.lst hr1
    refine sxs_cons (sx_lput (n := 3) (d := .int (l / n)) (ex_biC op_fdiv (ex_ixL (n := 3) (ex_var 0) hr2 rfl (.int _) ex_int) (ex_var 1) ⟨hn0', by omega⟩ rfl) (ex_var 0) ex_int hr2 (show 3 < 4 by decide) fun H3 v3 g3 t3 hr3 => ?_)
    cases t3.int_eq
    have lt3 := g3.t (nt hr2)
    refine sxs_one (sx_ret (ex_var 2) fun H4 g4 => ⟨((g1.trans g2).x _).trans (g3.trans (g4.x _)), (g1.trans g2).t.trans (lt3.trans g4.t), ?_, m, hm, rfl⟩)
    exact ⟨ScOk.x hs (((g1.trans g2).x [r]).trans (g3.trans (g4.x [r]))), c, k, l / n, g4.lst hr3⟩
  · have hr1 := g1.lst hrow
    refine sxs_cons (sx_lput (n := 1) (d := .int ((c : Int) + 1)) (ex_add (ex_ixL (n := 1) (ex_var 0) hr1 rfl (.int _) ex_int) ex_int) (ex_var 0) ex_int hr1 (show 1 < 4 by decide) fun H2 v2 g2 t2 hr2 => ?_)
    cases t2.int_eq
    have hr2 : H2 r = some (.lst [.ref sc, .int ((c : Int) + 1), .int k, .int l]) := hr2
    have lt2 := g2.t (nt hr1)
    have hs2 : ScOk K ⟨r, sc, ns, n⟩ H2 := ScOk.x hs ((g1.x [r]).trans g2)
    refine sxs_cons (sx_if (tx_cmp (ex_ixL (n := 1) (ex_var 0) hr2 rfl (.int _) ex_int) (ex_lenS g.len (ex_ixL (n := 0) (ex_var 0) hr2 rfl (.ref _) ex_int) hs2.sq) co_gt) (fun _ H3 g3 => ?_) fun hc H3 g3 => sxs_nil ?_)
    · have hr3 := g3.lst hr2
      refine sxs_cons (sx_lput (n := 2) (d := .int ((k * 48271 + 11) % 2147483647)) (ex_biC op_mod (ex_int1 g.int (ex_add (ex_biC op_mul (ex_ixL (n := 2) (ex_var 0) hr3 rfl (.int _) ex_int) ex_int (.inr ⟨by decide, by decide⟩) rfl) ex_int)) ex_int (by decide) rfl) (ex_var 0) ex_int hr3 (show 2 < 4 by decide) fun H4 v4 g4 t4 hr4 => ?_)
      cases t4.int_eq
      have lt4 := g4.t (nt hr3)
      have hr4 : H4 r = some (.lst [.ref sc, .int ((c : Int) + 1), .int ((k * 48271 + 11) % 2147483647), .int l]) := hr4
      obtain ⟨m, hm, em⟩ := mod_nat ((k * 48271 + 11) % 2147483647 / 7) hn0
      refine sxs_one (sx_ret (d := dN m) (ex_cast (ex_biC op_mod (ex_int1 g.int (ex_biC op_fdiv (ex_ixL (n := 2) (ex_var 0) hr4 rfl (.int _) ex_int) ex_int ⟨by decide, by decide⟩ rfl)) (ex_var 1) hn0' rfl) em) fun H5 g5 => ⟨(g1.x _).trans (g2.trans ((g3.x _).trans (g4.trans (g5.x _)))), g1.t.trans (lt2.trans (g3.t.trans (lt4.trans g5.t))), ?_, m, hm, rfl⟩)
      exact ⟨hs2.x ((g3.x [r]).trans (g4.trans (g5.x [r]))), c + 1, _, l, g5.lst hr4⟩
    · have hr3 := g3.lst hr2
      have hs3 := hs2.ge g3
      have hcl : c < ns.length := by
        have := of_decide_eq_false hc
        rw [List.length_map] at this
        have this : ¬ ((ns.length : Int) < (c : Int) + 1) := this
        omega
      have hget : (ns.map V.int)[c]? = some (V.int ns[c]) := by rw [List.getElem?_map, List.getElem?_eq_getElem hcl]; rfl
      generalize hz : ns[c] = z at hget
      refine sxs_cons (sx_asg (i := 3) (d := .int z) (ex_ixS (n := c) (ex_ixL (n := 0) (ex_var 0) hr3 rfl (.ref _) ex_int) hs3.sq hget (.int _) (ex_cast (ex_sub (ex_ixL (n := 1) (ex_var 0) hr3 rfl (.int _) ex_int) ex_int) (by show Dt.int _ = Dt.int _; congr 1; omega))) (fun H4 g4 => ?_) sc_law_taken.nd)
      have hr4 := g4.lst hr3
      refine sxs_cons (sx_lput (n := 2) (d := .int ((k * 48271 + z + 11) % 2147483647)) (ex_biC op_mod (ex_int1 g.int (ex_add (ex_add (ex_biC op_mul (ex_ixL (n := 2) (ex_var 0) hr4 rfl (.int _) ex_int) ex_int (.inr ⟨by decide, by decide⟩) rfl) (ex_var 3)) ex_int)) ex_int (by decide) rfl) (ex_var 0) ex_int hr4 (show 2 < 4 by decide) fun H5 v5 g5 t5 hr5 => ?_)
      cases t5.int_eq
      have lt5 := g5.t (nt hr4)
      have hr5 : H5 r = some (.lst [.ref sc, .int ((c : Int) + 1), .int ((k * 48271 + z + 11) % 2147483647), .int l]) := hr5
      have hs5 := hs3.x ((g4.x [r]).trans g5)
      generalize (k * 48271 + z + 11) % 2147483647 = k5 at hr5
      have GX5 : GeX [r] H H5 := (g1.x _).trans (g2.trans (((g3.trans g4).x _).trans g5))
      have LT5 : LeT H H5 := g1.t.trans (lt2.trans ((g3.trans g4).t.trans lt5))
      obtain ⟨m, hm, em⟩ := mod_nat z hn0
      have fin : ∀ (H6 : Hp), GeX [r] H5 H6 → LeT H5 H6 → (∃ l6 : Int, H6 r = some (.lst [.ref sc, .int ((c : Int) + 1), .int k5, .int l6])) → SXs (cxOf CX0 P w K mg base N_tk "_law_taken" (defScope s_law_taken) f cdv A outer s0 H E).nox ((defBody s_law_taken).drop 6) [some (.ref r), some (dN n), none, some (.int z)] H6 (fun _ H' => tkPost K ⟨r, sc, ns, n⟩ H .non H') (tkPost K ⟨r, sc, ns, n⟩ H) := by
        rintro H6 gx6 lt6 ⟨l6, hr6⟩
        refine sxs_one (sx_ret (d := dN m) (ex_cast (ex_biC op_mod (ex_int1 g.int (ex_var 3)) (ex_var 1) hn0' rfl) em) fun H7 g7 => ⟨GX5.trans (gx6.trans (g7.x _)), LT5.trans (lt6.trans g7.t), ?_, m, hm, rfl⟩)
        exact ⟨hs5.x (gx6.trans (g7.x [r])), c + 1, k5, l6, g7.lst hr6⟩
      refine sxs_cons (sx_if (tx_cmp (ex_var 3) (ex_biC (o := 10 ^ 18) op_pow ex_int ex_int ⟨by decide, by decide, by decide⟩ (by decide +kernel)) co_ge) (fun _ H6 g6 => ?_) fun _ H6 g6 => sxs_nil (fin H6 (g6.x _) g6.t ⟨l, g6.lst hr5⟩))
      have hr6 := g6.lst hr5
      refine sxs_one (sx_lput (n := 3) (d := .int (z / n)) (ex_biC op_fdiv (ex_var 3) (ex_var 1) ⟨hn0', by omega⟩ rfl) (ex_var 0) ex_int hr6 (show 3 < 4 by decide) fun H7 v7 g7 t7 hr7 => ?_)
      cases t7.int_eq
      exact fin H7 ((g6.x _).trans g7) (g6.t.trans (g7.t (nt hr6))) ⟨z / n, hr7⟩
end
end Lk
set_option Elab.async false
set_option linter.all false
set_option maxRecDepth 100000
set_option maxHeartbeats 4000000
/-! _law_layout, _law_habit, _law_alike. -/
namespace Lk
open PySem PySem.Spec PyProof.Rows L2 GxR
open C8 (Cal Met Mak)
theorem ei_perm : ∀ (l : List Nat) (n : Nat) (h : n < l.length), (l[n] :: l.eraseIdx n).Perm l
  | [], _, h => absurd h (Nat.not_lt_zero _)
  | a :: l, 0, _ => List.Perm.refl _
  | a :: l, n + 1, h => by
    show (l[n]'(Nat.lt_of_succ_lt_succ h) :: a :: l.eraseIdx n).Perm (a :: l)
    exact (List.Perm.swap _ _ _).trans ((ei_perm l n (Nat.lt_of_succ_lt_succ h)).cons a)
theorem pop_perm (m l : List Nat) (n : Nat) (h : n < l.length) : (m ++ [l[n]] ++ l.eraseIdx n).Perm (m ++ l) := by
  rw [List.append_assoc]
  exact (ei_perm l n h).append_left m
def iV (l : List Nat) : List V := (zs l).map V.int
theorem ints_len (l : List Nat) : (iV l).length = l.length := by unfold iV; rw [List.length_map, zs_len]
theorem ints_get {l : List Nat} {n : Nat} (h : n < l.length) : (iV l)[n]? = some (V.int (l[n] : Nat)) := by
  unfold iV zs
  rw [List.getElem?_map, List.getElem?_map, List.getElem?_eq_getElem h]
  rfl
theorem ints_snoc (l : List Nat) (x : Nat) : iV l ++ [V.int (x : Nat)] = iV (l ++ [x]) := by
  unfold iV zs
  rw [List.map_append, List.map_append]
  rfl
theorem map_erase {α β : Type} (f : α → β) : ∀ (l : List α) (n : Nat), (l.map f).eraseIdx n = (l.eraseIdx n).map f
  | [], _ => rfl
  | _ :: _, 0 => rfl
  | a :: l, n + 1 => by
    show f a :: (l.map f).eraseIdx n = f a :: (l.eraseIdx n).map f
    rw [map_erase f l n]
theorem ints_erase (l : List Nat) (n : Nat) : (iV l).eraseIdx n = iV (l.eraseIdx n) := by
  unfold iV zs
  rw [map_erase, map_erase]
theorem ints_tp (H : Hp) (l : List Nat) : TpA H (iV l) (l.map dN) := by rw [zs_dN]; exact Tp.ints _
theorem ints_of {H : Hp} {l : List Nat} {vs : List V} (t : TpA H vs (l.map dN)) : vs = iV l := by rw [zs_dN] at t; exact t.ints_eq
theorem ex_tupD {X : Cx} {a : Expr} {Γ : Gam} {H : Hp} {pos : Pos} {ds : List Dt} {p : Pos} (h : LD X a Γ H ds) (hm : X.mg "tuple" = none) (hg : Gl X "tuple" := by rfl) (na : starEach [a] X.env = (false, eval a X.env) :: starEach [] X.env := by rfl) : EX X (.Call (.Name "tuple" p) [a] [] pos) Γ H (.tup ds) := fun σ H1 Q g m q =>
  RE.of (pe_tupleOf hg hm re na) (h σ H1 _ g m fun l vs H2 g2 hl t => .inl ⟨l, vs, rfl, SqL.of hl, fun r hr => q _ _ (g2.trans (Ge.new hr)) (.tup upd_same (t.ge (Ge.new hr)))⟩)
abbrev N_ly : List Str := ["_law_row", "_law_places", "_law_left", "_law_found", "_law_k"]
theorem sc_law_layout : FnScope N_ly ["_law_row", "_law_places"] (defScope s_law_layout) := ⟨rfl, rfl, rfl, by decide +kernel, rfl, by decide +kernel, by decide +kernel⟩
def lyPre (K : PySem.W.Frag) (y : RwIn) (H : Hp) : Prop := RowOk K y H ∧ y.n ≤ 5
def lyPost (K : PySem.W.Frag) (y : RwIn) (H : Hp) (d : Dt) (H' : Hp) : Prop := GeX [y.r] H H' ∧ LeT H H' ∧ RowOk K y H' ∧ ∃ st : List Nat, st.Perm (List.range y.n) ∧ Fz H' d st
abbrev N_lh : List Str := ["_law_row", "_law_places", "_law_found", "_law_place", "_law_left", "_law_moved", "_law_k"]
theorem sc_law_habit : FnScope N_lh ["_law_row", "_law_places"] (defScope s_law_habit) := ⟨rfl, rfl, rfl, by decide +kernel, rfl, by decide +kernel, by decide +kernel⟩
def lhPost (K : PySem.W.Frag) (y : RwIn) (H : Hp) (d : Dt) (H' : Hp) : Prop := GeX [y.r] H H' ∧ LeT H H' ∧ RowOk K y H' ∧ ∃ h : Habit, HabOk y.n h ∧ d = dH h
section
variable {P : Program} {w : World} {K : PySem.W.Frag} {mg : Str → Option Value} {base : Heap} {f : Addr} {fd : FuncData}
theorem ok_law_layout (g : Gb mg) (cK : Cal P w K mg base 1 "_law_taken" (spP rwArgs (tkPre K) (tkPost K)) []) (F : FnP K "_law_layout" "_law_layout" s_law_layout f fd) : FnOk P w K mg base CX0 2 f fd ["_law_row", "_law_places"] (spP rwArgs (lyPre K) (lyPost K)) := by
  refine fn_P F sc_law_layout (fun y => rfl) fun cdv A outer s0 H E y _ hr h => ?_
  obtain ⟨r, sc, ns, n⟩ := y
  obtain ⟨ro, hn⟩ := h
  have ro : RowOk K ⟨r, sc, ns, n⟩ H := ro
  have hn : n ≤ 5 := hn
  show SXs _ _ [some (.ref r), some (dN n), none, none, none] H _ _
  refine sxs_cons (sx_parM (i := 2) (j := 3) (mx_lx (lx_lstRg (n := n) (ex_var 1) (by omega) rfl g.list g.range) fun ll vs H1 g1 nl hl tl => mx_lx (lx_list ax_nil) fun lf vs' H2 g2 nf hf tf => ⟨g2.t, ?_⟩) rfl sc_law_layout.nd)
  cases ints_of tl
  cases tf
  have nlr : ll ≠ r := fun e => ro.rn (by rw [← e]; exact nl)
  have nfr : lf ≠ r := fun e => ro.rn (by have := g1.free nf; rw [← e]; exact this)
  have nfl : lf ≠ ll := fun e => by rw [e, hl] at nf; cases nf
  have nf0 := g1.free nf
  have g12 := g1.trans g2
  refine sxs_cons (sx_forR (i := 4) (n := n) (ex_var 1) (by omega) (fun H3 g3 => ⟨fun k Γ' H' => GeX [r] H H' ∧ LeT H H' ∧ RowIn ⟨r, sc, ns, n⟩ H' ∧ (∃ x4, Γ' = [some (.ref r), some (dN n), some (.ref ll), some (.ref lf), x4]) ∧ ∃ m l : List Nat, (m ++ l).Perm (List.range n) ∧ m.length = k ∧ H' ll = some (.lst (iV l)) ∧ H' lf = some (.lst (iV m)),
    ⟨(g12.trans g3).x _, (g12.trans g3).t, ro.2.ge (g12.trans g3), ⟨_, rfl⟩, [], List.range n, List.Perm.refl _, rfl, g3.lst (g2.lst hl), g3.lst hf⟩, ?_, ?_⟩) g.range PassesOwn.never rfl sc_law_layout.nd)
  · rintro k Γ' H4 hk ⟨gx4, lt4, ri4, ⟨x4, rfl⟩, m, l, pm, hm, hl4, hf4⟩
    have hlen : m.length + l.length = n := by
      have := pm.length_eq
      rw [List.length_append, List.length_range] at this
      exact this
    have hll : 0 < l.length := by omega
    refine sxs_one (sx_exprM (mx_appendM (ex_var 3) hf4 (fun H5 g5 => mx_popM (ex_var 2) (g5.lst hl4) (fun H6 g6 => mx_call cK ⟨r, sc, ns, l.length⟩ (ax_cons (ex_var 0) (ax_cons (ex_cast (ex_lenL g.len (ex_var 2) (g6.lst (g5.lst hl4))) (by rw [ints_len])) ax_nil)) (fun H7 g7 => ⟨⟨(ro.1.x gx4).ge ((g5.trans g6).trans g7), ri4.ge ((g5.trans g6).trans g7)⟩, hll, by show l.length ≤ 1000; omega⟩) (fun _ _ _ p => p.2.1) (fun H7 d H8 g7 p8 => ?_) hr))))
    obtain ⟨gx8, lt8, ro8, j, hj, rfl⟩ := p8
    have gx8 : GeX [r] H7 H8 := gx8
    have hj : j < l.length := hj
    have g47 := (g5.trans g6).trans g7
    have hl8 := gx8.one nlr (g47.lst hl4) (fun _ z => by cases z)
    have hf8 := gx8.one nfr (g47.lst hf4) (fun _ z => by cases z)
    refine ⟨j, _, _, dN l[j], rfl, by omega, hl8, ints_get hj, .int _, fun H9 gx9 lt9 hl9 => ?_⟩
    refine ⟨_, gx9.one nfl hf8 (fun _ z => by cases z), by rw [ints_len]; exact size4k (by omega), fun H10 v gx10 lt10 t10 hf10 => ?_⟩
    cases t10.int_eq
    rw [ints_snoc] at hf10
    rw [ints_erase] at hl9
    have GX : GeX [r] H H10 := ((gx4.trans ((g47.x _).trans gx8)).cut gx9 (fun a ha => .inr (by rw [List.mem_singleton.mp ha]; exact nl))).cut gx10 (fun a ha => .inr (by rw [List.mem_singleton.mp ha]; exact nf0))
    refine ⟨GX, lt4.trans (g47.t.trans (lt8.trans (lt9.trans lt10))), ((ro8.2.x gx9 (by simpa using nlr.symm)).x gx10 (by simpa using nfr.symm)), ⟨_, rfl⟩, m ++ [l[j]], l.eraseIdx j, (pop_perm m l j hj).trans pm, by rw [List.length_append, hm]; rfl, gx10.one nfl.symm hl9 (fun _ z => by cases z), hf10⟩
  · rintro Γ' H4 ⟨gx4, lt4, ri4, ⟨x4, rfl⟩, m, l, pm, hm, hl4, hf4⟩
    have hlen : m.length + l.length = n := by
      have := pm.length_eq
      rw [List.length_append, List.length_range] at this
      exact this
    have el : l = [] := List.length_eq_zero_iff.mp (by omega)
    rw [el, List.append_nil] at pm
    refine sxs_one (sx_retM (mx_fx (ns := m) (fx_tupD (ld_ref (ex_var 3) hf4 (ints_tp _ _)) g.tuple) fun a H5 g5 z5 => ⟨gx4.trans (g5.x _), lt4.trans g5.t, ⟨(ro.1.x gx4).ge g5, ri4.ge g5⟩, m, pm, z5⟩))
theorem ok_law_habit (g : Gb mg) (cK : Cal P w K mg base 1 "_law_taken" (spP rwArgs (tkPre K) (tkPost K)) []) (F : FnP K "_law_habit" "_law_habit" s_law_habit f fd) : FnOk P w K mg base CX0 2 f fd ["_law_row", "_law_places"] (spP rwArgs (lyPre K) (lhPost K)) := by
  refine fn_P F sc_law_habit (fun y => rfl) fun cdv A outer s0 H E y _ hr h => ?_
  obtain ⟨r, sc, ns, n⟩ := y
  obtain ⟨ro, hn⟩ := h
  have ro : RowOk K ⟨r, sc, ns, n⟩ H := ro
  have hn : n ≤ 5 := hn
  show SXs _ _ [some (.ref r), some (dN n), none, none, none, none, none] H _ _
  refine sxs_cons (sx_asgL (i := 2) (lx_list ax_nil) (fun lh vs H0 g0 nh hh th => ?_) sc_law_habit.nd)
  cases th
  have nhr : lh ≠ r := fun e => ro.rn (by rw [← e]; exact nh)
  have rowP : ∀ row : List Nat, row.Perm (List.range n) → row.length = n ∧ (∀ x, x ∈ row → x < n) ∧ row.Nodup := fun row p => ⟨by rw [p.length_eq, List.length_range], fun x hx => List.mem_range.mp (p.mem_iff.mp hx), p.nodup_iff.mpr List.nodup_range⟩
  refine sxs_cons (sx_forR (i := 3) (n := n) (ex_var 1) (by omega) (fun Ha ga => ⟨fun k Γ' H' => GeX [r] H H' ∧ LeT H H' ∧ RowIn ⟨r, sc, ns, n⟩ H' ∧ (∃ x3 x4 x5 x6, Γ' = [some (.ref r), some (dN n), some (.ref lh), x3, x4, x5, x6]) ∧ ∃ (rows : List (List Nat)) (vs : List V), rows.length = k ∧ (∀ row, row ∈ rows → row.Perm (List.range n)) ∧ H' lh = some (.lst vs) ∧ TpA H' vs (rows.map dNs),
    ⟨(g0.trans ga).x _, (g0.trans ga).t, ro.2.ge (g0.trans ga), ⟨_, _, _, _, rfl⟩, [], [], rfl, fun _ h => absurd h (by simp), ga.lst hh, .nil⟩, ?_, ?_⟩) g.range PassesOwn.never rfl sc_law_habit.nd)
  · rintro k Γ' Hb hk ⟨gxb, ltb, rib, ⟨x3, x4, x5, x6, rfl⟩, rows, vs, hrl, hrows, hvs, tvs⟩
    show SXs _ _ [some (.ref r), some (dN n), some (.ref lh), some (dN k), x4, x5, x6] Hb _ _
    refine sxs_cons (sx_parM (i := 4) (j := 5) (mx_lx (lx_lstRg (n := n) (ex_var 1) (by omega) rfl g.list g.range) fun ll wl H1 g1 nl hl tl => mx_lx (lx_list ax_nil) fun lf vs' H2 g2 nf hf tf => ⟨g2.t, ?_⟩) rfl sc_law_habit.nd)
    cases ints_of tl
    cases tf
    have rnb : Hb r ≠ none := fun e => by obtain ⟨_, _, _, q⟩ := rib; have q : Hb r = some _ := q; rw [q] at e; cases e
    have nlr : ll ≠ r := fun e => rnb (by rw [← e]; exact nl)
    have nf1 := g1.free nf
    have nfr : lf ≠ r := fun e => rnb (by rw [← e]; exact nf1)
    have nfl : lf ≠ ll := fun e => by rw [e, hl] at nf; cases nf
    have nlh : ll ≠ lh := fun e => by rw [e, hvs] at nl; cases nl
    have nfh : lf ≠ lh := fun e => by rw [e, hvs] at nf1; cases nf1
    have nl0 : H ll = none := gxb.free nl (by simpa using nlr)
    have nf0 : H lf = none := gxb.free nf1 (by simpa using nfr)
    have g12 := g1.trans g2
    show SXs _ _ [some (.ref r), some (dN n), some (.ref lh), some (dN k), some (.ref ll), some (.ref lf), x6] H2 _ _
    refine sxs_cons (sx_forR (i := 6) (n := n) (ex_var 1) (by omega) (fun H3 g3 => ⟨fun k' Γ' H' => GeX [r] H H' ∧ LeT H H' ∧ RowIn ⟨r, sc, ns, n⟩ H' ∧ LeT Hb H' ∧ H' lh = some (.lst vs) ∧ (∃ x6, Γ' = [some (.ref r), some (dN n), some (.ref lh), some (dN k), some (.ref ll), some (.ref lf), x6]) ∧ ∃ m l : List Nat, (m ++ l).Perm (List.range n) ∧ m.length = k' ∧ H' ll = some (.lst (iV l)) ∧ H' lf = some (.lst (iV m)),
      ⟨gxb.trans ((g12.trans g3).x _), ltb.trans (g12.trans g3).t, rib.ge (g12.trans g3), (g12.trans g3).t, (g12.trans g3).lst hvs, ⟨_, rfl⟩, [], List.range n, List.Perm.refl _, rfl, g3.lst (g2.lst hl), g3.lst hf⟩, ?_, ?_⟩) g.range PassesOwn.never rfl sc_law_habit.nd)
    · rintro k' Γ' H4 hk' ⟨gx4, lt4, ri4, lb4, hv4, ⟨x6, rfl⟩, m, l, pm, hm, hl4, hf4⟩
      have hlen : m.length + l.length = n := by
        have := pm.length_eq
        rw [List.length_append, List.length_range] at this
        exact this
      have hll : 0 < l.length := by omega
      refine sxs_one (sx_exprM (mx_appendM (ex_var 5) hf4 (fun H5 g5 => mx_popM (ex_var 4) (g5.lst hl4) (fun H6 g6 => mx_call cK ⟨r, sc, ns, l.length⟩ (ax_cons (ex_var 0) (ax_cons (ex_cast (ex_lenL g.len (ex_var 4) (g6.lst (g5.lst hl4))) (by rw [ints_len])) ax_nil)) (fun H7 g7 => ⟨⟨(ro.1.x gx4).ge ((g5.trans g6).trans g7), ri4.ge ((g5.trans g6).trans g7)⟩, hll, by show l.length ≤ 1000; omega⟩) (fun _ _ _ p => p.2.1) (fun H7 d H8 g7 p8 => ?_) hr))))
      obtain ⟨gx8, lt8, ro8, j, hj, rfl⟩ := p8
      have gx8 : GeX [r] H7 H8 := gx8
      have hj : j < l.length := hj
      have g47 := (g5.trans g6).trans g7
      have hl8 := gx8.one nlr (g47.lst hl4) (fun _ z => by cases z)
      have hf8 := gx8.one nfr (g47.lst hf4) (fun _ z => by cases z)
      have hv8 := gx8.one nhr (g47.lst hv4) (fun _ z => by cases z)
      refine ⟨j, _, _, dN l[j], rfl, by omega, hl8, ints_get hj, .int _, fun H9 gx9 lt9 hl9 => ?_⟩
      refine ⟨_, gx9.one nfl hf8 (fun _ z => by cases z), by rw [ints_len]; exact size4k (by omega), fun H10 v gx10 lt10 t10 hf10 => ?_⟩
      cases t10.int_eq
      rw [ints_snoc] at hf10
      rw [ints_erase] at hl9
      have GX : GeX [r] H H10 := ((gx4.trans ((g47.x _).trans gx8)).cut gx9 (fun a ha => .inr (by rw [List.mem_singleton.mp ha]; exact nl0))).cut gx10 (fun a ha => .inr (by rw [List.mem_singleton.mp ha]; exact nf0))
      have LT := g47.t.trans (lt8.trans (lt9.trans lt10))
      refine ⟨GX, lt4.trans LT, ((ro8.2.x gx9 (by simpa using nlr.symm)).x gx10 (by simpa using nfr.symm)), lb4.trans LT, gx10.one nfh.symm (gx9.one nlh.symm hv8 (fun _ z => by cases z)) (fun _ z => by cases z), ⟨_, rfl⟩, m ++ [l[j]], l.eraseIdx j, (pop_perm m l j hj).trans pm, by rw [List.length_append, hm]; rfl, gx10.one nfl.symm hl9 (fun _ z => by cases z), hf10⟩
    · rintro Γ' H4 ⟨gx4, lt4, ri4, lb4, hv4, ⟨x6, rfl⟩, m, l, pm, hm, hl4, hf4⟩
      have hlen : m.length + l.length = n := by
        have := pm.length_eq
        rw [List.length_append, List.length_range] at this
        exact this
      have el : l = [] := List.length_eq_zero_iff.mp (by omega)
      rw [el, List.append_nil] at pm
      have tv4 := tvs.mono lb4
      have fin : ∀ (row : List Nat) (H6 H7 : Hp) (v : V), row.Perm (List.range n) → GeX [r] H4 H6 → LeT H4 H6 → RowIn ⟨r, sc, ns, n⟩ H6 → GeX [lh] H6 H7 → LeT H6 H7 → Tp H7 v (dNs row) → H7 lh = some (.lst (vs ++ [v])) →
          GeX [r] H H7 ∧ LeT H H7 ∧ RowIn ⟨r, sc, ns, n⟩ H7 ∧ (∃ y3 y4 y5 y6, [some (.ref r), some (dN n), some (.ref lh), some (dN k), some (.ref ll), some (.ref lf), x6] = [some (.ref r), some (dN n), some (.ref lh), y3, y4, y5, y6]) ∧ ∃ (rows : List (List Nat)) (vs : List V), rows.length = k + 1 ∧ (∀ row, row ∈ rows → row.Perm (List.range n)) ∧ H7 lh = some (.lst vs) ∧ TpA H7 vs (rows.map dNs) := fun row H6 H7 v prow gx6 lt6 ri6 gx7 lt7 tv hv7 =>
        ⟨(gx4.trans gx6).cut gx7 (fun a ha => .inr (by rw [List.mem_singleton.mp ha]; exact nh)), lt4.trans (lt6.trans lt7), ri6.x gx7 (by simpa using nhr.symm), ⟨_, _, _, _, rfl⟩, rows ++ [row], vs ++ [v], by rw [List.length_append, hrl]; rfl, fun rw' hrw => by
          rcases List.mem_append.mp hrw with h | h
          · exact hrows _ h
          · rw [List.mem_singleton.mp h]; exact prow, hv7, by
          rw [List.map_append]
          exact ((tv4.mono lt6).mono lt7).append (.cons tv .nil)⟩
      refine sxs_one (sx_exprM (mx_appendM (ex_var 2) hv4 (fun H5 g5 => mx_ifExp (mt_gtI (j := 0) (mx_call cK ⟨r, sc, ns, 4⟩ (ax_cons (ex_var 0) (ax_cons ex_int ax_nil)) (fun H6 g6 => ⟨⟨(ro.1.x gx4).ge (g5.trans g6), ri4.ge (g5.trans g6)⟩, by show 0 < 4; omega, by show 4 ≤ 1000; omega⟩) (fun _ _ _ p => p.2.1) (fun H6 d H7 g6 p7 => ?_) hr)))))
      obtain ⟨gx7, lt7, ro7, j, hj, rfl⟩ := p7
      have gx7 : GeX [r] H6 H7 := gx7
      refine ⟨j, rfl, ex_int, fun H8 g8 => ?_⟩
      have gx8 : GeX [r] H4 H8 := ((g5.trans g6).x _).trans (gx7.trans (g8.x _))
      have lt8 : LeT H4 H8 := (g5.trans g6).t.trans (lt7.trans g8.t)
      have ri8 := ro7.2.ge g8
      have hlen' : vs.length < sizeLine := by rw [tvs.length, List.length_map, hrl]; exact size4k (by omega)
      have hf8 := gx8.one nfr hf4 (fun _ z => by cases z)
      cases hjj : decide ((0 : Int) < (j : Int)) with
      | true =>
        rw [if_pos rfl]
        refine mx_ex (d := dNs m) (ex_tupD (ld_ref (ex_var 5) hf8 (ints_tp _ _)) g.tuple) fun H9 g9 => ⟨vs, gx8.trans (g9.x _) |>.one nhr hv4 (fun _ z => by cases z), hlen', fun H10 v gx10 lt10 t10 hv10 => fin m H9 H10 v pm (gx8.trans (g9.x _)) (lt8.trans g9.t) (ri8.ge g9) gx10 lt10 t10 hv10⟩
      | false =>
        rw [if_neg (by decide)]
        refine mx_ex (d := dNs (List.range n)) (ex_tupRg (n := n) (ex_var 1) (by omega) rfl g.tuple g.range) fun H9 g9 => ⟨vs, gx8.trans (g9.x _) |>.one nhr hv4 (fun _ z => by cases z), hlen', fun H10 v gx10 lt10 t10 hv10 => fin _ H9 H10 v (List.Perm.refl _) (gx8.trans (g9.x _)) (lt8.trans g9.t) (ri8.ge g9) gx10 lt10 t10 hv10⟩
  · rintro Γ' Hb ⟨gxb, ltb, rib, ⟨x3, x4, x5, x6, rfl⟩, rows, vs, hrl, hrows, hvs, tvs⟩
    refine sxs_one (sx_ret (d := dH rows) (ex_tupD (ld_ref (ex_var 2) hvs tvs) g.tuple) fun H1 g1 => ⟨gxb.trans (g1.x _), ltb.trans g1.t, ⟨(ro.1.x gxb).ge g1, rib.ge g1⟩, rows, ⟨hrl, fun row hrow => rowP row (hrows row hrow)⟩, rfl⟩)
end
end Lk
set_option Elab.async false
set_option linter.all false
set_option maxRecDepth 100000
set_option maxHeartbeats 4000000
/-! _law_alike. -/
namespace Lk
open PySem PySem.Spec PyProof.Rows L2 GxR
open C8 (Cal Met Mak)
abbrev N_al : List Str := ["_law_found", "_law_due", "_law_k"]
theorem sc_law_alike : FnScope N_al ["_law_found", "_law_due"] (defScope s_law_alike) := ⟨rfl, rfl, rfl, by decide +kernel, rfl, by decide +kernel, by decide +kernel⟩
def R_al0 : List Dt → Dt → Prop := fun ds d => ∃ i : Int, ds = [.int i, .int i] ∧ d = .bl true
structure AlIn where
  l : List Nat
def alArgs (y : AlIn) : List Dt := [dNs y.l, dNs y.l]
def alPre (y : AlIn) (_ : Hp) : Prop := y.l.length ≤ 4000
def alPost (_ : AlIn) (H : Hp) (d : Dt) (H' : Hp) : Prop := Ge H H' ∧ d = .bl true
section
variable {P : Program} {w : World} {K : PySem.W.Frag} {mg : Str → Option Value} {base : Heap} {f : Addr} {fd : FuncData}
theorem ok_law_alike0 (g : Gb mg) (F : FnP K "_law_alike" "_law_alike" s_law_alike f fd) : FnOk P w K mg base CX0 1 f fd ["_law_found", "_law_due"] (spF [] R_al0) := by
  refine fn_F F sc_law_alike (fun ds d h => ?_) fun cdv A outer s0 H E ds d _ hr h _ => ?_
  · obtain ⟨i, rfl, _⟩ := h
    rfl
  · obtain ⟨i, rfl, rfl⟩ := h
    show SXs _ _ [some (.int i), some (.int i), none] H _ _
    refine sxs_cons (sx_if (k := false) (tx_ex (ex_isi2 (x := "tuple") (y := "list") (k1 := false) (k2 := false) g.isinstance g.tuple g.list rfl rfl (ex_var 1) (.int _) (by decide +kernel) (by decide +kernel))) (fun z => by cases z) fun _ H1 g1 => sxs_nil ?_)
    refine sxs_cons (sx_if (k := false) (tx_wx (wx_or (k := false) (l := false) (tx_cast (tx_cmp (ex_var 1) ex_non co_is) (by rfl)) fun _ => wx_one_or (tx_ex (ex_isi (x := "str") (k := false) g.isinstance g.str rfl (ex_var 1) (.int _) (by decide +kernel))))) (fun z => by cases z) fun _ H2 g2 => sxs_nil ?_)
    refine sxs_one (sx_ret (d := .bl true) (ex_and (k := true) (l := true) (ex_isi (x := "int") (k := true) g.isinstance g.int rfl (ex_var 0) (.int _) (by decide +kernel)) fun _ =>
      ex_and (k := true) (l := true) (ex_cast (ex_cmp (ex_isi (x := "bool") (k := false) g.isinstance g.bool rfl (ex_var 0) (.int _) (by decide +kernel)) (ex_isi (x := "bool") (k := false) g.isinstance g.bool rfl (ex_var 1) (.int _) (by decide +kernel)) co_eq) (by rfl)) fun _ =>
      ex_one (ex_cast (ex_cmp (ex_var 0) (ex_var 1) co_eq) ?_)) fun H3 g3 => ⟨(g1.trans g2).trans g3, rfl⟩)
    show Dt.bl (decide (i = i)) = .bl true
    simp
theorem ok_law_alike1 (g : Gb mg) (cA : Cal P w K mg base 1 "_law_alike" (spF [] R_al0) []) (F : FnP K "_law_alike" "_law_alike" s_law_alike f fd) : FnOk P w K mg base CX0 2 f fd ["_law_found", "_law_due"] (spP alArgs alPre alPost) := by
  refine fn_P F sc_law_alike (fun y => rfl) fun cdv A outer s0 H E y _ hr h => ?_
  obtain ⟨l⟩ := y
  have hl : l.length ≤ 4000 := h
  show SXs _ _ [some (dNs l), some (dNs l), none] H _ _
  refine sxs_cons (sx_if (k := true) (tx_ex (ex_isi2 (x := "tuple") (y := "list") (k1 := true) (k2 := false) g.isinstance g.tuple g.list rfl rfl (ex_var 1) (.tup _) (by decide +kernel) (by decide +kernel))) (fun _ H1 g1 => ?_) (fun z => by cases z))
  refine sxs_cons (sx_if (k := false) (tx_wx (wx_or (k := false) (l := false) (tx_not (k := true) (tx_ex (ex_isi2 (x := "tuple") (y := "list") (k1 := true) (k2 := false) g.isinstance g.tuple g.list rfl rfl (ex_var 0) (.tup _) (by decide +kernel) (by decide +kernel)))) fun _ =>
    wx_one_or (tx_cast (tx_cmp (ex_isi (x := "list") (k := false) g.isinstance g.list rfl (ex_var 0) (.tup _) (by decide +kernel)) (ex_isi (x := "list") (k := false) g.isinstance g.list rfl (ex_var 1) (.tup _) (by decide +kernel)) co_ne) (by rfl)))) (fun z => by cases z) fun _ H2 g2 => sxs_nil ?_)
  refine sxs_cons (sx_if (k := false) (tx_cast (tx_cmp (ex_len g.len (ex_var 0)) (ex_len g.len (ex_var 1)) co_ne) ?_) (fun z => by cases z) fun _ H3 g3 => sxs_nil ?_)
  · show (!decide (((l.map dN).length : Int) = ((l.map dN).length : Int))) = false
    simp
  refine sxs_one (sx_ret (d := .bl true) (ex_cast (ex_eqL hr (LX.ld (lx_lc (own := [("_law_k", 2)]) (f := fun _ => none) (src_rangeM (i := 2) (n := l.length) (ex_cast (ex_len g.len (ex_var 1)) (by rw [List.length_map])) (by omega) g.range) (fun _ _ _ => trivial) ?_ (blkOk_by (by show blkC N_al (defScope s_law_alike) _ _ = true; decide +kernel)) (by decide)
    (fun _ _ _ _ _ => pgn sc_law_alike.nd) ?_ (fun _ _ _ _ _ _ _ _ _ hd => nomatch hd) rfl sc_law_alike.nd)) (by rw [keepD_none (α := Nat) _ _ fun _ _ => rfl]; exact PurA.nil)) (by rw [keepD_none (α := Nat) _ _ fun _ _ => rfl]; rfl)) fun H4 g4 => ⟨((g1.trans g2).trans g3).trans g4, rfl⟩)
  · exact Nat.le_of_lt (size4k hl)
  · intro s' H0 C cl fp k' H5 hk' g5
    refine txs_one (tx_not (k := true) (tx_ex (ex_call cA (d := .bl true) (ax_cons (ex_ixNs (ex_var 0) (ex_var 2) hk') (ax_cons (ex_ixNs (ex_var 1) (ex_var 2) hk') ax_nil)) ⟨_, rfl, rfl⟩ hr (fun _ z => absurd z (by simp)))))
end
end Lk
set_option Elab.async false
set_option linter.all false
set_option maxRecDepth 100000
set_option maxHeartbeats 4000000
/-! Rules for the law's body; what is kept along it. -/
namespace Lk
open PySem PySem.Spec PyProof.Rows L2 GxR
open C8 (Cal Met Mak InsC)
section
variable {X : Cx} {e a b c o iter : Expr} {es rest : List Expr} {Γ : Gam} {H H1 : Hp} {d da db : Dt} {pos : Pos}
/-- i + e, e may change things -/
theorem mx_addI {K : Dt → Hp → Prop} {i : Int} (ha : EX X a Γ H (.int i)) (hb : ∀ H1, Ge H H1 → MX X b Γ H1 fun d H2 => ∃ j, d = .int j ∧ K (.int (i + j)) H2) : MX X (.BinOp a .Add b pos) Γ H K := fun σ m =>
  RE.of (pe_op op_add re re) (ha σ H _ (Ge.refl _) m fun v H1 g1 tv => (hb H1 g1 σ (m.ge g1)).mono fun u H2 ⟨d, tu, m2, j, ed, k⟩ => by
    subst ed
    exact ⟨i, j, tv.int_eq, tu.int_eq, .int (i + j), .int _, m2, k⟩)
theorem mts_one {K : Bool → Hp → Prop} (h : MT X c Γ H K) : ∀ σ, Gm H σ Γ → RTs X [c] σ H (fun b H' => Gm H' σ Γ ∧ K b H') := fun σ m pins s I => (pts_one Lk.rt).run pins s σ H _ I (h σ m)
theorem mts_nil {K : Bool → Hp → Prop} (k : K true H) : ∀ σ, Gm H σ Γ → RTs X [] σ H (fun b H' => Gm H' σ Γ ∧ K b H') := fun σ m pins s I => pts_nil.run pins s σ H _ I ⟨m, k⟩
theorem mt_not {K : Bool → Hp → Prop} (h : MT X a Γ H fun k H1 => K (!k) H1) : MT X (.UnaryOp .Not a pos) Γ H K := fun σ m => RT.of (pt_not rt) ((h σ m).mono fun k H1 q => q)
theorem mt_or1 {K : Bool → Hp → Prop} (h : MT X a Γ H fun k H1 => if k = true then K true H1 else ∃ l, WX X (.BoolOp .Or (b :: rest) pos) Γ H1 l ∧ ∀ H2, Ge H1 H2 → K l H2) : MT X (.BoolOp .Or (a :: b :: rest) pos) Γ H K := fun σ m =>
  RT.of (pw_or rt rw').pt ((h σ m).mono fun k H1 ⟨m1, q⟩ => by
    cases k with
    | true => rw [if_pos rfl] at q ⊢; exact ⟨m1, q⟩
    | false =>
      rw [if_neg (by decide)] at q ⊢
      obtain ⟨l, w, q⟩ := q
      exact w σ H1 _ (Ge.refl _) m1 fun H2 g2 => ⟨m1.ge g2, q H2 g2⟩)
theorem mt_mx {K : Bool → Hp → Prop} (h : MX X e Γ H fun d H1 => ∃ k, d = .bl k ∧ K k H1) (he : ∀ whole, isTrue e X.env whole = (do let v ← whole; standAt e.pos; holding [v] (truthy v)) := by first | (intro _; rfl) | exact isTrue_plain _ _ ) : MT X e Γ H K := fun σ m =>
  RT.of (pt_val re he) ((h σ m).mono fun v H1 ⟨d, tv, m1, k, ed, q⟩ => by
    subst ed
    exact ⟨k, tv.bl_eq, m1, q⟩)
end
/-! what is kept -/
structure LC (K : PySem.W.Frag) (r sc : Addr) (ns : List Int) (P1 P2 : Addr) (H1 : Hp) : Prop where
  sc0 : ScOk K ⟨r, sc, ns, 0⟩ H1
  T1 : TabG H1 P1
  T2 : TabG H1 P2
  n1 : P1 ≠ r
  n2 : P2 ≠ r
structure LS (r sc : Addr) (ns : List Int) (H1 H' : Hp) : Prop where
  gx : GeX [r] H1 H'
  lt : LeT H1 H'
  ri : RowIn ⟨r, sc, ns, 0⟩ H'
section
variable {K : PySem.W.Frag} {r sc P1 P2 D : Addr} {ns : List Int} {H1 H' H2 : Hp}
theorem LC.row (c : LC K r sc ns P1 P2 H1) (s : LS r sc ns H1 H') (n : Nat) : RowOk K ⟨r, sc, ns, n⟩ H' := ⟨c.sc0.x s.gx, s.ri⟩
theorem LC.t1 (c : LC K r sc ns P1 P2 H1) (s : LS r sc ns H1 H') : TabG H' P1 := s.gx.tab (by simpa using c.n1) c.T1
theorem LC.t2 (c : LC K r sc ns P1 P2 H1) (s : LS r sc ns H1 H') : TabG H' P2 := s.gx.tab (by simpa using c.n2) c.T2
theorem LS.ge (s : LS r sc ns H1 H') (g : Ge H' H2) : LS r sc ns H1 H2 := ⟨s.gx.trans (g.x _), s.lt.trans g.t, s.ri.ge g⟩
theorem LS.row (s : LS r sc ns H1 H') (gx : GeX [r] H' H2) (lt : LeT H' H2) (ri : RowIn ⟨r, sc, ns, 0⟩ H2) : LS r sc ns H1 H2 := ⟨s.gx.trans gx, s.lt.trans lt, ri⟩
theorem LS.rn (s : LS r sc ns H1 H') : H' r ≠ none := fun e => by
  obtain ⟨_, _, _, q⟩ := s.ri
  have q : H' r = some _ := q
  rw [q] at e
  cases e
theorem LS.free (s : LS r sc ns H1 H') (h : H' D = none) : H1 D = none ∧ D ≠ r := by
  have nr : D ≠ r := fun e => s.rn (by rw [← e]; exact h)
  exact ⟨s.gx.free h (by simpa using nr), nr⟩
theorem LS.new {ds : List Addr} (s : LS r sc ns H1 H') (gx : GeX ds H' H2) (lt : LeT H' H2) (h : ∀ D ∈ ds, H1 D = none ∧ D ≠ r) : LS r sc ns H1 H2 :=
  ⟨s.gx.cut gx fun a m => .inr (h a m).1, s.lt.trans lt, s.ri.x gx fun m => (h _ m).2 rfl⟩
end
end Lk
set_option Elab.async false
set_option linter.all false
set_option maxRecDepth 100000
set_option maxHeartbeats 4000000
/-! The law's body: one turn of its loop. -/
namespace Lk
open PySem PySem.Spec PyProof.Rows L2 GxR
open C8 (Cal Met Mak InsC)
abbrev N_law : List Str := ["_law_script", "_law_row", "_law_places", "_law_habits", "_law_lot", "_law_tree", "_law_most", "_law_index", "_law_left", "_law_many", "_law_shelf", "_law_other", "_law_alike_here", "_law_k", "_law_place"]
theorem sc_law : FnScope N_law ["_law_script"] (defScope s_law) := ⟨rfl, rfl, rfl, by decide +kernel, rfl, by decide +kernel, by decide +kernel⟩
def forB : Stmt → List Stmt
  | .For _ _ b _ _ => b
  | _ => []
def law_b : List Stmt := forB ((defBody s_law).getD 6 (.Pass ⟨0, 0, 0, 0⟩))
/-- the path of the class -/
structure PathC (P : Program) (w : World) (K : PySem.W.Frag) (mg : Str → Option Value) (base : Heap) (C : Addr) : Prop where
  cl : Cls K C
  ex : ∃ (p g : Addr) (fd : FuncData), PropOf K C "path" p g ∧ FnOk P w K mg base CX0 1 g fd ["self"] (spP ptArgs (ptPre C) ptPost) ∧ Binds K fd ["self"] []
theorem ex_path {X : Cx} {C : Addr} {y : ShAd} {h : Habit} {s : Sh} {o : Expr} {Γ : Gam} {H : Hp} {pos : Pos} {j : Nat} (c : PathC X.prog X.w X.K X.mg X.base C) (hr : Room j X.A) (hj : 2 ≤ j) (eC : y.C = C) (sa : ShAt H y h s) (he : EX X o Γ H (.ref y.b))
    (hab : attributeBase o "path" X.env (eval o X.env) = eval o X.env := by rfl) : EX X (.Attribute o "path" pos) Γ H (dNs s.pa) := by
  obtain ⟨p, g, fd, hp, F, hb⟩ := c.ex
  have cl := c.cl
  subst eC
  obtain ⟨vh, a, hbb, _⟩ := id sa
  exact ex_prop cl hp F (hr.mono hj) hb he hbb ⟨y, h, s⟩ rfl (fun H1 g1 => ⟨rfl, sa.ge g1⟩) (fun _ _ _ p => p) hab
structure LawC (P : Program) (w : World) (K : PySem.W.Frag) (mg : Str → Option Value) (base : Heap) (C P1 P2 : Addr) : Prop where
  tk : Cal P w K mg base 1 "_law_taken" (spP rwArgs (tkPre K) (tkPost K)) []
  hb : Cal P w K mg base 2 "_law_habit" (spP rwArgs (lyPre K) (lhPost K)) []
  ly : Cal P w K mg base 2 "_law_layout" (spP rwArgs (lyPre K) (lyPost K)) []
  al : Cal P w K mg base 2 "_law_alike" (spP alArgs alPre alPost) []
  lt : Cal P w K mg base 10 "least_tree" (spP btArgs (lePre P1 P2) ltPost) []
  lw : Cal P w K mg base 10 "least_worst" (spP btArgs (lePre P1 P2) lwPost) []
  ld : Cal P w K mg base 10 "learned" (spP ldArgs (ldPre P1 P2) ldPost) []
  ln : Cal P w K mg base 10 "learn" (spP lnArgs (lnPre C P1 P2) lnPost) []
  ap : Cal P w K mg base 6 "alike_paper" (spP mfArgs (apPre P1 P2) apPost) []
  ms : Mak P w K mg base 5 "Shelf" C (spP siArgs (siPre C P1) siPost) []
  pt : PathC P w K mg base C
theorem ok_two {hs : List Habit} {lot : List Nat} {n i j : Nat} (W : Whole hs lot n) (hi : i < hs.length) (hj : j < hs.length) : Ok [hb hs i, hb hs j] lot [0, 1] n := by
  refine ⟨fun k hk => ?_, W.lot.2.1, ?_⟩
  · simp only [List.mem_cons, List.not_mem_nil, or_false] at hk
    rcases hk with rfl | rfl
    · exact (W.hb hi).1
    · exact (W.hb hj).1
  · show n ^ 2 ≤ 3200
    have h := W.hi
    have h2 : n ^ 2 ≤ 5 ^ 2 := Nat.pow_le_pow_left h 2
    omega
section
variable {P : Program} {w : World} {K : PySem.W.Frag} {mg : Str → Option Value} {base : Heap} {f C P1 P2 : Addr} {fd : FuncData}
theorem law_turn (g : Gb mg) (L : LawC P w K mg base C P1 P2) {hs : List Habit} {lot : List Nat} {n : Nat} {t : Tree} {wt : Nat} {r sc : Addr} {ns : List Int} {H1 : Hp} (W : Whole hs lot n) (v : VT hs lot (allI hs) t wt) (c : LC K r sc ns P1 P2 H1)
    (cdv : Value) (A : Around) (outer : List Env) (s0 : Shared) (H : Hp) (E : XK) (hr : Room 10 (A.deeper (envOfC "law" (defScope s_law) s0.heap.objs.size f cdv))) (k : Nat) (hk : k < hs.length) (most : Nat) (x8 x9 x10 x11 x12 : Option Dt) (H2 : Hp) (s : LS r sc ns H1 H2) :
    SXs (cxOf CX0 P w K mg base N_law "law" (defScope s_law) f cdv A outer s0 H E).nox law_b [some (.ref sc), some (.ref r), some (dN n), some (dHs hs), some (dNs lot), some (dTree t), some (dN most), some (dN k), x8, x9, x10, x11, x12, none, none] H2
      (fun Γ' H' => LS r sc ns H1 H' ∧ ∃ x7 x8 x9 x10 x11 x12, Γ' = [some (.ref sc), some (.ref r), some (dN n), some (dHs hs), some (dNs lot), some (dTree t), some (dN (max most (leaf (hb hs k) t).2)), x7, x8, x9, x10, x11, x12, none, none]) (fun d _ => d = .bl true) := by
  have ho : HabOk n (hb hs k) := (W.hb hk).1
  have hn2 := W.lo
  have hn5 := W.hi
  have hp0 : 0 < n := by omega
  have hl5 := W.len
  have la : (allI hs).length ≤ 5 := by unfold allI; rw [List.length_range]; exact hl5
  have mk : k ∈ allI hs := List.mem_range.mpr hk
  obtain ⟨z1, z2, z3, z4, z5⟩ := leaf_ok v k mk
  have hwt := v.le
  obtain ⟨lf, elf⟩ : ∃ lf, lf = (leaf (hb hs k) t).1 := ⟨_, rfl⟩
  obtain ⟨mn, emn⟩ : ∃ mn, mn = (leaf (hb hs k) t).2 := ⟨_, rfl⟩
  rw [← elf] at z1 z2 z3 z4
  rw [← emn] at z5 ⊢
  refine sxs_cons (sx_unpackM (i := 8) (j := 9) (mx_ex (ex_callG L.ld (d := .tup [dNs lf, dN mn]) ⟨hs, lot, n, t, wt, k⟩ (ax_cons (ex_var 3) (ax_cons (ex_var 4) (ax_cons (ex_var 5) (ax_cons (ex_var 7) ax_nil)))) (fun H3 g3 => ⟨W, v, g3.tab (c.t1 s), g3.tab (c.t2 s), hk⟩) (fun _ _ _ p => by rw [elf, emn]; exact p) hr) fun H3 g3 => ⟨_, _, rfl, ?_⟩) rfl sc_law.nd)
  have s3 := s.ge g3
  show SXs _ _ [some (.ref sc), some (.ref r), some (dN n), some (dHs hs), some (dNs lot), some (dTree t), some (dN most), some (dN k), some (dNs lf), some (dN mn), x10, x11, x12, none, none] H3 _ _
  refine sxs_cons (sx_asgM (i := 10) (mx_makeA L.ms hr (by omega) (am_cons (mx_ex (ex_ixHs (ex_var 3) (ex_var 7) hk) fun H4 g4 => am_cons (mx_call L.ly ⟨r, sc, ns, n⟩ (ax_cons (ex_var 1) (ax_cons (ex_var 2) ax_nil)) (fun H5 g5 => ⟨c.row (s3.ge (g4.trans g5)) n, hn5⟩) (fun _ _ _ p => p.2.1) (fun H5 d H6 g5 p6 => am_ax ax_nil fun H7 g7 => ⟨g7.t, ?_⟩) hr)))) sc_law.nd)
  obtain ⟨gx6, lt6, ro6, st, pst, z6⟩ := p6
  refine ⟨g5.t.trans (lt6.trans g7.t), fun b dx nb nd ne => ?_⟩
  have gx6 : GeX [r] H5 H6 := gx6
  have s7 : LS r sc ns H1 H7 := ((s3.ge (g4.trans g5)).row gx6 lt6 ro6.2).ge g7
  have lst : st.length = n := by rw [pst.length_eq]; exact List.length_range
  have slt : ∀ x, x ∈ st → x < n := fun x hx => List.mem_range.mp (pst.mem_iff.mp hx)
  have snd : st.Nodup := pst.nodup_iff.mpr List.nodup_range
  have g8 : Ge H7 (upd (upd H7 dx (.own b)) b (.ins C dx [])) := (Ge.new nd).trans (Ge.new (by rw [upd_ne ne.symm]; exact nb))
  refine ⟨⟨b, C, dx, hb hs k, d, st⟩, rfl, ⟨rfl, upd_same, ⟨n, ho, hn2, hn5, lst, slt⟩, (z6.ge g7).ge g8, snd, g8.tab (c.t1 s7)⟩, fun d9 H9 p9 => ?_⟩
  generalize upd (upd H7 dx (.own b)) b (.ins C dx []) = H8 at g8 p9
  obtain ⟨rfl, gx9, lt9, lb, lt, nlb, nlt, sa9⟩ := p9
  refine ⟨rfl, g8.t.trans lt9, ?_⟩
  have gx9 : GeX [b] H8 H9 := gx9
  have fb := s7.free nb
  have flb := s7.free (g8.free nlb)
  have flt := s7.free (g8.free nlt)
  have s9 : LS r sc ns H1 H9 := (s7.ge g8).new gx9 lt9 (fun a m => by rw [List.mem_singleton.mp m]; exact fb)
  have sa9 : ShAt H9 ⟨b, C, dx, lb, lt⟩ (hb hs k) ⟨st, List.replicate (hb hs k).length 0, []⟩ := sa9
  have so : ShOk n ⟨st, List.replicate (hb hs k).length 0, []⟩ ((0 : Nat) : Int) := ⟨lst, snd, slt, by show (List.replicate _ _).length = n; rw [List.length_replicate, ho.len], fun x hx => by
    have hx : x ∈ List.replicate (hb hs k).length (0 : Int) := hx
    rw [(List.mem_replicate.mp hx).2]
    exact Int.le_refl _⟩
  obtain ⟨q1, q2, q3⟩ := lrn_ok v ho W.lot.2.1 _ 0 so
  obtain ⟨s', es'⟩ : ∃ s', s' = (lrn (hb hs k) t ⟨st, List.replicate (hb hs k).length 0, []⟩ 0).2 := ⟨_, rfl⟩
  rw [← es'] at q2 q3
  rw [← elf] at q1
  rw [← emn] at q2
  have q2 : s'.pa.length = mn := by rw [q2]; show 0 + mn = mn; omega
  have q3 : ∀ x, x ∈ s'.pa → x ∈ lot := fun x hx => by
    rcases q3 x hx with z | z
    · exact absurd z (by simp)
    · exact z
  show SXs _ _ [some (.ref sc), some (.ref r), some (dN n), some (dHs hs), some (dNs lot), some (dTree t), some (dN most), some (dN k), some (dNs lf), some (dN mn), some (.ref b), x11, x12, none, none] H9 _ _
  refine sxs_cons (sx_ifM (mt_or1 (mt_not (mt_mx (mx_callA L.al (am_cons (mx_call L.ln ⟨hs, lot, n, t, wt, k, ⟨b, C, dx, lb, lt⟩, ⟨st, List.replicate (hb hs k).length 0, []⟩⟩ (ax_cons (ex_var 3) (ax_cons (ex_var 4) (ax_cons (ex_var 5) (ax_cons (ex_var 10) ax_nil)))) (fun H10 g10 => ⟨W, v, g10.tab (c.t1 s9), g10.tab (c.t2 s9), hk, rfl, sa9.ge g10, so, Nat.zero_le _⟩) (fun _ _ _ p => p.2.1) (fun H10 d H11 g10 p11 => am_ax (ax_cons (ex_var 8) ax_nil) fun H12 g12 => ⟨g12.t, ?_⟩) hr)) hr)))))
  obtain ⟨gx11, lt11, sa11, ed⟩ := p11
  have ed : d = dNs lf := by rw [← q1]; exact ed
  subst ed
  refine ⟨⟨lf⟩, rfl, by show lf.length ≤ 4000; omega, fun d' H13 p13 => ?_⟩
  obtain ⟨g13, rfl⟩ := p13
  refine ⟨g13.t, true, rfl, ?_⟩
  rw [if_neg (by decide)]
  refine ⟨false, wx_one_or (tx_cast (tx_cmp (ex_var 7) (ex_var 8) co_notinN) ?_), fun H14 g14 => ?_⟩
  · rw [List.contains_iff_mem.mpr z1]; rfl
  rw [if_neg (by decide)]
  refine sxs_nil ?_
  have gx11 : GeX [b, lb, lt] H10 H11 := gx11
  have s14 : LS r sc ns H1 H14 := ((s9.ge g10).new gx11 lt11 (fun a m => by
    simp only [List.mem_cons, List.not_mem_nil, or_false] at m
    rcases m with rfl | rfl | rfl
    · exact fb
    · exact flb
    · exact flt)).ge ((g12.trans g13).trans g14)
  have sa14 : ShAt H14 ⟨b, C, dx, lb, lt⟩ (hb hs k) s' := by rw [es']; exact ShAt.ge sa11 ((g12.trans g13).trans g14)
  refine sxs_cons (sx_if (k := false) (tx_cast (tx_cmp (ex_len g.len (ex_path L.pt hr (by omega) rfl sa14 (ex_var 10))) (ex_var 9) co_ne) ?_) (fun z => by cases z) fun _ H15 g15 => sxs_nil ?_)
  · show (!decide (((s'.pa.map dN).length : Int) = (mn : Int))) = false
    rw [List.length_map, q2]
    simp
  have s15 := s14.ge g15
  have sa15 := sa14.ge g15
  refine sxs_cons (sx_forR (i := 11) (n := hs.length) (ex_cast (ex_len g.len (ex_var 3)) (by rw [List.length_map])) (by omega) (fun H16 g16 => ⟨fun _ Γ' H' => Ge H16 H' ∧ ∃ x11 x12, Γ' = [some (.ref sc), some (.ref r), some (dN n), some (dHs hs), some (dNs lot), some (dTree t), some (dN most), some (dN k), some (dNs lf), some (dN mn), some (.ref b), x11, x12, none, none],
    ⟨Ge.refl _, _, _, rfl⟩, ?_, ?_⟩) g.range PassesOwn.never rfl sc_law.nd)
  · rintro j Γ' Ha hj ⟨ga, y11, y12, rfl⟩
    have mj : j ∈ allI hs := List.mem_range.mpr hj
    have ok2 := ok_two W hk hj
    obtain ⟨lo1, lo2⟩ := law_other v W.ok hp0 mk mj ok2
    rw [← elf] at lo1 lo2
    have sa := s15.ge (g16.trans ga)
    show SXs _ _ [some (.ref sc), some (.ref r), some (dN n), some (dHs hs), some (dNs lot), some (dTree t), some (dN most), some (dN k), some (dNs lf), some (dN mn), some (.ref b), some (dN j), y12, none, none] Ha _ _
    refine sxs_cons (sx_asgM (i := 12) (mx_notN (mx_call L.ap ⟨hb hs k, hb hs j, lot, n⟩ (ax_cons (ex_ixHs (ex_var 3) (ex_var 7) hk) (ax_cons (ex_ixHs (ex_var 3) (ex_var 11) hj) (ax_cons (ex_var 4) ax_nil))) (fun Hb gb => ⟨ok2, W.lot, hn2, hn5, gb.tab (c.t1 sa), gb.tab (c.t2 sa)⟩) (fun _ _ _ p => p.1.t) (fun Hb d Hc gb p => ?_) hr)) sc_law.nd)
    obtain ⟨gc, en⟩ := p
    have en : isN d = !alikeB (hb hs k) (hb hs j) lot := en
    rw [en, Bool.not_not]
    generalize alikeB (hb hs k) (hb hs j) lot = al at lo1 lo2 en
    show SXs _ _ [some (.ref sc), some (.ref r), some (dN n), some (dHs hs), some (dNs lot), some (dTree t), some (dN most), some (dN k), some (dNs lf), some (dN mn), some (.ref b), some (dN j), some (.bl al), none, none] Hc _ _
    have sc' := sa.ge (gb.trans gc)
    refine sxs_one (sx_if (k := false) (tx_cast (tx_wx (wx_or (tx_wx (wx_and (tx_cmp (ex_var 11) (ex_var 8) co_inN) fun _ => wx_one_and (tx_not (tx_ex (ex_var 12))))) fun _ => wx_one_or (tx_wx (wx_and (tx_ex (ex_var 12)) fun _ => wx_one_and (tx_cmp (at0 (ex_callG L.ld (d := .tup [dNs (leaf (hb hs j) t).1, dN (leaf (hb hs j) t).2]) ⟨hs, lot, n, t, wt, j⟩ (ax_cons (ex_var 3) (ax_cons (ex_var 4) (ax_cons (ex_var 5) (ax_cons (ex_var 11) ax_nil)))) (fun Hd gd => ⟨W, v, gd.tab (c.t1 sc'), gd.tab (c.t2 sc'), hj⟩) (fun _ _ _ p => p) hr)) (ex_var 8) (co_neNs hr)))))) ?_) (fun z => by cases z) fun _ Hd gd => sxs_nil ⟨ga.trans (gb.trans (gc.trans gd)), _, _, rfl⟩)
    cases al with
    | true => rw [lo2 rfl]; simp
    | false =>
      have : lf.contains j = false := by
        cases q : lf.contains j with
        | false => rfl
        | true => exact absurd (lo1 (List.contains_iff_mem.mp q)) (by decide)
      rw [this]
      rfl
  · rintro Γ' Ha ⟨ga, y11, y12, rfl⟩
    have s16 := s15.ge (g16.trans ga)
    have sa16 := sa15.ge (g16.trans ga)
    refine sxs_cons (sx_if (k := false) (tx_cast (tx_neL hr (LX.ld (lx_lc (own := [("_law_place", 14)]) (f := fun _ => none) (src_tup (i := 14) (ex_path L.pt hr (by omega) rfl sa16 (ex_var 10))) (fun _ _ g => g.t) ?_
      (blkOk_by (by show blkC N_law (defScope s_law) _ _ = true; decide +kernel)) (by decide) (fun _ _ _ _ _ => pgn sc_law.nd) ?_ (fun _ _ _ _ _ _ _ _ _ hd _ => nomatch hd) rfl sc_law.nd)) (by rw [keepD_none (α := Nat) _ _ fun _ _ => rfl]; exact PurA.nil)) (by rw [keepD_none (α := Nat) _ _ fun _ _ => rfl]; rfl)) (fun z => by cases z) fun _ H17 g17 => sxs_nil ?_)
    · rw [List.length_map, q2]
      refine Nat.le_trans (show mn ≤ 20000 by omega) (by decide)
    · intro s'' H0 C' cl fp k' H9 hk' g9
      rw [List.length_map] at hk'
      have e1 : (s'.pa.map dN)[k']? = some (dN s'.pa[k']) := by rw [List.getElem?_map, List.getElem?_eq_getElem hk']; rfl
      simp only [e1]
      refine txs_one (tx_cast (tx_cmp (ex_var 14) (ex_var 4) co_notinN) ?_)
      rw [List.contains_iff_mem.mpr (q3 _ (List.getElem_mem hk'))]
      rfl
    · refine sxs_one (sx_asg (i := 6) (d := dN (max most mn)) (ex_cast (ex_max rfl g.max rfl (ex_var 6) (ex_var 9)) ?_) (fun H18 g18 => ⟨s16.ge (g17.trans g18), _, _, _, _, _, _, rfl⟩) sc_law.nd)
      show Dt.int _ = Dt.int _
      congr 1
      omega
end
end Lk
set_option Elab.async false
set_option linter.all false
set_option maxRecDepth 100000
set_option maxHeartbeats 4000000
/-! The law's body. -/
namespace Lk
open PySem PySem.Spec PyProof.Rows L2 GxR
open C8 (Cal Met Mak InsC)
structure LaIn where
  sc : Addr
  ns : List Int
def laArgs (y : LaIn) : List Dt := [.ref y.sc]
def laPre (K : PySem.W.Frag) (P1 P2 : Addr) (y : LaIn) (H : Hp) : Prop := SqL K H y.sc (y.ns.map V.int) ∧ TabG H P1 ∧ TabG H P2
def laPost (_ : LaIn) (_ : Hp) (d : Dt) (_ : Hp) : Prop := d = .bl true
theorem pow_le {n m : Nat} (hn : n ≤ 4) (hm : m ≤ 4) (h : 0 < n) : n ^ m ≤ 3200 := by
  have h1 : n ^ m ≤ 4 ^ m := Nat.pow_le_pow_left hn m
  have h2 : 4 ^ m ≤ 4 ^ 4 := Nat.pow_le_pow_right (by omega) hm
  omega
/-- a lot's places in order -/
def UpTo (k : Nat) (l : List Nat) : Prop := l.Pairwise (· < ·) ∧ ∀ x, x ∈ l → x < k
theorem UpTo.nil (k : Nat) : UpTo k [] := ⟨List.Pairwise.nil, fun _ h => absurd h (by simp)⟩
theorem UpTo.skip {k : Nat} {l : List Nat} (u : UpTo k l) : UpTo (k + 1) l := ⟨u.1, fun x h => Nat.lt_succ_of_lt (u.2 x h)⟩
theorem UpTo.snoc {k : Nat} {l : List Nat} (u : UpTo k l) : UpTo (k + 1) (l ++ [k]) := by
  refine ⟨List.pairwise_append.mpr ⟨u.1, List.pairwise_singleton _ _, fun a ha b hb => ?_⟩, fun x h => ?_⟩
  · rw [List.mem_singleton.mp hb]
    exact u.2 a ha
  · rcases List.mem_append.mp h with h | h
    · exact Nat.lt_succ_of_lt (u.2 x h)
    · rw [List.mem_singleton.mp h]
      exact Nat.lt_succ_self k
theorem UpTo.len {k : Nat} {l : List Nat} (u : UpTo k l) : l.length ≤ k := by
  have h := len_le_of_sub (m := List.range k) (u.1.imp (fun h => Nat.ne_of_lt h)) fun x hx => List.mem_range.mpr (u.2 x hx)
  rw [List.length_range] at h
  exact h
/-- the greatest number of touches so far -/
def Most (hs : List Habit) (t : Tree) (k m : Nat) : Prop := (∀ i, i < k → (leaf (hb hs i) t).2 ≤ m) ∧ (m = 0 ∨ ∃ i, i < k ∧ (leaf (hb hs i) t).2 = m)
theorem Most.zero (hs : List Habit) (t : Tree) : Most hs t 0 0 := ⟨fun _ h => absurd h (Nat.not_lt_zero _), .inl rfl⟩
theorem Most.next {hs : List Habit} {t : Tree} {k m : Nat} (h : Most hs t k m) : Most hs t (k + 1) (max m (leaf (hb hs k) t).2) := by
  refine ⟨fun i hi => ?_, ?_⟩
  · rcases Nat.lt_succ_iff_lt_or_eq.mp hi with hi | rfl
    · have := h.1 i hi
      omega
    · omega
  · by_cases q : m ≤ (leaf (hb hs k) t).2
    · exact .inr ⟨k, Nat.lt_succ_self k, by omega⟩
    · rcases h.2 with e | ⟨i, hi, e⟩
      · omega
      · exact .inr ⟨i, Nat.lt_succ_of_lt hi, by omega⟩
theorem Most.fin {hs : List Habit} {lot : List Nat} {t : Tree} {w m : Nat} (h : Most hs t hs.length m) (v : VT hs lot (allI hs) t w) (ne : hs ≠ []) : m = w := by
  have hall : allI hs ≠ [] := fun e => ne (List.length_eq_zero_iff.mp (by
    have := congrArg List.length e
    unfold allI at this
    rw [List.length_range] at this
    exact this))
  obtain ⟨i, hi, e⟩ := leaf_most v hall
  have h1 := h.1 i (List.mem_range.mp hi)
  rcases h.2 with e2 | ⟨j, hj, e2⟩
  · omega
  · have := (leaf_ok v j (List.mem_range.mpr hj)).2.2.2.2
    omega
section
variable {P : Program} {w : World} {K : PySem.W.Frag} {mg : Str → Option Value} {base : Heap} {f C P1 P2 : Addr} {fd : FuncData}
theorem ok_law (g : Gb mg) (L : LawC P w K mg base C P1 P2) (F : FnP K "law" "law" s_law f fd) : FnOk P w K mg base CX0 11 f fd ["_law_script"] (spP laArgs (laPre K P1 P2) laPost) := by
  refine fn_P F sc_law (fun y => rfl) fun cdv A outer s0 H E y _ hr h => ?_
  obtain ⟨sc, ns⟩ := y
  obtain ⟨hs0, T1, T2⟩ := h
  have hs0 : SqL K H sc (ns.map V.int) := hs0
  show SXs _ _ [some (.ref sc), none, none, none, none, none, none, none, none, none, none, none, none, none, none] H _ _
  refine sxs_cons (sx_asgL (i := 1) (lx_list (ax_cons (ex_var 0) (ax_cons ex_int (ax_cons ex_int (ax_cons ex_int ax_nil))))) (fun r vs H1 g1 nr hr1 t1 => ?_) sc_law.nd)
  have evs : vs = [.ref sc, .int ((0 : Nat) : Int), .int 11005, .int 0] := by
    cases t1 with
    | cons p t1 => cases t1 with
      | cons p2 t1 => cases t1 with
        | cons p3 t1 => cases t1 with
          | cons p4 t1 =>
            cases t1
            rw [p.ref_eq, p2.int_eq, p3.int_eq, p4.int_eq]
            rfl
  subst evs
  have tne : ∀ {Q : Addr}, TabG H Q → Q ≠ r := fun ⟨_, e, _⟩ z => by rw [z, nr] at e; cases e
  have c : LC K r sc ns P1 P2 H1 := by
    refine ⟨?_, g1.tab T1, g1.tab T2, tne T1, tne T2⟩
    rcases hs0 with hd | hw
    · refine .inr ⟨?_, hd.imp (fun h => g1.lst h) fun ⟨o, h⟩ => ⟨o, g1.frz h⟩⟩
      intro e
      have e : sc = r := e
      rcases hd with h | ⟨o, h⟩ <;> rw [e, nr] at h <;> cases h
    · exact .inl (.inr hw)
  have s1 : LS r sc ns H1 H1 := ⟨GeX.refl _ _, LeT.refl _, 0, 11005, 0, hr1⟩
  show SXs _ _ [some (.ref sc), some (.ref r), none, none, none, none, none, none, none, none, none, none, none, none, none] H1 _ _
  refine sxs_cons (sx_asgM (i := 2) (mx_addI ex_int fun H2 g2 => mx_call L.tk ⟨r, sc, ns, 3⟩ (ax_cons (ex_var 1) (ax_cons ex_int ax_nil)) (fun H3 g3 => ⟨c.row (s1.ge (g2.trans g3)) 3, by show 0 < 3; omega, by show 3 ≤ 1000; omega⟩) (fun _ _ _ p => p.2.1) (fun H3 d H4 g3 p4 => ?_) hr) sc_law.nd)
  obtain ⟨gx4, lt4, ro4, m, hm, rfl⟩ := p4
  have hm : m < 3 := hm
  refine ⟨m, rfl, ?_⟩
  have s4 : LS r sc ns H1 H4 := (s1.ge (g2.trans g3)).row gx4 lt4 ro4.2
  obtain ⟨n, hn2, hn4, en⟩ : ∃ n : Nat, 2 ≤ n ∧ n ≤ 4 ∧ (2 : Int) + (m : Int) = (n : Int) := ⟨2 + m, by omega, by omega, by omega⟩
  rw [en]
  show SXs _ _ [some (.ref sc), some (.ref r), some (dN n), none, none, none, none, none, none, none, none, none, none, none, none] H4 _ _
  refine sxs_cons (sx_asgM (i := 3) (mx_tupM (mx_lcR (i := 13) (own := [("_law_k", 13)]) (mx_addI ex_int fun H5 g5 => mx_call L.tk ⟨r, sc, ns, 4⟩ (ax_cons (ex_var 1) (ax_cons ex_int ax_nil)) (fun H6 g6 => ⟨c.row (s4.ge (g5.trans g6)) 4, by show 0 < 4; omega, by show 4 ≤ 1000; omega⟩) (fun _ _ _ p => p.2.1) (fun H6 d H7 g6 p7 => ?_) hr)
    (blkOk_by (by show blkC N_law (defScope s_law) _ _ = true; decide +kernel)) (by decide) (fun _ _ _ _ _ => pgn sc_law.nd) rfl sc_law.nd g.range) g.tuple) sc_law.nd)
  obtain ⟨gx7, lt7, ro7, mh, hmh, rfl⟩ := p7
  have hmh : mh < 4 := hmh
  have s7 : LS r sc ns H1 H7 := (s4.ge (g5.trans g6)).row gx7 lt7 ro7.2
  refine ⟨mh, rfl, 1 + mh, [r], fun k acc H' => LS r sc ns H1 H' ∧ LeT H7 H' ∧ ∃ hs : List Habit, acc = hs.map dH ∧ hs.length = k ∧ ∀ x, x ∈ hs → HabOk n x, ?_, by omega, fun a ha => by rw [List.mem_singleton.mp ha]; exact s7.rn, ?_, ⟨s7, LeT.refl _, [], rfl, rfl, fun _ h => absurd h (by simp)⟩, ?_, ?_, ?_⟩
  · show Dt.int _ = Dt.int _
    congr 1
  · rintro k acc H' D H2' hD ⟨s', lt', hs, e1, e2, e3⟩ gx lt
    have fr := s7.free hD
    exact ⟨s'.new gx lt (fun a m => by rw [List.mem_singleton.mp m]; exact fr), lt'.trans lt, hs, e1, e2, e3⟩
  · rintro k acc H' ⟨s', lt', hs, e1, e2, e3⟩
    exact ⟨lt', by rw [e1, List.length_map, e2]; exact Nat.le_refl _⟩
  · rintro s'' H0 C' cl fp k acc H8 hk ⟨s8, lt8, hs, e1, e2, e3⟩
    refine mts_nil ?_
    refine ⟨GeX.refl _ _, LeT.refl _, (fun z => nomatch z), fun _ s'' H0 C' cl fp => mx_call L.hb ⟨r, sc, ns, n⟩ (ax_cons (ex_var 1) (ax_cons (ex_var 2) ax_nil)) (fun H9 g9 => ⟨c.row (s8.ge g9) n, by show n ≤ 5; omega⟩) (fun _ _ _ p => p.2.1) (fun H9 d H10 g9 p10 => ?_) hr⟩
    obtain ⟨gx10, lt10, ro10, h, hh, rfl⟩ := p10
    refine ⟨(g9.x _).trans gx10, g9.t.trans lt10, (s8.ge g9).row gx10 lt10 ro10.2, lt8.trans (g9.t.trans lt10), hs ++ [h], by rw [e1, List.map_append]; rfl, by rw [List.length_append, e2]; rfl, fun x hx => ?_⟩
    rcases List.mem_append.mp hx with hx | hx
    · exact e3 x hx
    · rw [List.mem_singleton.mp hx]
      exact hh
  rintro acc H8 ⟨s8, lt8, hs, e1, e2, e3⟩ l vs nl hl tv
  subst e1
  refine ⟨l, vs, _, rfl, hl, tv, fun H9 g9 => ?_⟩
  have s9 := s8.ge g9
  have hl4 : hs.length ≤ 4 := by omega
  have hne : hs ≠ [] := fun e => by rw [e] at e2; simp at e2; omega
  clear tv hl nl
  show SXs _ _ [some (.ref sc), some (.ref r), some (dN n), some (dHs hs), none, none, none, none, none, none, none, none, none, none, none] H9 _ _
  refine sxs_cons (sx_asgM (i := 4) (mx_tupM (mx_lcR (i := 14) (own := [("_law_place", 14)]) (mx_ex (ex_var 2) fun H10 g10 => ?_)
    (blkOk_by (by show blkC N_law (defScope s_law) _ _ = true; decide +kernel)) (by decide) (fun _ _ _ _ _ => pgn sc_law.nd) rfl sc_law.nd g.range) g.tuple) sc_law.nd)
  have s10 := s9.ge g10
  refine ⟨n, [r], fun k acc H' => LS r sc ns H1 H' ∧ LeT H10 H' ∧ ∃ l : List Nat, acc = l.map dN ∧ UpTo k l, rfl, by omega, fun a ha => by rw [List.mem_singleton.mp ha]; exact s10.rn, ?_, ⟨s10, LeT.refl _, [], rfl, UpTo.nil 0⟩, ?_, ?_, ?_⟩
  · rintro k acc H' D H2' hD ⟨s', lt', l, e1, e2⟩ gx lt
    have fr := s10.free hD
    exact ⟨s'.new gx lt (fun a m => by rw [List.mem_singleton.mp m]; exact fr), lt'.trans lt, l, e1, e2⟩
  · rintro k acc H' ⟨s', lt', l, e1, e2⟩
    exact ⟨lt', by rw [e1, List.length_map]; exact e2.len⟩
  · rintro s'' H0 C' cl fp k acc H11 hk ⟨s11, lt11, l, e1, e2⟩
    refine mts_one ?_
    refine mt_gtI (j := 0) (mx_call L.tk ⟨r, sc, ns, 4⟩ (ax_cons (ex_var 1) (ax_cons ex_int ax_nil)) (fun H12 g12 => ⟨c.row (s11.ge g12) 4, by show 0 < 4; omega, by show 4 ≤ 1000; omega⟩) (fun _ _ _ p => p.2.1) (fun H12 d H13 g12 p13 => ?_) hr)
    obtain ⟨gx13, lt13, ro13, j, hj, rfl⟩ := p13
    have gx13 : GeX [r] H12 H13 := gx13
    refine ⟨j, rfl, ex_int, fun H14 g14 => ?_⟩
    have s14 : LS r sc ns H1 H14 := ((s11.ge g12).row gx13 lt13 ro13.2).ge g14
    have lt14 : LeT H11 H14 := g12.t.trans (lt13.trans g14.t)
    refine ⟨(g12.x _).trans (gx13.trans (g14.x _)), lt14, fun _ => ⟨s14, lt11.trans lt14, l, e1, e2.skip⟩, fun _ s'' H0 C' cl fp => mx_ex (ex_var 14) fun H15 g15 => ⟨g15.x _, g15.t, s14.ge g15, (lt11.trans lt14).trans g15.t, l ++ [k], by rw [e1, List.map_append]; rfl, e2.snoc⟩⟩
  rintro acc H11 ⟨s11, lt11, lo, e1, u⟩ l vs nl hl tv
  subst e1
  refine ⟨l, vs, _, rfl, hl, tv, fun H12 g12 => ?_⟩
  have s12 := s11.ge g12
  clear tv hl nl
  show SXs _ _ [some (.ref sc), some (.ref r), some (dN n), some (dHs hs), some (dNs lo), none, none, none, none, none, none, none, none, none, none] H12 _ _
  obtain ⟨lot, elot, hlot⟩ : ∃ lot, lot = (if lo = [] then [n - 1] else lo) ∧ LotOk n lot := by
    refine ⟨_, rfl, ?_⟩
    by_cases e : lo = []
    · rw [if_pos e]
      refine ⟨by simp, fun p hp => ?_, List.pairwise_singleton _ _, by show 1 ≤ 100; omega⟩
      rw [List.mem_singleton.mp hp]
      omega
    · rw [if_neg e]
      exact ⟨e, u.2, u.1, by have := u.len; omega⟩
  refine sxs_cons (sx_asg (i := 4) (d := dNs lot) (ex_if (k := !decide (lo = [])) (tx_cmp (ex_var 4) ex_nil (co_neNs hr)) (fun z => ex_cast (ex_var 4) ?_) fun z => ex_cast (ex_tup (ax_cons (ex_sub (ex_var 2) ex_int) ax_nil)) ?_) (fun H13 g13 => ?_) sc_law.nd)
  · have : ¬ lo = [] := by simpa using z
    rw [elot, if_neg this]
  · have : lo = [] := by simpa using z
    rw [elot, if_pos this]
    show Dt.tup [.int _] = Dt.tup [.int _]
    congr 3
    omega
  have s13 := s12.ge g13
  have W : Whole hs lot n := ⟨hne, e3, hn2, by omega, by omega, hlot, pow_le hn4 hl4 (by omega)⟩
  show SXs _ _ [some (.ref sc), some (.ref r), some (dN n), some (dHs hs), some (dNs lot), none, none, none, none, none, none, none, none, none, none] H13 _ _
  refine sxs_cons (sx_parM (i := 5) (j := 6) (mx_call L.lt ⟨hs, lot, n⟩ (ax_cons (ex_var 3) (ax_cons (ex_var 4) ax_nil)) (fun H14 g14 => ⟨W, g14.tab (c.t1 s13), g14.tab (c.t2 s13)⟩) (fun _ _ _ p => p.1.t) (fun H14 d H15 g14 p => mx_ex ex_int fun H16 g16 => ⟨g16.t, ?_⟩) hr) rfl sc_law.nd)
  obtain ⟨g15, t, v, rfl⟩ := p
  have s16 := s13.ge ((g14.trans g15).trans g16)
  show SXs _ _ [some (.ref sc), some (.ref r), some (dN n), some (dHs hs), some (dNs lot), some (dTree t), some (dN 0), none, none, none, none, none, none, none, none] H16 _ _
  refine sxs_cons (sx_forR (i := 7) (n := hs.length) (ex_cast (ex_len g.len (ex_var 3)) (by rw [List.length_map])) (by omega) (fun H17 g17 => ⟨fun k Γ' H' => LS r sc ns H1 H' ∧ ∃ most x7 x8 x9 x10 x11 x12, Most hs t k most ∧ Γ' = [some (.ref sc), some (.ref r), some (dN n), some (dHs hs), some (dNs lot), some (dTree t), some (dN most), x7, x8, x9, x10, x11, x12, none, none],
    ⟨s16.ge g17, 0, _, _, _, _, _, _, Most.zero _ _, rfl⟩, ?_, ?_⟩) g.range PassesOwn.never rfl sc_law.nd)
  · rintro k Γ' Ha hk ⟨sa, most, x7, x8, x9, x10, x11, x12, hmost, rfl⟩
    refine (law_turn g L W v c cdv A outer s0 H E hr k hk most x8 x9 x10 x11 x12 Ha sa).mono ?_ fun d H' e => e
    rintro Γ' Hb ⟨sb, y7, y8, y9, y10, y11, y12, rfl⟩
    exact ⟨sb, _, _, _, _, _, _, _, hmost.next, rfl⟩
  · rintro Γ' Ha ⟨sa, most, x7, x8, x9, x10, x11, x12, hmost, rfl⟩
    have e := hmost.fin v hne
    refine sxs_one (sx_ret (d := .bl true) (ex_cast (ex_cmp (ex_var 6) (ex_callG L.lw (d := dN (bW hs lot (allI hs))) ⟨hs, lot, n⟩ (ax_cons (ex_var 3) (ax_cons (ex_var 4) ax_nil)) (fun Hb gb => ⟨W, gb.tab (c.t1 sa), gb.tab (c.t2 sa)⟩) (fun _ _ _ p => p) hr) co_eq) ?_) fun Hb gb => rfl)
    rw [e]
    show Dt.bl (decide _) = Dt.bl true
    simp
end
end Lk
set_option Elab.async false
set_option linter.all false
set_option maxRecDepth 100000
set_option maxHeartbeats 4000000
/-! The facts by name. -/
namespace Lk
open PySem PySem.Spec PyProof.Rows L2
section
variable {K : PySem.W.Frag} {h : Heap} {mg : Str → Option Value} (X : K.In h) (G : h.Ns mainGlobals mg) (c : He.SaysD fa fn K)
include X G c
theorem f_gb : Gb mg := ⟨He.free_ok X G (c.fact 34 (f := .free "isinstance")), He.free_ok X G (c.fact 35 (f := .free "tuple")), He.free_ok X G (c.fact 36 (f := .free "int")), He.free_ok X G (c.fact 37 (f := .free "bool")), He.free_ok X G (c.fact 38 (f := .free "str")), He.free_ok X G (c.fact 39 (f := .free "list")), He.free_ok X G (c.fact 40 (f := .free "len")), He.free_ok X G (c.fact 41 (f := .free "all")), He.free_ok X G (c.fact 42 (f := .free "set")), He.free_ok X G (c.fact 43 (f := .free "enumerate")), He.free_ok X G (c.fact 44 (f := .free "zip")), He.free_ok X G (c.fact 45 (f := .free "range")), He.free_ok X G (c.fact 46 (f := .free "sorted")), He.free_ok X G (c.fact 47 (f := .free "max")),
  He.int_ok X G (c.fact 48 (f := .int "LEAST_PLACES" 2)), He.int_ok X G (c.fact 49 (f := .int "MOST_PLACES" 5)), He.int_ok X G (c.fact 50 (f := .int "MOST_HABITS" 3)), He.int_ok X G (c.fact 51 (f := .int "MOST_MANY" 5)), He.str_ok X G (c.fact 52 (f := .str "LEFT" "left")), He.str_ok X G (c.fact 53 (f := .str "TEST" "test"))⟩
theorem g_is_number : mg "is_number" = some (.ref (He.ga K "is_number")) := He.glo_ok X G (c.fact 0 (f := .glo "is_number"))
theorem g_is_permutation : mg "is_permutation" = some (.ref (He.ga K "is_permutation")) := He.glo_ok X G (c.fact 1 (f := .glo "is_permutation"))
theorem g_need_habit : mg "need_habit" = some (.ref (He.ga K "need_habit")) := He.glo_ok X G (c.fact 2 (f := .glo "need_habit"))
theorem g_need_layout : mg "need_layout" = some (.ref (He.ga K "need_layout")) := He.glo_ok X G (c.fact 3 (f := .glo "need_layout"))
theorem g_need_shelf : mg "need_shelf" = some (.ref (He.ga K "need_shelf")) := He.glo_ok X G (c.fact 4 (f := .glo "need_shelf"))
theorem g_need_place : mg "need_place" = some (.ref (He.ga K "need_place")) := He.glo_ok X G (c.fact 5 (f := .glo "need_place"))
theorem g_behind_touch : mg "behind_touch" = some (.ref (He.ga K "behind_touch")) := He.glo_ok X G (c.fact 6 (f := .glo "behind_touch"))
theorem g_need_habits : mg "need_habits" = some (.ref (He.ga K "need_habits")) := He.glo_ok X G (c.fact 7 (f := .glo "need_habits"))
theorem g_need_two : mg "need_two" = some (.ref (He.ga K "need_two")) := He.glo_ok X G (c.fact 8 (f := .glo "need_two"))
theorem g_need_lot : mg "need_lot" = some (.ref (He.ga K "need_lot")) := He.glo_ok X G (c.fact 9 (f := .glo "need_lot"))
theorem g_tells : mg "tells" = some (.ref (He.ga K "tells")) := He.glo_ok X G (c.fact 10 (f := .glo "tells"))
theorem g_marks_from : mg "marks_from" = some (.ref (He.ga K "marks_from")) := He.glo_ok X G (c.fact 11 (f := .glo "marks_from"))
theorem g_shortest_test : mg "shortest_test" = some (.ref (He.ga K "shortest_test")) := He.glo_ok X G (c.fact 12 (f := .glo "shortest_test"))
theorem g_alike_paper : mg "alike_paper" = some (.ref (He.ga K "alike_paper")) := He.glo_ok X G (c.fact 13 (f := .glo "alike_paper"))
theorem g_need_many : mg "need_many" = some (.ref (He.ga K "need_many")) := He.glo_ok X G (c.fact 14 (f := .glo "need_many"))
theorem g_marks_of : mg "marks_of" = some (.ref (He.ga K "marks_of")) := He.glo_ok X G (c.fact 15 (f := .glo "marks_of"))
theorem g_partings : mg "partings" = some (.ref (He.ga K "partings")) := He.glo_ok X G (c.fact 16 (f := .glo "partings"))
theorem g_touches_of : mg "touches_of" = some (.ref (He.ga K "touches_of")) := He.glo_ok X G (c.fact 17 (f := .glo "touches_of"))
theorem g_best_tree : mg "best_tree" = some (.ref (He.ga K "best_tree")) := He.glo_ok X G (c.fact 18 (f := .glo "best_tree"))
theorem g_least_worst : mg "least_worst" = some (.ref (He.ga K "least_worst")) := He.glo_ok X G (c.fact 19 (f := .glo "least_worst"))
theorem g_least_tree : mg "least_tree" = some (.ref (He.ga K "least_tree")) := He.glo_ok X G (c.fact 20 (f := .glo "least_tree"))
theorem g_is_test_of : mg "is_test_of" = some (.ref (He.ga K "is_test_of")) := He.glo_ok X G (c.fact 21 (f := .glo "is_test_of"))
theorem g_reads_mark : mg "reads_mark" = some (.ref (He.ga K "reads_mark")) := He.glo_ok X G (c.fact 22 (f := .glo "reads_mark"))
theorem g_worst_of : mg "worst_of" = some (.ref (He.ga K "worst_of")) := He.glo_ok X G (c.fact 23 (f := .glo "worst_of"))
theorem g_worst : mg "worst" = some (.ref (He.ga K "worst")) := He.glo_ok X G (c.fact 24 (f := .glo "worst"))
theorem g_learned : mg "learned" = some (.ref (He.ga K "learned")) := He.glo_ok X G (c.fact 25 (f := .glo "learned"))
theorem g_learn : mg "learn" = some (.ref (He.ga K "learn")) := He.glo_ok X G (c.fact 26 (f := .glo "learn"))
theorem g_law_taken : mg "_law_taken" = some (.ref (He.ga K "_law_taken")) := He.glo_ok X G (c.fact 27 (f := .glo "_law_taken"))
theorem g_law_habit : mg "_law_habit" = some (.ref (He.ga K "_law_habit")) := He.glo_ok X G (c.fact 28 (f := .glo "_law_habit"))
theorem g_law_layout : mg "_law_layout" = some (.ref (He.ga K "_law_layout")) := He.glo_ok X G (c.fact 29 (f := .glo "_law_layout"))
theorem g_law_alike : mg "_law_alike" = some (.ref (He.ga K "_law_alike")) := He.glo_ok X G (c.fact 30 (f := .glo "_law_alike"))
theorem g_law : mg "law" = some (.ref (He.ga K "law")) := He.glo_ok X G (c.fact 31 (f := .glo "law"))
theorem g_Shelf : mg "Shelf" = some (.ref (He.ga K "Shelf")) := He.glo_ok X G (c.fact 32 (f := .glo "Shelf"))
theorem g_Best : mg "Best" = some (.ref (He.ga K "Best")) := He.glo_ok X G (c.fact 33 (f := .glo "Best"))
end
section
variable {K : PySem.W.Frag} (c : He.SaysD fa fn K)
include c
theorem u_is_number : ∃ fd, FnP K "is_number" "is_number" s_is_number (He.ga K "is_number") fd ∧ Binds K fd ["value", "low", "high"] [] := by
  obtain ⟨fd, F⟩ := c.def_ 0 (d := d_is_number)
  exact ⟨fd, F, FunD.bindsN (ps := ["value", "low", "high"]) F fun _ _ _ _ _ _ us hl => match us, hl with | [_, _, _], _ => rfl⟩
theorem u_is_permutation : ∃ fd, FnP K "is_permutation" "is_permutation" s_is_permutation (He.ga K "is_permutation") fd ∧ Binds K fd ["value", "many"] [] := by
  obtain ⟨fd, F⟩ := c.def_ 1 (d := d_is_permutation)
  exact ⟨fd, F, FunD.bindsN (ps := ["value", "many"]) F fun _ _ _ _ _ _ us hl => match us, hl with | [_, _], _ => rfl⟩
theorem u_need_habit : ∃ fd, FnP K "need_habit" "need_habit" s_need_habit (He.ga K "need_habit") fd ∧ Binds K fd ["value"] [] := by
  obtain ⟨fd, F⟩ := c.def_ 2 (d := d_need_habit)
  exact ⟨fd, F, FunD.bindsN (ps := ["value"]) F fun _ _ _ _ _ _ us hl => match us, hl with | [_], _ => rfl⟩
theorem u_need_layout : ∃ fd, FnP K "need_layout" "need_layout" s_need_layout (He.ga K "need_layout") fd ∧ Binds K fd ["habit", "value"] [] := by
  obtain ⟨fd, F⟩ := c.def_ 3 (d := d_need_layout)
  exact ⟨fd, F, FunD.bindsN (ps := ["habit", "value"]) F fun _ _ _ _ _ _ us hl => match us, hl with | [_, _], _ => rfl⟩
theorem u_need_shelf : ∃ fd, FnP K "need_shelf" "need_shelf" s_need_shelf (He.ga K "need_shelf") fd ∧ Binds K fd ["habit", "layout"] [] := by
  obtain ⟨fd, F⟩ := c.def_ 4 (d := d_need_shelf)
  exact ⟨fd, F, FunD.bindsN (ps := ["habit", "layout"]) F fun _ _ _ _ _ _ us hl => match us, hl with | [_, _], _ => rfl⟩
theorem u_need_place : ∃ fd, FnP K "need_place" "need_place" s_need_place (He.ga K "need_place") fd ∧ Binds K fd ["habit", "value"] [] := by
  obtain ⟨fd, F⟩ := c.def_ 5 (d := d_need_place)
  exact ⟨fd, F, FunD.bindsN (ps := ["habit", "value"]) F fun _ _ _ _ _ _ us hl => match us, hl with | [_, _], _ => rfl⟩
theorem u_behind_touch : ∃ fd, FnP K "behind_touch" "behind_touch" s_behind_touch (He.ga K "behind_touch") fd ∧ Binds K fd ["habit", "layout", "place"] [] := by
  obtain ⟨fd, F⟩ := c.def_ 6 (d := d_behind_touch)
  exact ⟨fd, F, FunD.bindsN (ps := ["habit", "layout", "place"]) F fun _ _ _ _ _ _ us hl => match us, hl with | [_, _, _], _ => rfl⟩
theorem u_need_habits : ∃ fd, FnP K "need_habits" "need_habits" s_need_habits (He.ga K "need_habits") fd ∧ Binds K fd ["value"] [] := by
  obtain ⟨fd, F⟩ := c.def_ 7 (d := d_need_habits)
  exact ⟨fd, F, FunD.bindsN (ps := ["value"]) F fun _ _ _ _ _ _ us hl => match us, hl with | [_], _ => rfl⟩
theorem u_need_two : ∃ fd, FnP K "need_two" "need_two" s_need_two (He.ga K "need_two") fd ∧ Binds K fd ["habit", "other"] [] := by
  obtain ⟨fd, F⟩ := c.def_ 8 (d := d_need_two)
  exact ⟨fd, F, FunD.bindsN (ps := ["habit", "other"]) F fun _ _ _ _ _ _ us hl => match us, hl with | [_, _], _ => rfl⟩
theorem u_need_lot : ∃ fd, FnP K "need_lot" "need_lot" s_need_lot (He.ga K "need_lot") fd ∧ Binds K fd ["habit", "value"] [] := by
  obtain ⟨fd, F⟩ := c.def_ 9 (d := d_need_lot)
  exact ⟨fd, F, FunD.bindsN (ps := ["habit", "value"]) F fun _ _ _ _ _ _ us hl => match us, hl with | [_, _], _ => rfl⟩
theorem u_tells : ∃ fd, FnP K "tells" "tells" s_tells (He.ga K "tells") fd ∧ Binds K fd ["pair", "lot"] [] := by
  obtain ⟨fd, F⟩ := c.def_ 10 (d := d_tells)
  exact ⟨fd, F, FunD.bindsN (ps := ["pair", "lot"]) F fun _ _ _ _ _ _ us hl => match us, hl with | [_, _], _ => rfl⟩
theorem u_marks_from : ∃ fd, FnP K "marks_from" "marks_from" s_marks_from (He.ga K "marks_from") fd ∧ Binds K fd ["habit", "other", "lot"] [] := by
  obtain ⟨fd, F⟩ := c.def_ 11 (d := d_marks_from)
  exact ⟨fd, F, FunD.bindsN (ps := ["habit", "other", "lot"]) F fun _ _ _ _ _ _ us hl => match us, hl with | [_, _, _], _ => rfl⟩
theorem u_shortest_test : ∃ fd, FnP K "shortest_test" "shortest_test" s_shortest_test (He.ga K "shortest_test") fd ∧ Binds K fd ["habit", "other", "lot"] [] := by
  obtain ⟨fd, F⟩ := c.def_ 12 (d := d_shortest_test)
  exact ⟨fd, F, FunD.bindsN (ps := ["habit", "other", "lot"]) F fun _ _ _ _ _ _ us hl => match us, hl with | [_, _, _], _ => rfl⟩
theorem u_alike_paper : ∃ fd, FnP K "alike_paper" "alike_paper" s_alike_paper (He.ga K "alike_paper") fd ∧ Binds K fd ["habit", "other", "lot"] [] := by
  obtain ⟨fd, F⟩ := c.def_ 13 (d := d_alike_paper)
  exact ⟨fd, F, FunD.bindsN (ps := ["habit", "other", "lot"]) F fun _ _ _ _ _ _ us hl => match us, hl with | [_, _, _], _ => rfl⟩
theorem u_Shelf_init : ∃ fd, FnP K "__init__" "Shelf.__init__" s_Shelf_init (He.ma K (He.ga K "Shelf") "__init__") fd ∧ Binds K fd ["self", "habit", "layout"] [] := by
  obtain ⟨fd, F⟩ := c.def_ 14 (d := d_Shelf_init)
  exact ⟨fd, F, FunD.bindsN (ps := ["self", "habit", "layout"]) F fun _ _ _ _ _ _ us hl => match us, hl with | [_, _, _], _ => rfl⟩
theorem u_Shelf_name_at : ∃ fd, FnP K "_name_at" "Shelf._name_at" s_Shelf_name_at (He.ma K (He.ga K "Shelf") "_name_at") fd ∧ Binds K fd ["self", "place"] [] := by
  obtain ⟨fd, F⟩ := c.def_ 15 (d := d_Shelf_name_at)
  exact ⟨fd, F, FunD.bindsN (ps := ["self", "place"]) F fun _ _ _ _ _ _ us hl => match us, hl with | [_, _], _ => rfl⟩
theorem u_Shelf_move : ∃ fd, FnP K "_move" "Shelf._move" s_Shelf_move (He.ma K (He.ga K "Shelf") "_move") fd ∧ Binds K fd ["self", "place"] [] := by
  obtain ⟨fd, F⟩ := c.def_ 16 (d := d_Shelf_move)
  exact ⟨fd, F, FunD.bindsN (ps := ["self", "place"]) F fun _ _ _ _ _ _ us hl => match us, hl with | [_, _], _ => rfl⟩
theorem u_Shelf_read : ∃ fd, FnP K "read" "Shelf.read" s_Shelf_read (He.ma K (He.ga K "Shelf") "read") fd ∧ Binds K fd ["self", "place"] [] := by
  obtain ⟨fd, F⟩ := c.def_ 17 (d := d_Shelf_read)
  exact ⟨fd, F, FunD.bindsN (ps := ["self", "place"]) F fun _ _ _ _ _ _ us hl => match us, hl with | [_, _], _ => rfl⟩
theorem u_Shelf_write : ∃ fd, FnP K "write" "Shelf.write" s_Shelf_write (He.ma K (He.ga K "Shelf") "write") fd ∧ Binds K fd ["self", "place", "value"] [] := by
  obtain ⟨fd, F⟩ := c.def_ 18 (d := d_Shelf_write)
  exact ⟨fd, F, FunD.bindsN (ps := ["self", "place", "value"]) F fun _ _ _ _ _ _ us hl => match us, hl with | [_, _, _], _ => rfl⟩
theorem u_Shelf_touch : ∃ fd, FnP K "touch" "Shelf.touch" s_Shelf_touch (He.ma K (He.ga K "Shelf") "touch") fd ∧ Binds K fd ["self", "place"] [] := by
  obtain ⟨fd, F⟩ := c.def_ 19 (d := d_Shelf_touch)
  exact ⟨fd, F, FunD.bindsN (ps := ["self", "place"]) F fun _ _ _ _ _ _ us hl => match us, hl with | [_, _], _ => rfl⟩
theorem u_need_many : ∃ fd, FnP K "need_many" "need_many" s_need_many (He.ga K "need_many") fd ∧ Binds K fd ["value"] [] := by
  obtain ⟨fd, F⟩ := c.def_ 20 (d := d_need_many)
  exact ⟨fd, F, FunD.bindsN (ps := ["value"]) F fun _ _ _ _ _ _ us hl => match us, hl with | [_], _ => rfl⟩
theorem u_marks_of : ∃ fd, FnP K "marks_of" "marks_of" s_marks_of (He.ga K "marks_of") fd ∧ Binds K fd ["habits", "lot", "group"] [] := by
  obtain ⟨fd, F⟩ := c.def_ 21 (d := d_marks_of)
  exact ⟨fd, F, FunD.bindsN (ps := ["habits", "lot", "group"]) F fun _ _ _ _ _ _ us hl => match us, hl with | [_, _, _], _ => rfl⟩
theorem u_partings : ∃ fd, FnP K "partings" "partings" s_partings (He.ga K "partings") fd ∧ Binds K fd ["habits", "lot", "group"] [] := by
  obtain ⟨fd, F⟩ := c.def_ 22 (d := d_partings)
  exact ⟨fd, F, FunD.bindsN (ps := ["habits", "lot", "group"]) F fun _ _ _ _ _ _ us hl => match us, hl with | [_, _, _], _ => rfl⟩
theorem u_touches_of : ∃ fd, FnP K "touches_of" "touches_of" s_touches_of (He.ga K "touches_of") fd ∧ Binds K fd ["test"] [] := by
  obtain ⟨fd, F⟩ := c.def_ 23 (d := d_touches_of)
  exact ⟨fd, F, FunD.bindsN (ps := ["test"]) F fun _ _ _ _ _ _ us hl => match us, hl with | [_], _ => rfl⟩
theorem u_Best_init : ∃ fd, FnP K "__init__" "Best.__init__" s_Best_init (He.ma K (He.ga K "Best") "__init__") fd ∧ Binds K fd ["self", "habits", "lot"] [] := by
  obtain ⟨fd, F⟩ := c.def_ 24 (d := d_Best_init)
  exact ⟨fd, F, FunD.bindsN (ps := ["self", "habits", "lot"]) F fun _ _ _ _ _ _ us hl => match us, hl with | [_, _, _], _ => rfl⟩
theorem u_Best_tree : ∃ fd, FnP K "tree" "Best.tree" s_Best_tree (He.ma K (He.ga K "Best") "tree") fd ∧ Binds K fd ["self", "group"] [] := by
  obtain ⟨fd, F⟩ := c.def_ 25 (d := d_Best_tree)
  exact ⟨fd, F, FunD.bindsN (ps := ["self", "group"]) F fun _ _ _ _ _ _ us hl => match us, hl with | [_, _], _ => rfl⟩
theorem u_best_tree : ∃ fd, FnP K "best_tree" "best_tree" s_best_tree (He.ga K "best_tree") fd ∧ Binds K fd ["habits", "lot"] [] := by
  obtain ⟨fd, F⟩ := c.def_ 26 (d := d_best_tree)
  exact ⟨fd, F, FunD.bindsN (ps := ["habits", "lot"]) F fun _ _ _ _ _ _ us hl => match us, hl with | [_, _], _ => rfl⟩
theorem u_least_worst : ∃ fd, FnP K "least_worst" "least_worst" s_least_worst (He.ga K "least_worst") fd ∧ Binds K fd ["habits", "lot"] [] := by
  obtain ⟨fd, F⟩ := c.def_ 27 (d := d_least_worst)
  exact ⟨fd, F, FunD.bindsN (ps := ["habits", "lot"]) F fun _ _ _ _ _ _ us hl => match us, hl with | [_, _], _ => rfl⟩
theorem u_least_tree : ∃ fd, FnP K "least_tree" "least_tree" s_least_tree (He.ga K "least_tree") fd ∧ Binds K fd ["habits", "lot"] [] := by
  obtain ⟨fd, F⟩ := c.def_ 28 (d := d_least_tree)
  exact ⟨fd, F, FunD.bindsN (ps := ["habits", "lot"]) F fun _ _ _ _ _ _ us hl => match us, hl with | [_, _], _ => rfl⟩
theorem u_is_test_of : ∃ fd, FnP K "is_test_of" "is_test_of" s_is_test_of (He.ga K "is_test_of") fd ∧ Binds K fd ["habits", "lot", "value"] [] := by
  obtain ⟨fd, F⟩ := c.def_ 29 (d := d_is_test_of)
  exact ⟨fd, F, FunD.bindsN (ps := ["habits", "lot", "value"]) F fun _ _ _ _ _ _ us hl => match us, hl with | [_, _, _], _ => rfl⟩
theorem u_reads_mark : ∃ fd, FnP K "reads_mark" "reads_mark" s_reads_mark (He.ga K "reads_mark") fd ∧ Binds K fd ["habit", "test"] [] := by
  obtain ⟨fd, F⟩ := c.def_ 30 (d := d_reads_mark)
  exact ⟨fd, F, FunD.bindsN (ps := ["habit", "test"]) F fun _ _ _ _ _ _ us hl => match us, hl with | [_, _], _ => rfl⟩
theorem u_worst_of : ∃ fd, FnP K "worst_of" "worst_of" s_worst_of (He.ga K "worst_of") fd ∧ Binds K fd ["habits", "lot", "group", "value"] [] := by
  obtain ⟨fd, F⟩ := c.def_ 31 (d := d_worst_of)
  exact ⟨fd, F, FunD.bindsN (ps := ["habits", "lot", "group", "value"]) F fun _ _ _ _ _ _ us hl => match us, hl with | [_, _, _, _], _ => rfl⟩
theorem u_worst : ∃ fd, FnP K "worst" "worst" s_worst (He.ga K "worst") fd ∧ Binds K fd ["habits", "lot", "tree"] [] := by
  obtain ⟨fd, F⟩ := c.def_ 32 (d := d_worst)
  exact ⟨fd, F, FunD.bindsN (ps := ["habits", "lot", "tree"]) F fun _ _ _ _ _ _ us hl => match us, hl with | [_, _, _], _ => rfl⟩
theorem u_learned : ∃ fd, FnP K "learned" "learned" s_learned (He.ga K "learned") fd ∧ Binds K fd ["habits", "lot", "tree", "index"] [] := by
  obtain ⟨fd, F⟩ := c.def_ 33 (d := d_learned)
  exact ⟨fd, F, FunD.bindsN (ps := ["habits", "lot", "tree", "index"]) F fun _ _ _ _ _ _ us hl => match us, hl with | [_, _, _, _], _ => rfl⟩
theorem u_learn : ∃ fd, FnP K "learn" "learn" s_learn (He.ga K "learn") fd ∧ Binds K fd ["habits", "lot", "tree", "shelf"] [] := by
  obtain ⟨fd, F⟩ := c.def_ 34 (d := d_learn)
  exact ⟨fd, F, FunD.bindsN (ps := ["habits", "lot", "tree", "shelf"]) F fun _ _ _ _ _ _ us hl => match us, hl with | [_, _, _, _], _ => rfl⟩
theorem u_law_taken : ∃ fd, FnP K "_law_taken" "_law_taken" s_law_taken (He.ga K "_law_taken") fd ∧ Binds K fd ["_law_row", "_law_many"] [] := by
  obtain ⟨fd, F⟩ := c.def_ 35 (d := d_law_taken)
  exact ⟨fd, F, FunD.bindsN (ps := ["_law_row", "_law_many"]) F fun _ _ _ _ _ _ us hl => match us, hl with | [_, _], _ => rfl⟩
theorem u_law_habit : ∃ fd, FnP K "_law_habit" "_law_habit" s_law_habit (He.ga K "_law_habit") fd ∧ Binds K fd ["_law_row", "_law_places"] [] := by
  obtain ⟨fd, F⟩ := c.def_ 36 (d := d_law_habit)
  exact ⟨fd, F, FunD.bindsN (ps := ["_law_row", "_law_places"]) F fun _ _ _ _ _ _ us hl => match us, hl with | [_, _], _ => rfl⟩
theorem u_law_layout : ∃ fd, FnP K "_law_layout" "_law_layout" s_law_layout (He.ga K "_law_layout") fd ∧ Binds K fd ["_law_row", "_law_places"] [] := by
  obtain ⟨fd, F⟩ := c.def_ 37 (d := d_law_layout)
  exact ⟨fd, F, FunD.bindsN (ps := ["_law_row", "_law_places"]) F fun _ _ _ _ _ _ us hl => match us, hl with | [_, _], _ => rfl⟩
theorem u_law_alike : ∃ fd, FnP K "_law_alike" "_law_alike" s_law_alike (He.ga K "_law_alike") fd ∧ Binds K fd ["_law_found", "_law_due"] [] := by
  obtain ⟨fd, F⟩ := c.def_ 38 (d := d_law_alike)
  exact ⟨fd, F, FunD.bindsN (ps := ["_law_found", "_law_due"]) F fun _ _ _ _ _ _ us hl => match us, hl with | [_, _], _ => rfl⟩
theorem u_law : ∃ fd, FnP K "law" "law" s_law (He.ga K "law") fd ∧ Binds K fd ["_law_script"] [] := by
  obtain ⟨fd, F⟩ := c.def_ 39 (d := d_law)
  exact ⟨fd, F, FunD.bindsN (ps := ["_law_script"]) F fun _ _ _ _ _ _ us hl => match us, hl with | [_], _ => rfl⟩
theorem k_Shelf : Cls K (He.ga K "Shelf") := He.cls_ok (c.fact 54 (f := .cls "Shelf"))
theorem m_Shelf : Mk K (He.ga K "Shelf") (He.ma K (He.ga K "Shelf") "__init__") := He.mkr_ok (c.fact 56 (f := .mkr "Shelf"))
theorem k_Best : Cls K (He.ga K "Best") := He.cls_ok (c.fact 55 (f := .cls "Best"))
theorem m_Best : Mk K (He.ga K "Best") (He.ma K (He.ga K "Best") "__init__") := He.mkr_ok (c.fact 57 (f := .mkr "Best"))
theorem h_Shelf_name_at : Meth K (He.ga K "Shelf") "_name_at" (He.ma K (He.ga K "Shelf") "_name_at") := He.meth_ok (c.fact 58 (f := .meth "Shelf" "_name_at"))
theorem h_Shelf_move : Meth K (He.ga K "Shelf") "_move" (He.ma K (He.ga K "Shelf") "_move") := He.meth_ok (c.fact 59 (f := .meth "Shelf" "_move"))
theorem h_Shelf_read : Meth K (He.ga K "Shelf") "read" (He.ma K (He.ga K "Shelf") "read") := He.meth_ok (c.fact 60 (f := .meth "Shelf" "read"))
theorem h_Shelf_write : Meth K (He.ga K "Shelf") "write" (He.ma K (He.ga K "Shelf") "write") := He.meth_ok (c.fact 61 (f := .meth "Shelf" "write"))
theorem h_Shelf_touch : Meth K (He.ga K "Shelf") "touch" (He.ma K (He.ga K "Shelf") "touch") := He.meth_ok (c.fact 62 (f := .meth "Shelf" "touch"))
theorem h_Best_tree : Meth K (He.ga K "Best") "tree" (He.ma K (He.ga K "Best") "tree") := He.meth_ok (c.fact 63 (f := .meth "Best" "tree"))
theorem n_Shelf_habit : NoAttr K (He.ga K "Shelf") "_habit" := He.noat_ok (c.fact 64 (f := .noat "Shelf" "_habit"))
theorem n_Shelf_stands : NoAttr K (He.ga K "Shelf") "_stands" := He.noat_ok (c.fact 65 (f := .noat "Shelf" "_stands"))
theorem n_Shelf_books : NoAttr K (He.ga K "Shelf") "_books" := He.noat_ok (c.fact 66 (f := .noat "Shelf" "_books"))
theorem n_Shelf_touches : NoAttr K (He.ga K "Shelf") "_touches" := He.noat_ok (c.fact 67 (f := .noat "Shelf" "_touches"))
theorem n_Best_habits : NoAttr K (He.ga K "Best") "habits" := He.noat_ok (c.fact 68 (f := .noat "Best" "habits"))
theorem n_Best_lot : NoAttr K (He.ga K "Best") "lot" := He.noat_ok (c.fact 69 (f := .noat "Best" "lot"))
theorem n_Best_known : NoAttr K (He.ga K "Best") "known" := He.noat_ok (c.fact 70 (f := .noat "Best" "known"))
end
end Lk
set_option Elab.async false
set_option linter.all false
set_option maxRecDepth 100000
set_option maxHeartbeats 4000000
/-! The end: all defs put together. -/
namespace Lk
open PySem PySem.Spec PyProof.Rows L2 GxR
open C8 (Cal Met Mak InsC)
theorem fnOk_mod {P : Program} {w : World} {K : PySem.W.Frag} {mg : Str → Option Value} {base : Heap} {CX : CXT} {k : Nat} {f : Addr} {fd : FuncData} {ps : List Str} {sp : Sp} (len : ∀ vs H Q E, sp vs H Q E → vs.length = ps.length) (h : Mod K mg base → FnOk P w K mg base CX k f fd ps sp) :
    FnOk P w K mg base CX k f fd ps sp := ⟨len, fun A outer s H args us vs Q E hr e0 => (h e0.mod).run A outer s H args us vs Q E hr e0⟩
abbrev q1 : He.Defn := ("is_permutation", none)
abbrev q2 : He.Defn := ("need_lot", none)
abbrev PI (K : PySem.W.Frag) : Addr := (He.cT K q1).2
abbrev PL (K : PySem.W.Frag) : Addr := (He.cT K q2).2
abbrev CS (K : PySem.W.Frag) : Addr := He.ga K "Shelf"
abbrev CB (K : PySem.W.Frag) : Addr := He.ga K "Best"
theorem code_of {K : PySem.W.Frag} {x q : Str} {ar : Arguments} {b : List Stmt} {sc : Scope} {fd : FuncData} {p : He.Defn} (F : FunD K x q ar b sc [] [] (He.fAd K p) fd) : fd.code = .ref (He.cT K p).1 := by
  obtain ⟨oc, od, dV, kV, doc, pm, an, cdv, ct, osl, rfl, lk, hcd, _, _⟩ := F.ex
  obtain ⟨c, rfl⟩ := He.codeIn_ref hcd
  have e := He.codeOf_eq lk rfl
  show Value.ref c = .ref (He.codeOf K p)
  rw [e]
theorem more_of {K : PySem.W.Frag} (h : exB K = true) : (∃ p g, PropOf K (CS K) "path" p g ∧ g = pathG K) ∧ plainAt K (pathG K) "Shelf.path" = true ∧ (Cls K (CS K) → InsC K (CS K)) := by
  obtain ⟨h1, h⟩ := He.ba h
  obtain ⟨h2, h⟩ := He.ba h
  obtain ⟨h3, h⟩ := He.ba h
  obtain ⟨h4, h⟩ := He.ba h
  obtain ⟨h5, h⟩ := He.ba h
  obtain ⟨h6, h⟩ := He.ba h
  obtain ⟨h7, h⟩ := He.ba h
  obtain ⟨h8, h⟩ := He.ba h
  obtain ⟨h9, h10⟩ := He.ba h
  refine ⟨⟨pathP K, pathG K, ⟨of_decide_eq_true h1, He.eqO_ok h2, of_decide_eq_true h3, ?_⟩, rfl⟩, h5, fun cl => ⟨cl, He.eqO_ok h6, He.eqO_ok h7, of_decide_eq_true h8, of_decide_eq_true h9, of_decide_eq_true h10⟩⟩
  unfold recP at h4
  unfold pathG
  split at h4
  · rename_i g rest e
    rw [e]
    exact ⟨rest, rfl⟩
  · cases h4
section
variable {P : Program} {w : World} {K : PySem.W.Frag} {mg : Str → Option Value} {base h : Heap}
theorem lawC (X : K.In h) (G : h.Ns mainGlobals mg) (d : He.SaysD fa fn K) (hx : exB K = true) (ey : defAt K (pathG K) = pathD) (M : Mod K mg base) (T1 : TabB base mg (He.cT K q1).1 (He.cT K q1).2) (T2 : TabB base mg (He.cT K q2).1 (He.cT K q2).2) : LawC P w K mg base (CS K) (PI K) (PL K) := by
  have g := f_gb X G d
  obtain ⟨⟨pp, pg, hpp, rfl⟩, hpl, hic⟩ := more_of hx
  have kS := k_Shelf d
  have kB := k_Best d
  have ic := hic kS
  obtain ⟨fd1, F1, b1⟩ := u_is_number d
  have hN := g_is_number X G d
  have cN : Cal P w K mg base 1 "is_number" (spF [] R_is_number) [] := cal_of (ok_is_number g F1) hN F1.kp b1
  obtain ⟨fd2, F2, b2⟩ := u_is_permutation d
  have oI : FnOk P w K mg base CX0 2 (He.ga K "is_permutation") fd2 ["value", "many"] (spP ipArgs (ipPre (PI K)) ipPost) := ok_is_permutationZ g M F1 hN T1 F2 (code_of (p := q1) F2)
  have cIz := cal_of oI (g_is_permutation X G d) F2.kp b2
  have cI := cal_of (ok_is_permutation oI) (g_is_permutation X G d) F2.kp b2
  obtain ⟨fd3, F3, b3⟩ := u_need_habit d
  have cNH := cal_of (ok_need_habit g cI F3) (g_need_habit X G d) F3.kp b3
  obtain ⟨fd4, F4, b4⟩ := u_need_layout d
  have cNY := cal_of (ok_need_layout g cIz F4) (g_need_layout X G d) F4.kp b4
  obtain ⟨fd5, F5, b5⟩ := u_need_shelf d
  have cNS := cal_of (ok_need_shelf cNH cNY F5) (g_need_shelf X G d) F5.kp b5
  obtain ⟨fd6, F6, b6⟩ := u_need_place d
  have cNP := cal_of (ok_need_place g cN F6) (g_need_place X G d) F6.kp b6
  obtain ⟨fd7, F7, b7⟩ := u_behind_touch d
  have cBH := cal_of (P := P) (w := w) (base := base) (ok_behind_touchZ g F7) (g_behind_touch X G d) F7.kp b7
  obtain ⟨fd8, F8, b8⟩ := u_need_habits d
  have cHS := cal_of (ok_need_habits g cNH F8) (g_need_habits X G d) F8.kp b8
  obtain ⟨fd9, F9, b9⟩ := u_need_two d
  have cN2 := cal_of (ok_need_two cHS F9) (g_need_two X G d) F9.kp b9
  obtain ⟨fd10, F10, b10⟩ := u_need_lot d
  have cNL : Cal P w K mg base 2 "need_lot" (spF [PL K] R_need_lot) [] := cal_of (ok_need_lot g M F1 hN T2 F10 (code_of (p := q2) F10)) (g_need_lot X G d) F10.kp b10
  obtain ⟨fd11, F11, b11⟩ := u_tells d
  have cTE := cal_of (P := P) (w := w) (base := base) (ok_tells F11) (g_tells X G d) F11.kp b11
  obtain ⟨fd12, F12, b12⟩ := u_marks_from d
  have cMF := cal_of (P := P) (w := w) (base := base) (ok_marks_from g F12) (g_marks_from X G d) F12.kp b12
  obtain ⟨fd13, F13, b13⟩ := u_shortest_test d
  have cST := cal_of (ok_shortest_test g cMF cTE F13) (g_shortest_test X G d) F13.kp b13
  obtain ⟨fd14, F14, b14⟩ := u_alike_paper d
  have cAP := cal_of (ok_alike_paper g cN2 cNL cST cMF F14) (g_alike_paper X G d) F14.kp b14
  obtain ⟨fd15, F15, b15⟩ := u_need_many d
  have cNM := cal_of (ok_need_many g cNH F15) (g_need_many X G d) F15.kp b15
  obtain ⟨fd16, F16, b16⟩ := u_marks_of d
  have cMO := cal_of (P := P) (w := w) (base := base) (ok_marks_of g F16) (g_marks_of X G d) F16.kp b16
  obtain ⟨fd17, F17, b17⟩ := u_partings d
  have cPA := cal_of (ok_partings g cMO F17) (g_partings X G d) F17.kp b17
  obtain ⟨fd18, F18, b18⟩ := u_touches_of d
  have cTO := cal_of (P := P) (w := w) (base := base) (ok_touches_of g F18) (g_touches_of X G d) F18.kp b18
  obtain ⟨fd19, F19, b19⟩ := u_Best_init d
  have mB : Mak P w K mg base 1 "Best" (CB K) (spP biArgs (biPre (CB K)) biPost) [] := ⟨_, fd19, _, [], m_Best d, ok_Best_init kB (n_Best_habits d) (n_Best_lot d) (n_Best_known d) F19, g_Best X G d, b19, .nil⟩
  obtain ⟨fd20, F20, b20⟩ := u_Best_tree d
  have cTR : ∀ n, Met P w K mg base (3 + n) (CB K) "tree" (spP tiArgs (tiPre (CB K) n) tiPost) [] := by
    intro n
    induction n with
    | zero => exact ⟨_, fd20, _, [], kB, h_Best_tree d, ok_tree g kB (n_Best_habits d) (n_Best_lot d) (n_Best_known d) cPA cTO F20 0 (fun n' e => nomatch e), b20, .nil⟩
    | succ n ih =>
      have o := ok_tree g kB (n_Best_habits d) (n_Best_lot d) (n_Best_known d) cPA cTO F20 (n + 1) (fun n' e => by cases e; exact ih)
      rw [show 2 + (n + 1) + 1 = 3 + (n + 1) by omega] at o
      exact ⟨_, fd20, _, [], kB, h_Best_tree d, o, b20, .nil⟩
  obtain ⟨fd21, F21, b21⟩ := u_best_tree d
  have cBT := cal_of (ok_best_tree g mB (cTR 5) F21) (g_best_tree X G d) F21.kp b21
  obtain ⟨fd22, F22, b22⟩ := u_least_worst d
  have cLW := cal_of (ok_least_worst g cNM cNL cBT F22) (g_least_worst X G d) F22.kp b22
  obtain ⟨fd23, F23, b23⟩ := u_least_tree d
  have cLT := cal_of (ok_least_tree g cNM cNL cBT F23) (g_least_tree X G d) F23.kp b23
  obtain ⟨fd24, F24, b24⟩ := u_is_test_of d
  have cIT := cal_of (ok_is_test_of g cN F24) (g_is_test_of X G d) F24.kp b24
  obtain ⟨fd25, F25, b25⟩ := u_reads_mark d
  have cRM := cal_of (P := P) (w := w) (base := base) (ok_reads_mark F25) (g_reads_mark X G d) F25.kp b25
  obtain ⟨fd26, F26, b26⟩ := u_worst_of d
  have cWO : ∀ n, Cal P w K mg base (3 + n) "worst_of" (spP woArgs (woPre n) woPost) [] := by
    intro n
    induction n with
    | zero => exact cal_of (ok_worst_of g cPA cTO cIT cRM F26 0 (fun n' e => nomatch e)) (g_worst_of X G d) F26.kp b26
    | succ n ih =>
      have o := ok_worst_of g cPA cTO cIT cRM F26 (n + 1) (fun n' e => by cases e; exact ih)
      rw [show 2 + (n + 1) + 1 = 3 + (n + 1) by omega] at o
      exact cal_of o (g_worst_of X G d) F26.kp b26
  obtain ⟨fd27, F27, b27⟩ := u_worst d
  have cWT := cal_of (ok_worst g cNM cNL (cWO 5) F27) (g_worst X G d) F27.kp b27
  obtain ⟨fd28, F28, b28⟩ := u_learned d
  have cLD := cal_of (ok_learned g cWT cN cTO cRM F28) (g_learned X G d) F28.kp b28
  have sh : ShC K (CS K) := ⟨kS, n_Shelf_habit d, n_Shelf_stands d, n_Shelf_books d, n_Shelf_touches d⟩
  obtain ⟨fd29, F29, b29⟩ := u_Shelf_name_at d
  have mNA : Met P w K mg base 3 (CS K) "_name_at" (spP smArgs (smPre (CS K)) naPost) [] := ⟨_, fd29, _, [], kS, h_Shelf_name_at d, ok_name_at sh cNP F29, b29, .nil⟩
  obtain ⟨fd30, F30, b30⟩ := u_Shelf_move d
  have mMV : Met P w K mg base 2 (CS K) "_move" (spP smArgs (smPre (CS K)) mvPost) [] := ⟨_, fd30, _, [], kS, h_Shelf_move d, ok_move sh cBH F30, b30, .nil⟩
  obtain ⟨fd31, F31, b31⟩ := u_Shelf_touch d
  have mTO : Met P w K mg base 3 (CS K) "touch" (spP smArgs (smPre (CS K)) mvPost) [] := ⟨_, fd31, _, [], kS, h_Shelf_touch d, ok_touch sh cNP mMV F31, b31, .nil⟩
  obtain ⟨fd32, F32, b32⟩ := u_Shelf_read d
  have mRD : Met P w K mg base 4 (CS K) "read" (spP smArgs (smPre (CS K)) rdPost) [] := ⟨_, fd32, _, [], kS, h_Shelf_read d, ok_read sh mNA mMV F32, b32, .nil⟩
  obtain ⟨fd33, F33, b33⟩ := u_Shelf_write d
  have mWR : Met P w K mg base 4 (CS K) "write" (spP swArgs (smPre (CS K)) wrPost) [] := ⟨_, fd33, _, [], kS, h_Shelf_write d, ok_write g sh mNA mMV F33, b33, .nil⟩
  obtain ⟨fd34, F34, b34⟩ := u_Shelf_init d
  have mS : Mak P w K mg base 5 "Shelf" (CS K) (spP siArgs (siPre (CS K) (PI K)) siPost) [] := ⟨_, fd34, _, [], m_Shelf d, ok_Shelf_init g sh cNS F34, g_Shelf X G d, b34, .nil⟩
  obtain ⟨fd35, F35, b35⟩ := u_learn d
  have cLN := cal_of (ok_learn g ic (g_Shelf X G d) cWT mRD mWR mTO F35) (g_learn X G d) F35.kp b35
  obtain ⟨fd36, F36, b36⟩ := u_law_taken d
  have cTK := cal_of (P := P) (w := w) (base := base) (ok_law_taken g F36) (g_law_taken X G d) F36.kp b36
  obtain ⟨fd37, F37, b37⟩ := u_law_habit d
  have cHB := cal_of (ok_law_habit g cTK F37) (g_law_habit X G d) F37.kp b37
  obtain ⟨fd38, F38, b38⟩ := u_law_layout d
  have cLY := cal_of (ok_law_layout g cTK F38) (g_law_layout X G d) F38.kp b38
  obtain ⟨fd39, F39, b39⟩ := u_law_alike d
  have cAL := cal_of (ok_law_alike1 g (cal_of (ok_law_alike0 (P := P) (w := w) (base := base) g F39) (g_law_alike X G d) F39.kp b39) F39) (g_law_alike X G d) F39.kp b39
  obtain ⟨fd40, F40⟩ := funD_at ey hpl
  have b40 : Binds K fd40 ["self"] [] := FunD.bindsN (ps := ["self"]) F40 fun _ _ _ _ _ _ us hl => match us, hl with | [_], _ => rfl
  exact ⟨cTK, cHB, cLY, cAL, cLT, cLW, cLD, cLN, cAP, mS, ⟨kS, pp, pathG K, fd40, hpp, ok_path g sh F40, b40⟩⟩
theorem law_at {l : PySem.W.OpenLaw} {f : Addr} (X : K.In h) (G : h.Ns mainGlobals mg) (c : He.SaysX fa fn [] tf exB w h K) (ey : defAt K (pathG K) = pathD) (hfa : mg ("law" : Str) = some (.ref f)) : LamX.LawAtS l w K CX0 11 63 "_law_script" mg f h := by
  have d := c.t.d
  obtain ⟨fdL, FL, bL⟩ := u_law d
  have e := hfa.symm.trans (g_law X G d)
  cases e
  refine ⟨fdL, tf.map (He.cT K), spP laArgs (laPre K (PI K) (PL K)) laPost, fun p hp => ?_, fun p hp => ?_, fun p hp => ?_, fun s u => ?_, fun H a ns hl hb hT hS => ?_, fun base Kb Gb TB => ?_⟩
  · obtain ⟨q, hq, rfl⟩ := List.mem_map.mp hp
    exact c.empty q hq
  · obtain ⟨q, hq, rfl⟩ := List.mem_map.mp hp
    exact c.out q hq
  · obtain ⟨q, hq, rfl⟩ := List.mem_map.mp hp
    exact PySem.W.codeHd_of_K X (c.hd q hq)
  · exact FunD.bindsA (ps := ["_law_script"]) FL (fun _ _ _ _ _ _ us hl => match us, hl with | [_], _ => rfl) s [u] rfl
  · have t1 : TabG H (PI K) := ⟨#[], hT _ (List.mem_map.mpr ⟨q1, by simp [tf], rfl⟩), trivial⟩
    have t2 : TabG H (PL K) := ⟨#[], hT _ (List.mem_map.mpr ⟨q2, by simp [tf], rfl⟩), trivial⟩
    refine ⟨⟨a, ns⟩, .cons (.ref a) .nil, ⟨hS, t1, t2⟩, fun d v H2 tv p => ?_⟩
    have p : d = .bl true := p
    subst p
    exact tv.bl_eq
  · refine fnOk_mod (fun vs H Q E ⟨y, t, _⟩ => t.length) fun M => ?_
    have T1 := TB _ (List.mem_map.mpr ⟨q1, by simp [tf], rfl⟩)
    have T2 := TB _ (List.mem_map.mpr ⟨q2, by simp [tf], rfl⟩)
    exact ok_law (f_gb X G d) (lawC X G d c.more ey M ⟨T1.code, T1.bm, T1.gP⟩ ⟨T2.code, T2.bm, T2.gP⟩) FL
end
end Lk
open PySem PySem.W PySem.Calls PyProof.Rows
set_option maxRecDepth 100000 in
set_option maxHeartbeats 0 in
theorem PySem.Challenge.cw_restlesshelf_k65_whole_learning_holds : PySem.Challenge.rw_restlesshelf_k65_whole_learning.Holds := by
  w_on; o_law
  refine HandSHeadRun.head_any (r := Lk.R) (q := view Lk.R.prog [54]) (H := Lk.hk) (ob := Lk.ob) (M := 4000) (loose := Lk.loose) (d := HandSHeadRun.topDef Lk.R.prog 54) (kwd := []) Lk.ob_eq
    (by kernel_rfl) (fun s => by kernel_rfl) Lk.run (by kernel_rfl) (by kernel_rfl) (by kernel_rfl) (by rfl) (by first | assumption | decide +kernel) (by decide +kernel) ⟨rfl, rfl, rfl, rfl, rfl, by decide +kernel⟩ ?hw ?hc
  case hw => w_witness2
  case hc =>
    refine LamX.walk_ofTsE (l := PySem.Challenge.rw_restlesshelf_k65_whole_learning) (n := 63) (k := 11) (x := "_law_script") (CX := fun _ => L2.CX0) rfl (by decide) (by kernel_rfl) ⟨rfl, by decide, by decide⟩ ?F (fun _ _ _ _ _ z => z)
    intro w mg f h Y G hm
    obtain ⟨K, X, c, ey⟩ := Y
    have hmg : mg ("law" : PySem.Str) = some (.ref f) := by
      have e : (HandSHeadRun.topDef Lk.R.prog 54).name = ("law" : PySem.Str) := by kernel_rfl
      rw [← e]
      exact hm
    exact ⟨K, X, Lk.law_at X G c ey hmg⟩
